import PyProof.Rows.All
import Wide.All
import OpenK.AllK
import Wide.FinOn
import HandS.ForMost
import HandS.Wide
import HandS.TupLe
import HandS.TupAny
import HandS.TupMul
import HandS.Deep
import HandS.Zip
import HandS.Conv
import HandS.Style
import HandS.SortKw
import HandS.Gcd
import HandS.Walk
import HandS.Defaults
import HandS.WordsExc
import KE.GoesMore
import KE.GoesEnum
import KE.GoesZip
import KE.DataCmp
import KE.DataMinMax
import KE.KTupSum
import HandS.HeadHook4
import KE.SortData
import KE.KStateDown
import HandS.Head0
import HandS.Head1
import HandS.Head2
import HandS.Head3
import PySem.Challenge.RW_marketguild_k73_whole_fair_dealings
import HandS.Base
import HandS.Call
import HandS.Ends
import HandS.More
import HandS.Words
import HandS.HeadEnd
import HandS.HeadHook1
import HandS.HeadHook2
set_option Elab.async false
set_option linter.all false
set_option maxRecDepth 100000
/-! Pu: a pure layer over HandS. Python data as plain trees, defs as functions in a small monad. -/
namespace Pu
open PySem PySem.Spec PyProof.Rows L2

abbrev SZ : Nat := sizeLine
/-- pure data; rng stands for the law's own draw object -/
inductive D where
  | non | bl (b : Bool) | int (i : Int) | str (x : Str) | tup (xs : List D) | lst (xs : List D) | rng

/-- the state of the law's draw object -/
structure DS where
  ns : List Int
  pos : Int
  acc : Int
  seed : Int
structure DS.ok (d : DS) : Prop where
  p0 : 0 ≤ d.pos
  a0 : 0 ≤ d.acc
  s0 : 0 ≤ d.seed
  s1 : d.seed < 2147483647
  nl : d.ns.length ≤ 63
/-- computations -/
abbrev M (α : Type) := DS → Option (α × DS)
def Mp {α : Type} (a : α) : M α := fun s => some (a, s)
def Mf {α : Type} : M α := fun _ => none
def Mb {α β : Type} (x : M α) (f : α → M β) : M β := fun s => match x s with
  | none => none
  | some (a, s') => f a s'
def Mo {α : Type} : Option α → M α
  | none => Mf
  | some a => Mp a
section
variable {α β γ : Type}
theorem Mb_eq {x : M α} {f : α → M β} {s s' : DS} {b : β} (h : Mb x f s = some (b, s')) : ∃ a s1, x s = some (a, s1) ∧ f a s1 = some (b, s') := by
  unfold Mb at h
  cases e : x s with
  | none => rw [e] at h; cases h
  | some p => obtain ⟨a, s1⟩ := p; rw [e] at h; exact ⟨a, s1, rfl, h⟩
theorem Mp_eq {a b : α} {s s' : DS} (h : Mp a s = some (b, s')) : a = b ∧ s = s' := by
  unfold Mp at h
  have := Option.some.inj h
  exact ⟨congrArg Prod.fst this, congrArg Prod.snd this⟩
theorem Mo_eq {o : Option α} {b : α} {s s' : DS} (h : Mo o s = some (b, s')) : o = some b ∧ s = s' := by
  cases o with
  | none => cases h
  | some a => obtain ⟨e1, e2⟩ := Mp_eq h; exact ⟨by rw [e1], e2⟩
theorem Mf_eq {b : α} {s s' : DS} (h : (Mf : M α) s = some (b, s')) : False := by cases h
@[simp] theorem Mb_Mp (a : α) (f : α → M β) : Mb (Mp a) f = f a := rfl
@[simp] theorem Mb_Mf (f : α → M β) : Mb (Mf : M α) f = Mf := rfl
@[simp] theorem Mb_id (x : M α) : Mb x Mp = x := by
  funext s; unfold Mb; cases h : x s with
  | none => rfl
  | some p => rfl
@[simp] theorem Mb_assoc (x : M α) (f : α → M β) (g : β → M γ) : Mb (Mb x f) g = Mb x fun a => Mb (f a) g := by
  funext s; unfold Mb; cases h : x s with
  | none => rfl
  | some p => rfl
@[simp] theorem Mo_some (a : α) : Mo (some a) = Mp a := rfl
@[simp] theorem Mo_none : Mo (none : Option α) = Mf := rfl
end

/-- where the law's draw object lies, and the script's copy -/
structure PD where
  p : Addr
  q : Addr
@[simp] def pp : Option PD → Option Addr
  | none => none
  | some x => some x.p
/-! ### how data lie in the abstract heap -/
section
variable (K : PySem.W.Frag) (pd : Option PD) (F : Hp)
mutual
def Rep : D → V → Prop
  | .non, v => v = .non
  | .bl b, v => v = .bl b
  | .int i, v => v = .int i
  | .str x, v => v = .str x
  | .tup ds, v => ∃ a xs, v = .ref a ∧ SqT K F a xs ∧ ds.length ≤ SZ ∧ RepL ds xs
  | .lst ds, v => ∃ a xs, v = .ref a ∧ F a = some (.lst xs) ∧ ds.length ≤ SZ ∧ RepL ds xs
  | .rng, v => ∃ a, v = .ref a ∧ pp pd = some a
def RepL : List D → List V → Prop
  | [], xs => xs = []
  | d :: ds, xs => ∃ y ys, xs = y :: ys ∧ Rep d y ∧ RepL ds ys
end
end
section
variable {K : PySem.W.Frag} {pd : Option PD} {F F' H H' : Hp}
theorem RepL.length : ∀ {ds : List D} {xs : List V}, RepL K pd F ds xs → xs.length = ds.length
  | [], xs, h => by simp only [RepL] at h; rw [h]; rfl
  | d :: ds, xs, h => by
    simp only [RepL] at h
    obtain ⟨y, ys, rfl, _, h⟩ := h
    simp [RepL.length h]
theorem RepL.get : ∀ {ds : List D} {xs : List V} {i : Nat} {d : D}, RepL K pd F ds xs → ds[i]? = some d → ∃ x, xs[i]? = some x ∧ Rep K pd F d x
  | [], _, _, _, _, e => by simp at e
  | d :: ds, xs, 0, _, h, e => by
    simp only [RepL] at h
    obtain ⟨y, ys, rfl, h1, _⟩ := h
    simp at e; subst e
    exact ⟨y, rfl, h1⟩
  | d :: ds, xs, i + 1, _, h, e => by
    simp only [RepL] at h
    obtain ⟨y, ys, rfl, _, h⟩ := h
    obtain ⟨x, e1, r⟩ := RepL.get (i := i) h (by simpa using e)
    exact ⟨x, by simpa using e1, r⟩
theorem RepL.getV : ∀ {ds : List D} {xs : List V} {i : Nat} {x : V}, RepL K pd F ds xs → xs[i]? = some x → ∃ d, ds[i]? = some d ∧ Rep K pd F d x
  | [], xs, _, _, h, e => by simp only [RepL] at h; subst h; simp at e
  | d :: ds, xs, 0, _, h, e => by
    simp only [RepL] at h
    obtain ⟨y, ys, rfl, h1, _⟩ := h
    simp at e; subst e
    exact ⟨d, rfl, h1⟩
  | d :: ds, xs, i + 1, _, h, e => by
    simp only [RepL] at h
    obtain ⟨y, ys, rfl, _, h⟩ := h
    obtain ⟨x, e1, r⟩ := RepL.getV (i := i) h (by simpa using e)
    exact ⟨x, by simpa using e1, r⟩
theorem RepL.nil : RepL K pd F [] [] := by simp [RepL]
theorem RepL.cons {d : D} {ds : List D} {x : V} {xs : List V} (h : Rep K pd F d x) (t : RepL K pd F ds xs) : RepL K pd F (d :: ds) (x :: xs) := by
  simp only [RepL]; exact ⟨x, xs, rfl, h, t⟩
theorem RepL.cases {d : D} {ds : List D} {xs : List V} (h : RepL K pd F (d :: ds) xs) : ∃ y ys, xs = y :: ys ∧ Rep K pd F d y ∧ RepL K pd F ds ys := by
  simpa only [RepL] using h
theorem RepL.cases0 {xs : List V} (h : RepL K pd F [] xs) : xs = [] := by simpa only [RepL] using h
theorem RepL.append : ∀ {ds es : List D} {xs ys : List V}, RepL K pd F ds xs → RepL K pd F es ys → RepL K pd F (ds ++ es) (xs ++ ys)
  | [], _, _, _, h, h' => by have := h.cases0; subst this; exact h'
  | d :: ds, _, _, _, h, h' => by
    obtain ⟨y, ys, rfl, h1, h2⟩ := h.cases
    exact .cons h1 (RepL.append h2 h')
theorem RepL.take : ∀ {ds : List D} {xs : List V} (n : Nat), RepL K pd F ds xs → RepL K pd F (ds.take n) (xs.take n)
  | _, _, 0, _ => by simp; exact .nil
  | [], _, n + 1, h => by have := h.cases0; subst this; exact .nil
  | d :: ds, _, n + 1, h => by
    obtain ⟨y, ys, rfl, h1, h2⟩ := h.cases
    exact .cons h1 (RepL.take n h2)
theorem RepL.drop : ∀ {ds : List D} {xs : List V} (n : Nat), RepL K pd F ds xs → RepL K pd F (ds.drop n) (xs.drop n)
  | _, _, 0, h => h
  | [], _, n + 1, h => by have := h.cases0; subst this; exact .nil
  | d :: ds, _, n + 1, h => by
    obtain ⟨y, ys, rfl, h1, h2⟩ := h.cases
    exact RepL.drop n h2
theorem RepL.set : ∀ {ds : List D} {xs : List V} (n : Nat) {d : D} {x : V}, RepL K pd F ds xs → Rep K pd F d x → RepL K pd F (ds.set n d) (xs.set n x)
  | [], _, _, _, _, h, _ => by have := h.cases0; subst this; exact .nil
  | e :: ds, _, 0, d, x, h, r => by
    obtain ⟨y, ys, rfl, h1, h2⟩ := h.cases
    exact .cons r h2
  | e :: ds, _, n + 1, d, x, h, r => by
    obtain ⟨y, ys, rfl, h1, h2⟩ := h.cases
    exact .cons h1 (RepL.set n h2 r)
theorem RepL.reverse : ∀ {ds : List D} {xs : List V}, RepL K pd F ds xs → RepL K pd F ds.reverse xs.reverse
  | [], _, h => by have := h.cases0; subst this; exact .nil
  | d :: ds, _, h => by
    obtain ⟨y, ys, rfl, h1, h2⟩ := h.cases
    rw [List.reverse_cons, List.reverse_cons]
    exact (RepL.reverse h2).append (.cons h1 .nil)
theorem RepL.eraseIdx : ∀ {ds : List D} {xs : List V} (n : Nat), RepL K pd F ds xs → RepL K pd F (ds.eraseIdx n) (xs.eraseIdx n)
  | [], _, _, h => by have := h.cases0; subst this; exact .nil
  | e :: ds, _, 0, h => by
    obtain ⟨y, ys, rfl, h1, h2⟩ := h.cases
    exact h2
  | e :: ds, _, n + 1, h => by
    obtain ⟨y, ys, rfl, h1, h2⟩ := h.cases
    exact .cons h1 (RepL.eraseIdx n h2)
theorem RepL.dropLast : ∀ {ds : List D} {xs : List V}, RepL K pd F ds xs → RepL K pd F ds.dropLast xs.dropLast := fun {ds xs} h => by
  rw [List.dropLast_eq_take, List.dropLast_eq_take, h.length]
  exact h.take _
theorem RepL.rep {ds : List D} {xs : List V} (h : RepL K pd F ds xs) : ∀ n : Nat, RepL K pd F (List.replicate n ds).flatten (List.replicate n xs).flatten
  | 0 => .nil
  | n + 1 => by
    rw [List.replicate_succ, List.replicate_succ, List.flatten_cons, List.flatten_cons]
    exact h.append (RepL.rep h n)
theorem RepL.ints : ∀ {ns : List Int} {xs : List V}, RepL K pd F (ns.map D.int) xs → xs = ns.map V.int
  | [], _, h => h.cases0
  | n :: ns, _, h => by
    obtain ⟨y, ys, rfl, h1, h2⟩ := h.cases
    simp only [Rep] at h1
    rw [h1, RepL.ints h2]; rfl
theorem RepL.ofInts : ∀ (ns : List Int), RepL K pd F (ns.map D.int) (ns.map V.int)
  | [] => .nil
  | n :: ns => .cons (by simp [Rep]) (RepL.ofInts ns)
theorem RepL.bls : ∀ {ns : List Bool} {xs : List V}, RepL K pd F (ns.map D.bl) xs → xs = ns.map V.bl
  | [], _, h => h.cases0
  | n :: ns, _, h => by
    obtain ⟨y, ys, rfl, h1, h2⟩ := h.cases
    simp only [Rep] at h1
    rw [h1, RepL.bls h2]; rfl
theorem sqT_mono {a : Addr} {xs : List V} (e : Same F F') (h : SqT K F a xs) : SqT K F' a xs := by
  rcases h with (h | ⟨o, h⟩) | h
  · exact .inl (.inl (e _ _ h))
  · exact .inl (.inr ⟨o, e _ _ h⟩)
  · exact .inr h
mutual
theorem Rep.mono (e : Same F F') : ∀ {d : D} {v : V}, Rep K pd F d v → Rep K pd F' d v
  | .non, _, h => by simpa only [Rep] using h
  | .bl _, _, h => by simpa only [Rep] using h
  | .int _, _, h => by simpa only [Rep] using h
  | .str _, _, h => by simpa only [Rep] using h
  | .rng, _, h => by simpa only [Rep] using h
  | .tup ds, _, h => by
    simp only [Rep] at h ⊢
    obtain ⟨a, xs, r, s, hl, q⟩ := h
    exact ⟨a, xs, r, sqT_mono e s, hl, RepL.mono e q⟩
  | .lst ds, _, h => by
    simp only [Rep] at h ⊢
    obtain ⟨a, xs, r, s, hl, q⟩ := h
    exact ⟨a, xs, r, e _ _ s, hl, RepL.mono e q⟩
theorem RepL.mono (e : Same F F') : ∀ {ds : List D} {xs : List V}, RepL K pd F ds xs → RepL K pd F' ds xs
  | [], _, h => by simpa only [RepL] using h
  | d :: ds, _, h => by
    simp only [RepL] at h ⊢
    obtain ⟨y, ys, r, h1, h2⟩ := h
    exact ⟨y, ys, r, Rep.mono e h1, RepL.mono e h2⟩
end
theorem same_upd {p : Addr} {o : HO} (h : H p = none) : Same H (upd H p o) := fun b x e => by
  rw [upd_ne (ne_of_none e h)]
  exact e
end

/-! ### evolution -/
structure Ext (pd : Option PD) (F H F' H' : Hp) : Prop where
  ff : Same F F'
  hh : ∀ a o, H a = some o → some a ≠ pp pd → H' a = some o
  hd : ∀ a, H a ≠ none → H' a ≠ none
  nw : ∀ a o, F' a = some o → F a = some o ∨ H a = none
  fh : Same F' H'
section
variable {K : PySem.W.Frag} {pd : Option PD} {F H F' H' F'' H'' : Hp}
theorem Ext.refl (h : Same F H) : Ext pd F H F H := ⟨Same.refl _, fun _ _ e _ => e, fun _ e => e, fun _ _ e => .inl e, h⟩
theorem Ext.trans (a : Ext pd F H F' H') (b : Ext pd F' H' F'' H'') : Ext pd F H F'' H'' :=
  ⟨a.ff.trans b.ff, fun x o e n => b.hh x o (a.hh x o e n) n, fun x e => b.hd x (a.hd x e), fun x o e => by
    rcases b.nw x o e with z | z
    · exact a.nw x o z
    · refine .inr ?_
      cases q : H x with
      | none => rfl
      | some u => exact absurd z (a.hd x (by rw [q]; simp)), b.fh⟩
theorem Ext.lift (a : Ext none F H F' H') : Ext pd F H F' H' := ⟨a.ff, fun x o e _ => a.hh x o e (by simp), a.hd, a.nw, a.fh⟩
theorem Ext.same (a : Ext none F H F' H') : Same H H' := fun x o e => a.hh x o e (by simp)
/-- a new object that is known -/
theorem Ext.new {p : Addr} {o : HO} (h : Same F H) (n : H p = none) : Ext none F H (upd F p o) (upd H p o) := by
  have nF : F p = none := by
    cases q : F p with
    | none => rfl
    | some u => have := h _ _ q; rw [n] at this; cases this
  refine ⟨same_upd nF, fun x u e _ => same_upd n _ _ e, fun x e => ?_, fun x u e => ?_, fun x u e => ?_⟩
  · by_cases hx : x = p
    · subst hx; rw [upd_same]; simp
    · rw [upd_ne hx]; exact e
  · by_cases hx : x = p
    · subst hx; exact .inr n
    · rw [upd_ne hx] at e; exact .inl e
  · by_cases hx : x = p
    · subst hx; rw [upd_same] at e ⊢; exact e
    · rw [upd_ne hx] at e ⊢; exact h _ _ e
/-- a new object that is a def's own -/
theorem Ext.own {p : Addr} {o : HO} (h : Same F H) (n : H p = none) : Ext none F H F (upd H p o) :=
  ⟨Same.refl _, fun x u e _ => same_upd n _ _ e, fun x e => by
    by_cases hx : x = p
    · subst hx; rw [upd_same]; simp
    · rw [upd_ne hx]; exact e, fun _ _ e => .inl e, fun x u e => same_upd n _ _ (h _ _ e)⟩
theorem Ext.Fnone {p : Addr} (e : Ext pd F H F' H') (h : F p = none) (t : H p ≠ none) : F' p = none := by
  cases q : F' p with
  | none => rfl
  | some u =>
    rcases e.nw p u q with z | z
    · rw [h] at z; cases z
    · exact absurd z t

def DOk (K : PySem.W.Frag) (pd : Option PD) (F H : Hp) (ds : DS) : Prop := match pd with
  | none => True
  | some x => F x.p = none ∧ ds.ok ∧ H x.p = some (.lst [.ref x.q, .int ds.pos, .int ds.acc, .int ds.seed]) ∧ F x.q = some (.lst (ds.ns.map V.int))
theorem DOk.grow {ds : DS} (e : Ext none F H F' H') (h : DOk K pd F H ds) : DOk K pd F' H' ds := by
  cases pd with
  | none => trivial
  | some p =>
    obtain ⟨h1, h2, h3, h4⟩ := h
    exact ⟨e.Fnone h1 (by rw [h3]; simp), h2, e.same _ _ h3, e.ff _ _ h4⟩

/-- data at a value; at the top it may be a def's own list -/
def RepB (K : PySem.W.Frag) (pd : Option PD) (F H : Hp) (d : D) (v : V) : Prop :=
  Rep K pd F d v ∨ ∃ p ds xs, d = .lst ds ∧ v = .ref p ∧ H p = some (.lst xs) ∧ some p ≠ pp pd ∧ F p = none ∧ ds.length ≤ SZ ∧ RepL K pd F ds xs
theorem RepB.mono {d : D} {v : V} (e : Ext pd F H F' H') (h : RepB K pd F H d v) : RepB K pd F' H' d v := by
  rcases h with h | ⟨p, ds, xs, h1, h2, h3, h4, h5, h7, h6⟩
  · exact .inl (h.mono e.ff)
  · exact .inr ⟨p, ds, xs, h1, h2, e.hh _ _ h3 h4, h4, e.Fnone h5 (by rw [h3]; simp), h7, h6.mono e.ff⟩
theorem RepB.lst {ds : List D} {v : V} (fh : Same F H) (h : RepB K pd F H (.lst ds) v) : ∃ p xs, v = .ref p ∧ H p = some (.lst xs) ∧ ds.length ≤ SZ ∧ RepL K pd F ds xs := by
  rcases h with h | ⟨p, es, xs, h1, h2, h3, h4, h5, h7, h6⟩
  · simp only [Rep] at h
    obtain ⟨a, xs, r, s, hl, q⟩ := h
    exact ⟨a, xs, r, fh _ _ s, hl, q⟩
  · cases h1
    exact ⟨p, xs, h2, h3, h7, h6⟩
theorem RepB.tup {ds : List D} {v : V} (fh : Same F H) (h : RepB K pd F H (.tup ds) v) : ∃ p xs, v = .ref p ∧ SqT K H p xs ∧ SqT K F p xs ∧ ds.length ≤ SZ ∧ RepL K pd F ds xs := by
  rcases h with h | ⟨p, es, xs, h1, _⟩
  · simp only [Rep] at h
    obtain ⟨a, xs, r, s, hl, q⟩ := h
    exact ⟨a, xs, r, sqT_mono fh s, s, hl, q⟩
  · cases h1
theorem RepB.int {i : Int} {v : V} (h : RepB K pd F H (.int i) v) : v = .int i := by
  rcases h with h | ⟨p, es, xs, h1, _⟩
  · simpa only [Rep] using h
  · cases h1
theorem RepB.bl {i : Bool} {v : V} (h : RepB K pd F H (.bl i) v) : v = .bl i := by
  rcases h with h | ⟨p, es, xs, h1, _⟩
  · simpa only [Rep] using h
  · cases h1
theorem RepB.str {i : Str} {v : V} (h : RepB K pd F H (.str i) v) : v = .str i := by
  rcases h with h | ⟨p, es, xs, h1, _⟩
  · simpa only [Rep] using h
  · cases h1
theorem RepB.non {v : V} (h : RepB K pd F H .non v) : v = .non := by
  rcases h with h | ⟨p, es, xs, h1, _⟩
  · simpa only [Rep] using h
  · cases h1
/-- a list of such -/
inductive RepBL (K : PySem.W.Frag) (pd : Option PD) (F H : Hp) : List D → List V → Prop
  | nil : RepBL K pd F H [] []
  | cons {d ds v vs} : RepB K pd F H d v → RepBL K pd F H ds vs → RepBL K pd F H (d :: ds) (v :: vs)
theorem RepBL.mono (e : Ext pd F H F' H') : ∀ {ds : List D} {vs : List V}, RepBL K pd F H ds vs → RepBL K pd F' H' ds vs
  | _, _, .nil => .nil
  | _, _, .cons h t => .cons (h.mono e) (RepBL.mono e t)
end

/-! ### the slots of a def -/
inductive Slot where
  | un | sh (d : D) | ow (ds : List D)
abbrev Rho := List Slot
section
variable (K : PySem.W.Frag) (pd : Option PD) (F H H0 : Hp)
def SlotR : Slot → Option V → Prop
  | .un, _ => True
  | .sh d, o => ∃ x, o = some x ∧ Rep K pd F d x
  | .ow ds, o => ∃ p xs, o = some (.ref p) ∧ F p = none ∧ H0 p = none ∧ some p ≠ pp pd ∧ H p = some (.lst xs) ∧ ds.length ≤ SZ ∧ RepL K pd F ds xs
structure ERel (ρ : Rho) (σ : L2.St) : Prop where
  len : ρ.length = σ.length
  at' : ∀ (i : Nat) (s : Slot), ρ[i]? = some s → ∃ o, σ[i]? = some o ∧ SlotR K pd F H H0 s o
  ap : ∀ (i j : Nat) (ds es : List D) (p : Addr), i ≠ j → ρ[i]? = some (.ow ds) → ρ[j]? = some (.ow es) → σ[i]? = some (some (.ref p)) → σ[j]? ≠ some (some (.ref p))
end
structure Ok (K : PySem.W.Frag) (pd : Option PD) (F0 H0 F H : Hp) (ρ : Rho) (σ : L2.St) (ds : DS) : Prop where
  ext : Ext pd F0 H0 F H
  env : ERel K pd F H H0 ρ σ
  dok : DOk K pd F H ds
section
variable {K : PySem.W.Frag} {pd : Option PD} {F0 H0 F H F' H' : Hp} {ρ : Rho} {σ : L2.St} {ds ds' : DS}
theorem SlotR.mono {s : Slot} {o : Option V} (e : Ext pd F H F' H') (h : SlotR K pd F H H0 s o) : SlotR K pd F' H' H0 s o := by
  cases s with
  | un => trivial
  | sh d => obtain ⟨x, h1, h2⟩ := h; exact ⟨x, h1, h2.mono e.ff⟩
  | ow es =>
    obtain ⟨p, xs, h1, h2, h3, h4, h5, h7, h6⟩ := h
    exact ⟨p, xs, h1, e.Fnone h2 (by rw [h5]; simp), h3, h4, e.hh _ _ h5 h4, h7, h6.mono e.ff⟩
theorem Ok.step (o : Ok K pd F0 H0 F H ρ σ ds) (e : Ext pd F H F' H') (d : DOk K pd F' H' ds') : Ok K pd F0 H0 F' H' ρ σ ds' :=
  ⟨o.ext.trans e, ⟨o.env.len, fun i s h => let ⟨x, h1, h2⟩ := o.env.at' i s h; ⟨x, h1, h2.mono e⟩, o.env.ap⟩, d⟩
theorem Ok.fh (o : Ok K pd F0 H0 F H ρ σ ds) : Same F H := o.ext.fh
theorem Ok.sh {i : Nat} {d : D} (o : Ok K pd F0 H0 F H ρ σ ds) (h : ρ[i]? = some (.sh d)) : ∃ x, σ[i]? = some (some x) ∧ Rep K pd F d x := by
  obtain ⟨q, h1, x, rfl, h2⟩ := o.env.at' i _ h
  exact ⟨x, h1, h2⟩
/-- a slot is stored -/
theorem Ok.set {i : Nat} {d : D} {x : V} (o : Ok K pd F0 H0 F H ρ σ ds) (r : Rep K pd F d x) : Ok K pd F0 H0 F H (ρ.set i (.sh d)) (σ.set i (some x)) ds := by
  refine ⟨o.ext, ⟨by simp [o.env.len], fun j s h => ?_, fun j k es fs p hjk h1 h2 h3 => ?_⟩, o.dok⟩
  · by_cases hj : i = j
    · subst hj
      have hl : i < ρ.length := by
        have := (List.getElem?_eq_some_iff.mp h).1
        simpa using this
      rw [List.getElem?_set_self hl] at h
      cases h
      exact ⟨some x, by rw [List.getElem?_set_self (by rw [← o.env.len]; exact hl)], x, rfl, r⟩
    · rw [List.getElem?_set_ne hj] at h
      obtain ⟨q, h1, h2⟩ := o.env.at' j s h
      exact ⟨q, by rw [List.getElem?_set_ne hj]; exact h1, h2⟩
  · have a1 : i ≠ j := by
      rintro rfl
      have hl : i < ρ.length := by have := (List.getElem?_eq_some_iff.mp h1).1; simpa using this
      rw [List.getElem?_set_self hl] at h1; cases h1
    have a2 : i ≠ k := by
      rintro rfl
      have hl : i < ρ.length := by have := (List.getElem?_eq_some_iff.mp h2).1; simpa using this
      rw [List.getElem?_set_self hl] at h2; cases h2
    rw [List.getElem?_set_ne a1] at h1 h3
    rw [List.getElem?_set_ne a2] at h2 ⊢
    exact o.env.ap j k es fs p hjk h1 h2 h3
/-- a slot becomes the owner of a new list -/
theorem Ok.setOw {i : Nat} {es : List D} {p : Addr} {xs : List V} (o : Ok K pd F0 H0 F H ρ σ ds) (h1 : F p = none) (h2 : H0 p = none) (h3 : some p ≠ pp pd) (h4 : H p = some (.lst xs)) (hl : es.length ≤ SZ) (r : RepL K pd F es xs)
    (ap : ∀ j fs, i ≠ j → ρ[j]? = some (.ow fs) → σ[j]? ≠ some (some (.ref p))) : Ok K pd F0 H0 F H (ρ.set i (.ow es)) (σ.set i (some (.ref p))) ds := by
  refine ⟨o.ext, ⟨by simp [o.env.len], fun j s h => ?_, fun j k as bs q hjk a1 a2 a3 => ?_⟩, o.dok⟩
  · by_cases hj : i = j
    · subst hj
      have hl' : i < ρ.length := by
        have := (List.getElem?_eq_some_iff.mp h).1
        simpa using this
      rw [List.getElem?_set_self hl'] at h
      cases h
      exact ⟨_, by rw [List.getElem?_set_self (by rw [← o.env.len]; exact hl')], p, xs, rfl, h1, h2, h3, h4, hl, r⟩
    · rw [List.getElem?_set_ne hj] at h
      obtain ⟨q, h1, h2⟩ := o.env.at' j s h
      exact ⟨q, by rw [List.getElem?_set_ne hj]; exact h1, h2⟩
  · by_cases hj : i = j
    · subst hj
      have hk : i ≠ k := hjk
      have hl' : i < ρ.length := by have := (List.getElem?_eq_some_iff.mp a1).1; simpa using this
      rw [List.getElem?_set_self (by rw [← o.env.len]; exact hl')] at a3
      cases a3
      rw [List.getElem?_set_ne hk] at a2 ⊢
      exact ap k bs hk a2
    · rw [List.getElem?_set_ne hj] at a1 a3
      by_cases hk : i = k
      · subst hk
        have hl' : i < ρ.length := by have := (List.getElem?_eq_some_iff.mp a2).1; simpa using this
        rw [List.getElem?_set_self (by rw [← o.env.len]; exact hl')]
        intro z
        have z' : p = q := by simpa using z
        subst z'
        exact ap j as hj a1 a3
      · rw [List.getElem?_set_ne hk] at a2 ⊢
        exact o.env.ap j k as bs q hjk a1 a2 a3
/-- a slot is forgotten -/
theorem Ok.forget {i : Nat} {x : Option V} (o : Ok K pd F0 H0 F H ρ σ ds) : Ok K pd F0 H0 F H (ρ.set i .un) (σ.set i x) ds := by
  refine ⟨o.ext, ⟨by simp [o.env.len], fun j s h => ?_, fun j k es fs p hjk h1 h2 h3 => ?_⟩, o.dok⟩
  · by_cases hj : i = j
    · subst hj
      have hl : i < ρ.length := by
        have := (List.getElem?_eq_some_iff.mp h).1
        simpa using this
      rw [List.getElem?_set_self hl] at h
      cases h
      exact ⟨x, by rw [List.getElem?_set_self (by rw [← o.env.len]; exact hl)], trivial⟩
    · rw [List.getElem?_set_ne hj] at h
      obtain ⟨q, h1, h2⟩ := o.env.at' j s h
      exact ⟨q, by rw [List.getElem?_set_ne hj]; exact h1, h2⟩
  · have a1 : i ≠ j := by
      rintro rfl
      have hl : i < ρ.length := by have := (List.getElem?_eq_some_iff.mp h1).1; simpa using this
      rw [List.getElem?_set_self hl] at h1; cases h1
    have a2 : i ≠ k := by
      rintro rfl
      have hl : i < ρ.length := by have := (List.getElem?_eq_some_iff.mp h2).1; simpa using this
      rw [List.getElem?_set_self hl] at h2; cases h2
    rw [List.getElem?_set_ne a1] at h1 h3
    rw [List.getElem?_set_ne a2] at h2 ⊢
    exact o.env.ap j k es fs p hjk h1 h2 h3
end
end Pu
namespace Pu
open PySem PySem.Spec PyProof.Rows L2

/-! ### what a reading means in data -/
abbrev EF := Rho → M D
abbrev TF := Rho → M Bool
abbrev AF := Rho → M (List D)
section
variable (K : PySem.W.Frag)
def SemE (t : TE) (f : EF) : Prop := ∀ (pd : Option PD) (F0 H0 F H : Hp) (ρ : Rho) (σ : L2.St) (s : DS) (d : D) (s' : DS), Ok K pd F0 H0 F H ρ σ s → f ρ s = some (d, s') →
  ∀ Q : VK, (∀ v F' H', Ext pd F H F' H' → DOk K pd F' H' s' → Rep K pd F' d v → Q v H') → t σ H Q
def SemB (t : TE) (f : EF) : Prop := ∀ (pd : Option PD) (F0 H0 F H : Hp) (ρ : Rho) (σ : L2.St) (s : DS) (d : D) (s' : DS), Ok K pd F0 H0 F H ρ σ s → f ρ s = some (d, s') →
  ∀ Q : VK, (∀ v F' H', Ext pd F H F' H' → DOk K pd F' H' s' → RepB K pd F' H' d v → Q v H') → t σ H Q
/-- a new list, nobody's yet -/
def SemO (t : TE) (f : AF) : Prop := ∀ (pd : Option PD) (F0 H0 F H : Hp) (ρ : Rho) (σ : L2.St) (s : DS) (ds : List D) (s' : DS), Ok K pd F0 H0 F H ρ σ s → f ρ s = some (ds, s') →
  ∀ Q : VK, (∀ p xs F' H', Ext pd F H F' H' → DOk K pd F' H' s' → H p = none → F' p = none → H' p = some (.lst xs) → ds.length ≤ SZ → RepL K pd F' ds xs → Q (.ref p) H') → t σ H Q
def SemT (t : TT) (f : TF) : Prop := ∀ (pd : Option PD) (F0 H0 F H : Hp) (ρ : Rho) (σ : L2.St) (s : DS) (b : Bool) (s' : DS), Ok K pd F0 H0 F H ρ σ s → f ρ s = some (b, s') →
  ∀ Q : Bool → Hp → Prop, (∀ F' H', Ext pd F H F' H' → DOk K pd F' H' s' → Q b H') → t σ H Q
def SemA (t : TA) (f : AF) : Prop := ∀ (pd : Option PD) (F0 H0 F H : Hp) (ρ : Rho) (σ : L2.St) (s : DS) (ds : List D) (s' : DS), Ok K pd F0 H0 F H ρ σ s → f ρ s = some (ds, s') →
  ∀ Q : List V → Hp → Prop, (∀ vs F' H', Ext pd F H F' H' → DOk K pd F' H' s' → RepL K pd F' ds vs → Q vs H') → t σ H Q
def SemAB (t : TA) (f : AF) : Prop := ∀ (pd : Option PD) (F0 H0 F H : Hp) (ρ : Rho) (σ : L2.St) (s : DS) (ds : List D) (s' : DS), Ok K pd F0 H0 F H ρ σ s → f ρ s = some (ds, s') →
  ∀ Q : List V → Hp → Prop, (∀ vs F' H', Ext pd F H F' H' → DOk K pd F' H' s' → RepBL K pd F' H' ds vs → Q vs H') → t σ H Q
/-- operations by values -/
def V1 (r : V → Hp → VK → Prop) (g : D → Option D) : Prop := ∀ (pd : Option PD) (F H : Hp) (x d : D) (v : V), Same F H → RepB K pd F H x v → g x = some d →
  ∀ Q : VK, (∀ u F' H', Ext none F H F' H' → Rep K pd F' d u → Q u H') → r v H Q
def V2 (r : R2) (g : D → D → Option D) : Prop := ∀ (pd : Option PD) (F H : Hp) (x y d : D) (v w : V), Same F H → RepB K pd F H x v → RepB K pd F H y w → g x y = some d →
  ∀ Q : VK, (∀ u F' H', Ext none F H F' H' → Rep K pd F' d u → Q u H') → r v w H Q
def VL (r : List V → Hp → VK → Prop) (g : List D → Option D) : Prop := ∀ (pd : Option PD) (F H : Hp) (xs : List D) (d : D) (vs : List V), Same F H → RepBL K pd F H xs vs → g xs = some d →
  ∀ Q : VK, (∀ u F' H', Ext none F H F' H' → Rep K pd F' d u → Q u H') → r vs H Q
def V2O (r : R2) (g : D → D → Option (List D)) : Prop := ∀ (pd : Option PD) (F H : Hp) (x y : D) (ds : List D) (v w : V), Same F H → RepB K pd F H x v → RepB K pd F H y w → g x y = some ds →
  ∀ Q : VK, (∀ p xs F' H', Ext none F H F' H' → H p = none → F' p = none → H' p = some (.lst xs) → ds.length ≤ SZ → RepL K pd F' ds xs → Q (.ref p) H') → r v w H Q
def VLO (r : List V → Hp → VK → Prop) (g : List D → Option (List D)) : Prop := ∀ (pd : Option PD) (F H : Hp) (xs : List D) (ds : List D) (vs : List V), Same F H → RepBL K pd F H xs vs → g xs = some ds →
  ∀ Q : VK, (∀ p xs F' H', Ext none F H F' H' → H p = none → F' p = none → H' p = some (.lst xs) → ds.length ≤ SZ → RepL K pd F' ds xs → Q (.ref p) H') → r vs H Q
end

/-! ### families of contexts -/
structure Fam {ι : Type} (X : ι → Cx) (P : Program) (w : World) (K : PySem.W.Frag) (mg : Str → Option Value) (base : Heap) (N : List Str) (lv : Nat) : Prop where
  p : ∀ i, (X i).prog = P
  w : ∀ i, (X i).w = w
  k : ∀ i, (X i).K = K
  m : ∀ i, (X i).mg = mg
  b : ∀ i, (X i).base = base
  n : ∀ i, (X i).N = N
  c : ∀ i, (X i).calm = true
  nd : N.Nodup
  r : ∀ i, Room lv (X i).A
section
variable {ι : Type}
def CE (X : ι → Cx) (K : PySem.W.Frag) (e : Expr) (f : EF) : Prop := ∃ t, (∀ i, PE (X i) e t) ∧ SemE K t f
def CB (X : ι → Cx) (K : PySem.W.Frag) (e : Expr) (f : EF) : Prop := ∃ t, (∀ i, PE (X i) e t) ∧ SemB K t f
def CO (X : ι → Cx) (K : PySem.W.Frag) (e : Expr) (f : AF) : Prop := ∃ t, (∀ i, PE (X i) e t) ∧ SemO K t f
def CT (X : ι → Cx) (K : PySem.W.Frag) (e : Expr) (f : TF) : Prop := ∃ t, (∀ i, PT (X i) e t) ∧ SemT K t f
def CW (X : ι → Cx) (K : PySem.W.Frag) (e : Expr) (f : TF) : Prop := ∃ t, (∀ i, PW (X i) e t) ∧ SemT K t f
def CA (X : ι → Cx) (K : PySem.W.Frag) (es : List Expr) (f : AF) : Prop := ∃ t, (∀ i, PA (X i) es t) ∧ SemA K t f
def CAB (X : ι → Cx) (K : PySem.W.Frag) (es : List Expr) (f : AF) : Prop := ∃ t, (∀ i, PA (X i) es t) ∧ SemAB K t f
end

/-! ### the pure words -/
def xSh (i : Nat) : EF := fun ρ => match ρ[i]? with
  | some (.sh d) => Mp d
  | _ => Mf
def xNm (i : Nat) : EF := fun ρ => match ρ[i]? with
  | some (.sh d) => Mp d
  | some (.ow ds) => Mp (.lst ds)
  | _ => Mf
def xC (d : D) : EF := fun _ => Mp d
def x1 (g : D → Option D) (a : EF) : EF := fun ρ => Mb (a ρ) fun x => Mo (g x)
def x2 (g : D → D → Option D) (a b : EF) : EF := fun ρ => Mb (a ρ) fun x => Mb (b ρ) fun y => Mo (g x y)
def xL (g : List D → Option D) (a : AF) : EF := fun ρ => Mb (a ρ) fun x => Mo (g x)
def o2 (g : D → D → Option (List D)) (a b : EF) : AF := fun ρ => Mb (a ρ) fun x => Mb (b ρ) fun y => Mo (g x y)
def oL (g : List D → Option (List D)) (a : AF) : AF := fun ρ => Mb (a ρ) fun x => Mo (g x)
def xOf (a : AF) : EF := fun ρ => Mb (a ρ) fun ds => Mp (.lst ds)
def aN : AF := fun _ => Mp []
def aC (a : EF) (r : AF) : AF := fun ρ => Mb (a ρ) fun x => Mb (r ρ) fun xs => Mp (x :: xs)
def asB : D → M Bool
  | .bl b => Mp b
  | _ => Mf
def xCh (g g' : D → D → Option D) (a b c : EF) : EF := fun ρ => Mb (a ρ) fun x => Mb (b ρ) fun y => Mb (Mo (g x y)) fun z => Mb (asB z) fun k => if k = true then Mb (c ρ) fun w => Mo (g' y w) else Mp (.bl false)
def xAnd (a b : EF) : EF := fun ρ => Mb (a ρ) fun x => Mb (asB x) fun k => if k = true then b ρ else Mp (.bl false)
def xOr (a b : EF) : EF := fun ρ => Mb (a ρ) fun x => Mb (asB x) fun k => if k = true then Mp (.bl true) else b ρ
def xNot (a : EF) : EF := fun ρ => Mb (a ρ) fun x => Mb (asB x) fun k => Mp (.bl (!k))
def xIf (t : TF) (a b : EF) : EF := fun ρ => Mb (t ρ) fun k => if k = true then a ρ else b ρ
def xTup (a : AF) : EF := fun ρ => Mb (a ρ) fun xs => if xs.length ≤ SZ then Mp (.tup xs) else Mf
def oLst (a : AF) : AF := fun ρ => Mb (a ρ) fun xs => if xs.length ≤ SZ then Mp xs else Mf
def tV (a : EF) : TF := fun ρ => Mb (a ρ) asB
def tAnd (a b : TF) : TF := fun ρ => Mb (a ρ) fun k => if k = true then b ρ else Mp false
def tOr (a b : TF) : TF := fun ρ => Mb (a ρ) fun k => if k = true then Mp true else b ρ
def tNot (a : TF) : TF := fun ρ => Mb (a ρ) fun k => Mp (!k)
def truD : D → Option Bool
  | .non => some false
  | .bl b => some b
  | .int i => some (i != 0)
  | .tup ds => some (!ds.isEmpty)
  | .lst ds => some (!ds.isEmpty)
  | _ => none
def tTr (a : EF) : TF := fun ρ => Mb (a ρ) fun x => Mo (truD x)

/-! ### the rules for expressions -/
section
variable {ι : Type} {X : ι → Cx} {P : Program} {w : World} {K : PySem.W.Frag} {mg : Str → Option Value} {base : Heap} {N : List Str} {lv : Nat} {pos : Pos} {a b c e : Expr} {es : List Expr} {f fa fb fc : EF} {g : AF}
theorem CE.brw (h : CE X K e f) : CB X K e f := by
  obtain ⟨t, h1, h2⟩ := h
  exact ⟨t, h1, fun pd F0 H0 F H ρ σ s d s' o e Q q => h2 pd F0 H0 F H ρ σ s d s' o e Q fun v F' H' x y z => q v F' H' x y (.inl z)⟩
theorem sem_of_O {t : TE} (h : SemO K t g) : SemE K t (xOf g) := fun pd F0 H0 F H ρ σ s d s' o e Q q => by
  obtain ⟨ds, s1, e1, e2⟩ := Mb_eq e
  obtain ⟨rfl, rfl⟩ := Mp_eq e2
  refine h pd F0 H0 F H ρ σ s ds s1 o e1 Q fun p xs F' H' x y n1 n2 l z r => ?_
  have eF : Same F' (upd F' p (.lst xs)) := same_upd n2
  refine q _ (upd F' p (.lst xs)) H' ⟨x.ff.trans eF, x.hh, x.hd, fun b u q => ?_, fun b u q => ?_⟩ ?_ ?_
  · by_cases hb : b = p
    · subst hb; exact .inr n1
    · rw [upd_ne hb] at q; exact x.nw b u q
  · by_cases hb : b = p
    · subst hb; rw [upd_same] at q; cases q; exact l
    · rw [upd_ne hb] at q; exact x.fh b u q
  · cases pd with
    | none => trivial
    | some a =>
      obtain ⟨h1, h2, h3, h4⟩ := y
      refine ⟨?_, h2, h3, eF _ _ h4⟩
      have : a.p ≠ p := by
        rintro rfl
        obtain ⟨_, _, h3', _⟩ := o.dok
        rw [n1] at h3'; cases h3'
      rw [upd_ne this]; exact h1
  · simp only [Rep]
    exact ⟨p, xs, rfl, upd_same, z, r.mono eF⟩
theorem CO.frz (h : CO X K e g) : CE X K e (xOf g) := let ⟨t, h1, h2⟩ := h; ⟨t, h1, sem_of_O h2⟩

theorem semE_var {i : Nat} : SemE K (tVar i) (xSh i) := fun pd F0 H0 F H ρ σ s d s' o e Q q => by
  unfold xSh at e
  cases h : ρ[i]? with
  | none => rw [h] at e; cases e
  | some sl =>
    rw [h] at e
    cases sl with
    | un => cases e
    | ow ds => cases e
    | sh d' =>
      obtain ⟨rfl, rfl⟩ := Mp_eq e
      obtain ⟨x, h1, h2⟩ := o.sh h
      exact ⟨x, h1, q x F H (.refl o.fh) o.dok h2⟩
theorem semB_var {i : Nat} : SemB K (tVar i) (xNm i) := fun pd F0 H0 F H ρ σ s d s' o e Q q => by
  unfold xNm at e
  cases h : ρ[i]? with
  | none => rw [h] at e; cases e
  | some sl =>
    rw [h] at e
    cases sl with
    | un => cases e
    | ow ds =>
      obtain ⟨rfl, rfl⟩ := Mp_eq e
      obtain ⟨x, h1, p, xs, rfl, h2, h3, h4, h5, h6, h7⟩ := o.env.at' i _ h
      exact ⟨_, h1, q _ F H (.refl o.fh) o.dok (.inr ⟨p, ds, xs, rfl, rfl, h5, h4, h2, h6, h7⟩)⟩
    | sh d' =>
      obtain ⟨rfl, rfl⟩ := Mp_eq e
      obtain ⟨x, h1, h2⟩ := o.sh h
      exact ⟨x, h1, q x F H (.refl o.fh) o.dok (.inl h2)⟩
theorem cSh (C : Fam X P w K mg base N lv) (i : Nat) {x : Str} (hN : N[i]? = some x := by rfl) (hv : ∀ j, Vis (X j).env.scope x := by intro _; first | exact Or.inl rfl | exact Or.inr (Or.inl rfl) | exact Or.inr (Or.inr rfl))
    (hd : (x == ("__debug__" : Str)) = false := by decide) (hcd : (x == ("__classdict__" : Str)) = false := by decide) : CE X K (.Name x pos) (xSh i) :=
  ⟨_, fun j => pe_var (by rw [C.n j]; exact hN) (hv j) hd hcd, semE_var⟩
theorem cNm (C : Fam X P w K mg base N lv) (i : Nat) {x : Str} (hN : N[i]? = some x := by rfl) (hv : ∀ j, Vis (X j).env.scope x := by intro _; first | exact Or.inl rfl | exact Or.inr (Or.inl rfl) | exact Or.inr (Or.inr rfl))
    (hd : (x == ("__debug__" : Str)) = false := by decide) (hcd : (x == ("__classdict__" : Str)) = false := by decide) : CB X K (.Name x pos) (xNm i) :=
  ⟨_, fun j => pe_var (by rw [C.n j]; exact hN) (hv j) hd hcd, semB_var⟩
theorem semE_c {v : V} {d : D} (h : ∀ pd F, Rep K pd F d v) : SemE K (tC v) (xC d) := fun pd F0 H0 F H ρ σ s d s' o e Q q => by
  obtain ⟨rfl, rfl⟩ := Mp_eq e
  exact q v F H (.refl o.fh) o.dok (h pd F)
theorem cInt {i : Int} {k} : CE X K (.Constant (.int i) k pos) (xC (.int i)) := ⟨_, fun _ => pe_int, semE_c fun _ _ => by simp [Rep]⟩
theorem cBl {i : Bool} {k} : CE X K (.Constant (.bool i) k pos) (xC (.bl i)) := ⟨_, fun _ => pe_bl, semE_c fun _ _ => by simp [Rep]⟩
theorem cNon {k} : CE X K (.Constant .none k pos) (xC .non) := ⟨_, fun _ => pe_non, semE_c fun _ _ => by simp [Rep]⟩
theorem cStr {i : Str} {k} : CE X K (.Constant (.str i) k pos) (xC (.str i)) := ⟨_, fun _ => pe_str, semE_c fun _ _ => by simp [Rep]⟩
/-- a module's constant -/
theorem cGlob (C : Fam X P w K mg base N lv) {x : Str} {v : V} {u : Value} {d : D} (hm : mg x = some u) (r : RelV v u) (h : ∀ pd F, Rep K pd F d v) (hg : ∀ j, Gl (X j) x := by intro _; rfl) (hd : (x == ("__debug__" : Str)) = false := by decide) :
    CE X K (.Name x pos) (xC d) := ⟨_, fun j => pe_glob (hg j) (by rw [C.m j]; exact hm) r hd, semE_c h⟩

/-! two operands -/
theorem semE_op2 {r : R2} {gg : D → D → Option D} {ta tb : TE} (hv : V2 K r gg) (ha : SemB K ta fa) (hb : SemB K tb fb) : SemE K (tOp r ta tb) (x2 gg fa fb) := fun pd F0 H0 F H ρ σ s d s' o e Q q => by
  obtain ⟨x, s1, e1, e⟩ := Mb_eq e
  obtain ⟨y, s2, e2, e⟩ := Mb_eq e
  obtain ⟨e3, rfl⟩ := Mo_eq e
  refine ha pd F0 H0 F H ρ σ s x s1 o e1 _ fun v F1 H1 x1 d1 r1 => ?_
  have o1 := o.step x1 d1
  refine hb pd F0 H0 F1 H1 ρ σ s1 y s2 o1 e2 _ fun u F2 H2 x2 d2 r2 => ?_
  have o2 := o1.step x2 d2
  exact hv pd F2 H2 x y d v u o2.fh (r1.mono x2) r2 e3 Q fun z F3 H3 x3 r3 => q z F3 H3 (x1.trans (x2.trans x3.lift)) (d2.grow x3) r3
theorem semO_op2 {r : R2} {gg : D → D → Option (List D)} {ta tb : TE} (hv : V2O K r gg) (ha : SemB K ta fa) (hb : SemB K tb fb) : SemO K (tOp r ta tb) (o2 gg fa fb) := fun pd F0 H0 F H ρ σ s d s' o e Q q => by
  obtain ⟨x, s1, e1, e⟩ := Mb_eq e
  obtain ⟨y, s2, e2, e⟩ := Mb_eq e
  obtain ⟨e3, rfl⟩ := Mo_eq e
  refine ha pd F0 H0 F H ρ σ s x s1 o e1 _ fun v F1 H1 x1 d1 r1 => ?_
  have o1 := o.step x1 d1
  refine hb pd F0 H0 F1 H1 ρ σ s1 y s2 o1 e2 _ fun u F2 H2 x2 d2 r2 => ?_
  have o2 := o1.step x2 d2
  refine hv pd F2 H2 x y d v u o2.fh (r1.mono x2) r2 e3 Q fun p xs F3 H3 x3 n1 n2 l z r3 => q p xs F3 H3 (x1.trans (x2.trans x3.lift)) (d2.grow x3) ?_ n2 l z r3
  cases hp : H p with
  | none => rfl
  | some o => exact absurd n1 ((x1.trans x2).hd p (by rw [hp]; simp))
theorem cBin {op : Operator} {r : R2} {gg : D → D → Option D} (ho : ∀ i, OpR (X i) (binaryOp op) r) (hv : V2 K r gg) (ha : CB X K a fa) (hb : CB X K b fb) : CE X K (.BinOp a op b pos) (x2 gg fa fb) :=
  let ⟨ta, a1, a2⟩ := ha; let ⟨tb, b1, b2⟩ := hb; ⟨_, fun i => pe_op (ho i) (a1 i) (b1 i), semE_op2 hv a2 b2⟩
theorem oBin {op : Operator} {r : R2} {gg : D → D → Option (List D)} (ho : ∀ i, OpR (X i) (binaryOp op) r) (hv : V2O K r gg) (ha : CB X K a fa) (hb : CB X K b fb) : CO X K (.BinOp a op b pos) (o2 gg fa fb) :=
  let ⟨ta, a1, a2⟩ := ha; let ⟨tb, b1, b2⟩ := hb; ⟨_, fun i => pe_op (ho i) (a1 i) (b1 i), semO_op2 hv a2 b2⟩
theorem cCmp {op : CmpOp} {r : R2} {gg : D → D → Option D} (ho : ∀ i, OpR (X i) (compareOp op) r) (hv : V2 K r gg) (ha : CB X K a fa) (hb : CB X K b fb) (hm : behindInMarks op b = false) : CE X K (.Compare a [op] [b] pos) (x2 gg fa fb) :=
  let ⟨ta, a1, a2⟩ := ha; let ⟨tb, b1, b2⟩ := hb; ⟨_, fun i => pe_cmpR (ho i) (a1 i) (b1 i) hm, semE_op2 hv a2 b2⟩
theorem semT_V {t : TE} (h : SemE K t f) : SemT K (tTest t) (tV f) := fun pd F0 H0 F H ρ σ s d s' o e Q q => by
  obtain ⟨x, s1, e1, e⟩ := Mb_eq e
  refine h pd F0 H0 F H ρ σ s x s1 o e1 _ fun v F1 H1 x1 d1 r1 => ?_
  cases x with
  | bl k =>
    obtain ⟨rfl, rfl⟩ := Mp_eq e
    simp only [Rep] at r1
    exact ⟨k, r1, q F1 H1 x1 d1⟩
  | _ => cases e
theorem tCmp {op : CmpOp} {r : R2} {gg : D → D → Option D} (ho : ∀ i, OpR (X i) (compareOp op) r) (hv : V2 K r gg) (ha : CB X K a fa) (hb : CB X K b fb) (hm : behindInMarks op b = false) : CT X K (.Compare a [op] [b] pos) (tV (x2 gg fa fb)) :=
  let ⟨ta, a1, a2⟩ := ha; let ⟨tb, b1, b2⟩ := hb; ⟨_, fun i => pt_cmpR (ho i) (a1 i) (b1 i) hm, semT_V (semE_op2 hv a2 b2)⟩
/-! chains -/
theorem semE_chain {r r' : R2} {gg gg' : D → D → Option D} {ta tb tc : TE} (hv : V2 K r gg) (hv' : V2 K r' gg') (ha : SemB K ta fa) (hb : SemB K tb fb) (hc : SemB K tc fc) : SemE K (tChain r r' ta tb tc) (xCh gg gg' fa fb fc) := fun pd F0 H0 F H ρ σ s d s' o e Q q => by
  obtain ⟨x, s1, e1, e⟩ := Mb_eq e
  obtain ⟨y, s2, e2, e⟩ := Mb_eq e
  obtain ⟨z, s3, e0, e⟩ := Mb_eq e
  obtain ⟨e3, rfl⟩ := Mo_eq e0
  obtain ⟨k, s4, e4, e⟩ := Mb_eq e
  refine ha pd F0 H0 F H ρ σ s x s1 o e1 _ fun v F1 H1 x1 d1 r1 => ?_
  have o1 := o.step x1 d1
  refine hb pd F0 H0 F1 H1 ρ σ s1 y _ o1 e2 _ fun u F2 H2 x2 d2 r2 => ?_
  have o2 := o1.step x2 d2
  refine hv pd F2 H2 x y z v u o2.fh (r1.mono x2) r2 e3 _ fun zv F3 H3 x3 r3 => ?_
  have o3 := o2.step (x3.lift (pd := pd)) (d2.grow x3)
  cases z with
  | bl k' =>
    obtain ⟨rfl, rfl⟩ := Mp_eq e4
    simp only [Rep] at r3
    refine ⟨k', r3, ?_⟩
    cases k' with
    | false =>
      obtain ⟨rfl, rfl⟩ := Mp_eq e
      exact iteF (q _ F3 H3 (x1.trans (x2.trans x3.lift)) o3.dok (by simp [Rep]))
    | true =>
      obtain ⟨w', s5, e5, e⟩ := Mb_eq (show Mb (fc ρ) (fun w => Mo (gg' y w)) _ = _ from e)
      obtain ⟨e6, rfl⟩ := Mo_eq e
      refine iteT (hc pd F0 H0 F3 H3 ρ σ _ w' _ o3 e5 _ fun wv F4 H4 x4 d4 r4 => ?_)
      exact hv' pd F4 H4 y w' d u wv (o3.step x4 d4).fh ((r2.mono x3.lift).mono x4) r4 e6 Q fun zz F5 H5 x5 r5 => q zz F5 H5 (x1.trans (x2.trans (x3.lift.trans (x4.trans x5.lift)))) (d4.grow x5) r5
  | _ => cases e4
theorem cChain {op op' : CmpOp} {r r' : R2} {gg gg' : D → D → Option D} (ho : ∀ i, OpR (X i) (compareOp op) r) (ho' : ∀ i, OpR (X i) (compareOp op') r') (hv : V2 K r gg) (hv' : V2 K r' gg') (ha : CB X K a fa) (hb : CB X K b fb) (hc : CB X K c fc)
    (hm : lastMarks [op, op'] [b, c] = false := by with_unfolding_all rfl) : CE X K (.Compare a [op, op'] [b, c] pos) (xCh gg gg' fa fb fc) :=
  let ⟨ta, a1, a2⟩ := ha; let ⟨tb, b1, b2⟩ := hb; let ⟨tc, c1, c2⟩ := hc; ⟨_, fun i => pe_chain (ho i) (ho' i) (a1 i) (b1 i) (c1 i) hm, semE_chain hv hv' a2 b2 c2⟩
theorem tChainR {op op' : CmpOp} {r r' : R2} {gg gg' : D → D → Option D} (ho : ∀ i, OpR (X i) (compareOp op) r) (ho' : ∀ i, OpR (X i) (compareOp op') r') (hv : V2 K r gg) (hv' : V2 K r' gg') (ha : CB X K a fa) (hb : CB X K b fb) (hc : CB X K c fc)
    (hm : lastMarks [op, op'] [b, c] = false := by with_unfolding_all rfl) : CT X K (.Compare a [op, op'] [b, c] pos) (tV (xCh gg gg' fa fb fc)) :=
  let ⟨ta, a1, a2⟩ := ha; let ⟨tb, b1, b2⟩ := hb; let ⟨tc, c1, c2⟩ := hc; ⟨_, fun i => pt_chain (ho i) (ho' i) (a1 i) (b1 i) (c1 i) hm, semT_V (semE_chain hv hv' a2 b2 c2)⟩
/-! truth, and, or, not -/
theorem tTruth (C : Fam X P w K mg base N lv) (ha : CB X K a fa) (he : ∀ i, ∀ whole, isTrue a (X i).env whole = (do let v ← whole; standAt a.pos; holding [v] (truthy v)) := by intro _ _; rfl) : CT X K a (tTr fa) := by
  obtain ⟨ta, a1, a2⟩ := ha
  refine ⟨fun σ H Q => ta σ H fun x H' => ∃ k, TruV K x H' k ∧ Q k H', fun i => by have := pt_truth (a1 i) (he i); rw [C.k i] at this; exact this, fun pd F0 H0 F H ρ σ s d s' o e Q q => ?_⟩
  obtain ⟨x, s1, e1, e⟩ := Mb_eq e
  obtain ⟨e2, rfl⟩ := Mo_eq e
  refine a2 pd F0 H0 F H ρ σ s x s1 o e1 _ fun v F1 H1 x1 d1 r1 => ⟨d, ?_, q F1 H1 x1 d1⟩
  have fh := (o.step x1 d1).fh
  cases x with
  | non => rw [r1.non]; exact (Option.some.inj e2).symm
  | bl k => rw [r1.bl]; exact (Option.some.inj e2).symm
  | int k => rw [r1.int]; exact (Option.some.inj e2).symm
  | tup ds =>
    obtain ⟨p, xs, rfl, h1, _, _, h2⟩ := r1.tup fh
    refine .inr (.inl ⟨xs, h1, ?_⟩)
    have e3 := (Option.some.inj e2).symm
    rw [e3]
    have := h2.length
    cases xs <;> cases ds <;> simp_all
  | lst ds =>
    obtain ⟨p, xs, rfl, h1, _, h2⟩ := r1.lst fh
    refine .inl ⟨xs, .of h1, ?_⟩
    have e3 := (Option.some.inj e2).symm
    rw [e3]
    have := h2.length
    cases xs <;> cases ds <;> simp_all
  | str _ => cases e2
  | rng => cases e2
theorem semT_and {ta tb : TT} {fa fb : TF} (ha : SemT K ta fa) (hb : SemT K tb fb) : SemT K (L2.tAnd ta tb) (tAnd fa fb) := fun pd F0 H0 F H ρ σ s d s' o e Q q => by
  obtain ⟨k, s1, e1, e⟩ := Mb_eq e
  refine ha pd F0 H0 F H ρ σ s k s1 o e1 _ fun F1 H1 x1 d1 => ?_
  cases k with
  | true => exact iteT (hb pd F0 H0 F1 H1 ρ σ s1 d s' (o.step x1 d1) e Q fun F2 H2 x2 d2 => q F2 H2 (x1.trans x2) d2)
  | false => obtain ⟨rfl, rfl⟩ := Mp_eq e; exact iteF (q F1 H1 x1 d1)
theorem semT_or {ta tb : TT} {fa fb : TF} (ha : SemT K ta fa) (hb : SemT K tb fb) : SemT K (L2.tOr ta tb) (tOr fa fb) := fun pd F0 H0 F H ρ σ s d s' o e Q q => by
  obtain ⟨k, s1, e1, e⟩ := Mb_eq e
  refine ha pd F0 H0 F H ρ σ s k s1 o e1 _ fun F1 H1 x1 d1 => ?_
  cases k with
  | false => exact iteF (hb pd F0 H0 F1 H1 ρ σ s1 d s' (o.step x1 d1) e Q fun F2 H2 x2 d2 => q F2 H2 (x1.trans x2) d2)
  | true => obtain ⟨rfl, rfl⟩ := Mp_eq e; exact iteT (q F1 H1 x1 d1)
theorem wAnd1 {fa : TF} (ha : CT X K a fa) : CW X K (.BoolOp .And [a] pos) fa := let ⟨t, h1, h2⟩ := ha; ⟨t, fun i => pw_and1 (h1 i), h2⟩
theorem wOr1 {fa : TF} (ha : CT X K a fa) : CW X K (.BoolOp .Or [a] pos) fa := let ⟨t, h1, h2⟩ := ha; ⟨t, fun i => pw_or1 (h1 i), h2⟩
theorem wAnd {fa fb : TF} (ha : CT X K a fa) (hb : CW X K (.BoolOp .And (b :: es) pos) fb) : CW X K (.BoolOp .And (a :: b :: es) pos) (tAnd fa fb) :=
  let ⟨t, h1, h2⟩ := ha; let ⟨u, b1, b2⟩ := hb; ⟨_, fun i => pw_and (h1 i) (b1 i), semT_and h2 b2⟩
theorem wOr {fa fb : TF} (ha : CT X K a fa) (hb : CW X K (.BoolOp .Or (b :: es) pos) fb) : CW X K (.BoolOp .Or (a :: b :: es) pos) (tOr fa fb) :=
  let ⟨t, h1, h2⟩ := ha; let ⟨u, b1, b2⟩ := hb; ⟨_, fun i => pw_or (h1 i) (b1 i), semT_or h2 b2⟩
theorem CW.t {fa : TF} (h : CW X K a fa) : CT X K a fa := let ⟨t, h1, h2⟩ := h; ⟨t, fun i => (h1 i).pt, h2⟩
theorem tNotR {fa : TF} (h : CT X K a fa) : CT X K (.UnaryOp .Not a pos) (tNot fa) := by
  obtain ⟨t, h1, h2⟩ := h
  refine ⟨_, fun i => pt_not (h1 i), fun pd F0 H0 F H ρ σ s d s' o e Q q => ?_⟩
  obtain ⟨k, s1, e1, e⟩ := Mb_eq e
  obtain ⟨rfl, rfl⟩ := Mp_eq e
  exact h2 pd F0 H0 F H ρ σ s k s1 o e1 _ fun F1 H1 x1 d1 => q F1 H1 x1 d1
theorem rep_bl {pd : Option PD} {F : Hp} {k : Bool} {v : V} (h : Rep K pd F (.bl k) v) : v = .bl k := by simpa only [Rep] using h
theorem cOne {op} (h : CE X K a f) : CE X K (.BoolOp op [a] pos) f := let ⟨t, h1, h2⟩ := h; ⟨t, fun i => pe_one (h1 i), h2⟩
theorem cAnd (ha : CE X K a fa) (hb : CE X K (.BoolOp .And (b :: es) pos) fb) : CE X K (.BoolOp .And (a :: b :: es) pos) (xAnd fa fb) := by
  obtain ⟨t, h1, h2⟩ := ha
  obtain ⟨u, b1, b2⟩ := hb
  refine ⟨_, fun i => pe_and (h1 i) (b1 i), fun pd F0 H0 F H ρ σ s d s' o e Q q => ?_⟩
  obtain ⟨x, s1, e1, e⟩ := Mb_eq e
  obtain ⟨k, s2, e2, e⟩ := Mb_eq e
  refine h2 pd F0 H0 F H ρ σ s x s1 o e1 _ fun v F1 H1 x1 d1 r1 => ?_
  cases x with
  | bl k' =>
    obtain ⟨rfl, rfl⟩ := Mp_eq e2
    refine ⟨k', rep_bl r1, ?_⟩
    cases k' with
    | true => exact iteT (b2 pd F0 H0 F1 H1 ρ σ _ d s' (o.step x1 d1) e Q fun v F2 H2 x2 d2 => q v F2 H2 (x1.trans x2) d2)
    | false => obtain ⟨rfl, rfl⟩ := Mp_eq e; exact iteF (q _ F1 H1 x1 d1 (by simp [Rep]))
  | _ => cases e2
theorem cOr (ha : CE X K a fa) (hb : CE X K (.BoolOp .Or (b :: es) pos) fb) : CE X K (.BoolOp .Or (a :: b :: es) pos) (xOr fa fb) := by
  obtain ⟨t, h1, h2⟩ := ha
  obtain ⟨u, b1, b2⟩ := hb
  refine ⟨_, fun i => pe_or (h1 i) (b1 i), fun pd F0 H0 F H ρ σ s d s' o e Q q => ?_⟩
  obtain ⟨x, s1, e1, e⟩ := Mb_eq e
  obtain ⟨k, s2, e2, e⟩ := Mb_eq e
  refine h2 pd F0 H0 F H ρ σ s x s1 o e1 _ fun v F1 H1 x1 d1 r1 => ?_
  cases x with
  | bl k' =>
    obtain ⟨rfl, rfl⟩ := Mp_eq e2
    refine ⟨k', rep_bl r1, ?_⟩
    cases k' with
    | false => exact iteF (b2 pd F0 H0 F1 H1 ρ σ _ d s' (o.step x1 d1) e Q fun v F2 H2 x2 d2 => q v F2 H2 (x1.trans x2) d2)
    | true => obtain ⟨rfl, rfl⟩ := Mp_eq e; exact iteT (q _ F1 H1 x1 d1 (by simp [Rep]))
  | _ => cases e2
theorem cNotV (ha : CE X K a fa) : CE X K (.UnaryOp .Not a pos) (xNot fa) := by
  obtain ⟨t, h1, h2⟩ := ha
  refine ⟨_, fun i => pe_not (h1 i), fun pd F0 H0 F H ρ σ s d s' o e Q q => ?_⟩
  obtain ⟨x, s1, e1, e⟩ := Mb_eq e
  obtain ⟨k, s2, e2, e⟩ := Mb_eq e
  obtain ⟨rfl, rfl⟩ := Mp_eq e
  refine h2 pd F0 H0 F H ρ σ s x s1 o e1 _ fun v F1 H1 x1 d1 r1 => ?_
  cases x with
  | bl k' =>
    obtain ⟨rfl, rfl⟩ := Mp_eq e2
    exact ⟨k', rep_bl r1, q _ F1 H1 x1 d1 (by simp [Rep])⟩
  | _ => cases e2
theorem cIf {ft : TF} (hc : CT X K c ft) (ha : CE X K a fa) (hb : CE X K b fb) : CE X K (.IfExp c a b pos) (xIf ft fa fb) := by
  obtain ⟨t, h1, h2⟩ := hc
  obtain ⟨ta, a1, a2⟩ := ha
  obtain ⟨tb, b1, b2⟩ := hb
  refine ⟨_, fun i => pe_ifExp (h1 i) (a1 i) (b1 i), fun pd F0 H0 F H ρ σ s d s' o e Q q => ?_⟩
  obtain ⟨k, s1, e1, e⟩ := Mb_eq e
  refine h2 pd F0 H0 F H ρ σ s k s1 o e1 _ fun F1 H1 x1 d1 => ?_
  cases k with
  | true => exact iteT (a2 pd F0 H0 F1 H1 ρ σ s1 d s' (o.step x1 d1) e Q fun v F2 H2 x2 d2 => q v F2 H2 (x1.trans x2) d2)
  | false => exact iteF (b2 pd F0 H0 F1 H1 ρ σ s1 d s' (o.step x1 d1) e Q fun v F2 H2 x2 d2 => q v F2 H2 (x1.trans x2) d2)
/-! one operand -/
theorem cUn {op : UnaryOp} {r : V → Hp → VK → Prop} {gg : D → Option D} (ho : ∀ i, UnR (X i) (unaryOp op) r) (hv : V1 K r gg) (ha : CB X K a fa) : CE X K (.UnaryOp op a pos) (x1 gg fa) := by
  obtain ⟨t, h1, h2⟩ := ha
  refine ⟨_, fun i => pe_un (ho i) (h1 i), fun pd F0 H0 F H ρ σ s d s' o e Q q => ?_⟩
  obtain ⟨x, s1, e1, e⟩ := Mb_eq e
  obtain ⟨e2, rfl⟩ := Mo_eq e
  refine h2 pd F0 H0 F H ρ σ s x s1 o e1 _ fun v F1 H1 x1 d1 r1 => ?_
  exact hv pd F1 H1 x d v (o.step x1 d1).fh r1 e2 Q fun z F3 H3 x3 r3 => q z F3 H3 (x1.trans x3.lift) (d1.grow x3) r3
/-! arguments -/
theorem caNil : CA X K [] aN := ⟨_, fun _ => pa_nil, fun pd F0 H0 F H ρ σ s d s' o e Q q => by obtain ⟨rfl, rfl⟩ := Mp_eq e; exact q _ F H (.refl o.fh) o.dok .nil⟩
theorem cbNil : CAB X K [] aN := ⟨_, fun _ => pa_nil, fun pd F0 H0 F H ρ σ s d s' o e Q q => by obtain ⟨rfl, rfl⟩ := Mp_eq e; exact q _ F H (.refl o.fh) o.dok .nil⟩
theorem caCons (ha : CE X K a fa) (hr : CA X K es g) (hs : ∀ i, starEach (a :: es) (X i).env = (false, eval a (X i).env) :: starEach es (X i).env := by intro _; rfl) : CA X K (a :: es) (aC fa g) := by
  obtain ⟨t, h1, h2⟩ := ha
  obtain ⟨u, b1, b2⟩ := hr
  refine ⟨_, fun i => pa_cons (h1 i) (b1 i) (hs i), fun pd F0 H0 F H ρ σ s d s' o e Q q => ?_⟩
  obtain ⟨x, s1, e1, e⟩ := Mb_eq e
  obtain ⟨xs, s2, e2, e⟩ := Mb_eq e
  obtain ⟨rfl, rfl⟩ := Mp_eq e
  refine h2 pd F0 H0 F H ρ σ s x s1 o e1 _ fun v F1 H1 x1 d1 r1 => ?_
  exact b2 pd F0 H0 F1 H1 ρ σ s1 xs s2 (o.step x1 d1) e2 _ fun vs F2 H2 x2 d2 r2 => q _ F2 H2 (x1.trans x2) d2 (.cons (r1.mono x2.ff) r2)
theorem cbCons (ha : CB X K a fa) (hr : CAB X K es g) (hs : ∀ i, starEach (a :: es) (X i).env = (false, eval a (X i).env) :: starEach es (X i).env := by intro _; rfl) : CAB X K (a :: es) (aC fa g) := by
  obtain ⟨t, h1, h2⟩ := ha
  obtain ⟨u, b1, b2⟩ := hr
  refine ⟨_, fun i => pa_cons (h1 i) (b1 i) (hs i), fun pd F0 H0 F H ρ σ s d s' o e Q q => ?_⟩
  obtain ⟨x, s1, e1, e⟩ := Mb_eq e
  obtain ⟨xs, s2, e2, e⟩ := Mb_eq e
  obtain ⟨rfl, rfl⟩ := Mp_eq e
  refine h2 pd F0 H0 F H ρ σ s x s1 o e1 _ fun v F1 H1 x1 d1 r1 => ?_
  exact b2 pd F0 H0 F1 H1 ρ σ s1 xs s2 (o.step x1 d1) e2 _ fun vs F2 H2 x2 d2 r2 => q _ F2 H2 (x1.trans x2) d2 (.cons (r1.mono x2) r2)
/-! displays -/
theorem cTup {k} (h : CA X K es g) : CE X K (.Tuple es k pos) (xTup g) := by
  obtain ⟨t, h1, h2⟩ := h
  refine ⟨_, fun i => pe_tup (h1 i), fun pd F0 H0 F H ρ σ s d s' o e Q q => ?_⟩
  obtain ⟨xs, s1, e1, e⟩ := Mb_eq e
  split at e
  · rename_i hl
    obtain ⟨rfl, rfl⟩ := Mp_eq e
    refine h2 pd F0 H0 F H ρ σ s xs s1 o e1 _ fun vs F1 H1 x1 d1 r1 => ⟨by rw [r1.length]; exact hl, fun p n => ?_⟩
    have o1 := o.step x1 d1
    have x2 := Ext.new (o := .tup vs) o1.fh n
    refine q _ _ _ (x1.trans x2.lift) (d1.grow x2) ?_
    simp only [Rep]
    exact ⟨p, vs, rfl, .of upd_same, hl, r1.mono x2.ff⟩
  · exact (Mf_eq e).elim
theorem oList (h : CA X K es g) : CO X K (.List es pos) (oLst g) := by
  obtain ⟨t, h1, h2⟩ := h
  refine ⟨_, fun i => pe_lst (h1 i), fun pd F0 H0 F H ρ σ s d s' o e Q q => ?_⟩
  obtain ⟨xs, s1, e1, e⟩ := Mb_eq e
  split at e
  · rename_i hl
    obtain ⟨rfl, rfl⟩ := Mp_eq e
    refine h2 pd F0 H0 F H ρ σ s xs s1 o e1 _ fun vs F1 H1 x1 d1 r1 => ⟨by rw [r1.length]; exact hl, fun p n => ?_⟩
    have o1 := o.step x1 d1
    have x2 := Ext.own (o := .lst vs) o1.fh n
    have nF : F1 p = none := by
      cases hF : F1 p with
      | none => rfl
      | some u => have := o1.fh _ _ hF; rw [n] at this; cases this
    have nH : H p = none := by
      cases hp : H p with
      | none => rfl
      | some u => exact absurd n (x1.hd p (by rw [hp]; simp))
    exact q p vs F1 _ (x1.trans x2.lift) (d1.grow x2) nH nF upd_same hl r1
  · exact (Mf_eq e).elim
/-! calls of built-ins -/
theorem semE_CB {r : List V → Hp → VK → Prop} {gg : List D → Option D} {t : TA} (hv : VL K r gg) (h : SemAB K t g) : SemE K (tCB r t) (xL gg g) := fun pd F0 H0 F H ρ σ s d s' o e Q q => by
  obtain ⟨xs, s1, e1, e⟩ := Mb_eq e
  obtain ⟨e2, rfl⟩ := Mo_eq e
  refine h pd F0 H0 F H ρ σ s xs s1 o e1 _ fun vs F1 H1 x1 d1 r1 => ?_
  exact hv pd F1 H1 xs d vs (o.step x1 d1).fh r1 e2 Q fun z F3 H3 x3 r3 => q z F3 H3 (x1.trans x3.lift) (d1.grow x3) r3
theorem semO_CB {r : List V → Hp → VK → Prop} {gg : List D → Option (List D)} {t : TA} (hv : VLO K r gg) (h : SemAB K t g) : SemO K (tCB r t) (oL gg g) := fun pd F0 H0 F H ρ σ s d s' o e Q q => by
  obtain ⟨xs, s1, e1, e⟩ := Mb_eq e
  obtain ⟨e2, rfl⟩ := Mo_eq e
  refine h pd F0 H0 F H ρ σ s xs s1 o e1 _ fun vs F1 H1 x1 d1 r1 => ?_
  refine hv pd F1 H1 xs d vs (o.step x1 d1).fh r1 e2 Q fun p ys F3 H3 x3 n1 n2 l z r3 => q p ys F3 H3 (x1.trans x3.lift) (d1.grow x3) ?_ n2 l z r3
  cases hp : H p with
  | none => rfl
  | some o => exact absurd n1 (x1.hd p (by rw [hp]; simp))
section
variable {x : Str} {p : Pos} {id T : String} {r : List V → Hp → VK → Prop}
theorem cCallB (C : Fam X P w K mg base N lv) {gg : List D → Option D} (hc : ∀ i, CallR (X i) (.builtin id) r) (hv' : VL K r gg) (hm : mg x = none) (hv : bootBuiltins x = some (.builtin id)) (ha : CAB X K (e :: es) g) (hg : ∀ i, Gl (X i) x := by intro _; rfl)
    (hn : x ≠ "__name__" := by decide) (hdb : (x == ("__debug__" : Str)) = false := by decide) (he : ∀ i, starEach (e :: es) (X i).env = (false, eval e (X i).env) :: starEach es (X i).env := by intro _; rfl)
    (hpl : ∀ i, (backTo pos (starEach es (X i).env)).any (·.1) = false := by intro _; rfl) : CE X K (.Call (.Name x p) (e :: es) [] pos) (xL gg g) :=
  let ⟨t, h1, h2⟩ := ha; ⟨_, fun i => pe_callB (hc i) (hg i) (by rw [C.m i]; exact hm) hv (h1 i) hn hdb (he i) (hpl i), semE_CB hv' h2⟩
theorem oCallB (C : Fam X P w K mg base N lv) {gg : List D → Option (List D)} (hc : ∀ i, CallR (X i) (.builtin id) r) (hv' : VLO K r gg) (hm : mg x = none) (hv : bootBuiltins x = some (.builtin id)) (ha : CAB X K (e :: es) g) (hg : ∀ i, Gl (X i) x := by intro _; rfl)
    (hn : x ≠ "__name__" := by decide) (hdb : (x == ("__debug__" : Str)) = false := by decide) (he : ∀ i, starEach (e :: es) (X i).env = (false, eval e (X i).env) :: starEach es (X i).env := by intro _; rfl)
    (hpl : ∀ i, (backTo pos (starEach es (X i).env)).any (·.1) = false := by intro _; rfl) : CO X K (.Call (.Name x p) (e :: es) [] pos) (oL gg g) :=
  let ⟨t, h1, h2⟩ := ha; ⟨_, fun i => pe_callB (hc i) (hg i) (by rw [C.m i]; exact hm) hv (h1 i) hn hdb (he i) (hpl i), semO_CB hv' h2⟩
theorem cCallT (C : Fam X P w K mg base N lv) {gg : List D → Option D} (hc : ∀ i, CallR (X i) (.type T) r) (hv' : VL K r gg) (hm : mg x = none) (hv : bootBuiltins x = some (.type T)) (ha : CAB X K (e :: es) g) (hg : ∀ i, Gl (X i) x := by intro _; rfl)
    (hn : x ≠ "__name__" := by decide) (hdb : (x == ("__debug__" : Str)) = false := by decide) (he : ∀ i, starEach (e :: es) (X i).env = (false, eval e (X i).env) :: starEach es (X i).env := by intro _; rfl)
    (hpl : ∀ i, (backTo pos (starEach es (X i).env)).any (·.1) = false := by intro _; rfl) : CE X K (.Call (.Name x p) (e :: es) [] pos) (xL gg g) :=
  let ⟨t, h1, h2⟩ := ha; ⟨_, fun i => pe_callTy (hc i) (hg i) (by rw [C.m i]; exact hm) hv (h1 i) hn hdb (he i) (hpl i), semE_CB hv' h2⟩
theorem oCallT (C : Fam X P w K mg base N lv) {gg : List D → Option (List D)} (hc : ∀ i, CallR (X i) (.type T) r) (hv' : VLO K r gg) (hm : mg x = none) (hv : bootBuiltins x = some (.type T)) (ha : CAB X K (e :: es) g) (hg : ∀ i, Gl (X i) x := by intro _; rfl)
    (hn : x ≠ "__name__" := by decide) (hdb : (x == ("__debug__" : Str)) = false := by decide) (he : ∀ i, starEach (e :: es) (X i).env = (false, eval e (X i).env) :: starEach es (X i).env := by intro _; rfl)
    (hpl : ∀ i, (backTo pos (starEach es (X i).env)).any (·.1) = false := by intro _; rfl) : CO X K (.Call (.Name x p) (e :: es) [] pos) (oL gg g) :=
  let ⟨t, h1, h2⟩ := ha; ⟨_, fun i => pe_callTy (hc i) (hg i) (by rw [C.m i]; exact hm) hv (h1 i) hn hdb (he i) (hpl i), semO_CB hv' h2⟩
end
end
end Pu
namespace Pu
open PySem PySem.Spec PyProof.Rows L2

/-! ### data as the library's data -/
mutual
def toP : D → PyData
  | .non => .none
  | .bl b => .bool b
  | .int i => .int i
  | .str x => .str x
  | .tup ds => .tuple (toPs ds)
  | .lst ds => .list (toPs ds)
  | .rng => .dict []
def toPs : List D → List PyData
  | [] => []
  | d :: ds => toP d :: toPs ds
end
mutual
def clean : D → Bool
  | .rng => false
  | .tup ds => cleanL ds
  | .lst ds => cleanL ds
  | _ => true
def cleanL : List D → Bool
  | [] => true
  | d :: ds => clean d && cleanL ds
end
section
variable {K : PySem.W.Frag} {pd : Option PD} {F H : Hp}
mutual
theorem Rep.dp (fh : Same F H) : ∀ {d : D} {v : V}, clean d = true → Rep K pd F d v → Dp K H v (toP d)
  | .non, _, _, h => by simp only [Rep] at h; subst h; exact .non
  | .bl _, _, _, h => by simp only [Rep] at h; subst h; exact .bl _
  | .int _, _, _, h => by simp only [Rep] at h; subst h; exact .int _
  | .str _, _, _, h => by simp only [Rep] at h; subst h; exact .str _
  | .rng, _, c, _ => by simp [clean] at c
  | .tup ds, _, c, h => by
    simp only [Rep] at h
    obtain ⟨a, xs, rfl, s, hl, q⟩ := h
    exact .tup (sqT_mono fh s) (RepL.dp fh (by simpa only [clean] using c) q)
  | .lst ds, _, c, h => by
    simp only [Rep] at h
    obtain ⟨a, xs, rfl, s, hl, q⟩ := h
    exact .lst (.of (fh _ _ s)) (RepL.dp fh (by simpa only [clean] using c) q)
theorem RepL.dp (fh : Same F H) : ∀ {ds : List D} {xs : List V}, cleanL ds = true → RepL K pd F ds xs → DpAll K H xs (toPs ds)
  | [], _, _, h => by have := h.cases0; subst this; exact .nil
  | d :: ds, _, c, h => by
    obtain ⟨y, ys, rfl, h1, h2⟩ := h.cases
    simp only [cleanL, Bool.and_eq_true] at c
    exact .cons (Rep.dp fh c.1 h1) (RepL.dp fh c.2 h2)
end
theorem RepB.dp {d : D} {v : V} (fh : Same F H) (c : clean d = true) (h : RepB K pd F H d v) : Dp K H v (toP d) := by
  rcases h with h | ⟨p, ds, xs, rfl, rfl, h3, _, _, _, h6⟩
  · exact h.dp fh c
  · exact .lst (.of h3) (RepL.dp fh (by simpa only [clean] using c) h6)
theorem toPs_eq : ∀ ds : List D, toPs ds = ds.map toP
  | [] => rfl
  | d :: ds => by rw [toPs, toPs_eq ds]; rfl
end
/-- may be compared -/
def cmpOk (d : D) : Bool := clean d && SeqAt.shaped (toP d)
def eqD (x y : D) : Option D := if cmpOk x = true ∧ cmpOk y = true then some (.bl (PyData.eqv (toP x) (toP y))) else none
def neD (x y : D) : Option D := if cmpOk x = true ∧ cmpOk y = true then some (.bl (!PyData.eqv (toP x) (toP y))) else none
def isNonD : D → Bool
  | .non => true
  | _ => false
def isD (x y : D) : Option D := match y with
  | .non => some (.bl (isNonD x))
  | _ => none
def isNotD (x y : D) : Option D := match y with
  | .non => some (.bl (!isNonD x))
  | _ => none
def ltD : D → D → Option D
  | .int a, .int b => some (.bl (decide (a < b)))
  | _, _ => none
def leD : D → D → Option D
  | .int a, .int b => some (.bl (decide (a ≤ b)))
  | _, _ => none
def gtD : D → D → Option D
  | .int a, .int b => some (.bl (decide (b < a)))
  | _, _ => none
def geD : D → D → Option D
  | .int a, .int b => some (.bl (decide (b ≤ a)))
  | _, _ => none
def addD : D → D → Option D
  | .int a, .int b => some (.int (a + b))
  | .tup a, .tup b => if a.length + b.length ≤ SZ then some (.tup (a ++ b)) else none
  | .lst a, .lst b => if a.length + b.length ≤ SZ then some (.lst (a ++ b)) else none
  | _, _ => none
def catO : D → D → Option (List D)
  | .lst a, .lst b => if a.length + b.length ≤ SZ then some (a ++ b) else none
  | _, _ => none
def subD : D → D → Option D
  | .int a, .int b => some (.int (a - b))
  | _, _ => none
def mulD : D → D → Option D
  | .int a, .int b => if a.natAbs.log2 + b.natAbs.log2 < 1000000 then some (.int (a * b)) else none
  | _, _ => none
def divD : D → D → Option D
  | .int a, .int b => if 0 < b ∧ b.natAbs.log2 < 9000 then some (.int (a / b)) else none
  | _, _ => none
def modD : D → D → Option D
  | .int a, .int b => if 0 < b then some (.int (a % b)) else none
  | _, _ => none
def negD : D → Option D
  | .int a => some (.int (-a))
  | _ => none
def repO : D → D → Option (List D)
  | .lst a, .int k => if -(2 ^ 63) ≤ k ∧ k < 2 ^ 63 ∧ a.length * k.toNat ≤ SZ then some (List.replicate k.toNat a).flatten else none
  | _, _ => none
def ixD : D → D → Option D
  | .lst a, .int k => atI a k
  | .tup a, .int k => atI a k
  | _, _ => none
def lenD : List D → Option D
  | [.lst a] => some (.int a.length)
  | [.tup a] => some (.int a.length)
  | _ => none
def tupD : List D → Option D
  | [.lst a] => some (.tup a)
  | [.tup a] => some (.tup a)
  | _ => none
def listO : List D → Option (List D)
  | [.lst a] => some a
  | [.tup a] => some a
  | _ => none
def absD : List D → Option D
  | [.int a] => some (.int (if a < 0 then -a else a))
  | _ => none
def intD : List D → Option D
  | [.int a] => some (.int a)
  | [.bl b] => some (.int (if b then 1 else 0))
  | _ => none
def max2D : List D → Option D
  | [.int a, .int b] => some (.int (if b > a then b else a))
  | _ => none
def min2D : List D → Option D
  | [.int a, .int b] => some (.int (if b < a then b else a))
  | _ => none

section
variable {K : PySem.W.Frag} {X : Cx}
theorem v2I {g : Int → Int → D} {gv : Int → Int → V} {C : Int → Int → Prop} (h : ∀ pd F i j, Rep K pd F (g i j) (gv i j)) {gg : D → D → Option D}
    (hg : ∀ x y d, gg x y = some d → ∃ i j, x = .int i ∧ y = .int j ∧ C i j ∧ d = g i j) : V2 K (rI C gv) gg := fun pd F H x y d v w fh rx ry e Q q => by
  obtain ⟨i, j, rfl, rfl, c, rfl⟩ := hg x y d e
  exact ⟨i, j, rx.int, ry.int, c, q _ F H (.refl fh) (h pd F i j)⟩
theorem v2I0 {g : Int → Int → D} {gv : Int → Int → V} (h : ∀ pd F i j, Rep K pd F (g i j) (gv i j)) {gg : D → D → Option D}
    (hg : ∀ x y d, gg x y = some d → ∃ i j, x = .int i ∧ y = .int j ∧ d = g i j) : V2 K (rI0 gv) gg := fun pd F H x y d v w fh rx ry e Q q => by
  obtain ⟨i, j, rfl, rfl, rfl⟩ := hg x y d e
  exact ⟨i, j, rx.int, ry.int, q _ F H (.refl fh) (h pd F i j)⟩
theorem int2 {gg : D → D → Option D} {g : Int → Int → D} (h1 : ∀ i j, gg (.int i) (.int j) = some (g i j)) (h2 : ∀ x y, (∀ i j, x = .int i → y = .int j → False) → gg x y = none) (x y d : D) (e : gg x y = some d) :
    ∃ i j, x = .int i ∧ y = .int j ∧ d = g i j := by
  by_cases hx : ∃ i j, x = .int i ∧ y = .int j
  · obtain ⟨i, j, rfl, rfl⟩ := hx
    rw [h1] at e
    exact ⟨i, j, rfl, rfl, (Option.some.inj e).symm⟩
  · rw [h2 x y fun i j e1 e2 => hx ⟨i, j, e1, e2⟩] at e
    cases e
theorem v_lt : V2 K (rI0 fun i j => .bl (decide (i < j))) ltD := v2I0 (g := fun i j => .bl (decide (i < j))) (fun _ _ _ _ => by simp [Rep]) (int2 (fun _ _ => rfl) fun x y h => by cases x <;> cases y <;> first | rfl | exact (h _ _ rfl rfl).elim)
theorem v_le : V2 K (rI0 fun i j => .bl (decide (i ≤ j))) leD := v2I0 (g := fun i j => .bl (decide (i ≤ j))) (fun _ _ _ _ => by simp [Rep]) (int2 (fun _ _ => rfl) fun x y h => by cases x <;> cases y <;> first | rfl | exact (h _ _ rfl rfl).elim)
theorem v_gt : V2 K (rI0 fun i j => .bl (decide (j < i))) gtD := v2I0 (g := fun i j => .bl (decide (j < i))) (fun _ _ _ _ => by simp [Rep]) (int2 (fun _ _ => rfl) fun x y h => by cases x <;> cases y <;> first | rfl | exact (h _ _ rfl rfl).elim)
theorem v_ge : V2 K (rI0 fun i j => .bl (decide (j ≤ i))) geD := v2I0 (g := fun i j => .bl (decide (j ≤ i))) (fun _ _ _ _ => by simp [Rep]) (int2 (fun _ _ => rfl) fun x y h => by cases x <;> cases y <;> first | rfl | exact (h _ _ rfl rfl).elim)
theorem v_sub : V2 K (rI0 fun i j => .int (i - j)) subD := v2I0 (g := fun i j => .int (i - j)) (fun _ _ _ _ => by simp [Rep]) (int2 (fun _ _ => rfl) fun x y h => by cases x <;> cases y <;> first | rfl | exact (h _ _ rfl rfl).elim)
theorem v_mul : V2 K (rI CMulW fun i j => .int (i * j)) mulD := v2I (g := fun i j => .int (i * j)) (fun _ _ _ _ => by simp [Rep]) fun x y d e => by
  cases x <;> cases y <;> first | (cases e; done) | skip
  rename_i i j
  simp only [mulD] at e
  split at e
  · rename_i h; exact ⟨i, j, rfl, rfl, h, (Option.some.inj e).symm⟩
  · cases e
theorem v_div : V2 K (rI CDivW fun i j => .int (i / j)) divD := v2I (g := fun i j => .int (i / j)) (fun _ _ _ _ => by simp [Rep]) fun x y d e => by
  cases x <;> cases y <;> first | (cases e; done) | skip
  rename_i i j
  simp only [divD] at e
  split at e
  · rename_i h; exact ⟨i, j, rfl, rfl, h, (Option.some.inj e).symm⟩
  · cases e
theorem v_mod : V2 K (rI (fun _ j => 0 < j) fun i j => .int (i % j)) modD := v2I (g := fun i j => .int (i % j)) (fun _ _ _ _ => by simp [Rep]) fun x y d e => by
  cases x <;> cases y <;> first | (cases e; done) | skip
  rename_i i j
  simp only [modD] at e
  split at e
  · rename_i h; exact ⟨i, j, rfl, rfl, h, (Option.some.inj e).symm⟩
  · cases e
theorem v_neg : V1 K (rU fun i => .int (-i)) negD := fun pd F H x d v fh rx e Q q => by
  cases x <;> first | (cases e; done) | skip
  rename_i i
  cases e
  exact ⟨i, rx.int, q _ F H (.refl fh) (by simp [Rep])⟩
/-! sums of ints, tuples, lists -/
def rAddAll (K : PySem.W.Frag) : R2 := fun x y H Q => (rI0 fun i j => .int (i + j)) x y H Q ∨ rCatA K x y H Q ∨ rCat x y H Q
theorem op_addAll (h : X.K = K) : OpR X (binaryOp .Add) (rAddAll K) := by subst h; exact op_add.or (op_catA.or op_cat)
theorem v_add : V2 K (rAddAll K) addD := fun pd F H x y d v w fh rx ry e Q q => by
  cases x <;> cases y <;> first | (cases e; done) | skip
  · rename_i i j
    cases e
    exact .inl ⟨i, j, rx.int, ry.int, q _ F H (.refl fh) (by simp [Rep])⟩
  · rename_i as bs
    simp only [addD] at e
    split at e
    · rename_i hl
      cases e
      obtain ⟨a, xs, rfl, t1, t2, l1, r1⟩ := rx.tup fh
      obtain ⟨b, ys, rfl, u1, u2, l2, r2⟩ := ry.tup fh
      refine .inr (.inl ⟨a, b, xs, ys, rfl, rfl, t1, u1, by rw [r1.length, r2.length]; exact hl, fun z => ?_, fun _ z => ?_, fun _ _ p n => ?_⟩)
      · subst z
        have : as = [] := List.eq_nil_of_length_eq_zero r1.length.symm
        subst this
        exact q _ F H (.refl fh) (by simp only [Rep]; exact ⟨b, ys, rfl, u2, l2, r2⟩)
      · subst z
        have : bs = [] := List.eq_nil_of_length_eq_zero r2.length.symm
        subst this
        rw [List.append_nil] at q
        exact q _ F H (.refl fh) (by simp only [Rep]; exact ⟨a, xs, rfl, t2, l1, r1⟩)
      · have x2 := Ext.new (o := .tup (xs ++ ys)) fh n
        exact q _ _ _ x2 (by simp only [Rep]; exact ⟨p, _, rfl, .of upd_same, by rw [List.length_append]; exact hl, (r1.append r2).mono x2.ff⟩)
    · cases e
  · rename_i as bs
    simp only [addD] at e
    split at e
    · rename_i hl
      cases e
      obtain ⟨a, xs, rfl, t1, l1, r1⟩ := rx.lst fh
      obtain ⟨b, ys, rfl, u1, l2, r2⟩ := ry.lst fh
      refine .inr (.inr ⟨a, b, xs, ys, rfl, rfl, t1, u1, by rw [r1.length, r2.length]; exact hl, fun p n => ?_⟩)
      have x2 := Ext.new (o := .lst (xs ++ ys)) fh n
      exact q _ _ _ x2 (by simp only [Rep]; exact ⟨p, _, rfl, upd_same, by rw [List.length_append]; exact hl, (r1.append r2).mono x2.ff⟩)
    · cases e
theorem nF_of {F H : Hp} {p : Addr} (fh : Same F H) (n : H p = none) : F p = none := fh.free n
theorem v_catO : V2O K rCat catO := fun pd F H x y d v w fh rx ry e Q q => by
  cases x <;> cases y <;> first | (cases e; done) | skip
  rename_i as bs
  simp only [catO] at e
  split at e
  · rename_i hl
    cases e
    obtain ⟨a, xs, rfl, t1, l1, r1⟩ := rx.lst fh
    obtain ⟨b, ys, rfl, u1, l2, r2⟩ := ry.lst fh
    refine ⟨a, b, xs, ys, rfl, rfl, t1, u1, by rw [r1.length, r2.length]; exact hl, fun p n => ?_⟩
    exact q p _ F _ (Ext.own fh n) n (nF_of fh n) upd_same (by rw [List.length_append]; exact hl) (r1.append r2)
  · cases e
theorem v_repO : V2O K rRep repO := fun pd F H x y d v w fh rx ry e Q q => by
  cases x <;> cases y <;> first | (cases e; done) | skip
  rename_i as k
  simp only [repO] at e
  split at e
  · rename_i hl
    cases e
    obtain ⟨a, xs, rfl, t1, l1, r1⟩ := rx.lst fh
    refine ⟨a, k, xs, rfl, ry.int, t1, hl.1, hl.2.1, by rw [r1.length]; exact hl.2.2, fun p n => ?_⟩
    refine q p _ F _ (Ext.own fh n) n (nF_of fh n) upd_same ?_ (r1.rep _)
    have : (List.replicate k.toNat as).flatten.length = as.length * k.toNat := by
      rw [List.length_flatten, List.map_replicate, List.sum_replicate_nat, Nat.mul_comm]
    rw [this]; exact hl.2.2
  · cases e
/-! subscripts -/
theorem atI_rep {pd : Option PD} {F : Hp} {ds : List D} {xs : List V} {k : Int} {d : D} (r : RepL K pd F ds xs) (e : atI ds k = some d) : ∃ x, atI xs k = some x ∧ Rep K pd F d x := by
  unfold atI at e ⊢
  rw [r.length]
  cases h : ixN ds.length k with
  | none => rw [h] at e; cases e
  | some j =>
    rw [h] at e
    exact r.get e
def rIxS2 (K : PySem.W.Frag) : R2 := fun x y H Q => rIxL K x y H Q ∨ rIxT K x y H Q
theorem ix_both (h : X.K = K) : IxR X (rIxS2 K) := by subst h; exact ix_list.or ix_tup
theorem v_ix : V2 K (rIxS2 K) ixD := fun pd F H x y d v w fh rx ry e Q q => by
  cases x <;> cases y <;> first | (cases e; done) | skip
  · rename_i as k
    obtain ⟨a, xs, rfl, t1, t2, l1, r1⟩ := rx.tup fh
    obtain ⟨z, h1, h2⟩ := atI_rep r1 e
    exact .inr ⟨a, xs, k, z, rfl, ry.int, t1, h1, q _ F H (.refl fh) h2⟩
  · rename_i as k
    obtain ⟨a, xs, rfl, t1, l1, r1⟩ := rx.lst fh
    obtain ⟨z, h1, h2⟩ := atI_rep r1 e
    exact .inl ⟨a, xs, k, z, rfl, ry.int, .of t1, h1, q _ F H (.refl fh) h2⟩
/-! equality -/
theorem v_eq : V2 K (rEqD K) eqD := fun pd F H x y d v w fh rx ry e Q q => by
  unfold eqD at e
  split at e
  · rename_i h
    cases e
    obtain ⟨h1, h2⟩ := h
    unfold cmpOk at h1 h2
    rw [Bool.and_eq_true] at h1 h2
    exact ⟨_, _, rx.dp fh h1.1, ry.dp fh h2.1, h1.2, h2.2, q _ F H (.refl fh) (by simp [Rep])⟩
  · cases e
theorem v_ne : V2 K (rNeD K) neD := fun pd F H x y d v w fh rx ry e Q q => by
  unfold neD at e
  split at e
  · rename_i h
    cases e
    obtain ⟨h1, h2⟩ := h
    unfold cmpOk at h1 h2
    rw [Bool.and_eq_true] at h1 h2
    exact ⟨_, _, rx.dp fh h1.1, ry.dp fh h2.1, h1.2, h2.2, q _ F H (.refl fh) (by simp [Rep])⟩
  · cases e
theorem non_iff {pd : Option PD} {F H : Hp} {x : D} {v : V} (h : RepB K pd F H x v) : decide (v = .non) = isNonD x := by
  cases x with
  | non => rw [h.non]; rfl
  | bl b => rw [h.bl]; rfl
  | int b => rw [h.int]; rfl
  | str b => rw [h.str]; rfl
  | rng =>
    rcases h with h | ⟨p, ds, xs, h1, _⟩
    · simp only [Rep] at h; obtain ⟨a, rfl, _⟩ := h; rfl
    · cases h1
  | tup ds =>
    rcases h with h | ⟨p, ds, xs, h1, _⟩
    · simp only [Rep] at h; obtain ⟨a, xs, rfl, _⟩ := h; rfl
    · cases h1
  | lst ds =>
    rcases h with h | ⟨p, ds, xs, h1, h2, _⟩
    · simp only [Rep] at h; obtain ⟨a, xs, rfl, _⟩ := h; rfl
    · subst h2; rfl
theorem v_is : V2 K (fun x y H Q => y = .non ∧ Q (.bl (decide (x = .non))) H) isD := fun pd F H x y d v w fh rx ry e Q q => by
  cases y <;> first | (cases e; done) | skip
  cases e
  exact ⟨ry.non, by rw [non_iff rx]; exact q _ F H (.refl fh) (by simp [Rep])⟩
theorem v_isNot : V2 K (fun x y H Q => y = .non ∧ Q (.bl (!decide (x = .non))) H) isNotD := fun pd F H x y d v w fh rx ry e Q q => by
  cases y <;> first | (cases e; done) | skip
  cases e
  exact ⟨ry.non, by rw [non_iff rx]; exact q _ F H (.refl fh) (by simp [Rep])⟩
/-! calls -/
theorem RepBL.one {pd : Option PD} {F H : Hp} {d : D} {vs : List V} (h : RepBL K pd F H [d] vs) : ∃ v, vs = [v] ∧ RepB K pd F H d v := by
  cases h with
  | cons a b => cases b; exact ⟨_, rfl, a⟩
theorem RepBL.two {pd : Option PD} {F H : Hp} {d e : D} {vs : List V} (h : RepBL K pd F H [d, e] vs) : ∃ v w, vs = [v, w] ∧ RepB K pd F H d v ∧ RepB K pd F H e w := by
  cases h with
  | cons a b => obtain ⟨w, rfl, r⟩ := b.one; exact ⟨_, _, rfl, a, r⟩
def rLen (K : PySem.W.Frag) : List V → Hp → VK → Prop := fun xs H Q => ∃ p ys, xs = [.ref p] ∧ (SqL K H p ys ∨ SqT K H p ys) ∧ Q (.int ys.length) H
theorem c_len (h : X.K = K) : CallR X (.builtin "len") (rLen K) := by subst h; exact call_len_seq
theorem v_len : VL K (rLen K) lenD := fun pd F H xs d vs fh r e Q q => by
  match xs, e with
  | [.lst a], e =>
    cases e
    obtain ⟨v, rfl, rb⟩ := r.one
    obtain ⟨p, ys, rfl, t, l, rl⟩ := rb.lst fh
    exact ⟨p, ys, rfl, .inl (.of t), by rw [rl.length]; exact q _ F H (.refl fh) (by simp [Rep])⟩
  | [.tup a], e =>
    cases e
    obtain ⟨v, rfl, rb⟩ := r.one
    obtain ⟨p, ys, rfl, t, _, l, rl⟩ := rb.tup fh
    exact ⟨p, ys, rfl, .inr t, by rw [rl.length]; exact q _ F H (.refl fh) (by simp [Rep])⟩
def rTupOf (K : PySem.W.Frag) : List V → Hp → VK → Prop := fun xs H Q => ∃ p ys, xs = [.ref p] ∧ ((SqL K H p ys ∧ ∀ l, H l = none → Q (.ref l) (upd H l (.tup ys))) ∨ (SqT K H p ys ∧ Q (.ref p) H))
theorem c_tup (h : X.K = K) : CallR X (.type "tuple") (rTupOf K) := by subst h; exact call_tuple_of
theorem v_tup : VL K (rTupOf K) tupD := fun pd F H xs d vs fh r e Q q => by
  match xs, e with
  | [.lst a], e =>
    cases e
    obtain ⟨v, rfl, rb⟩ := r.one
    obtain ⟨p, ys, rfl, t, l, rl⟩ := rb.lst fh
    refine ⟨p, ys, rfl, .inl ⟨.of t, fun b n => ?_⟩⟩
    have x2 := Ext.new (o := .tup ys) fh n
    exact q _ _ _ x2 (by simp only [Rep]; exact ⟨b, _, rfl, .of upd_same, l, rl.mono x2.ff⟩)
  | [.tup a], e =>
    cases e
    obtain ⟨v, rfl, rb⟩ := r.one
    obtain ⟨p, ys, rfl, t, t2, l, rl⟩ := rb.tup fh
    exact ⟨p, ys, rfl, .inr ⟨t, q _ F H (.refl fh) (by simp only [Rep]; exact ⟨p, _, rfl, t2, l, rl⟩)⟩⟩
def rListOf (K : PySem.W.Frag) : List V → Hp → VK → Prop := fun xs H Q => ∃ p ys, xs = [.ref p] ∧ (SqL K H p ys ∨ SqT K H p ys) ∧ ∀ l, H l = none → Q (.ref l) (upd H l (.lst ys))
theorem c_list (h : X.K = K) : CallR X (.type "list") (rListOf K) := by subst h; exact call_list_of
theorem v_list : VLO K (rListOf K) listO := fun pd F H xs d vs fh r e Q q => by
  match xs, e with
  | [.lst a], e =>
    cases e
    obtain ⟨v, rfl, rb⟩ := r.one
    obtain ⟨p, ys, rfl, t, l, rl⟩ := rb.lst fh
    exact ⟨p, ys, rfl, .inl (.of t), fun b n => q b _ F _ (Ext.own fh n) n (nF_of fh n) upd_same l rl⟩
  | [.tup a], e =>
    cases e
    obtain ⟨v, rfl, rb⟩ := r.one
    obtain ⟨p, ys, rfl, t, t2, l, rl⟩ := rb.tup fh
    exact ⟨p, ys, rfl, .inr t, fun b n => q b _ F _ (Ext.own fh n) n (nF_of fh n) upd_same l rl⟩
theorem v_abs : VL K (fun xs H Q => ∃ i, xs = [.int i] ∧ Q (.int (if i < 0 then -i else i)) H) absD := fun pd F H xs d vs fh r e Q q => by
  match xs, e with
  | [.int a], e =>
    cases e
    obtain ⟨v, rfl, rb⟩ := r.one
    exact ⟨a, by rw [rb.int], q _ F H (.refl fh) (by simp [Rep])⟩
theorem v_int : VL K (fun xs H Q => (∃ i, xs = [.int i] ∧ Q (.int i) H) ∨ ∃ k, xs = [.bl k] ∧ Q (.int (if k then 1 else 0)) H) intD := fun pd F H xs d vs fh r e Q q => by
  match xs, e with
  | [.int a], e =>
    cases e
    obtain ⟨v, rfl, rb⟩ := r.one
    exact .inl ⟨a, by rw [rb.int], q _ F H (.refl fh) (by simp [Rep])⟩
  | [.bl a], e =>
    cases e
    obtain ⟨v, rfl, rb⟩ := r.one
    exact .inr ⟨a, by rw [rb.bl], q _ F H (.refl fh) (by simp [Rep])⟩
theorem v_max2 : VL K (fun xs H Q => ∃ i j, xs = [.int i, .int j] ∧ Q (.int (if j > i then j else i)) H) max2D := fun pd F H xs d vs fh r e Q q => by
  match xs, e with
  | [.int a, .int b], e =>
    cases e
    obtain ⟨v, w, rfl, r1, r2⟩ := r.two
    exact ⟨a, b, by rw [r1.int, r2.int], q _ F H (.refl fh) (by simp [Rep])⟩
theorem v_min2 : VL K (fun xs H Q => ∃ i j, xs = [.int i, .int j] ∧ Q (.int (if j < i then j else i)) H) min2D := fun pd F H xs d vs fh r e Q q => by
  match xs, e with
  | [.int a, .int b], e =>
    cases e
    obtain ⟨v, w, rfl, r1, r2⟩ := r.two
    exact ⟨a, b, by rw [r1.int, r2.int], q _ F H (.refl fh) (by simp [Rep])⟩
end

/-! ### subscripts and slices as rules -/
def xSl (g : D → Option Int → Option Int → Option D) (a : EF) (lo hi : Option EF) : EF := fun ρ => Mb (a ρ) fun x =>
  Mb (match lo with | none => Mp none | some f => Mb (f ρ) fun d => match d with | .int i => Mp (some i) | _ => Mf) fun l =>
  Mb (match hi with | none => Mp none | some f => Mb (f ρ) fun d => match d with | .int i => Mp (some i) | _ => Mf) fun u => Mo (g x l u)
def cutD {α : Type} (xs : List α) (lo hi : Option Int) : List α := (xs.drop (HT.sIx xs.length 0 lo)).take (HT.sIx xs.length xs.length hi - HT.sIx xs.length 0 lo)
def slD : D → Option Int → Option Int → Option D
  | .lst a, l, u => some (.lst (cutD a l u))
  | .tup a, l, u => some (.tup (cutD a l u))
  | _, _, _ => none
section
variable {ι : Type} {X : ι → Cx} {P : Program} {w : World} {K : PySem.W.Frag} {mg : Str → Option Value} {base : Heap} {N : List Str} {lv : Nat} {pos : Pos} {a b c e : Expr} {es : List Expr} {f fa fb fc : EF} {g : AF}
theorem cIx {r : R2} {gg : D → D → Option D} (hr : ∀ i, IxR (X i) r) (hv : V2 K r gg) (ha : CB X K a fa) (hb : CB X K b fb) (hs : PlainIx b) : CE X K (.Subscript a b pos) (x2 gg fa fb) :=
  let ⟨ta, a1, a2⟩ := ha; let ⟨tb, b1, b2⟩ := hb; ⟨_, fun i => pe_ix (hr i) (a1 i) (b1 i) hs, semE_op2 hv a2 b2⟩
def SemP (K : PySem.W.Frag) (t : TO) (f : Option EF) : Prop := ∀ (pd : Option PD) (F0 H0 F H : Hp) (ρ : Rho) (σ : L2.St) (s : DS) (o : Option Int) (s' : DS), Ok K pd F0 H0 F H ρ σ s →
  (match f with | none => (Mp none : M (Option Int)) | some f => Mb (f ρ) fun d => match d with | .int i => Mp (some i) | _ => Mf) s = some (o, s') →
  ∀ Q : Option Int → Hp → Prop, (∀ F' H', Ext pd F H F' H' → DOk K pd F' H' s' → Q o H') → t σ H Q
def CP (X : ι → Cx) (K : PySem.W.Frag) (e : Option Expr) (f : Option EF) : Prop := ∃ t, (∀ i, PO (X i) e t) ∧ SemP K t f
theorem cpNone : CP X K none none := ⟨_, fun _ => po_none, fun pd F0 H0 F H ρ σ s d s' o e Q q => by obtain ⟨rfl, rfl⟩ := Mp_eq e; exact q F H (.refl o.fh) o.dok⟩
theorem cpSome (h : CE X K e f) : CP X K (some e) (some f) := by
  obtain ⟨t, h1, h2⟩ := h
  refine ⟨_, fun i => po_some (h1 i), fun pd F0 H0 F H ρ σ s d s' o e Q q => ?_⟩
  obtain ⟨x, s1, e1, e⟩ := Mb_eq e
  refine h2 pd F0 H0 F H ρ σ s x s1 o e1 _ fun v F1 H1 x1 d1 r1 => ?_
  cases x with
  | int i =>
    obtain ⟨rfl, rfl⟩ := Mp_eq e
    simp only [Rep] at r1
    exact ⟨i, r1, q F1 H1 x1 d1⟩
  | _ => cases e
def V3 (K : PySem.W.Frag) (r : V → Option Int → Option Int → Hp → VK → Prop) (g : D → Option Int → Option Int → Option D) : Prop := ∀ (pd : Option PD) (F H : Hp) (x d : D) (l u : Option Int) (v : V), Same F H → RepB K pd F H x v → g x l u = some d →
  ∀ Q : VK, (∀ u F' H', Ext none F H F' H' → Rep K pd F' d u → Q u H') → r v l u H Q
theorem cSlice {r : V → Option Int → Option Int → Hp → VK → Prop} {gg : D → Option Int → Option Int → Option D} {lo hi : Option Expr} {fl fu : Option EF} {p2 : Pos} (hr : ∀ i, SlR (X i) r) (hv : V3 K r gg) (ha : CB X K a fa) (hl : CP X K lo fl) (hu : CP X K hi fu) :
    CE X K (.Subscript a (.Slice lo hi none p2) pos) (xSl gg fa fl fu) := by
  obtain ⟨ta, a1, a2⟩ := ha
  obtain ⟨tl, l1, l2⟩ := hl
  obtain ⟨tu, u1, u2⟩ := hu
  refine ⟨_, fun i => pe_slice (hr i) (a1 i) (l1 i) (u1 i), fun pd F0 H0 F H ρ σ s d s' o e Q q => ?_⟩
  obtain ⟨x, s1, e1, e⟩ := Mb_eq e
  obtain ⟨l, s2, e2, e⟩ := Mb_eq e
  obtain ⟨u, s3, e3, e⟩ := Mb_eq e
  obtain ⟨e4, rfl⟩ := Mo_eq e
  refine a2 pd F0 H0 F H ρ σ s x s1 o e1 _ fun v F1 H1 x1 d1 r1 => ?_
  have o1 := o.step x1 d1
  refine l2 pd F0 H0 F1 H1 ρ σ s1 l s2 o1 e2 _ fun F2 H2 x2 d2 => ?_
  have o2 := o1.step x2 d2
  refine u2 pd F0 H0 F2 H2 ρ σ s2 u _ o2 e3 _ fun F3 H3 x3 d3 => ?_
  exact hv pd F3 H3 x d l u v (o2.step x3 d3).fh ((r1.mono x2).mono x3) e4 Q fun z F4 H4 x4 r4 => q z F4 H4 (x1.trans (x2.trans (x3.trans x4.lift))) (d3.grow x4) r4
end
section
variable {K : PySem.W.Frag} {X : Cx}
def rSlAll (K : PySem.W.Frag) : V → Option Int → Option Int → Hp → VK → Prop := fun x l u H Q => rSlL K x l u H Q ∨ rSlA K x l u H Q
theorem sl_all (h : X.K = K) : SlR X (rSlAll K) := by subst h; exact sl_list.or sl_tupA
theorem cut_rep {pd : Option PD} {F : Hp} {ds : List D} {xs : List V} (r : RepL K pd F ds xs) (l u : Option Int) : RepL K pd F (cutD ds l u) (cutV xs l u) := by
  unfold cutD cutV
  rw [r.length]
  exact (r.drop _).take _
theorem cutD_le {α : Type} (ds : List α) (l u : Option Int) : (cutD ds l u).length ≤ ds.length := by
  unfold cutD
  rw [List.length_take, List.length_drop]
  omega
theorem v_sl : V3 K (rSlAll K) slD := fun pd F H x d l u v fh rx e Q q => by
  cases x <;> first | (cases e; done) | skip
  · rename_i as
    cases e
    obtain ⟨a, xs, rfl, t1, t2, l1, r1⟩ := rx.tup fh
    have hc := cutD_le as l u
    refine .inr ⟨a, xs, rfl, t1, fun w => ?_, fun w p n => ?_⟩
    · have : cutD as l u = as := by
        unfold cutD
        rw [← r1.length, w.1, w.2]
        simp [r1.length]
      rw [this] at q
      exact q _ F H (.refl fh) (by simp only [Rep]; exact ⟨a, xs, rfl, t2, l1, r1⟩)
    · have x2 := Ext.new (o := .tup (cutV xs l u)) fh n
      exact q _ _ _ x2 (by simp only [Rep]; exact ⟨p, _, rfl, .of upd_same, Nat.le_trans hc l1, (cut_rep r1 l u).mono x2.ff⟩)
  · rename_i as
    cases e
    obtain ⟨a, xs, rfl, t1, l1, r1⟩ := rx.lst fh
    have hc := cutD_le as l u
    refine .inl ⟨a, xs, rfl, .of t1, fun p n => ?_⟩
    have x2 := Ext.new (o := .lst (cutV xs l u)) fh n
    exact q _ _ _ x2 (by simp only [Rep]; exact ⟨p, _, rfl, upd_same, Nat.le_trans hc l1, (cut_rep r1 l u).mono x2.ff⟩)
end
end Pu
namespace Pu
open PySem PySem.Spec PyProof.Rows L2

/-! ### what is walked -/
def WalkS (K : PySem.W.Frag) (pd : Option PD) (J : It) (F : Hp) (ds : List D) : Prop := ds.length ≤ SZ ∧ ∀ (i : Nat) (F1 H1 : Hp), Same F F1 → Same F1 H1 →
  (∀ d, ds[i]? = some d → J.go i H1 ∧ ∀ x H2, J.yld i H1 x H2 → ∃ F2, Ext none F1 H1 F2 H2 ∧ Rep K pd F2 d x) ∧ (i = ds.length → J.stop i H1)
def WalkW (K : PySem.W.Frag) (pd : Option PD) (J : It) (F H : Hp) (ds : List D) : Prop := ds.length ≤ SZ ∧ ∀ (i : Nat) (F1 H1 : Hp), Ext pd F H F1 H1 →
  (∀ d, ds[i]? = some d → J.go i H1 ∧ ∀ x H2, J.yld i H1 x H2 → ∃ F2, Ext none F1 H1 F2 H2 ∧ Rep K pd F2 d x) ∧ (i = ds.length → J.stop i H1)
theorem WalkS.w {K : PySem.W.Frag} {pd : Option PD} {J : It} {F H : Hp} {ds : List D} (h : WalkS K pd J F ds) : WalkW K pd J F H ds := ⟨h.1, fun i F1 H1 x => h.2 i F1 H1 x.ff x.fh⟩
def SemI (K : PySem.W.Frag) (t : TI) (f : AF) : Prop := ∀ (pd : Option PD) (F0 H0 F H : Hp) (ρ : Rho) (σ : L2.St) (s : DS) (ds : List D) (s' : DS), Ok K pd F0 H0 F H ρ σ s → f ρ s = some (ds, s') →
  ∀ R : It → Hp → Prop, (∀ J F' H', Ext pd F H F' H' → DOk K pd F' H' s' → WalkS K pd J F' ds → R J H') → t σ H R
def SemIW (K : PySem.W.Frag) (t : TI) (f : AF) : Prop := ∀ (pd : Option PD) (F0 H0 F H : Hp) (ρ : Rho) (σ : L2.St) (s : DS) (ds : List D) (s' : DS), Ok K pd F0 H0 F H ρ σ s → f ρ s = some (ds, s') →
  ∀ R : It → Hp → Prop, (∀ J F' H', Ext pd F H F' H' → DOk K pd F' H' s' → WalkW K pd J F' H' ds → R J H') → t σ H R
section
variable {ι : Type}
def CI (X : ι → Cx) (K : PySem.W.Frag) (tg e : Expr) (f : AF) : Prop := ∃ t, (∀ i, PI (X i) tg e t) ∧ SemI K t f
def CIW (X : ι → Cx) (K : PySem.W.Frag) (tg e : Expr) (f : AF) : Prop := ∃ t, (∀ i, PI (X i) tg e t) ∧ SemIW K t f
theorem CI.w {X : ι → Cx} {K : PySem.W.Frag} {tg e : Expr} {f : AF} (h : CI X K tg e f) : CIW X K tg e f :=
  let ⟨t, h1, h2⟩ := h; ⟨t, h1, fun pd F0 H0 F H ρ σ s d s' o e R q => h2 pd F0 H0 F H ρ σ s d s' o e R fun J F' H' x y z => q J F' H' x y z.w⟩
end
def seqD : D → Option (List D)
  | .lst a => some a
  | .tup a => some a
  | _ => none
def iSq (f : EF) : AF := fun ρ => Mb (f ρ) fun d => Mo (seqD d)
def rangeL (lo : Int) (n : Nat) : List D := (List.range n).map fun i => .int (lo + (i : Nat))
def rng1D : List D → Option (List D)
  | [.int j] => if j ≤ 16777216 ∧ -(2 ^ 62) ≤ j then some (rangeL 0 j.toNat) else none
  | _ => none
def rng2D : List D → Option (List D)
  | [.int i, .int j] => if -(2 ^ 61) ≤ i ∧ i < 2 ^ 61 ∧ -(2 ^ 61) ≤ j ∧ j < 2 ^ 61 ∧ j - i ≤ 16777216 then some (rangeL i (j - i).toNat) else none
  | _ => none
def iRg (gg : List D → Option (List D)) (f : AF) : AF := fun ρ => Mb (f ρ) fun xs => Mo (gg xs)

section
variable {K : PySem.W.Frag} {pd : Option PD}
theorem walkS_list {F : Hp} {a : Addr} {xs : List V} {ds : List D} (h : F a = some (.lst xs)) (hl : ds.length ≤ SZ) (r : RepL K pd F ds xs) : WalkS K pd (Itl K a) F ds := by
  refine ⟨hl, fun i F1 H1 f1 f2 => ⟨fun d hd => ?_, fun e => ⟨xs, .of (f2 _ _ (f1 _ _ h)), by rw [r.length, e]; exact Nat.le_refl _⟩⟩⟩
  obtain ⟨x, hx, rx⟩ := r.get hd
  refine ⟨⟨xs, x, .of (f2 _ _ (f1 _ _ h)), hx⟩, fun y H2 ⟨e1, e2⟩ => ?_⟩
  subst e1
  have := e2 xs (.of (f2 _ _ (f1 _ _ h)))
  rw [hx] at this; cases this
  exact ⟨F1, .refl f2, rx.mono f1⟩
theorem walkS_tup {F : Hp} {a : Addr} {xs : List V} {ds : List D} (h : SqT K F a xs) (hl : ds.length ≤ SZ) (r : RepL K pd F ds xs) : WalkS K pd (Itt K a) F ds := by
  refine ⟨hl, fun i F1 H1 f1 f2 => ⟨fun d hd => ?_, fun e => ⟨xs, sqT_mono f2 (sqT_mono f1 h), by rw [r.length, e]; exact Nat.le_refl _⟩⟩⟩
  obtain ⟨x, hx, rx⟩ := r.get hd
  refine ⟨⟨xs, x, sqT_mono f2 (sqT_mono f1 h), hx⟩, fun y H2 ⟨e1, e2⟩ => ?_⟩
  subst e1
  have := e2 xs (sqT_mono f2 (sqT_mono f1 h))
  rw [hx] at this; cases this
  exact ⟨F1, .refl f2, rx.mono f1⟩
theorem walkW_own {F H : Hp} {a : Addr} {xs : List V} {ds : List D} (h : H a = some (.lst xs)) (hp : some a ≠ pp pd) (hl : ds.length ≤ SZ) (r : RepL K pd F ds xs) : WalkW K pd (Itl K a) F H ds := by
  refine ⟨hl, fun i F1 H1 x => ⟨fun d hd => ?_, fun e => ⟨xs, .of (x.hh _ _ h hp), by rw [r.length, e]; exact Nat.le_refl _⟩⟩⟩
  obtain ⟨y, hx, rx⟩ := r.get hd
  refine ⟨⟨xs, y, .of (x.hh _ _ h hp), hx⟩, fun z H2 ⟨e1, e2⟩ => ?_⟩
  subst e1
  have := e2 xs (.of (x.hh _ _ h hp))
  rw [hx] at this; cases this
  exact ⟨F1, .refl x.fh, rx.mono x.ff⟩
theorem walkS_range {F : Hp} {lo : Int} {n : Nat} (hn : n ≤ SZ) : WalkS K pd (Itr lo n) F (rangeL lo n) := by
  have hl : (rangeL lo n).length = n := by simp [rangeL]
  refine ⟨by rw [hl]; exact hn, fun i F1 H1 f1 f2 => ⟨fun d hd => ?_, fun e => by rw [hl] at e; exact Nat.le_of_eq e.symm⟩⟩
  have hi : i < n := by have := (List.getElem?_eq_some_iff.mp hd).1; rw [hl] at this; exact this
  refine ⟨hi, fun y H2 ⟨e1, e2⟩ => ?_⟩
  subst e1
  refine ⟨F1, .refl f2, ?_⟩
  have : d = .int (lo + (i : Nat)) := by
    unfold rangeL at hd
    rw [List.getElem?_map, List.getElem?_range hi] at hd
    exact (Option.some.inj hd).symm
  subst this
  simp only [Rep]; exact e2
end
/-- a list or a tuple, as it comes -/
def iSeq (K : PySem.W.Frag) (tl : TE) : TI := fun σ H R => tl σ H fun x H1 => ∃ a, x = .ref a ∧ (((∃ xs, SqL K H1 a xs) ∧ R (Itl K a) H1) ∨ ((∃ xs, SqT K H1 a xs) ∧ R (Itt K a) H1))
theorem pi_seq {X : Cx} {tg l : Expr} {tl : TE} (hl : PE X l tl) : PI X tg l (iSeq X.K tl) := by
  refine ⟨fun pins s σ H R I h => thn (hl.run pins s σ H _ I h) fun v s1 ⟨x, H1, I1, r1, a, e, q⟩ => ?_⟩
  subst e
  cases r1
  have fp : ∀ {b : Addr}, b ∈ [s1.heap.objs.size] → FpOk X pins H1 b := fun {b} hb => by
    have e : b = s1.heap.objs.size := by simpa using hb
    subst e
    exact I1.fpOk (Nat.le_refl _) (I1.hok.fresh (Nat.le_refl _))
  rcases q with ⟨⟨xs, hq⟩, q⟩ | ⟨⟨xs, hq⟩, q⟩
  · obtain ⟨its, rv, p, hz⟩ := I1.list hq
    exact wpAny_pyIter_list p.isList ⟨s1.heap.objs.size, [s1.heap.objs.size], _, _, H1, rfl, I1.kept (t' := s1.toks) fun b o e => Heap.get?_push_of_some _ e, turn_list a _, ⟨_, Heap.get?_push_size _ rfl, rfl, rfl⟩, fun b hb => fp hb, q⟩
  · obtain ⟨its, rv, p, hz⟩ := I1.tuple hq
    exact wpAny_pyIter_tuple (show s1.heap.IsTuple a its.toArray from p) ⟨s1.heap.objs.size, [s1.heap.objs.size], _, _, H1, rfl, I1.kept (t' := s1.toks) fun b o e => Heap.get?_push_of_some _ e, turn_tuple a _, ⟨_, Heap.get?_push_size _ rfl, rfl, rfl⟩, fun b hb => fp hb, q⟩
section
variable {ι : Type} {X : ι → Cx} {P : Program} {w : World} {K : PySem.W.Frag} {mg : Str → Option Value} {base : Heap} {N : List Str} {lv : Nat} {pos : Pos} {tg a b c e : Expr} {es : List Expr} {f fa fb fc : EF} {g : AF}
theorem iSeqE (C : Fam X P w K mg base N lv) (h : CE X K e f) : CI X K tg e (iSq f) := by
  obtain ⟨t, h1, h2⟩ := h
  refine ⟨_, fun i => by have := pi_seq (tg := tg) (h1 i); rw [C.k i] at this; exact this, fun pd F0 H0 F H ρ σ s d s' o e R q => ?_⟩
  obtain ⟨x, s1, e1, e⟩ := Mb_eq e
  obtain ⟨e2, rfl⟩ := Mo_eq e
  refine h2 pd F0 H0 F H ρ σ s x s1 o e1 _ fun v F1 H1 x1 d1 r1 => ?_
  have fh := (o.step x1 d1).fh
  cases x <;> first | (cases e2; done) | skip
  · cases e2
    simp only [Rep] at r1
    obtain ⟨a, xs, rfl, t1, hl, r⟩ := r1
    exact ⟨a, rfl, .inr ⟨⟨xs, sqT_mono fh t1⟩, q _ F1 H1 x1 d1 (walkS_tup t1 hl r)⟩⟩
  · cases e2
    simp only [Rep] at r1
    obtain ⟨a, xs, rfl, t1, hl, r⟩ := r1
    exact ⟨a, rfl, .inl ⟨⟨xs, .of (fh _ _ t1)⟩, q _ F1 H1 x1 d1 (walkS_list t1 hl r)⟩⟩
theorem iSeqB (C : Fam X P w K mg base N lv) (h : CB X K e f) : CIW X K tg e (iSq f) := by
  obtain ⟨t, h1, h2⟩ := h
  refine ⟨_, fun i => by have := pi_seq (tg := tg) (h1 i); rw [C.k i] at this; exact this, fun pd F0 H0 F H ρ σ s d s' o e R q => ?_⟩
  obtain ⟨x, s1, e1, e⟩ := Mb_eq e
  obtain ⟨e2, rfl⟩ := Mo_eq e
  refine h2 pd F0 H0 F H ρ σ s x s1 o e1 _ fun v F1 H1 x1 d1 r1 => ?_
  have fh := (o.step x1 d1).fh
  rcases r1 with r1 | ⟨p, es, xs, h1, h2, h3, h4, h5, h7, h6⟩
  · cases x <;> first | (cases e2; done) | skip
    · cases e2
      simp only [Rep] at r1
      obtain ⟨a, xs, rfl, t1, hl, r⟩ := r1
      exact ⟨a, rfl, .inr ⟨⟨xs, sqT_mono fh t1⟩, q _ F1 H1 x1 d1 (walkS_tup t1 hl r).w⟩⟩
    · cases e2
      simp only [Rep] at r1
      obtain ⟨a, xs, rfl, t1, hl, r⟩ := r1
      exact ⟨a, rfl, .inl ⟨⟨xs, .of (fh _ _ t1)⟩, q _ F1 H1 x1 d1 (walkS_list t1 hl r).w⟩⟩
  · subst h1; subst h2
    cases e2
    exact ⟨p, rfl, .inl ⟨⟨xs, .of h3⟩, q _ F1 H1 x1 d1 (walkW_own h3 h4 h7 h6)⟩⟩
theorem iRng1E (C : Fam X P w K mg base N lv) {p : Pos} (hm : mg "range" = none) (h : CA X K [a] g) (hg : ∀ i, Gl (X i) "range" := by intro _; rfl) (hs : ∀ i, starEach [a] (X i).env = [(false, eval a (X i).env)] := by intro _; rfl) :
    CI X K tg (.Call (.Name "range" p) [a] [] pos) (iRg rng1D g) := by
  obtain ⟨t, h1, h2⟩ := h
  refine ⟨_, fun i => pi_range1 (hg i) (by rw [C.m i]; exact hm) (h1 i) (hs i), fun pd F0 H0 F H ρ σ s d s' o e R q => ?_⟩
  obtain ⟨xs, s1, e1, e⟩ := Mb_eq e
  obtain ⟨e2, rfl⟩ := Mo_eq e
  refine h2 pd F0 H0 F H ρ σ s xs s1 o e1 _ fun vs F1 H1 x1 d1 r1 => ?_
  unfold rng1D at e2
  split at e2
  · rename_i j
    split at e2
    · rename_i hj
      cases e2
      obtain ⟨y, ys, rfl, h3, h4⟩ := r1.cases
      have := h4.cases0; subst this
      simp only [Rep] at h3
      subst h3
      refine ⟨j, rfl, hj.2, ?_, q _ F1 H1 x1 d1 (walkS_range ?_)⟩
      · have := hj.1; omega
      · show j.toNat ≤ 2 ^ 24
        have := hj.1; omega
    · cases e2
  · cases e2
theorem iRng2E (C : Fam X P w K mg base N lv) {p : Pos} (hm : mg "range" = none) (h : CA X K [a, b] g) (hg : ∀ i, Gl (X i) "range" := by intro _; rfl)
    (hs : ∀ i, starEach [a, b] (X i).env = [(false, eval a (X i).env), (false, eval b (X i).env)] := by intro _; rfl) (hs2 : ∀ i, starEach [b] (X i).env = [(false, eval b (X i).env)] := by intro _; rfl) :
    CI X K tg (.Call (.Name "range" p) [a, b] [] pos) (iRg rng2D g) := by
  obtain ⟨t, h1, h2⟩ := h
  refine ⟨_, fun i => pi_range2 (hg i) (by rw [C.m i]; exact hm) (h1 i) (hs i) (hs2 i), fun pd F0 H0 F H ρ σ s d s' o e R q => ?_⟩
  obtain ⟨xs, s1, e1, e⟩ := Mb_eq e
  obtain ⟨e2, rfl⟩ := Mo_eq e
  refine h2 pd F0 H0 F H ρ σ s xs s1 o e1 _ fun vs F1 H1 x1 d1 r1 => ?_
  unfold rng2D at e2
  split at e2
  · rename_i i j
    split at e2
    · rename_i hj
      cases e2
      obtain ⟨y, ys, rfl, h3, h4⟩ := r1.cases
      obtain ⟨z, zs, rfl, h5, h6⟩ := h4.cases
      have := h6.cases0; subst this
      simp only [Rep] at h3 h5
      subst h3; subst h5
      refine ⟨i, j, rfl, ⟨by omega, by omega, by omega, by omega⟩, q _ F1 H1 x1 d1 (walkS_range ?_)⟩
      show (j - i).toNat ≤ 2 ^ 24
      omega
    · cases e2
  · cases e2
end

/-! ### targets -/
abbrev TGt := D → Rho → Option Rho
def gNm (i : Nat) : TGt := fun d ρ => some (ρ.set i (.sh d))
def gTs : List TGt → List D → Rho → Option Rho
  | [], [], ρ => some ρ
  | g :: gs, d :: ds, ρ => match g d ρ with
    | some ρ' => gTs gs ds ρ'
    | none => none
  | _, _, _ => none
def gTp (gs : List TGt) : TGt := fun d ρ => match d with
  | .tup ds => gTs gs ds ρ
  | _ => none
def SemG (K : PySem.W.Frag) (t : TG) (js : List Nat) (g : TGt) : Prop := ∀ (pd : Option PD) (F0 H0 F H : Hp) (ρ ρ' : Rho) (σ : L2.St) (s : DS) (d : D) (v : V), Ok K pd F0 H0 F H ρ σ s → Rep K pd F d v → g d ρ = some ρ' →
  ∀ Q : L2.St → Hp → Prop, (∀ σ', Ok K pd F0 H0 F H ρ' σ' s → (∀ j, j ∉ js → σ'[j]? = σ[j]?) → σ'.length = σ.length → Q σ' H) → t v σ H Q
def SemGs (K : PySem.W.Frag) (t : TGs) (js : List Nat) (g : List TGt) : Prop := ∀ (pd : Option PD) (F0 H0 F H : Hp) (ρ ρ' : Rho) (σ : L2.St) (s : DS) (ds : List D) (vs : List V), Ok K pd F0 H0 F H ρ σ s → RepL K pd F ds vs → gTs g ds ρ = some ρ' →
  ∀ Q : L2.St → Hp → Prop, (∀ σ', Ok K pd F0 H0 F H ρ' σ' s → (∀ j, j ∉ js → σ'[j]? = σ[j]?) → σ'.length = σ.length → Q σ' H) → t vs σ H Q
section
variable {ι : Type}
def CG (X : ι → Cx) (K : PySem.W.Frag) (tg : Expr) (js : List Nat) (g : TGt) : Prop := ∃ t, (∀ i, PG (X i) tg t) ∧ SemG K t js g
def CGs (X : ι → Cx) (K : PySem.W.Frag) (tg : List Expr) (js : List Nat) (n : Nat) (g : List TGt) : Prop := ∃ t, (∀ i, PGs (X i) tg t) ∧ SemGs K t js g ∧ g.length = n
variable {X : ι → Cx} {P : Program} {w : World} {K : PySem.W.Frag} {mg : Str → Option Value} {base : Heap} {N : List Str} {lv : Nat} {pos : Pos}
theorem gName' (C : Fam X P w K mg base N lv) (i : Nat) {x : Str} (hi : N[i]? = some x := by rfl) (hx : ∀ j, Loc (X j).env.scope x := by intro _; first | exact Or.inl rfl | exact Or.inr rfl)
    (hf : ∀ j, (X j).fn x = true ∨ (X j).env.scope.names.lookup x = some .local := by intro _; first | exact Or.inl rfl | exact Or.inr rfl) : CG X K (.Name x pos) [i] (gNm i) := by
  refine ⟨gName i, fun j => pg_name (by rw [C.n j]; exact C.nd) (by rw [C.n j]; exact hi) (hx j) (hf j), fun pd F0 H0 F H ρ ρ' σ s d v o r e Q q => ?_⟩
  cases e
  exact q _ (o.set r) (fun j hj => by
    rw [List.getElem?_set_ne]
    rintro rfl
    exact hj (by simp)) (by simp)
theorem gsNil : CGs X K [] [] 0 [] := by
  refine ⟨_, fun j => pgs_nil, fun pd F0 H0 F H ρ ρ' σ s d v o r e Q q => ?_, rfl⟩
  cases d with
  | nil => cases e; exact ⟨r.cases0, q σ o (fun _ _ => rfl) rfl⟩
  | cons a b => cases e
theorem gsCons {e : Expr} {es : List Expr} {js js' : List Nat} {n : Nat} {g : TGt} {gs : List TGt} (h : CG X K e js g) (h' : CGs X K es js' n gs)
    (hs : ∀ i, (assignEach (e :: es) (X i).env).map (·.2) = assign e (X i).env :: (assignEach es (X i).env).map (·.2) := by intro _; rfl) : CGs X K (e :: es) (js ++ js') (n + 1) (g :: gs) := by
  obtain ⟨t, h1, h2⟩ := h
  obtain ⟨u, u1, u2, u3⟩ := h'
  refine ⟨_, fun i => pgs_cons (h1 i) (u1 i) (hs i), fun pd F0 H0 F H ρ ρ' σ s d v o r e Q q => ?_, by simp [u3]⟩
  cases d with
  | nil => cases e
  | cons a b =>
    obtain ⟨y, ys, rfl, r1, r2⟩ := r.cases
    have e' : (match g a ρ with | some ρ' => gTs gs b ρ' | none => none) = some ρ' := e
    cases hg : g a ρ with
    | none => rw [hg] at e'; cases e'
    | some ρ1 =>
      rw [hg] at e'
      refine ⟨y, ys, rfl, h2 pd F0 H0 F H ρ ρ1 σ s a y o r1 hg _ fun σ1 o1 k1 l1 => ?_⟩
      exact u2 pd F0 H0 F H ρ1 ρ' σ1 s b ys o1 r2 e' Q fun σ2 o2 k2 l2 => q σ2 o2 (fun j hj => by
        rw [List.mem_append] at hj
        rw [k2 j fun z => hj (.inr z), k1 j fun z => hj (.inl z)]) (l2.trans l1)
theorem gTs_len : ∀ {gs : List TGt} {ds : List D} {ρ ρ' : Rho}, gTs gs ds ρ = some ρ' → ds.length = gs.length
  | [], [], _, _, _ => rfl
  | [], _ :: _, _, _, e => by simp [gTs] at e
  | _ :: _, [], _, _, e => by simp [gTs] at e
  | g :: gs, d :: ds, ρ, ρ', e => by
    simp only [gTs] at e
    split at e
    · simp [gTs_len e]
    · cases e
theorem gTup' (C : Fam X P w K mg base N lv) {es : List Expr} {k n : Nat} {js : List Nat} {gs : List TGt} (h : CGs X K es js n gs) (hn : ∀ i, (assignEach es (X i).env).length = n := by intro _; rfl)
    (hst : ∀ i, (assignEach es (X i).env).findIdx? (·.1) = none := by intro _; rfl) : CG X K (.Tuple es k pos) js (gTp gs) := by
  obtain ⟨t, h1, h2, h3⟩ := h
  refine ⟨gTup K n t, fun i => by have := pg_tup (pos := pos) (k := k) (C.c i) (h1 i) (hn i) (hst i); rw [C.k i] at this; exact this, fun pd F0 H0 F H ρ ρ' σ s d v o r e Q q => ?_⟩
  cases d <;> first | (cases e; done) | skip
  rename_i ds
  simp only [Rep] at r
  obtain ⟨a, xs, rfl, t1, _, r⟩ := r
  have e' : gTs gs ds ρ = some ρ' := e
  exact ⟨a, xs, rfl, sqT_mono o.fh t1, by rw [r.length, gTs_len e', h3], h2 pd F0 H0 F H ρ ρ' σ s ds xs o r e' Q q⟩
end

/-! ### comprehensions -/
def wipeR (ρ : Rho) : List Nat → Rho
  | [] => ρ
  | v :: vs => (wipeR ρ vs).set v .un
theorem Ok.wipe {K : PySem.W.Frag} {pd : Option PD} {F0 H0 F H : Hp} {ρ : Rho} {σ : L2.St} {s : DS} (o : Ok K pd F0 H0 F H ρ σ s) : ∀ vs : List Nat, Ok K pd F0 H0 F H (wipeR ρ vs) (L2.wipe σ vs) s
  | [] => o
  | v :: vs => (Ok.wipe o vs).forget
theorem wipe_get (σ : L2.St) : ∀ (vs : List Nat) (j : Nat), (L2.wipe σ vs)[j]? = if j ∈ vs then (if j < σ.length then some none else none) else σ[j]?
  | [], j => by simp [L2.wipe]
  | v :: vs, j => by
    unfold L2.wipe
    by_cases h : v = j
    · subst h
      rw [if_pos (by simp)]
      by_cases hl : v < σ.length
      · rw [if_pos hl, List.getElem?_set_self (by rw [wipe_length]; exact hl)]
      · rw [if_neg hl, List.getElem?_eq_none (by rw [List.length_set, wipe_length]; omega)]
    · rw [List.getElem?_set_ne h, wipe_get σ vs j]
      have : (j ∈ v :: vs) = (j ∈ vs) := by simp [Ne.symm h]
      simp only [this]
theorem wipe_eq {σ σ' : L2.St} {vs js : List Nat} (hs : ∀ j ∈ js, j ∈ vs) (hl : σ'.length = σ.length) (h : ∀ j, j ∉ js → σ'[j]? = (L2.wipe σ vs)[j]?) : L2.wipe σ' vs = L2.wipe σ vs := by
  refine List.ext_getElem? fun j => ?_
  rw [wipe_get, wipe_get]
  by_cases hj : j ∈ vs
  · rw [if_pos hj, if_pos hj, hl]
  · rw [if_neg hj, if_neg hj, h j fun z => hj (hs j z), wipe_get, if_neg hj]
def compM (gg : TGt) (ft : TF) (fe : EF) (ρ : Rho) : List D → M (List D)
  | [] => Mp []
  | x :: xs => match gg x ρ with
    | none => Mf
    | some ρ1 => Mb (ft ρ1) fun b => if b = true then Mb (fe ρ1) fun y => Mb (compM gg ft fe ρ xs) fun ys => Mp (y :: ys) else compM gg ft fe ρ xs
def oComp (fi : AF) (gg : TGt) (ft : TF) (fe : EF) (vs : List Nat) : AF := fun ρ => Mb (fi ρ) fun xs => compM gg ft fe (wipeR ρ vs) xs
def tYes' : TF := fun _ => Mp true
theorem semT_yes {K : PySem.W.Frag} : SemT K tYes tYes' := fun pd F0 H0 F H ρ σ s d s' o e Q q => by
  obtain ⟨rfl, rfl⟩ := Mp_eq e
  exact q F H (.refl o.fh) o.dok
section
variable {K : PySem.W.Frag}
theorem DOk.ne {pd : Option PD} {F H : Hp} {s : DS} {p : Addr} (d : DOk K pd F H s) (n : H p = none) : some p ≠ pp pd := by
  cases pd with
  | none => simp
  | some x =>
    intro e
    obtain ⟨_, _, h, _⟩ := d
    have e' : p = x.p := by simpa using e
    rw [← e', n] at h; cases h
theorem semO_comp {wi : TI} {tg : TG} {tt : TT} {te : TE} {vs js : List Nat} {fi : AF} {gg : TGt} {ft : TF} {fe : EF} (hi : SemIW K wi fi) (hg : SemG K tg js gg) (ht : SemT K tt ft) (he : SemE K te fe) (hj : ∀ j ∈ js, j ∈ vs) :
    SemO K (tLc wi tg tt te vs) (oComp fi gg ft fe vs) := fun pd F0 H0 F H ρ σ s ds s' o e Q q => by
  obtain ⟨items, s1, e1, e⟩ := Mb_eq e
  refine hi pd F0 H0 F H ρ σ s items s1 o e1 _ fun J F1 H1 x1 d1 wk A nA => ?_
  have o1 := o.step x1 d1
  have nF : F1 A = none := o1.fh.free nA
  have nH : H A = none := by
    cases hp : H A with
    | none => rfl
    | some u => exact absurd nA (x1.hd A (by rw [hp]; simp))
  have npd : some A ≠ pp pd := d1.ne nA
  obtain ⟨hsz, wk⟩ := wk
  refine ⟨fun i m Hc => i + m = items.length ∧ ∃ Fc sc accV accD rest, Ext pd F1 H1 Fc Hc ∧ DOk K pd Fc Hc sc ∧ Fc A = none ∧ Hc A = some (.lst accV) ∧ accD.length ≤ i ∧ RepL K pd Fc accD accV ∧
    compM gg ft fe (wipeR ρ vs) (items.drop i) sc = some (rest, s') ∧ ds = accD ++ rest, ⟨items.length, by simp, F1, s1, [], [], ds, (Ext.own o1.fh nA).lift, d1.grow (Ext.own o1.fh nA), nF, upd_same, Nat.le_refl _, .nil, e, rfl⟩, ?_⟩
  rintro i m Hc ⟨him, Fc, sc, accV, accD, rest, xc, dc, nA', hA, hlen, rc, ec, eds⟩
  by_cases hlt : i < items.length
  · have hd : items[i]? = some items[i] := List.getElem?_eq_getElem hlt
    have edrop : items.drop i = items[i] :: items.drop (i + 1) := List.drop_eq_getElem_cons hlt
    rw [edrop] at ec
    unfold compM at ec
    obtain ⟨w1, w2⟩ := (wk i Fc Hc xc).1 _ hd
    refine .inr ⟨w1, fun Hn => i + 1 + (m - 1) = items.length ∧ ∃ Fc sc accV accD rest', Ext pd F1 H1 Fc Hn ∧ DOk K pd Fc Hn sc ∧ Fc A = none ∧ Hn A = some (.lst accV) ∧ accD.length ≤ i + 1 ∧ RepL K pd Fc accD accV ∧
      compM gg ft fe (wipeR ρ vs) (items.drop (i + 1)) sc = some (rest', s') ∧ ds = accD ++ rest', fun Hn hn => ⟨m - 1, by omega, hn⟩, fun x H2 hy => ?_⟩
    obtain ⟨F2, x2, r2⟩ := w2 x H2 hy
    cases hgg : gg items[i] (wipeR ρ vs) with
    | none => rw [hgg] at ec; cases ec
    | some ρ1 =>
      rw [hgg] at ec
      obtain ⟨b, s2, e2, ec⟩ := Mb_eq (show Mb (ft ρ1) _ sc = _ from ec)
      have oc : Ok K pd F0 H0 F2 H2 (wipeR ρ vs) (L2.wipe σ vs) sc := ((o1.step xc dc).step (x2.lift (pd := pd)) (dc.grow x2)).wipe vs
      refine hg pd F0 H0 F2 H2 _ ρ1 _ sc _ x oc r2 hgg _ fun σ2 o2 k2 l2 => ⟨wipe_eq hj (by rw [l2, wipe_length]) k2, ?_⟩
      refine ht pd F0 H0 F2 H2 ρ1 σ2 sc b s2 o2 e2 _ fun F3 H3 x3 d3 => ?_
      have o3 := o2.step x3 d3
      have hA3 : H3 A = some (.lst accV) := x3.hh _ _ (x2.same _ _ hA) npd
      have nA3 : F3 A = none := x3.Fnone (x2.Fnone nA' (by rw [hA]; simp)) (by rw [x2.same _ _ hA]; simp)
      cases b with
      | false =>
        refine iteF ⟨by omega, F3, s2, accV, accD, rest, xc.trans (x2.lift.trans x3), d3, nA3, hA3, by omega, (rc.mono x2.ff).mono x3.ff, ec, eds⟩
      | true =>
        obtain ⟨y, s3, e3, ec⟩ := Mb_eq (show Mb (fe ρ1) _ s2 = _ from ec)
        obtain ⟨ys, s4, e4, ec⟩ := Mb_eq ec
        obtain ⟨rfl, rfl⟩ := Mp_eq ec
        refine iteT (he pd F0 H0 F3 H3 ρ1 σ2 s2 y s3 o3 e3 _ fun v F4 H4 x4 d4 r4 => ?_)
        have hA4 : H4 A = some (.lst accV) := x4.hh _ _ hA3 npd
        have nA4 : F4 A = none := x4.Fnone nA3 (by rw [hA3]; simp)
        have xx := xc.trans (x2.lift.trans (x3.trans x4))
        have rr : RepL K pd F4 accD accV := ((rc.mono x2.ff).mono x3.ff).mono x4.ff
        refine ⟨accV, hA4, ?_, by omega, F4, s3, accV ++ [v], accD ++ [y], ys, ⟨xx.ff, fun b u hb np => ?_, fun b hb => ?_, xx.nw, fun b u hb => ?_⟩, ?_, nA4, upd_same, by simp; omega, rr.append (.cons r4 .nil), e4, by rw [eds]; simp⟩
        · rw [rr.length]
          exact Nat.lt_of_le_of_lt hlen (Nat.lt_of_lt_of_le hlt hsz)
        · have hb' : b ≠ A := by rintro rfl; rw [nA] at hb; cases hb
          rw [upd_ne hb']; exact xx.hh b u hb np
        · by_cases hb' : b = A
          · subst hb'; rw [upd_same]; simp
          · rw [upd_ne hb']; exact xx.hd b hb
        · have hb' : b ≠ A := by rintro rfl; rw [nA4] at hb; cases hb
          rw [upd_ne hb']; exact xx.fh b u hb
        · cases pd with
          | none => trivial
          | some a =>
            obtain ⟨h1, h2, h3, h4⟩ := d4
            refine ⟨h1, h2, ?_, h4⟩
            rw [upd_ne (fun z => npd (by simp [z]))]
            exact h3
  · have ei : i = items.length := by omega
    refine .inl ⟨(wk i Fc Hc xc).2 ei, ?_⟩
    rw [ei, List.drop_length] at ec
    obtain ⟨rfl, rfl⟩ := Mp_eq ec
    rw [List.append_nil] at eds
    subst eds
    exact q A accV Fc Hc (x1.trans xc) dc nH nA' hA (Nat.le_trans hlen (by rw [ei]; exact hsz)) rc
end
end Pu
namespace Pu
open PySem PySem.Spec PyProof.Rows L2

/-! ### comprehensions as expressions -/
section
variable {ι : Type} {X : ι → Cx} {P : Program} {w : World} {K : PySem.W.Frag} {mg : Str → Option Value} {base : Heap} {N : List Str} {lv : Nat} {pos : Pos}
/-- the contexts of a comprehension's block -/
structure BlkI (ι : Type) where
  i : ι
  s : Shared
  H : Hp
  C : Addr
  cl : List (Str × Addr)
  fp : List Addr
abbrev blkF (X : ι → Cx) (scope : Scope) : BlkI ι → Cx := fun b => (X b.i).blk b.s b.H scope (compEnvC scope b.cl b.C (X b.i).env) b.fp
theorem Fam.blk (C : Fam X P w K mg base N lv) (scope : Scope) : Fam (blkF X scope) P w K mg base N lv :=
  ⟨fun b => C.p b.i, fun b => C.w b.i, fun b => C.k b.i, fun b => C.m b.i, fun b => C.b b.i, fun b => C.n b.i, fun b => C.c b.i, C.nd, fun b => C.r b.i⟩
theorem oLc (C : Fam X P w K mg base N lv) {elt tg iter : Expr} {ifs : List Expr} {scope : Scope} {js : List Nat} {fi : AF} {gg : TGt} {ft : TF} {fe : EF} (own : List (Str × Nat)) (hi : CIW X K tg iter fi) (ok : ∀ i, BlkOk N (X i).env.scope scope own)
    (hg : CG (blkF X scope) K tg js gg) (ht : ∃ t, (∀ b, PTs (blkF X scope b) ifs t) ∧ SemT K t ft) (he : CE (blkF X scope) K elt fe) (hj : ∀ j ∈ js, j ∈ own.map (·.2) := by decide) (hs : ∀ i, ∀ x, foldedSetIterable iter (X i).env x = pure x := by intro _ _; rfl) :
    CO X K (.ListComp elt [⟨tg, iter, ifs, 0⟩] scope pos) (oComp fi gg ft fe (own.map (·.2))) := by
  obtain ⟨wi, i1, i2⟩ := hi
  obtain ⟨g, g1, g2⟩ := hg
  obtain ⟨tt, t1, t2⟩ := ht
  obtain ⟨te, e1, e2⟩ := he
  exact ⟨_, fun i => pe_lc (own := own) (C.c i) (by rw [C.n i]; exact C.nd) (i1 i) (by rw [C.n i]; exact ok i) (fun s H Cc cl fp => g1 ⟨i, s, H, Cc, cl, fp⟩) (fun s H Cc cl fp => t1 ⟨i, s, H, Cc, cl, fp⟩) (fun s H Cc cl fp => e1 ⟨i, s, H, Cc, cl, fp⟩) (hs i), semO_comp i2 g2 t2 e2 hj⟩
theorem ctNone {ι : Type} {X : ι → Cx} : ∃ t, (∀ b, PTs (X b) [] t) ∧ SemT K t tYes' := ⟨_, fun _ => pts_nil, semT_yes⟩
theorem ctOne {ι : Type} {X : ι → Cx} {c : Expr} {ft : TF} (h : CT X K c ft) : ∃ t, (∀ b, PTs (X b) [c] t) ∧ SemT K t ft := let ⟨t, h1, h2⟩ := h; ⟨t, fun b => pts_one (h1 b), h2⟩
end

/-! ### statements -/
inductive Res where
  | nx | rt (d : D) | bk | ct
abbrev SF := Rho → M (Res × Rho)
def PostS (K : PySem.W.Frag) (pd : Option PD) (F0 H0 F : Hp) (ρ' : Rho) (s' : DS) : Res → Ends → Prop
  | .nx, E => ∀ σ' F' H', Same F F' → Ok K pd F0 H0 F' H' ρ' σ' s' → E.nx σ' H'
  | .bk, E => ∀ σ' F' H', Same F F' → Ok K pd F0 H0 F' H' ρ' σ' s' → E.bk σ' H'
  | .ct, E => ∀ σ' F' H', Same F F' → Ok K pd F0 H0 F' H' ρ' σ' s' → E.ct σ' H'
  | .rt d, E => ∀ v F' H', Ext pd F0 H0 F' H' → DOk K pd F' H' s' → Rep K pd F' d v → E.rt v H'
def SemS (K : PySem.W.Frag) (t : TS) (g : SF) : Prop := ∀ (pd : Option PD) (F0 H0 F H : Hp) (ρ : Rho) (σ : L2.St) (s : DS) (r : Res) (ρ' : Rho) (s' : DS), Ok K pd F0 H0 F H ρ σ s → g ρ s = some ((r, ρ'), s') →
  ∀ E : Ends, PostS K pd F0 H0 F ρ' s' r E → t E σ H
section
variable {ι : Type}
def CS (X : ι → Cx) (K : PySem.W.Frag) (st : Stmt) (g : SF) : Prop := ∃ t, (∀ i, PS (X i) st t) ∧ SemS K t g
def CSs (X : ι → Cx) (K : PySem.W.Frag) (st : List Stmt) (g : SF) : Prop := ∃ t, (∀ i, PSs (X i) st t) ∧ SemS K t g
end
theorem PostS.from {K : PySem.W.Frag} {pd : Option PD} {F0 H0 F F1 : Hp} {ρ' : Rho} {s' : DS} {r : Res} {E : Ends} (h : Same F F1) (p : PostS K pd F0 H0 F ρ' s' r E) : PostS K pd F0 H0 F1 ρ' s' r E := by
  cases r with
  | nx => exact fun σ' F' H' a b => p σ' F' H' (h.trans a) b
  | bk => exact fun σ' F' H' a b => p σ' F' H' (h.trans a) b
  | ct => exact fun σ' F' H' a b => p σ' F' H' (h.trans a) b
  | rt d => exact p

def sNext : SF := fun ρ => Mp (.nx, ρ)
def sFail : SF := fun _ => Mf
def sBreak : SF := fun ρ => Mp (.bk, ρ)
def sCont : SF := fun ρ => Mp (.ct, ρ)
def sSeq (a b : SF) : SF := fun ρ => Mb (a ρ) fun r => match r with
  | (.nx, ρ') => b ρ'
  | r => Mp r
def sSet (i : Nat) (f : EF) : SF := fun ρ => Mb (f ρ) fun d => Mp (.nx, ρ.set i (.sh d))
def sOwn (i : Nat) (f : AF) : SF := fun ρ => Mb (f ρ) fun ds => Mp (.nx, ρ.set i (.ow ds))
def sDrop (f : EF) : SF := fun ρ => Mb (f ρ) fun _ => Mp (.nx, ρ)
def sRet (f : EF) : SF := fun ρ => Mb (f ρ) fun d => Mp (.rt d, ρ)
def sRetN : SF := fun ρ => Mp (.rt .non, ρ)
def onOw {α : Type} (o : Option Slot) (k : List D → M α) : M α := match o with
  | some (.ow ds) => k ds
  | _ => Mf
def onSh {α : Type} (o : Option Slot) (k : D → M α) : M α := match o with
  | some (.sh d) => k d
  | _ => Mf
def onInt {α : Type} (d : D) (k : Int → M α) : M α := match d with
  | .int i => k i
  | _ => Mf
def onLst {α : Type} (d : D) (k : List D → M α) : M α := match d with
  | .lst i => k i
  | _ => Mf
def onSome {α β : Type} (o : Option β) (k : β → M α) : M α := match o with
  | some x => k x
  | none => Mf
section
variable {α β : Type}
@[simp] theorem onOw_ow (ds : List D) (k : List D → M α) : onOw (some (.ow ds)) k = k ds := rfl
@[simp] theorem onSh_sh (d : D) (k : D → M α) : onSh (some (.sh d)) k = k d := rfl
@[simp] theorem onInt_int (d : Int) (k : Int → M α) : onInt (.int d) k = k d := rfl
@[simp] theorem onLst_lst (d : List D) (k : List D → M α) : onLst (.lst d) k = k d := rfl
@[simp] theorem onSome_some (d : β) (k : β → M α) : onSome (some d) k = k d := rfl
@[simp] theorem onSome_none (k : β → M α) : onSome none k = Mf := rfl
theorem onOw_eq {o : Option Slot} {k : List D → M α} {s s' : DS} {a : α} (e : onOw o k s = some (a, s')) : ∃ ds, o = some (.ow ds) ∧ k ds s = some (a, s') := by
  cases o with
  | none => cases e
  | some x => cases x <;> first | (cases e; done) | exact ⟨_, rfl, e⟩
theorem onSh_eq {o : Option Slot} {k : D → M α} {s s' : DS} {a : α} (e : onSh o k s = some (a, s')) : ∃ d, o = some (.sh d) ∧ k d s = some (a, s') := by
  cases o with
  | none => cases e
  | some x => cases x <;> first | (cases e; done) | exact ⟨_, rfl, e⟩
theorem onInt_eq {d : D} {k : Int → M α} {s s' : DS} {a : α} (e : onInt d k s = some (a, s')) : ∃ i, d = .int i ∧ k i s = some (a, s') := by
  cases d <;> first | (cases e; done) | exact ⟨_, rfl, e⟩
theorem onLst_eq {d : D} {k : List D → M α} {s s' : DS} {a : α} (e : onLst d k s = some (a, s')) : ∃ i, d = .lst i ∧ k i s = some (a, s') := by
  cases d <;> first | (cases e; done) | exact ⟨_, rfl, e⟩
theorem onSome_eq {d : Option β} {k : β → M α} {s s' : DS} {a : α} (e : onSome d k s = some (a, s')) : ∃ i, d = some i ∧ k i s = some (a, s') := by
  cases d <;> first | (cases e; done) | exact ⟨_, rfl, e⟩
end
def sTo (g : TGt) (f : EF) : SF := fun ρ => Mb (f ρ) fun d => onSome (g d ρ) fun ρ' => Mp (.nx, ρ')
def sRetOw (i : Nat) : SF := fun ρ => onOw ρ[i]? fun ds => Mp (.rt (.lst ds), ρ)
def sMove (i j : Nat) : SF := fun ρ => onOw ρ[i]? fun ds => Mp (.nx, (ρ.set i (.sh (.lst ds))).set j (.sh (.lst ds)))
def sIf (t : TF) (a b : SF) : SF := fun ρ => Mb (t ρ) fun k => if k = true then a ρ else b ρ
def sAug (i : Nat) (g : D → D → Option D) (f : EF) : SF := fun ρ => onSh ρ[i]? fun x => Mb (f ρ) fun y => Mb (Mo (g x y)) fun z => Mp (.nx, ρ.set i (.sh z))
/-- an own list changed by a method -/
def sMeth (i : Nat) (u : List D → D → Option (List D)) (f : EF) : SF := fun ρ => Mb (f ρ) fun d => onOw ρ[i]? fun ds => onSome (u ds d) fun es => Mp (.nx, ρ.set i (.ow es))
def appU (ds : List D) (d : D) : Option (List D) := if ds.length < SZ then some (ds ++ [d]) else none
def extU (ds : List D) (d : D) : Option (List D) := match d with
  | .lst es => if ds.length + es.length ≤ SZ then some (ds ++ es) else none
  | _ => none
def sPut (i : Nat) (fk f : EF) : SF := fun ρ => Mb (f ρ) fun d => Mb (fk ρ) fun k => onOw ρ[i]? fun ds => onInt k fun k => onSome (ixN ds.length k) fun j => Mp (.nx, ρ.set i (.ow (ds.set j d)))
def sAugIx (i : Nat) (g : D → D → Option D) (fk f : EF) : SF := fun ρ => Mb (fk ρ) fun k => onOw ρ[i]? fun ds => onInt k fun k => onSome (ixN ds.length k) fun j => onSome ds[j]? fun x =>
  Mb (f ρ) fun y => Mb (Mo (g x y)) fun z => Mp (.nx, ρ.set i (.ow (ds.set j z)))
def loopM (g : TGt) (body : SF) : List D → SF
  | [], ρ => Mp (.nx, ρ)
  | x :: xs, ρ => match g x ρ with
    | none => Mf
    | some ρ1 => Mb (body ρ1) fun r => match r with
      | (.nx, ρ2) => loopM g body xs ρ2
      | (.ct, ρ2) => loopM g body xs ρ2
      | (.bk, ρ2) => Mp (.nx, ρ2)
      | (.rt d, ρ2) => Mp (.rt d, ρ2)
def sFor (fi : AF) (g : TGt) (body : SF) : SF := fun ρ => Mb (fi ρ) fun xs => loopM g body xs ρ
def whileM (t : TF) (body : SF) : Nat → SF
  | 0, _ => Mf
  | n + 1, ρ => Mb (t ρ) fun k => if k = true then Mb (body ρ) fun r => match r with
      | (.nx, ρ2) => whileM t body n ρ2
      | (.ct, ρ2) => whileM t body n ρ2
      | (.bk, ρ2) => Mp (.nx, ρ2)
      | (.rt d, ρ2) => Mp (.rt d, ρ2)
    else Mp (.nx, ρ)
/-- how many turns a while may take -/
def FUEL : Nat := 2 ^ 40
def sWhile (t : TF) (body : SF) : SF := whileM t body FUEL

section
variable {K : PySem.W.Frag} {pd : Option PD} {F0 H0 F H F' H' : Hp} {ρ : Rho} {σ : L2.St} {s s' : DS}
/-- an owned list gets a new content -/
theorem Ok.upd {i : Nat} {es es' : List D} {p : Addr} {ys : List V} (o : Ok K pd F0 H0 F H ρ σ s) (h : ρ[i]? = some (.ow es)) (hp : σ[i]? = some (some (.ref p))) (hl : es'.length ≤ SZ) (r : RepL K pd F es' ys) :
    Ok K pd F0 H0 F (L2.upd H p (.lst ys)) (ρ.set i (.ow es')) σ s := by
  obtain ⟨q, h1, p', xs, rfl, h2, h3, h4, h5, h6, h7⟩ := o.env.at' i _ h
  rw [hp] at h1; cases h1
  refine ⟨⟨o.ext.ff, fun a u e n => ?_, fun a e => ?_, o.ext.nw, fun a u e => ?_⟩, ⟨by simp [o.env.len], fun j sl e => ?_, fun j k as bs q hjk e1 e2 e3 => ?_⟩, ?_⟩
  · have : a ≠ p := by rintro rfl; rw [h3] at e; cases e
    rw [upd_ne this]; exact o.ext.hh a u e n
  · by_cases ha : a = p
    · subst ha; rw [upd_same]; simp
    · rw [upd_ne ha]; exact o.ext.hd a e
  · have : a ≠ p := by rintro rfl; rw [h2] at e; cases e
    rw [upd_ne this]; exact o.ext.fh a u e
  · by_cases hj : i = j
    · subst hj
      have hl' : i < ρ.length := by have := (List.getElem?_eq_some_iff.mp e).1; simpa using this
      rw [List.getElem?_set_self hl'] at e
      cases e
      exact ⟨_, hp, p, ys, rfl, h2, h3, h4, upd_same, hl, r⟩
    · rw [List.getElem?_set_ne hj] at e
      obtain ⟨q, e1, e2⟩ := o.env.at' j sl e
      refine ⟨q, e1, ?_⟩
      cases sl with
      | un => trivial
      | sh d => exact e2
      | ow fs =>
        obtain ⟨p', xs', rfl, a2, a3, a4, a5, a6, a7⟩ := e2
        have : p' ≠ p := by
          rintro rfl
          exact o.env.ap i j es fs p' hj h e hp e1
        exact ⟨p', xs', rfl, a2, a3, a4, by rw [upd_ne this]; exact a5, a6, a7⟩
  · by_cases hj : i = j
    · subst hj
      have hk : i ≠ k := hjk
      rw [List.getElem?_set_ne hk] at e2
      exact o.env.ap i k es bs q hk h e2 e3
    · rw [List.getElem?_set_ne hj] at e1
      by_cases hk : i = k
      · subst hk
        exact o.env.ap j i as es q hjk e1 h e3
      · rw [List.getElem?_set_ne hk] at e2
        exact o.env.ap j k as bs q hjk e1 e2 e3
  · have d := o.dok
    cases pd with
    | none => trivial
    | some x =>
      obtain ⟨d1, d2, d3, d4⟩ := d
      refine ⟨d1, d2, ?_, d4⟩
      rw [upd_ne (fun z => h4 (by simp [z]))]
      exact d3
/-- an owned list becomes known to all -/
theorem Ok.freeze {i : Nat} {es : List D} (o : Ok K pd F0 H0 F H ρ σ s) (h : ρ[i]? = some (.ow es)) : ∃ p F', σ[i]? = some (some (.ref p)) ∧ Same F F' ∧ Ok K pd F0 H0 F' H (ρ.set i (.sh (.lst es))) σ s ∧ Rep K pd F' (.lst es) (.ref p) := by
  obtain ⟨q, h1, p, xs, rfl, h2, h3, h4, h5, h6, h7⟩ := o.env.at' i _ h
  have f1 : Same F (L2.upd F p (.lst xs)) := same_upd h2
  have rr : Rep K pd (L2.upd F p (.lst xs)) (.lst es) (.ref p) := by
    simp only [Rep]
    exact ⟨p, xs, rfl, upd_same, h6, h7.mono f1⟩
  refine ⟨p, _, h1, f1, ⟨⟨o.ext.ff.trans f1, o.ext.hh, o.ext.hd, fun a u e => ?_, fun a u e => ?_⟩, ⟨by simp [o.env.len], fun j sl e => ?_, fun j k as bs q hjk e1 e2 e3 => ?_⟩, ?_⟩, rr⟩
  · by_cases ha : a = p
    · subst ha; exact .inr h3
    · rw [upd_ne ha] at e; exact o.ext.nw a u e
  · by_cases ha : a = p
    · subst ha; rw [upd_same] at e; cases e; exact h5
    · rw [upd_ne ha] at e; exact o.ext.fh a u e
  · by_cases hj : i = j
    · subst hj
      have hl' : i < ρ.length := by have := (List.getElem?_eq_some_iff.mp e).1; simpa using this
      rw [List.getElem?_set_self hl'] at e
      cases e
      exact ⟨_, h1, _, rfl, rr⟩
    · rw [List.getElem?_set_ne hj] at e
      obtain ⟨q, e1, e2⟩ := o.env.at' j sl e
      refine ⟨q, e1, ?_⟩
      cases sl with
      | un => trivial
      | sh d => obtain ⟨x, a1, a2⟩ := e2; exact ⟨x, a1, a2.mono f1⟩
      | ow fs =>
        obtain ⟨p', xs', rfl, a2, a3, a4, a5, a6, a7⟩ := e2
        have : p' ≠ p := by
          rintro rfl
          exact o.env.ap i j es fs p' hj h e h1 e1
        exact ⟨p', xs', rfl, by rw [upd_ne this]; exact a2, a3, a4, a5, a6, a7.mono f1⟩
  · have a1 : i ≠ j := by
      rintro rfl
      have hl' : i < ρ.length := by have := (List.getElem?_eq_some_iff.mp e1).1; simpa using this
      rw [List.getElem?_set_self hl'] at e1; cases e1
    have a2 : i ≠ k := by
      rintro rfl
      have hl' : i < ρ.length := by have := (List.getElem?_eq_some_iff.mp e2).1; simpa using this
      rw [List.getElem?_set_self hl'] at e2; cases e2
    rw [List.getElem?_set_ne a1] at e1
    rw [List.getElem?_set_ne a2] at e2
    exact o.env.ap j k as bs q hjk e1 e2 e3
  · have d := o.dok
    cases pd with
    | none => trivial
    | some x =>
      obtain ⟨d1, d2, d3, d4⟩ := d
      refine ⟨?_, d2, d3, f1 _ _ d4⟩
      rw [upd_ne (fun z => h4 (by simp [z]))]
      exact d1
end

section
variable {ι : Type} {X : ι → Cx} {P : Program} {w : World} {K : PySem.W.Frag} {mg : Str → Option Value} {base : Heap} {N : List Str} {lv : Nat} {pos : Pos} {st : Stmt} {rest : List Stmt} {e : Expr} {f fk : EF} {g g' : SF}
theorem ssNil : CSs X K [] sNext := ⟨_, fun _ => pss_nil, fun pd F0 H0 F H ρ σ s r ρ' s' o e E q => by cases Mp_eq e with | intro a b => cases a; cases b; exact q σ F H (Same.refl _) o⟩
theorem ssCons (h : CS X K st g) (h' : CSs X K rest g') : CSs X K (st :: rest) (sSeq g g') := by
  obtain ⟨t, h1, h2⟩ := h
  obtain ⟨u, u1, u2⟩ := h'
  refine ⟨_, fun i => pss_cons (h1 i) (u1 i), fun pd F0 H0 F H ρ σ s r ρ' s' o e E q => ?_⟩
  obtain ⟨⟨r1, ρ1⟩, s1, e1, e2⟩ := Mb_eq e
  refine h2 pd F0 H0 F H ρ σ s r1 ρ1 s1 o e1 _ ?_
  cases r1 with
  | nx => exact fun σ' F' H' a b => u2 pd F0 H0 F' H' ρ1 σ' s1 r ρ' s' b e2 E (q.from a)
  | bk => obtain ⟨a, rfl⟩ := Mp_eq e2; cases a; exact q
  | ct => obtain ⟨a, rfl⟩ := Mp_eq e2; cases a; exact q
  | rt d => obtain ⟨a, rfl⟩ := Mp_eq e2; cases a; exact q
theorem ssOne (h : CS X K st g) : CSs X K [st] g := by
  obtain ⟨t, h1, h2⟩ := h
  exact ⟨_, fun i => pss_one (h1 i), h2⟩
theorem cPass : CS X K (.Pass pos) sNext := ⟨_, fun _ => ps_pass, fun pd F0 H0 F H ρ σ s r ρ' s' o e E q => by cases Mp_eq e with | intro a b => cases a; cases b; exact q σ F H (Same.refl _) o⟩
theorem cBreak : CS X K (.Break pos) sBreak := ⟨_, fun _ => ps_break, fun pd F0 H0 F H ρ σ s r ρ' s' o e E q => by cases Mp_eq e with | intro a b => cases a; cases b; exact q σ F H (Same.refl _) o⟩
theorem cCont : CS X K (.Continue pos) sCont := ⟨_, fun _ => ps_continue, fun pd F0 H0 F H ρ σ s r ρ' s' o e E q => by cases Mp_eq e with | intro a b => cases a; cases b; exact q σ F H (Same.refl _) o⟩
theorem cNever : CS X K st sFail := ⟨_, fun _ => ps_never, fun pd F0 H0 F H ρ σ s r ρ' s' o e E q => (Mf_eq e).elim⟩
theorem cRet (h : CE X K e f) : CS X K (.Return (some e) pos) (sRet f) := by
  obtain ⟨t, h1, h2⟩ := h
  refine ⟨_, fun i => ps_ret (h1 i), fun pd F0 H0 F H ρ σ s r ρ' s' o e E q => ?_⟩
  obtain ⟨d, s1, e1, e2⟩ := Mb_eq e
  obtain ⟨a, rfl⟩ := Mp_eq e2
  cases a
  exact h2 pd F0 H0 F H _ σ s d _ o e1 _ fun v F' H' x d' r => q v F' H' (o.ext.trans x) d' r
theorem cRetN : CS X K (.Return none pos) sRetN := ⟨_, fun _ => ps_retN, fun pd F0 H0 F H ρ σ s r ρ' s' o e E q => by
  obtain ⟨a, rfl⟩ := Mp_eq e
  cases a
  exact q _ F H o.ext o.dok (by simp [Rep])⟩
theorem cRetOw (C : Fam X P w K mg base N lv) (i : Nat) {x : Str} {p2 : Pos} (hN : N[i]? = some x := by rfl) (hv : ∀ j, Vis (X j).env.scope x := by intro _; first | exact Or.inl rfl | exact Or.inr (Or.inl rfl) | exact Or.inr (Or.inr rfl))
    (hd : (x == ("__debug__" : Str)) = false := by decide) (hcd : (x == ("__classdict__" : Str)) = false := by decide) : CS X K (.Return (some (.Name x p2)) pos) (sRetOw i) := by
  refine ⟨_, fun j => ps_ret (pe_var (by rw [C.n j]; exact hN) (hv j) hd hcd), fun pd F0 H0 F H ρ σ s r ρ' s' o e E q => ?_⟩
  obtain ⟨ds, h, e⟩ := onOw_eq e
  obtain ⟨a, rfl⟩ := Mp_eq e
  cases a
  obtain ⟨p, F', h1, f1, o', rr⟩ := o.freeze h
  exact ⟨_, h1, q _ F' H o'.ext o'.dok rr⟩
theorem cExpr (h : CE X K e f) (hs : ∀ i, swapsWith e none pos.line (X i).env = pure false := by intro _; rfl) : CS X K (.Expr e pos) (sDrop f) := by
  obtain ⟨t, h1, h2⟩ := h
  refine ⟨_, fun i => ps_expr (h1 i) (hs i), fun pd F0 H0 F H ρ σ s r ρ' s' o e E q => ?_⟩
  obtain ⟨d, s1, e1, e2⟩ := Mb_eq e
  obtain ⟨a, rfl⟩ := Mp_eq e2
  cases a
  exact h2 pd F0 H0 F H _ σ s d _ o e1 _ fun v F' H' x d' r => q σ F' H' x.ff (o.step x d')
theorem cIfS {c : Expr} {a b : List Stmt} {ft : TF} (hc : CT X K c ft) (ha : CSs X K a g) (hb : CSs X K b g') : CS X K (.If c a b pos) (sIf ft g g') := by
  obtain ⟨t, h1, h2⟩ := hc
  obtain ⟨ta, a1, a2⟩ := ha
  obtain ⟨tb, b1, b2⟩ := hb
  refine ⟨_, fun i => ps_if (h1 i) (a1 i) (b1 i), fun pd F0 H0 F H ρ σ s r ρ' s' o e E q => ?_⟩
  obtain ⟨k, s1, e1, e2⟩ := Mb_eq e
  refine h2 pd F0 H0 F H ρ σ s k s1 o e1 _ fun F1 H1 x1 d1 => ?_
  cases k with
  | true => exact iteT (a2 pd F0 H0 F1 H1 ρ σ s1 r ρ' s' (o.step x1 d1) e2 E (q.from x1.ff))
  | false => exact iteF (b2 pd F0 H0 F1 H1 ρ σ s1 r ρ' s' (o.step x1 d1) e2 E (q.from x1.ff))
theorem cSet (C : Fam X P w K mg base N lv) (i : Nat) {x : Str} {p2 : Pos} (h : CE X K e f) (hi : N[i]? = some x := by rfl) (hx : ∀ j, Loc (X j).env.scope x := by intro _; first | exact Or.inl rfl | exact Or.inr rfl)
    (hs : ∀ j, swapsWith e (some (.Name x p2)) pos.line (X j).env = pure false := by intro _; rfl) (hf : ∀ j, (X j).fn x = true ∨ (X j).env.scope.names.lookup x = some .local := by intro _; first | exact Or.inl rfl | exact Or.inr rfl) :
    CS X K (.Assign [.Name x p2] e pos) (sSet i f) := by
  obtain ⟨t, h1, h2⟩ := h
  refine ⟨_, fun j => ps_set (by rw [C.n j]; exact C.nd) (by rw [C.n j]; exact hi) (hx j) (h1 j) (hs j) (hf j), fun pd F0 H0 F H ρ σ s r ρ' s' o e E q => ?_⟩
  obtain ⟨d, s1, e1, e2⟩ := Mb_eq e
  obtain ⟨a, rfl⟩ := Mp_eq e2
  cases a
  exact h2 pd F0 H0 F H _ σ s d _ o e1 _ fun v F' H' x d' r => q _ F' H' x.ff ((o.step x d').set r)
theorem semS_own {i : Nat} {te : TE} {fo : AF} (h2 : SemO K te fo) : SemS K (tAsg te (gName i)) (sOwn i fo) := fun pd F0 H0 F H ρ σ s r ρ' s' o e E q => by
  obtain ⟨d, s1, e1, e2⟩ := Mb_eq e
  obtain ⟨a, rfl⟩ := Mp_eq e2
  cases a
  refine h2 pd F0 H0 F H _ σ s d _ o e1 _ fun p xs F' H' x d' n1 n2 l z r => q _ F' H' x.ff ?_
  have o' := o.step x d'
  have n0 : H0 p = none := by
    cases hp : H0 p with
    | none => rfl
    | some u => exact absurd n1 (o.ext.hd p (by rw [hp]; simp))
  refine o'.setOw n2 n0 (o.dok.ne n1) l z r fun j fs hj e1 e2 => ?_
  obtain ⟨q, a1, p', xs', rfl, a2, a3, a4, a5, _⟩ := o.env.at' j _ e1
  rw [a1] at e2
  cases e2
  rw [n1] at a5; cases a5
theorem cOwn (C : Fam X P w K mg base N lv) (i : Nat) {x : Str} {p2 : Pos} {fo : AF} (h : CO X K e fo) (hi : N[i]? = some x := by rfl) (hx : ∀ j, Loc (X j).env.scope x := by intro _; first | exact Or.inl rfl | exact Or.inr rfl)
    (hs : ∀ j, swapsWith e (some (.Name x p2)) pos.line (X j).env = pure false := by intro _; rfl) (hf : ∀ j, (X j).fn x = true ∨ (X j).env.scope.names.lookup x = some .local := by intro _; first | exact Or.inl rfl | exact Or.inr rfl) :
    CS X K (.Assign [.Name x p2] e pos) (sOwn i fo) := by
  obtain ⟨t, h1, h2⟩ := h
  exact ⟨_, fun j => ps_set (by rw [C.n j]; exact C.nd) (by rw [C.n j]; exact hi) (hx j) (h1 j) (hs j) (hf j), semS_own h2⟩
theorem cTo {tg : Expr} {js : List Nat} {gg : TGt} (h : CE X K e f) (hg : CG X K tg js gg) (hs : ∀ j, swapsWithSole [tg] e pos.line (X j).env = pure false := by intro _; rfl) (hw : ∀ j, swappedStores [tg] e (X j).env = pure none := by intro _; rfl)
    (h1 : ∀ j, (assignEach [tg] (X j).env).map (·.2) = [assign tg (X j).env] := by intro _; rfl) : CS X K (.Assign [tg] e pos) (sTo gg f) := by
  obtain ⟨t, e1, e2⟩ := h
  obtain ⟨tg', g1, g2⟩ := hg
  refine ⟨_, fun j => ps_asg (e1 j) (g1 j) (hs j) (hw j) (h1 j), fun pd F0 H0 F H ρ σ s r ρ' s' o e E q => ?_⟩
  obtain ⟨d, s1, a1, a2⟩ := Mb_eq e
  obtain ⟨ρ1, hρ, a2⟩ := onSome_eq a2
  obtain ⟨a, rfl⟩ := Mp_eq a2
  cases a
  refine e2 pd F0 H0 F H _ σ s d _ o a1 _ fun v F' H' x d' r => ?_
  exact g2 pd F0 H0 F' H' _ _ σ _ d v (o.step x d') r hρ _ fun σ' o' _ _ => q σ' F' H' x.ff o'
theorem cMove (C : Fam X P w K mg base N lv) (i j : Nat) {x y : Str} {p2 p3 : Pos} (hN : N[i]? = some x := by rfl) (hv : ∀ k, Vis (X k).env.scope x := by intro _; first | exact Or.inl rfl | exact Or.inr (Or.inl rfl) | exact Or.inr (Or.inr rfl))
    (hi : N[j]? = some y := by rfl) (hx : ∀ k, Loc (X k).env.scope y := by intro _; first | exact Or.inl rfl | exact Or.inr rfl)
    (hd : (x == ("__debug__" : Str)) = false := by decide) (hcd : (x == ("__classdict__" : Str)) = false := by decide)
    (hs : ∀ k, swapsWith (.Name x p3) (some (.Name y p2)) pos.line (X k).env = pure false := by intro _; rfl) (hf : ∀ k, (X k).fn y = true ∨ (X k).env.scope.names.lookup y = some .local := by intro _; first | exact Or.inl rfl | exact Or.inr rfl) :
    CS X K (.Assign [.Name y p2] (.Name x p3) pos) (sMove i j) := by
  refine ⟨_, fun k => ps_set (by rw [C.n k]; exact C.nd) (by rw [C.n k]; exact hi) (hx k) (pe_var (by rw [C.n k]; exact hN) (hv k) hd hcd) (hs k) (hf k), fun pd F0 H0 F H ρ σ s r ρ' s' o e E q => ?_⟩
  obtain ⟨ds, h, e⟩ := onOw_eq e
  obtain ⟨a, rfl⟩ := Mp_eq e
  cases a
  obtain ⟨p, F', h1, f1, o', rr⟩ := o.freeze h
  exact ⟨_, h1, q _ F' H f1 (o'.set rr)⟩
theorem cAug (C : Fam X P w K mg base N lv) (i : Nat) {x : Str} {p2 : Pos} {op : Operator} {r : R2} {gg : D → D → Option D} (ho : ∀ j, OpR (X j) (inplaceOp op) r) (hv : V2 K r gg) (h : CE X K e f) (hi : N[i]? = some x := by rfl)
    (hx : ∀ j, Loc (X j).env.scope x := by intro _; first | exact Or.inl rfl | exact Or.inr rfl) (hf : ∀ j, (X j).fn x = true ∨ (X j).env.scope.names.lookup x = some .local := by intro _; first | exact Or.inl rfl | exact Or.inr rfl) :
    CS X K (.AugAssign (.Name x p2) op e pos) (sAug i gg f) := by
  obtain ⟨t, h1, h2⟩ := h
  refine ⟨_, fun j => ps_aug (by rw [C.n j]; exact C.nd) (by rw [C.n j]; exact hi) (hx j) (h1 j) (ho j) (hf j), fun pd F0 H0 F H ρ σ s r ρ' s' o e E q => ?_⟩
  obtain ⟨xd, hxd, e⟩ := onSh_eq e
  obtain ⟨y, s1, e1, e⟩ := Mb_eq e
  obtain ⟨z, s2, e0, e⟩ := Mb_eq e
  obtain ⟨e2, rfl⟩ := Mo_eq e0
  obtain ⟨a, rfl⟩ := Mp_eq e
  cases a
  obtain ⟨xv, a1, a2⟩ := o.sh hxd
  refine ⟨xv, a1, h2 pd F0 H0 F H _ σ s y _ o e1 _ fun v F1 H1 x1 d1 r1 => ?_⟩
  have o1 := o.step x1 d1
  exact hv pd F1 H1 xd y z xv v o1.fh (.inl (a2.mono x1.ff)) (.inl r1) e2 _ fun u F2 H2 x2 r2 => q _ F2 H2 (x1.ff.trans x2.ff) ((o1.step x2.lift (d1.grow x2)).set r2)
theorem semS_never : SemS K tNever sFail := fun pd F0 H0 F H ρ σ s r ρ' s' o e E q => (Mf_eq e).elim
/-! loops -/
theorem semS_for {wi : TI} {tg : TG} {tb : TS} {fi : AF} {gg : TGt} {js : List Nat} {body : SF} (hi : SemI K wi fi) (hg : SemG K tg js gg) (hb : SemS K tb body) : SemS K (tFor wi tg tb) (sFor fi gg body) := fun pd F0 H0 F H ρ σ s r ρ' s' o e E q => by
  obtain ⟨items, s1, e1, e⟩ := Mb_eq e
  refine hi pd F0 H0 F H ρ σ s items s1 o e1 _ fun J F1 H1 x1 d1 wk => ?_
  obtain ⟨hsz, wk⟩ := wk
  have q1 := q.from x1.ff
  refine ⟨fun i m σc Hc => i + m = items.length ∧ ∃ Fc ρc sc, Same F1 Fc ∧ Ok K pd F0 H0 Fc Hc ρc σc sc ∧ loopM gg body (items.drop i) ρc sc = some ((r, ρ'), s'), ⟨items.length, by simp, F1, ρ, s1, Same.refl _, o.step x1 d1, e⟩, ?_⟩
  rintro i m σc Hc ⟨him, Fc, ρc, sc, fc, oc, ec⟩
  by_cases hlt : i < items.length
  · have hd : items[i]? = some items[i] := List.getElem?_eq_getElem hlt
    rw [List.drop_eq_getElem_cons hlt] at ec
    unfold loopM at ec
    obtain ⟨w1, w2⟩ := (wk i Fc Hc fc oc.fh).1 _ hd
    refine .inr ⟨w1, ?_⟩
    cases hgg : gg items[i] ρc with
    | none => rw [hgg] at ec; exact (Mf_eq ec).elim
    | some ρ1 =>
      rw [hgg] at ec
      obtain ⟨⟨r1, ρ2⟩, s2, e2, ec⟩ := Mb_eq ec
      refine ⟨fun σn Hn => (r1 = .nx ∨ r1 = .ct) ∧ i + 1 + (m - 1) = items.length ∧ ∃ Fn, Same F1 Fn ∧ Ok K pd F0 H0 Fn Hn ρ2 σn s2, fun σn Hn ⟨h1, h2, Fn, h3, h4⟩ => ⟨m - 1, by omega, h2, Fn, ρ2, s2, h3, h4, ?_⟩, fun x H2 hy => ?_⟩
      · rcases h1 with rfl | rfl <;> exact ec
      · obtain ⟨F2, x2, r2⟩ := w2 x H2 hy
        have o2 := oc.step (x2.lift (pd := pd)) (oc.dok.grow x2)
        refine hg pd F0 H0 F2 H2 ρc ρ1 σc sc _ x o2 r2 hgg _ fun σ3 o3 _ _ => ?_
        refine hb pd F0 H0 F2 H2 ρ1 σ3 sc r1 ρ2 s2 o3 e2 _ ?_
        cases r1 with
        | nx => exact fun σn Fn Hn a b => ⟨.inl rfl, by omega, Fn, fc.trans (x2.ff.trans a), b⟩
        | ct => exact fun σn Fn Hn a b => ⟨.inr rfl, by omega, Fn, fc.trans (x2.ff.trans a), b⟩
        | bk => obtain ⟨a, rfl⟩ := Mp_eq ec; cases a; exact fun σn Fn Hn a b => q1 σn Fn Hn (fc.trans (x2.ff.trans a)) b
        | rt d => obtain ⟨a, rfl⟩ := Mp_eq ec; cases a; exact q1
  · have ei : i = items.length := by omega
    refine .inl ⟨(wk i Fc Hc fc oc.fh).2 ei, ?_⟩
    rw [ei, List.drop_length] at ec
    obtain ⟨a, rfl⟩ := Mp_eq ec
    cases a
    exact q1 σc Fc Hc fc oc
theorem cFor (C : Fam X P w K mg base N lv) {tg iter : Expr} {body : List Stmt} {fi : AF} {gg : TGt} {js : List Nat} (hp : ∀ i, PassesOwn (model (X i).prog (X i).w) (X i).A (X i).env (X i).xe) (hi : CI X K tg iter fi) (hg : CG X K tg js gg) (hb : CSs X K body g)
    (hs : ∀ i, ∀ x, foldedSetIterable iter (X i).env x = pure x := by intro _ _; rfl) : CS X K (.For tg iter body [] pos) (sFor fi gg g) := by
  obtain ⟨wi, i1, i2⟩ := hi
  obtain ⟨tg', g1, g2⟩ := hg
  obtain ⟨tb, b1, b2⟩ := hb
  exact ⟨_, fun i => ps_for (hp i) (C.c i) (i1 i) (g1 i) (b1 i) (hs i), semS_for i2 g2 b2⟩
theorem semS_while {tc : TT} {tb : TS} {ft : TF} {body : SF} (hc : SemT K tc ft) (hb : SemS K tb body) (n : Nat) : SemS K (tWhile tc tb) (whileM ft body n) := fun pd F0 H0 F H ρ σ s r ρ' s' o e E q => by
  refine ⟨fun m σc Hc => ∃ Fc ρc sc, Same F Fc ∧ Ok K pd F0 H0 Fc Hc ρc σc sc ∧ whileM ft body m ρc sc = some ((r, ρ'), s'), ⟨n, F, ρ, s, Same.refl _, o, e⟩, ?_⟩
  rintro m σc Hc ⟨Fc, ρc, sc, fc, oc, ec⟩
  cases m with
  | zero => exact (Mf_eq ec).elim
  | succ m =>
    unfold whileM at ec
    obtain ⟨k, s1, e1, ec⟩ := Mb_eq ec
    refine hc pd F0 H0 Fc Hc ρc σc sc k s1 oc e1 _ fun F1 H1 x1 d1 => ?_
    have o1 := oc.step x1 d1
    have f1 := fc.trans x1.ff
    cases k with
    | false =>
      obtain ⟨a, rfl⟩ := Mp_eq ec
      cases a
      exact iteF (q σc F1 H1 f1 o1)
    | true =>
      refine iteT ?_
      obtain ⟨⟨r1, ρ2⟩, s2, e2, ec⟩ := Mb_eq (show Mb (body ρc) _ s1 = _ from ec)
      refine ⟨fun σn Hn => (r1 = .nx ∨ r1 = .ct) ∧ ∃ Fn, Same F Fn ∧ Ok K pd F0 H0 Fn Hn ρ2 σn s2, fun σn Hn ⟨h1, Fn, h3, h4⟩ => ⟨m, Nat.lt_succ_self _, Fn, ρ2, s2, h3, h4, ?_⟩, ?_⟩
      · rcases h1 with rfl | rfl <;> exact ec
      · refine hb pd F0 H0 F1 H1 ρc σc s1 r1 ρ2 s2 o1 e2 _ ?_
        cases r1 with
        | nx => exact fun σn Fn Hn a b => ⟨.inl rfl, Fn, f1.trans a, b⟩
        | ct => exact fun σn Fn Hn a b => ⟨.inr rfl, Fn, f1.trans a, b⟩
        | bk => obtain ⟨a, rfl⟩ := Mp_eq ec; cases a; exact fun σn Fn Hn a b => q σn Fn Hn (f1.trans a) b
        | rt d => obtain ⟨a, rfl⟩ := Mp_eq ec; cases a; exact q
theorem cWhile {c : Expr} {body : List Stmt} {ft : TF} (hp : ∀ i, PassesOwn (model (X i).prog (X i).w) (X i).A (X i).env (X i).xe) (hc : CT X K c ft) (hb : CSs X K body g) : CS X K (.While c body [] pos) (sWhile ft g) := by
  obtain ⟨tc, c1, c2⟩ := hc
  obtain ⟨tb, b1, b2⟩ := hb
  exact ⟨_, fun i => ps_while (hp i) (c1 i) (b1 i), semS_while c2 b2 FUEL⟩
/-! own lists changed -/
theorem semS_meth {i : Nat} {t : TA} {fa : EF} {r : V → List V → Hp → VK → Prop} {u : List D → D → Option (List D)}
    (ha : ∀ (pd : Option PD) (F0 H0 F H : Hp) (ρ : Rho) (σ : L2.St) (s : DS) (d : D) (s' : DS), Ok K pd F0 H0 F H ρ σ s → fa ρ s = some (d, s') → ∀ Q : List V → Hp → Prop, (∀ v F' H', Ext pd F H F' H' → DOk K pd F' H' s' → RepB K pd F' H' d v → Q [v] H') → t σ H Q)
    (hr : ∀ (pd : Option PD) (F H : Hp) (p : Addr) (xs : List V) (es : List D) (d : D) (v : V) (es' : List D), Same F H → H p = some (.lst xs) → RepL K pd F es xs → es.length ≤ SZ → RepB K pd F H d v → u es d = some es' →
      ∀ Q : VK, (∀ ys, es'.length ≤ SZ → RepL K pd F es' ys → Q .non (upd H p (.lst ys))) → r (.ref p) [v] H Q) :
    SemS K (tDrop (tBM K "list" r (tVar i) t)) (sMeth i u fa) := fun pd F0 H0 F H ρ σ s r' ρ' s' o e E q => by
  obtain ⟨d, s1, e1, e⟩ := Mb_eq e
  obtain ⟨es, hes, e⟩ := onOw_eq e
  obtain ⟨es', hu, e⟩ := onSome_eq e
  obtain ⟨a, rfl⟩ := Mp_eq e
  cases a
  obtain ⟨z, h1, p, xs, rfl, h2, h3, h4, h5, h6, h7⟩ := o.env.at' i _ hes
  refine ⟨.ref p, h1, .inl ⟨rfl, xs, .of h5⟩, ha pd F0 H0 F H _ σ s d _ o e1 _ fun v F1 H1 x1 d1 r1 => ?_⟩
  have o1 := o.step x1 d1
  exact hr pd F1 H1 p xs es d v es' o1.fh (x1.hh _ _ h5 h4) (h7.mono x1.ff) h6 r1 hu _ fun ys hl ry => q σ F1 _ x1.ff (o1.upd hes h1 hl ry)
theorem v_app (pd : Option PD) (F H : Hp) (p : Addr) (xs : List V) (es : List D) (d : D) (v : V) (es' : List D) (fh : Same F H) (hp : H p = some (.lst xs)) (r : RepL K pd F es xs) (hl : es.length ≤ SZ) (rd : Rep K pd F d v) (e : appU es d = some es')
    (Q : VK) (q : ∀ ys, es'.length ≤ SZ → RepL K pd F es' ys → Q .non (upd H p (.lst ys))) : rAppend (.ref p) [v] H Q := by
  unfold appU at e
  split at e
  · rename_i h
    cases e
    exact ⟨p, xs, v, rfl, rfl, hp, by rw [r.length]; exact h, q _ (by simp; exact h) (r.append (.cons rd .nil))⟩
  · cases e
theorem v_ext (pd : Option PD) (F H : Hp) (p : Addr) (xs : List V) (es : List D) (d : D) (v : V) (es' : List D) (fh : Same F H) (hp : H p = some (.lst xs)) (r : RepL K pd F es xs) (hl : es.length ≤ SZ) (rd : RepB K pd F H d v) (e : extU es d = some es')
    (Q : VK) (q : ∀ ys, es'.length ≤ SZ → RepL K pd F es' ys → Q .non (upd H p (.lst ys))) : rExtend (.ref p) [v] H Q := by
  cases d <;> first | (cases e; done) | skip
  rename_i fs
  simp only [extU] at e
  split at e
  · rename_i h
    cases e
    obtain ⟨b, zs, rfl, h1, _, h2⟩ := rd.lst fh
    exact ⟨p, b, xs, zs, rfl, rfl, hp, h1, by rw [r.length, h2.length]; exact h, q _ (by simp; exact h) (r.append h2)⟩
  · cases e
end
section
variable {ι : Type} {X : ι → Cx} {P : Program} {w : World} {K : PySem.W.Frag} {mg : Str → Option Value} {base : Heap} {N : List Str} {lv : Nat} {pos cpos apos : Pos} {st : Stmt} {rest : List Stmt} {e : Expr} {f fk : EF} {g g' : SF}
/-- x.append(e) -/
theorem cApp (C : Fam X P w K mg base N lv) (i : Nat) {x : Str} {p2 : Pos} (h : CE X K e f) (hN : N[i]? = some x := by rfl) (hv : ∀ j, Vis (X j).env.scope x := by intro _; first | exact Or.inl rfl | exact Or.inr (Or.inl rfl) | exact Or.inr (Or.inr rfl))
    (hd : (x == ("__debug__" : Str)) = false := by decide) (hcd : (x == ("__classdict__" : Str)) = false := by decide)
    (hbase : ∀ j, attributeBase (.Name x p2) "append" (X j).env (eval (.Name x p2) (X j).env) = eval (.Name x p2) (X j).env := by intro _; rfl)
    (hfew : ∀ j, ((backTo cpos (starEach [e] (X j).env)).all (fun x => !x.1) && (backToKw cpos (keywordEach [] (X j).env)).all (fun x => x.1.isSome)
      && decide (([e] : List Expr).length + ([] : List Keyword).length + (if ([] : List Keyword).isEmpty then 0 else 1) < 30)) = true := by intro _; rfl)
    (hline : (apos.endLine == cpos.line) = true := by rfl) (hs : ∀ j, starEach [e] (X j).env = (false, eval e (X j).env) :: starEach [] (X j).env := by intro _; rfl) (hplain : ∀ j, (backTo cpos (starEach [] (X j).env)).any (·.1) = false := by intro _; rfl)
    (hsw : ∀ j, swapsWith (.Call (.Attribute (.Name x p2) "append" apos) [e] [] cpos) none pos.line (X j).env = pure false := by intro _; rfl) :
    CS X K (.Expr (.Call (.Attribute (.Name x p2) "append" apos) [e] [] cpos) pos) (sMeth i appU f) := by
  obtain ⟨t, h1, h2⟩ := h
  refine ⟨tDrop (tBM K "list" rAppend (tVar i) (tCons t tNil)), fun j => ps_expr (by
    have := pe_bm (X := X j) (cpos := cpos) (apos := apos) PySem.F.plainAttrs_list PySem.F.slot_list_append PySem.F.type_list_append mt_append (pe_var (pos := p2) (by rw [C.n j]; exact hN) (hv j) hd hcd) (pa_cons (h1 j) pa_nil (hs j)) (hbase j) (hfew j) hline (hs j) (hplain j)
    rw [C.k j] at this
    exact this) (hsw j), ?_⟩
  intro pd F0 H0 F H ρ σ s r' ρ' s' o e E q
  obtain ⟨d, s1, e1, e⟩ := Mb_eq e
  obtain ⟨es, hes, e⟩ := onOw_eq e
  obtain ⟨es', hu, e⟩ := onSome_eq e
  obtain ⟨a, rfl⟩ := Mp_eq e
  cases a
  obtain ⟨z, a1, p, xs, rfl, a2, a3, a4, a5, a6, a7⟩ := o.env.at' i _ hes
  refine ⟨.ref p, a1, .inl ⟨rfl, xs, .of a5⟩, h2 pd F0 H0 F H _ σ s d _ o e1 _ fun v F1 H1 x1 d1 r1 => ?_⟩
  have o1 := o.step x1 d1
  exact v_app pd F1 H1 p xs es d v es' o1.fh (x1.hh _ _ a5 a4) (a7.mono x1.ff) a6 r1 hu (fun _ Hn => E.nx σ Hn) fun ys hl ry => q σ F1 _ x1.ff (o1.upd hes a1 hl ry)
/-- x.extend(e) -/
theorem cExt (C : Fam X P w K mg base N lv) (i : Nat) {x : Str} {p2 : Pos} (h : CB X K e f) (hN : N[i]? = some x := by rfl) (hv : ∀ j, Vis (X j).env.scope x := by intro _; first | exact Or.inl rfl | exact Or.inr (Or.inl rfl) | exact Or.inr (Or.inr rfl))
    (hd : (x == ("__debug__" : Str)) = false := by decide) (hcd : (x == ("__classdict__" : Str)) = false := by decide)
    (hbase : ∀ j, attributeBase (.Name x p2) "extend" (X j).env (eval (.Name x p2) (X j).env) = eval (.Name x p2) (X j).env := by intro _; rfl)
    (hfew : ∀ j, ((backTo cpos (starEach [e] (X j).env)).all (fun x => !x.1) && (backToKw cpos (keywordEach [] (X j).env)).all (fun x => x.1.isSome)
      && decide (([e] : List Expr).length + ([] : List Keyword).length + (if ([] : List Keyword).isEmpty then 0 else 1) < 30)) = true := by intro _; rfl)
    (hline : (apos.endLine == cpos.line) = true := by rfl) (hs : ∀ j, starEach [e] (X j).env = (false, eval e (X j).env) :: starEach [] (X j).env := by intro _; rfl) (hplain : ∀ j, (backTo cpos (starEach [] (X j).env)).any (·.1) = false := by intro _; rfl)
    (hsw : ∀ j, swapsWith (.Call (.Attribute (.Name x p2) "extend" apos) [e] [] cpos) none pos.line (X j).env = pure false := by intro _; rfl) :
    CS X K (.Expr (.Call (.Attribute (.Name x p2) "extend" apos) [e] [] cpos) pos) (sMeth i extU f) := by
  obtain ⟨t, h1, h2⟩ := h
  refine ⟨tDrop (tBM K "list" rExtend (tVar i) (tCons t tNil)), fun j => ps_expr (by
    have := pe_bm (X := X j) (cpos := cpos) (apos := apos) PySem.F.plainAttrs_list PySem.F.slot_list_extend PySem.F.type_list_extend mt_extend (pe_var (pos := p2) (by rw [C.n j]; exact hN) (hv j) hd hcd) (pa_cons (h1 j) pa_nil (hs j)) (hbase j) (hfew j) hline (hs j) (hplain j)
    rw [C.k j] at this
    exact this) (hsw j), semS_meth (fun pd F0 H0 F H ρ σ s d s' o e Q q => h2 pd F0 H0 F H ρ σ s d s' o e _ fun v F' H' x y z => q v F' H' x y z) v_ext⟩
/-- x[k] = e -/
theorem cPut (C : Fam X P w K mg base N lv) (i : Nat) {x : Str} {p2 p3 : Pos} {ek : Expr} (h : CE X K e f) (hk : CE X K ek fk) (hN : N[i]? = some x := by rfl) (hv : ∀ j, Vis (X j).env.scope x := by intro _; first | exact Or.inl rfl | exact Or.inr (Or.inl rfl) | exact Or.inr (Or.inr rfl))
    (hd : (x == ("__debug__" : Str)) = false := by decide) (hcd : (x == ("__classdict__" : Str)) = false := by decide)
    (ha : ∀ j, ∀ v, assign (.Subscript (.Name x p2) ek p3) (X j).env v = (do
      let ov ← holding [v] (eval (.Name x p2) (X j).env)
      let iv ← holding [v, ov] (eval ek (X j).env)
      standAt p3
      holding [v, ov, iv] (setItem ov iv v)
      release [v, ov, iv] []) := by intro _ _; rfl)
    (hs : ∀ j, swapsWithSole [.Subscript (.Name x p2) ek p3] e pos.line (X j).env = pure false := by intro _; rfl) (hw : ∀ j, swappedStores [.Subscript (.Name x p2) ek p3] e (X j).env = pure none := by intro _; rfl)
    (h1 : ∀ j, (assignEach [.Subscript (.Name x p2) ek p3] (X j).env).map (·.2) = [assign (.Subscript (.Name x p2) ek p3) (X j).env] := by intro _; rfl) :
    CS X K (.Assign [.Subscript (.Name x p2) ek p3] e pos) (sPut i fk f) := by
  obtain ⟨t, e1, e2⟩ := h
  obtain ⟨tk, k1, k2⟩ := hk
  refine ⟨_, fun j => ps_asg (e1 j) (pg_sub (pe_var (by rw [C.n j]; exact hN) (hv j) hd hcd) (k1 j) set_list (ha j)) (hs j) (hw j) (h1 j), fun pd F0 H0 F H ρ σ s r ρ' s' o e E q => ?_⟩
  obtain ⟨d, s1, a1, e⟩ := Mb_eq e
  obtain ⟨kd, s2, a2, e⟩ := Mb_eq e
  obtain ⟨ds, hds, e⟩ := onOw_eq e
  obtain ⟨k, rfl, e⟩ := onInt_eq e
  obtain ⟨j, hj, e⟩ := onSome_eq e
  obtain ⟨a, rfl⟩ := Mp_eq e
  cases a
  refine e2 pd F0 H0 F H _ σ s d _ o a1 _ fun v F1 H1 x1 d1 r1 => ?_
  have o1 := o.step x1 d1
  obtain ⟨z, b1, p, xs, rfl, b2, b3, b4, b5, b6, b7⟩ := o1.env.at' i _ hds
  refine ⟨.ref p, b1, k2 pd F0 H0 F1 H1 _ σ s1 _ _ o1 a2 _ fun kv F2 H2 x2 d2 r2 => ?_⟩
  have o2 := o1.step x2 d2
  simp only [Rep] at r2
  refine ⟨p, xs, k, j, rfl, r2, x2.hh _ _ b5 b4, by rw [b7.length]; exact hj, q σ F2 _ (x1.ff.trans x2.ff) (o2.upd hds b1 (by rw [List.length_set]; exact b6) ((b7.mono x2.ff).set j (r1.mono x2.ff)))⟩
theorem pget_list {X : Cx} (hK : X.K = K) : PGet X (rIxL K) := by
  subst hK
  intro pins s σ H o i ov iv Q I ro ri h
  obtain ⟨p, xs, k, v, rfl, rfl, hq, he, q⟩ := h
  cases ro
  obtain ⟨t, rfl⟩ := ri
  obtain ⟨its, r, pl, hz⟩ := I.list hq
  obtain ⟨j, h1, h2, h3, h4, h5⟩ := atI_get he
  obtain ⟨u, eu, ru⟩ := r.get h2
  have hl := r.length
  have hn := line63
  have fin : EP X pins σ Q u s := ⟨v, H, I, ru, q⟩
  by_cases h0 : 0 ≤ k
  · have hj : k.toNat = j := by
      rw [seqIndex_of h0 h5] at h1
      exact Option.some.inj h1
    exact wpAny_getItem_list pl.isList h0 (by omega) (by rw [hj]; simpa using eu) fin
  · have hj : (k + (its.toArray.size : Int)).toNat = j := by
      rw [seqIndex_neg (by omega) h4] at h1
      rw [List.size_toArray, ← hl]
      exact Option.some.inj h1
    exact wpAny_getItem_list_neg pl.isList (by omega) (by rw [List.size_toArray] <;> omega) (by omega) (by rw [hj]; simpa using eu) fin
/-- x[k] op= e -/
theorem cAugIx (C : Fam X P w K mg base N lv) (i : Nat) {x : Str} {p2 p3 : Pos} {ek : Expr} {op : Operator} {r : R2} {gg : D → D → Option D} (ho : ∀ j, OpR (X j) (inplaceOp op) r) (hvv : V2 K r gg) (hk : CE X K ek fk) (h : CE X K e f) (hN : N[i]? = some x := by rfl)
    (hv : ∀ j, Vis (X j).env.scope x := by intro _; first | exact Or.inl rfl | exact Or.inr (Or.inl rfl) | exact Or.inr (Or.inr rfl))
    (hd : (x == ("__debug__" : Str)) = false := by decide) (hcd : (x == ("__classdict__" : Str)) = false := by decide)
    (ha : ∀ ov iv new, augStore ek ov iv new = (do holding [new, ov, iv] (setItem ov iv new); release [new, ov, iv] []; pure .next) := by intros; rfl) :
    CS X K (.AugAssign (.Subscript (.Name x p2) ek p3) op e pos) (sAugIx i gg fk f) := by
  obtain ⟨t, e1, e2⟩ := h
  obtain ⟨tk, k1, k2⟩ := hk
  refine ⟨_, fun j => ps_augS (pe_var (by rw [C.n j]; exact hN) (hv j) hd hcd) (k1 j) (pget_list (C.k j)) (e1 j) (ho j) set_list ha, fun pd F0 H0 F H ρ σ s r ρ' s' o e E q => ?_⟩
  obtain ⟨kd, s1, a1, e⟩ := Mb_eq e
  obtain ⟨ds, hds, e⟩ := onOw_eq e
  obtain ⟨k, rfl, e⟩ := onInt_eq e
  obtain ⟨j, hj, e⟩ := onSome_eq e
  obtain ⟨x0, hx0, e⟩ := onSome_eq e
  obtain ⟨y, s2, a2, e⟩ := Mb_eq e
  obtain ⟨z, s3, a3, e⟩ := Mb_eq e
  obtain ⟨a3, rfl⟩ := Mo_eq a3
  obtain ⟨a, rfl⟩ := Mp_eq e
  cases a
  obtain ⟨zz, b1, p, xs, rfl, b2, b3, b4, b5, b6, b7⟩ := o.env.at' i _ hds
  refine ⟨.ref p, b1, k2 pd F0 H0 F H _ σ s _ _ o a1 _ fun kv F1 H1 x1 d1 r1 => ?_⟩
  have o1 := o.step x1 d1
  simp only [Rep] at r1
  obtain ⟨xv, hxv, rxv⟩ := b7.get hx0
  have hp1 := x1.hh _ _ b5 b4
  refine ⟨p, xs, k, xv, rfl, r1, .of hp1, by unfold atI; rw [b7.length, hj]; exact hxv, e2 pd F0 H0 F1 H1 _ σ s1 y _ o1 a2 _ fun v F2 H2 x2 d2 r2 => ?_⟩
  have o2 := o1.step x2 d2
  refine hvv pd F2 H2 x0 y z xv v o2.fh (.inl ((rxv.mono x1.ff).mono x2.ff)) (.inl r2) (by assumption) _ fun u F3 H3 x3 r3 => ?_
  have o3 := o2.step (x3.lift (pd := pd)) (d2.grow x3)
  refine ⟨p, xs, k, j, rfl, r1, x3.same _ _ (x2.hh _ _ hp1 b4), by rw [b7.length]; exact hj, q σ F3 _ (x1.ff.trans (x2.ff.trans x3.ff)) (o3.upd hds b1 (by rw [List.length_set]; exact b6) ((((b7.mono x1.ff).mono x2.ff).mono x3.ff).set j r3))⟩
end

/-! ### defs -/
abbrev FnP (K : PySem.W.Frag) (x : Str) (st : Stmt) (f : Addr) (fd : FuncData) : Prop := FunD K x x (defArgs st) (defBody st) (defScope st) [] [] f fd
theorem FnP.okP {P : Program} {w : World} {K : PySem.W.Frag} {mg : Str → Option Value} {base : Heap} {x : Str} {st : Stmt} {f : Addr} {fd : FuncData} {N ps : List Str} {k : Nat} {sp : Sp} (F : FnP K x st f fd) (S : FnScope N ps (defScope st)) (len : ∀ vs H Q E, sp vs H Q E → vs.length = ps.length)
    (hbody : ∀ (cdv : Value) (A : Around) (outer : List Env) (s : Shared) (H : Hp) (vs : List V) (Q : VK) (E : XK), Room k (A.deeper (envOfC x (defScope st) s.heap.objs.size f cdv)) → sp vs H Q E →
      ∃ t, PSs (cxOf CX0 P w K mg base N x (defScope st) f cdv A outer s H E).nox (defBody st) t ∧ t { nx := fun _ H' => Q .non H', rt := Q } (L2.start N vs) H) : FnOk P w K mg base CX0 (k + 1) f fd ps sp :=
  F.ok S len fun cdv A outer s H vs Q E hr h => let ⟨t, t1, t2⟩ := hbody cdv A outer s H vs Q E hr h; ⟨t, PSs.nox t1, t2⟩
def runDef (n k : Nat) (g : SF) (args : List D) : M D := if args.length = k then Mb (g (args.map Slot.sh ++ List.replicate (n - args.length) Slot.un)) fun r => match r with
  | (.rt d, _) => Mp d
  | (.nx, _) => Mp .non
  | _ => Mf else Mf
def spM (K : PySem.W.Frag) (m : List D → M D) : Sp := fun vs H Q _ => ∃ (pd : Option PD) (F : Hp) (args : List D) (s : DS) (d : D) (s' : DS), Same F H ∧ DOk K pd F H s ∧ RepL K pd F args vs ∧ m args s = some (d, s') ∧
  ∀ v F' H', Ext pd F H F' H' → DOk K pd F' H' s' → Rep K pd F' d v → Q v H'
/-- a def of the text, its mirror m -/
structure DefOk (P : Program) (w : World) (K : PySem.W.Frag) (mg : Str → Option Value) (base : Heap) (name : Str) (k : Nat) (ps : List Str) (m : List D → M D) : Prop where
  ex : ∃ f fd, FnOk P w K mg base CX0 k f fd ps (spM K m) ∧ mg name = some (.ref f) ∧ PySem.W.keepIn K (.ref f) = true ∧ Binds K fd ps []
/-- the entries of a def -/
structure EntI (k : Nat) (qual : Str) (scope : Scope) (f : Addr) where
  cdv : Value
  A : Around
  outer : List Env
  s : Shared
  H : Hp
  E : XK
  hr : Room k (A.deeper (envOfC qual scope s.heap.objs.size f cdv))
abbrev entF (P : Program) (w : World) (K : PySem.W.Frag) (mg : Str → Option Value) (base : Heap) (N : List Str) (k : Nat) (qual : Str) (scope : Scope) (f : Addr) : EntI k qual scope f → Cx :=
  fun i => (cxOf CX0 P w K mg base N qual scope f i.cdv i.A i.outer i.s i.H i.E).nox
section
variable {P : Program} {w : World} {K : PySem.W.Frag} {mg : Str → Option Value} {base : Heap}
theorem Fam.ent {N : List Str} {k : Nat} {qual : Str} {scope : Scope} {f : Addr} (nd : N.Nodup) : Fam (entF P w K mg base N k qual scope f) P w K mg base N k :=
  ⟨fun _ => rfl, fun _ => rfl, fun _ => rfl, fun _ => rfl, fun _ => rfl, fun _ => rfl, fun _ => rfl, nd, fun i => ⟨i.hr.hd, i.hr.dp, i.hr.un⟩⟩
theorem ok_start {pd : Option PD} {F H : Hp} {N : List Str} {args : List D} {vs : List V} {s : DS} (fh : Same F H) (d : DOk K pd F H s) (r : RepL K pd F args vs) :
    Ok K pd F H F H (args.map Slot.sh ++ List.replicate (N.length - args.length) Slot.un) (L2.start N vs) s := by
  refine ⟨.refl fh, ⟨by simp [L2.start, r.length], fun i sl e => ?_, fun i j es fs p hij e1 => ?_⟩, d⟩
  · by_cases hi : i < args.length
    · rw [List.getElem?_append_left (by simpa using hi), List.getElem?_map, List.getElem?_eq_getElem hi] at e
      cases e
      obtain ⟨x, h1, h2⟩ := r.get (List.getElem?_eq_getElem hi)
      refine ⟨some x, ?_, x, rfl, h2⟩
      unfold L2.start
      rw [List.getElem?_append_left (by simpa [r.length] using hi), List.getElem?_map, h1]
      rfl
    · rw [List.getElem?_append_right (by simpa using hi), List.getElem?_replicate] at e
      split at e
      · cases e
        rename_i hlt
        refine ⟨none, ?_, trivial⟩
        unfold L2.start
        rw [List.getElem?_append_right (by simpa [r.length] using hi), List.getElem?_replicate, if_pos (by simpa [r.length] using hlt)]
      · cases e
  · exfalso
    have hm := List.mem_of_getElem? e1
    simp at hm
theorem runDef_len {n k : Nat} {g : SF} {args : List D} {s : DS} {r : D × DS} (h : runDef n k g args s = some r) : args.length = k := by
  unfold runDef at h
  split at h
  · assumption
  · cases h
theorem runDef_eq {n k : Nat} {g : SF} {args : List D} {s s' : DS} {d : D} (h : runDef n k g args s = some (d, s')) : ∃ r ρ', g (args.map Slot.sh ++ List.replicate (n - args.length) Slot.un) s = some ((r, ρ'), s') ∧ (r = .rt d ∨ (r = .nx ∧ d = .non)) := by
  unfold runDef at h
  split at h
  · obtain ⟨⟨r, ρ'⟩, s1, e1, e2⟩ := Mb_eq h
    cases r with
    | nx => obtain ⟨rfl, rfl⟩ := Mp_eq e2; exact ⟨_, _, e1, .inr ⟨rfl, rfl⟩⟩
    | rt d' => obtain ⟨rfl, rfl⟩ := Mp_eq e2; exact ⟨_, _, e1, .inl rfl⟩
    | bk => exact (Mf_eq e2).elim
    | ct => exact (Mf_eq e2).elim
  · cases h
/-- THE RULE for a def -/
theorem def_ok {x : Str} {st : Stmt} {f : Addr} {fd : FuncData} {N ps : List Str} {k : Nat} {g : SF} (F : FnP K x st f fd) (S : FnScope N ps (defScope st)) (h : CSs (entF P w K mg base N k x (defScope st) f) K (defBody st) g)
    (hm : mg x = some (.ref f)) (hb : Binds K fd ps []) (n : Nat := N.length) (kk : Nat := ps.length) (hn : N.length = n := by rfl) (hk : ps.length = kk := by rfl) : DefOk P w K mg base x (k + 1) ps (runDef n kk g) := by
  subst hn; subst hk
  refine ⟨f, fd, F.okP S (fun vs H Q E h => ?_) (fun cdv A outer s H vs Q E hr h' => ?_), hm, F.kp, hb⟩
  · obtain ⟨pd, F, args, s, d, s', _, _, r, e, _⟩ := h
    rw [r.length]
    exact runDef_len e
  · obtain ⟨t, t1, t2⟩ := h
    obtain ⟨pd, F, args, s0, d, s', fh, dk, r, e, q⟩ := h'
    refine ⟨t, t1 ⟨cdv, A, outer, s, H, E, hr⟩, ?_⟩
    obtain ⟨r1, ρ', e1, e2⟩ := runDef_eq e
    refine t2 pd F H F H _ _ s0 r1 ρ' s' (ok_start fh dk r) e1 _ ?_
    rcases e2 with rfl | ⟨rfl, rfl⟩
    · exact fun v F' H' a b c => q v F' H' a b c
    · exact fun σ' F' H' a b => q .non F' H' b.ext b.dok (by simp [Rep])
end
def xCall (m : List D → M D) (a : AF) : EF := fun ρ => Mb (a ρ) m
mutual
def noL : D → Bool
  | .lst _ => false
  | .rng => false
  | .tup ds => noLs ds
  | _ => true
def noLs : List D → Bool
  | [] => true
  | d :: ds => noL d && noLs ds
end
/-- a call whose arguments may be own lists; what comes back holds no list -/
def xCallB (m : List D → M D) (a : AF) : EF := fun ρ => Mb (a ρ) fun xs => Mb (m xs) fun d => if noL d = true then Mp d else Mf
section
variable {K : PySem.W.Frag} {pd : Option PD} {F F' H : Hp}
mutual
/-- data without lists lean on tuples alone -/
theorem Rep.keep (h : ∀ a xs, F a = some (.tup xs) → F' a = some (.tup xs)) (h' : ∀ a o xs, F a = some (.frz o (.tup xs)) → F' a = some (.frz o (.tup xs))) : ∀ {d : D} {v : V}, noL d = true → Rep K pd F d v → Rep K pd F' d v
  | .non, _, _, r => by simpa only [Rep] using r
  | .bl _, _, _, r => by simpa only [Rep] using r
  | .int _, _, _, r => by simpa only [Rep] using r
  | .str _, _, _, r => by simpa only [Rep] using r
  | .rng, _, n, _ => by simp [noL] at n
  | .lst _, _, n, _ => by simp [noL] at n
  | .tup ds, _, n, r => by
    simp only [Rep] at r ⊢
    obtain ⟨a, xs, e, s, hl, q⟩ := r
    refine ⟨a, xs, e, ?_, hl, RepL.keep h h' (by simpa only [noL] using n) q⟩
    rcases s with (s | ⟨o, s⟩) | s
    · exact .inl (.inl (h _ _ s))
    · exact .inl (.inr ⟨o, h' _ _ _ s⟩)
    · exact .inr s
theorem RepL.keep (h : ∀ a xs, F a = some (.tup xs) → F' a = some (.tup xs)) (h' : ∀ a o xs, F a = some (.frz o (.tup xs)) → F' a = some (.frz o (.tup xs))) : ∀ {ds : List D} {xs : List V}, noLs ds = true → RepL K pd F ds xs → RepL K pd F' ds xs
  | [], _, _, r => by simpa only [RepL] using r
  | d :: ds, _, n, r => by
    obtain ⟨y, ys, rfl, r1, r2⟩ := r.cases
    simp only [noLs, Bool.and_eq_true] at n
    exact .cons (Rep.keep h h' n.1 r1) (RepL.keep h h' n.2 r2)
end
end
section
variable {ι : Type} {X : ι → Cx} {P : Program} {w : World} {K : PySem.W.Frag} {mg : Str → Option Value} {base : Heap} {N : List Str} {lv : Nat} {pos p : Pos} {e : Expr} {es : List Expr} {g : AF} {x : Str} {k : Nat} {ps : List Str} {m : List D → M D}
theorem cCall (C : Fam X P w K mg base N lv) (Df : DefOk P w K mg base x k ps m) (hk : k ≤ lv) (ha : CA X K (e :: es) g) (hg : ∀ i, Gl (X i) x := by intro _; rfl) (hdb : (x == ("__debug__" : Str)) = false := by decide)
    (he : ∀ i, starEach (e :: es) (X i).env = (false, eval e (X i).env) :: starEach es (X i).env := by intro _; rfl) (hpl : ∀ i, (backTo pos (starEach es (X i).env)).any (·.1) = false := by intro _; rfl) :
    CE X K (.Call (.Name x p) (e :: es) [] pos) (xCall m g) := by
  obtain ⟨f, fd, F, hm, kp, hb⟩ := Df.ex
  obtain ⟨t, h1, h2⟩ := ha
  refine ⟨tCall (spM K m) [] E0 t, fun i => ?_, fun pd F0 H0 F H ρ σ s d s' o e Q q => ?_⟩
  · have hF : FnOk (X i).prog (X i).w (X i).K (X i).mg (X i).base CX0 k f fd ps (spM K m) := by rw [C.p i, C.w i, C.k i, C.m i, C.b i]; exact F
    exact pe_call hF ((C.r i).mono hk) (hg i) (by rw [C.m i]; exact hm) (by rw [C.k i]; exact kp) (by rw [C.k i]; exact hb) .nil pass0 (h1 i) hdb (he i) (hpl i)
  · obtain ⟨xs, s1, e1, e2⟩ := Mb_eq e
    refine h2 pd F0 H0 F H ρ σ s xs s1 o e1 _ fun vs F1 H1 x1 d1 r1 => ?_
    rw [List.append_nil]
    exact ⟨pd, F1, xs, s1, d, s', (o.step x1 d1).fh, d1, r1, e2, fun v F' H' x2 d2 r2 => q v F' H' (x1.trans x2) d2 r2⟩
theorem cCallB' (C : Fam X P w K mg base N lv) (Df : DefOk P w K mg base x k ps m) (hk : k ≤ lv) (ha : CAB X K (e :: es) g) (hg : ∀ i, Gl (X i) x := by intro _; rfl) (hdb : (x == ("__debug__" : Str)) = false := by decide)
    (he : ∀ i, starEach (e :: es) (X i).env = (false, eval e (X i).env) :: starEach es (X i).env := by intro _; rfl) (hpl : ∀ i, (backTo pos (starEach es (X i).env)).any (·.1) = false := by intro _; rfl) :
    CE X K (.Call (.Name x p) (e :: es) [] pos) (xCallB m g) := by
  obtain ⟨f, fd, F, hm, kp, hb⟩ := Df.ex
  obtain ⟨t, h1, h2⟩ := ha
  refine ⟨tCall (spM K m) [] E0 t, fun i => ?_, fun pd F0 H0 F H ρ σ s d s' o e Q q => ?_⟩
  · have hF : FnOk (X i).prog (X i).w (X i).K (X i).mg (X i).base CX0 k f fd ps (spM K m) := by rw [C.p i, C.w i, C.k i, C.m i, C.b i]; exact F
    exact pe_call hF ((C.r i).mono hk) (hg i) (by rw [C.m i]; exact hm) (by rw [C.k i]; exact kp) (by rw [C.k i]; exact hb) .nil pass0 (h1 i) hdb (he i) (hpl i)
  · obtain ⟨xs, s1, e1, e⟩ := Mb_eq e
    obtain ⟨d', s2, e2, e⟩ := Mb_eq e
    split at e
    · rename_i hno
      obtain ⟨rfl, rfl⟩ := Mp_eq e
      refine h2 pd F0 H0 F H ρ σ s xs s1 o e1 _ fun vs F1 H1 x1 d1 r1 => ?_
      have o1 := o.step x1 d1
      rw [List.append_nil]
      -- what is borrowed is told for the time of the call
      have hFb : ∃ Fb : Hp, (∀ a u, F1 a = some u → Fb a = some u) ∧ (∀ a u, Fb a = some u → H1 a = some u) ∧ (∀ a, some a = pp pd → Fb a = F1 a) ∧ RepL K pd Fb xs vs ∧ (∀ a, Fb a = F1 a ∨ ∃ ys, Fb a = some (.lst ys)) := by
        classical
        refine ⟨fun a => if V.ref a ∈ vs ∧ some a ≠ pp pd ∧ ∃ ys, H1 a = some (.lst ys) then H1 a else F1 a, fun a u h => ?_, fun a u h => ?_, fun a h => ?_, ?_, fun a => ?_⟩
        · show (if V.ref a ∈ vs ∧ some a ≠ pp pd ∧ ∃ ys, H1 a = some (.lst ys) then H1 a else F1 a) = some u
          split
          · exact o1.fh _ _ h
          · exact h
        · have h : (if V.ref a ∈ vs ∧ some a ≠ pp pd ∧ ∃ ys, H1 a = some (.lst ys) then H1 a else F1 a) = some u := h
          split at h
          · exact h
          · exact o1.fh _ _ h
        · show (if V.ref a ∈ vs ∧ some a ≠ pp pd ∧ ∃ ys, H1 a = some (.lst ys) then H1 a else F1 a) = F1 a
          rw [if_neg (fun z => z.2.1 h)]
        · have key : ∀ {xs : List D} {ws : List V}, RepBL K pd F1 H1 xs ws → (∀ v ∈ ws, v ∈ vs) → RepL K pd (fun a => if V.ref a ∈ vs ∧ some a ≠ pp pd ∧ ∃ ys, H1 a = some (.lst ys) then H1 a else F1 a) xs ws := by
            intro xs ws r
            induction r with
            | nil => intro _; exact .nil
            | @cons dd dds v ws h t ih =>
              intro hm
              have sm : Same F1 (fun a => if V.ref a ∈ vs ∧ some a ≠ pp pd ∧ ∃ ys, H1 a = some (.lst ys) then H1 a else F1 a) := fun a u h => by
                show (if V.ref a ∈ vs ∧ some a ≠ pp pd ∧ ∃ ys, H1 a = some (.lst ys) then H1 a else F1 a) = some u
                split
                · exact o1.fh _ _ h
                · exact h
              refine .cons ?_ (ih fun v hv => hm v (List.mem_cons_of_mem _ hv))
              rcases h with h | ⟨p, es, ys, rfl, rfl, h3, h4, h5, h6, h7⟩
              · exact h.mono sm
              · simp only [Rep]
                exact ⟨p, ys, rfl, by rw [if_pos ⟨hm _ (by simp), h4, ys, h3⟩]; exact h3, h6, h7.mono sm⟩
          exact key r1 fun v hv => hv
        · show (if V.ref a ∈ vs ∧ some a ≠ pp pd ∧ ∃ ys, H1 a = some (.lst ys) then H1 a else F1 a) = F1 a ∨ ∃ ys, (if V.ref a ∈ vs ∧ some a ≠ pp pd ∧ ∃ ys, H1 a = some (.lst ys) then H1 a else F1 a) = some (.lst ys)
          split
          · rename_i z; exact .inr z.2.2
          · exact .inl rfl
      obtain ⟨Fb, b1, b2, b3, b4, b5⟩ := hFb
      have db : DOk K pd Fb H1 s1 := by
        cases pd with
        | none => trivial
        | some y =>
          obtain ⟨c1, c2, c3, c4⟩ := d1
          exact ⟨by rw [b3 _ rfl]; exact c1, c2, c3, b1 _ _ c4⟩
      refine ⟨pd, Fb, xs, s1, d', s2, b2, db, b4, e2, fun v F' H' x2 d2 r2 => ?_⟩
      classical
      let F2 : Hp := fun a => if F1 a = none ∧ H1 a ≠ none then none else F' a
      have k1 : ∀ a u, F' a = some u → ¬ (F1 a = none ∧ H1 a ≠ none) → F2 a = some u := fun a u h n => by
        show (if F1 a = none ∧ H1 a ≠ none then none else F' a) = some u
        rw [if_neg n]; exact h
      have k2 : ∀ a u, F2 a = some u → F' a = some u ∧ ¬ (F1 a = none ∧ H1 a ≠ none) := fun a u h => by
        have h : (if F1 a = none ∧ H1 a ≠ none then none else F' a) = some u := h
        split at h
        · cases h
        · rename_i n; exact ⟨h, n⟩
      have keep1 : ∀ a u, F1 a = some u → F2 a = some u := fun a u h => k1 a u (x2.ff _ _ (b1 _ _ h)) fun z => by rw [h] at z; exact absurd z.1 (by simp)
      have xx : Ext pd F1 H1 F2 H' := by
        refine ⟨keep1, x2.hh, x2.hd, fun a u h => ?_, fun a u h => x2.fh _ _ (k2 a u h).1⟩
        obtain ⟨h, n⟩ := k2 a u h
        rcases x2.nw a u h with z | z
        · cases hF : F1 a with
          | none => exact absurd ⟨hF, by rw [b2 _ _ z]; simp⟩ n
          | some u' =>
            have := x2.ff _ _ (b1 _ _ hF)
            rw [h] at this; cases this; exact .inl rfl
        · exact .inr z
      refine q v F2 H' (x1.trans xx) ?_ ?_
      · cases pd with
        | none => trivial
        | some y =>
          obtain ⟨c1, c2, c3, c4⟩ := d2
          refine ⟨?_, c2, c3, ?_⟩
          · cases hz : F2 y.p with
            | none => rfl
            | some u => rw [(k2 _ _ hz).1] at c1; cases c1
          · obtain ⟨_, _, _, c4'⟩ := d1
            have := keep1 _ _ c4'
            have h0 := (k2 _ _ this).1
            rw [c4] at h0
            rw [this]; exact h0.symm
      · have known : ∀ a u, F' a = some u → (∀ ys, u ≠ .lst ys) → F2 a = some u := fun a u h ne => k1 a u h fun n => by
          rcases x2.nw a u h with z | z
          · rcases b5 a with y | ⟨ys, y⟩
            · rw [y] at z; rw [n.1] at z; cases z
            · rw [y] at z; cases z; exact ne ys rfl
          · exact n.2 z
        exact r2.keep (fun a ys h => known a _ h fun _ z => by cases z) (fun a ob ys h => known a _ h fun _ z => by cases z) hno
    · exact (Mf_eq e).elim
end
end Pu
namespace Pu
open PySem PySem.Spec PyProof.Rows L2

/-! ### enumerate, zip over lists and tuples as they come (b: a tuple) -/
def SqA (K : PySem.W.Frag) (H : Hp) (b : Bool) (a : Addr) (xs : List V) : Prop := if b = true then SqT K H a xs else SqL K H a xs
def ItA (h : Heap) (b : Bool) (it a : Addr) (i : Nat) : Prop := if b = true then h.IsTupleIter it a i else h.IsListIter it a i
def SeqB (h : Heap) (b : Bool) (a : Addr) (its : Array Value) : Prop := if b = true then h.IsTuple a its else h.IsList a its
def itOb (b : Bool) (a : Addr) : Obj := if b = true then { cls := .type "tuple_iterator", data := .fields #[.ref a, .int 0 0] } else { cls := .type "list_iterator", data := .fields #[.ref a, .int 0 0] }
theorem ItA.ob {h : Heap} {b : Bool} {it a : Addr} {i : Nat} (x : ItA h b it a i) : ∃ o, h.get? it = some o ∧ ∀ v, o.data ≠ .cell v := by
  unfold ItA at x
  cases b
  · obtain ⟨o, h1, _, h2⟩ : h.IsListIter it a i := x
    exact ⟨o, h1, fun v q => by rw [h2] at q; cases q⟩
  · obtain ⟨o, h1, _, h2⟩ : h.IsTupleIter it a i := x
    exact ⟨o, h1, fun v q => by rw [h2] at q; cases q⟩
theorem ItA.at' {h h' : Heap} {b : Bool} {it a : Addr} {i : Nat} (x : ItA h b it a i) (e : ∀ o, h.get? it = some o → h'.get? it = some o) : ItA h' b it a i := by
  unfold ItA at x ⊢
  cases b
  · exact Heap.IsListIter.at (show h.IsListIter it a i from x) e
  · exact Heap.IsTupleIter.at (show h.IsTupleIter it a i from x) e
theorem itA_new {h : Heap} {b : Bool} {it a : Addr} (e : h.get? it = some (itOb b a)) : ItA h b it a 0 := by
  cases b
  · exact ⟨_, e, rfl, rfl⟩
  · exact ⟨_, e, rfl, rfl⟩
theorem inv_seqA {X : Cx} {pins : List (Addr × Obj)} {σ : L2.St} {H : Hp} {s : Shared} {b : Bool} {a : Addr} {xs : List V} (I : Inv X pins σ H s) (h : SqA X.K H b a xs) : ∃ its : List Value, Vals xs its ∧ SeqB s.heap b a its.toArray := by
  cases b
  · obtain ⟨its, r, p, _⟩ := I.list (show SqL X.K H a xs from h)
    exact ⟨its, r, p.isList⟩
  · obtain ⟨its, r, p, _⟩ := I.tuple (show SqT X.K H a xs from h)
    exact ⟨its, r, p⟩
theorem inv_injA {X : Cx} {pins : List (Addr × Obj)} {σ : L2.St} {H : Hp} {s : Shared} {b : Bool} {a : Addr} {xs ys : List V} (I : Inv X pins σ H s) (h : SqA X.K H b a xs) (h' : SqA X.K H b a ys) : xs = ys := by
  cases b
  · exact I.list_inj (show SqL X.K H a xs from h) h'
  · exact I.tuple_inj (show SqT X.K H a xs from h) h'
theorem seqB_live {h : Heap} {b : Bool} {a : Addr} {its : Array Value} (x : SeqB h b a its) : a < h.objs.size := by
  cases b
  · obtain ⟨o, e, _⟩ := (show h.IsList a its from x); exact Heap.lt_size e
  · obtain ⟨o, e, _⟩ := (show h.IsTuple a its from x); exact Heap.lt_size e
theorem drawsB {prog : Program} {w : World} {A : Around} (hh : A.handled = none) (b : Bool) (it a : Addr) (hne : a ≠ it) (items : Array Value) :
    Draws prog w A it [it, a] items.size (fun i v => items[i]? = some v) (fun i h => ItA h b it a i ∧ SeqB h b a items) := by
  cases b
  · exact Draws.list hh it a hne items
  · exact Draws.tuple hh it a hne items
theorem beginsB (b : Bool) (a : Addr) (items : Array Value) : Begins (.ref a) (itOb b a) fun h => SeqB h b a items := by
  cases b
  · exact begins_list a items
  · exact begins_tuple a items
set_option maxHeartbeats 1000000 in
theorem meets_enum1 {v : Value} {o : Obj} {H : Heap → Prop} (B : Begins v o H) :
    Meets (Builtin.«enumerate.__new__» ⟨[.type "enumerate", v], []⟩) (fun _ R s => H s.heap ∧
      R (.ok (.ret (.ref (s.heap.push o).objs.size))) { s with heap := (s.heap.push o).push { cls := .type "enumerate", data := .fields #[.none, .bool false, .ref s.heap.objs.size, rawInt 0, .none, .none] } }) :=
  .of_wp fun prog w A R s h => by
    obtain ⟨hp, g, d, tk, os⟩ := s; obtain ⟨h1, h⟩ := h
    have hsub := sub_enumerate
    have go : ∀ {A' : Around} {E : Value → Shared → Prop} {Q : Value → Shared → Prop}, Q (.ref hp.objs.size) ⟨hp.push o, g, d, tk, os⟩ → wpAny (model prog w) A' (pyIter v) Q E ⟨hp, g, d, tk, os⟩ := fun q => B.iter prog w _ _ ⟨hp, g, d, tk, os⟩ _ h1 q
    wp_walk using go
    refine wpAny_stack_any fun st => wpAny_pure ?_
    split
    · rename_i c _ _ _ _ _
      cases (c == Value.type "enumerate")
      · wp_walk using go
        exact ⟨_, rfl, h⟩
      · wp_walk using go
        exact ⟨_, rfl, h⟩
    · wp_walk using go
      exact ⟨_, rfl, h⟩
theorem call_enum1 {prog : Program} {w : World} {A : Around} {E : Value → Shared → Prop} {s : Shared} {v : Value} {o : Obj} {H : Heap → Prop} {Q : Value → Shared → Prop} (B : Begins v o H) (h1 : H s.heap)
    (h : ∀ h', IsEnum h' (s.heap.objs.size + 1) s.heap.objs.size 0 .none → h'.get? s.heap.objs.size = some o → h'.objs.size = s.heap.objs.size + 2 →
      (∀ b o, s.heap.get? b = some o → h'.get? b = some o) → Q (.ref (s.heap.objs.size + 1)) { s with heap := h' }) : wpAny (model prog w) A (call (.type "enumerate") [v]) Q E s := by
  refine callType_new F.called_enumerate (by decide) (F.typeCall_enumerate_1 _) (F.newCall_enumerate_1 _) (fun obj => F.args_object_init_2 obj _) F.entry_enumerate_new (meets_enum1 B) ⟨h1, ?_⟩
  have hz : (s.heap.push o).objs.size = s.heap.objs.size + 1 := Heap.size_push ..
  show _ ∧ _
  rw [hz]
  have he : IsEnum ((s.heap.push o).push { cls := .type "enumerate", data := .fields #[.none, .bool false, .ref s.heap.objs.size, rawInt 0, .none, .none] }) (s.heap.objs.size + 1) s.heap.objs.size 0 .none := by
    have z := Heap.get?_push_size (s.heap.push o) (o := { cls := .type "enumerate", data := .fields #[.none, .bool false, .ref s.heap.objs.size, rawInt 0, .none, .none] }) rfl
    rw [hz] at z; exact z
  exact ⟨⟨_, he, rfl⟩, h _ he (Heap.get?_push_of_some _ (Heap.get?_push_size _ B.free)) (by rw [Heap.size_push, hz]) fun b o x => Heap.get?_push_of_some _ (Heap.get?_push_of_some _ x)⟩

def IteA (K : PySem.W.Frag) (b : Bool) (a : Addr) : It :=
  ⟨fun i H => ∃ (xs : List V) (x : V), SqA K H b a xs ∧ xs[i]? = some x, fun i H v H' => ∃ T x, v = .ref T ∧ H T = none ∧ H' = L2.upd H T (.tup [.int (i : Nat), x]) ∧ ∀ xs, SqA K H b a xs → xs[i]? = some x, fun i H => ∃ xs : List V, SqA K H b a xs ∧ xs.length = i⟩
theorem turn_enumA {P : Program} {w : World} {K : PySem.W.Frag} {elts : List Expr} {kk : Nat} {tpos : Pos} (b : Bool) (a e it : Addr) (nei : e ≠ it) (nae : a ≠ e) (nai : a ≠ it) :
    Turn P w K (.Tuple elts kk tpos) (IteA K b a) [e, it] e (fun i h => (∃ old, IsEnum h e it ((i : Nat) : Int) old) ∧ ItA h b it a i) where
  mem := by simp
  obj := fun i h st c hc => by
    obtain ⟨⟨old, he⟩, hi⟩ := st
    rcases (by simpa using hc : c = e ∨ c = it) with rfl | rfl
    · exact ⟨_, he, fun v q => nomatch q⟩
    · exact hi.ob
  keep := fun i h h' st k => let ⟨⟨old, he⟩, hi⟩ := st; ⟨⟨old, k e (by simp) _ he⟩, hi.at' fun o q => k it (by simp) o q⟩
  item := by
    intro X hP hw hK hc i pins s σ H E I hf st hg
    subst hP hw hK
    obtain ⟨⟨old, he⟩, hit⟩ := st
    obtain ⟨xs, x, hq, hx⟩ := hg
    obtain ⟨its, rv, p⟩ := inv_seqA I hq
    obtain ⟨u, hu, ru⟩ := rv.get hx
    have hlt : i < its.toArray.size := by
      have := (List.getElem?_eq_some_iff.mp hu).1
      simpa using this
    have hel : e < s.heap.objs.size := Heap.lt_size he
    have hil : it < s.heap.objs.size := by obtain ⟨_, q, _⟩ := hit.ob; exact Heap.lt_size q
    refine wpAny_pyNext_enum_itemD (drawsB (A := X.A.in1) (I.ok.hd hc) b it a nai its.toArray) he ⟨hit, p⟩ hlt nei (by simp [nei, Ne.symm nae]) fun z h' tk hz ho hs' hT hsz hk => ?_
    have hzu : z = u := by
      have h1 : its[i]? = some z := by simpa using hz
      rw [hu] at h1; exact (Option.some.inj h1).symm
    subst hzu
    refine ⟨_, rfl, wpAny_letOwnedTupleGo_enum (s := { s with heap := h', toks := tk + 1 }) ho fun h'' he' sb => ?_⟩
    have hT2 : h''.get? s.heap.objs.size = some { cls := .type "tuple", data := .seq #[.int i tk, z] } := (sb.2 _ (Nat.ne_of_gt hel)).trans hT
    have new : ObjOk X.prog X.w (L2.upd H s.heap.objs.size (.tup [.int (i : Nat), x])) h'' s.heap.objs.size (.tup [.int (i : Nat), x]) :=
      ⟨by show 2 ≤ sizeLine; decide, [.int i tk, z], .cons ⟨_, rfl⟩ (.cons ru .nil), ⟨_, hT2, rfl, _, rfl⟩⟩
    have I1 : Inv X pins σ (L2.upd H s.heap.objs.size (.tup [.int (i : Nat), x])) { s with heap := h'', toks := tk + 1 } :=
      I.turnedNew (ch := [e, it]) (fun c ob hb q => (sb.2 c (fun y => hb (by simp [y]))).trans (hk c ob (fun y => hb (by simp [y])) (fun y => hb (by simp [y])) q)) hf (Nat.le_refl _) new
    refine ⟨.ref s.heap.objs.size, _, I1, rfl, ⟨_, x, rfl, I.hok.fresh (Nat.le_refl _), rfl, fun ys hy => by rw [inv_injA I hy hq]; exact hx⟩, ⟨⟨z, ?_⟩, hs'.1.at' fun o q => (sb.2 it (Ne.symm nei)).trans q⟩, fun c hc' => ?_⟩
    · have e1 : ((i + 1 : Nat) : Int) = (i : Int) + 1 := by omega
      rw [e1]; exact he'
    · have hb' : c < s.heap.objs.size := by
        rcases (by simpa using hc' : c = e ∨ c = it) with rfl | rfl
        · exact hel
        · exact hil
      rw [upd_ne (Nat.ne_of_lt hb')]
      exact (hf c hc').1
  done := by
    intro X hP hw hK hc i pins s σ H E I hf st hg
    subst hP hw hK
    obtain ⟨⟨old, he⟩, hit⟩ := st
    obtain ⟨xs, hq, hx⟩ := hg
    obtain ⟨its, rv, p⟩ := inv_seqA I hq
    obtain ⟨f0, f1, f2, f3, f4, f5⟩ := hf it (by simp)
    have hl := rv.length
    have hn : its.toArray.size = i := by simp; omega
    have D := drawsB (prog := X.prog) (w := X.w) (A := X.A.in1) (I.ok.hd hc) b it a nai its.toArray
    rw [hn] at D
    exact wpAny_pyNext_enum_endD D he ⟨hit, p⟩ fun h' eb => ⟨rfl, I.turned (t' := s.toks) (fun c o hb q => eb c o hb q) f0 f1 f3 f4 f5⟩
  self := fun A i s Q E st h => let ⟨⟨_, he⟩, _⟩ := st; wpAny_pyIter_enum he h
def iEnumA (K : PySem.W.Frag) (ta : TA) : TI := fun σ H R => ta σ H fun vs H1 => ∃ b a xs, vs = [.ref a] ∧ SqA K H1 b a xs ∧ R (IteA K b a) H1
theorem pi_enumA {X : Cx} {e : Expr} {ta : TA} {p pos tpos : Pos} {elts : List Expr} {kk : Nat} (hg : Gl X "enumerate") (hm : X.mg "enumerate" = none) (ha : PA X [e] ta) (hs : starEach [e] X.env = [(false, eval e X.env)] := by rfl) :
    PI X (.Tuple elts kk tpos) (.Call (.Name "enumerate" p) [e] [] pos) (iEnumA X.K ta) := by
  refine ⟨fun pins s σ H R I h => ?_⟩
  refine Call_ (ld_blt I hg hm boot_enumerate (PyProof.Rows.callWith_type1 (thn (ha.run pos pins s σ H _ I h) fun us s1 ⟨vs, H1, I1, r1, q1⟩ => ?_) hs rfl))
  obtain ⟨b, a, xs, ex, hq, q⟩ := q1
  subst ex
  cases r1 with
  | cons r rr =>
    cases rr
    cases r
    obtain ⟨its, rv, p'⟩ := inv_seqA I1 hq
    have ha' := seqB_live p'
    refine call_enum1 (beginsB b a its.toArray) p' fun h' he hit hsz hk => wpAny_pyIter_enum he ?_
    have I2 : Inv X pins σ H1 { s1 with heap := h' } := I1.kept (t' := s1.toks) hk
    refine ⟨s1.heap.objs.size + 1, [s1.heap.objs.size + 1, s1.heap.objs.size], _, _, H1, rfl, I2, turn_enumA b a (s1.heap.objs.size + 1) s1.heap.objs.size (Nat.succ_ne_self _) (Nat.ne_of_lt (Nat.lt_succ_of_lt ha')) (Nat.ne_of_lt ha'), ⟨⟨.none, he⟩, itA_new hit⟩, fun c hb => ?_, q⟩
    have hle : s1.heap.objs.size ≤ c := by
      rcases (by simpa using hb : c = s1.heap.objs.size + 1 ∨ c = s1.heap.objs.size) with z | z
      · rw [z]; exact Nat.le_add_right _ _
      · rw [z]; exact Nat.le_refl _
    exact I1.fpOk hle (I1.hok.fresh hle)

def ItzA (K : PySem.W.Frag) (b c : Bool) (p q : Addr) : It :=
  ⟨fun i H => ∃ (xs ys : List V) (x y : V), SqA K H b p xs ∧ SqA K H c q ys ∧ xs[i]? = some x ∧ ys[i]? = some y,
    fun i H v H' => ∃ T x y, v = .ref T ∧ H T = none ∧ H' = L2.upd H T (.tup [x, y]) ∧ (∀ xs, SqA K H b p xs → xs[i]? = some x) ∧ ∀ ys, SqA K H c q ys → ys[i]? = some y,
    fun i H => ∃ xs ys : List V, SqA K H b p xs ∧ SqA K H c q ys ∧ i ≤ xs.length ∧ i ≤ ys.length ∧ (i = xs.length ∨ i = ys.length)⟩
theorem turn_zipB {P : Program} {w : World} {K : PySem.W.Frag} {elts : List Expr} {kk : Nat} {tpos : Pos} {b c : Bool} {p q z TI TO i1 i2 : Addr} (D : ZipSep2 z TI TO i1 i2 [i1, p] [i2, q]) (n1 : p ≠ i1) (n2 : q ≠ i2) :
    Turn P w K (.Tuple elts kk tpos) (ItzA K b c p q) [z, TI, TO, i1, i2] z (fun i h => IsZip h z TI TO .none ∧ IsTupOf2 h TI (.ref i1) (.ref i2) ∧ (∃ x y, IsTupOf2 h TO x y) ∧ ItA h b i1 p i ∧ ItA h c i2 q i) where
  mem := by simp
  obj := fun i h st k hk => by
    obtain ⟨hz, hTI, ⟨x, y, hTO⟩, h1, h2⟩ := st
    rcases (by simpa using hk : k = z ∨ k = TI ∨ k = TO ∨ k = i1 ∨ k = i2) with e | e | e | e | e
    · rw [e]; exact ⟨_, hz, fun v q => nomatch q⟩
    · rw [e]; exact ⟨_, hTI, fun v q => nomatch q⟩
    · rw [e]; exact ⟨_, hTO, fun v q => nomatch q⟩
    · rw [e]; exact h1.ob
    · rw [e]; exact h2.ob
  keep := fun i h h' st k => by
    obtain ⟨hz, hTI, ⟨x, y, hTO⟩, h1, h2⟩ := st
    exact ⟨k z (by simp) _ hz, k TI (by simp) _ hTI, ⟨x, y, k TO (by simp) _ hTO⟩, h1.at' fun o q => k i1 (by simp) o q, h2.at' fun o q => k i2 (by simp) o q⟩
  item := by
    intro X hP hw hK hc i pins s σ H E I hf st hg
    subst hP hw hK
    obtain ⟨hz, hTI, ⟨x0, y0, hTO⟩, h1, h2⟩ := st
    obtain ⟨xs, ys, x, y, hqx, hqy, hx, hy⟩ := hg
    obtain ⟨its, rv, p1⟩ := inv_seqA I hqx
    obtain ⟨its2, rv2, p2⟩ := inv_seqA I hqy
    obtain ⟨u, hu, ru⟩ := rv.get hx
    obtain ⟨u2, hu2, ru2⟩ := rv2.get hy
    have hlt : i < its.toArray.size := by
      have := (List.getElem?_eq_some_iff.mp hu).1
      simpa using this
    have hlt2 : i < its2.toArray.size := by
      have := (List.getElem?_eq_some_iff.mp hu2).1
      simpa using this
    have hzl : z < s.heap.objs.size := Heap.lt_size hz
    refine wpAny_pyNext_zipD2_item D (drawsB (A := X.A.in1) (I.ok.hd hc) b i1 p n1 its.toArray) (drawsB (A := X.A.in1) (I.ok.hd hc) c i2 q n2 its2.toArray) hz hTI hTO ⟨h1, p1⟩ ⟨h2, p2⟩ hlt hlt2 fun y1 y2 h' tk e1 e2 z' TO' s1 s2 hT hsz hk => ?_
    have hyu : y1 = u := by
      have h1 : its[i]? = some y1 := by simpa using e1
      rw [hu] at h1; exact (Option.some.inj h1).symm
    have hyu2 : y2 = u2 := by
      have h1 : its2[i]? = some y2 := by simpa using e2
      rw [hu2] at h1; exact (Option.some.inj h1).symm
    subst hyu hyu2
    refine ⟨_, rfl, wpAny_letOwnedTupleGo_zip (s := { s with heap := h', toks := tk }) z' fun h'' z'' sb => ?_⟩
    have hT2 : h''.get? s.heap.objs.size = some { cls := .type "tuple", data := .seq #[y1, y2] } := (sb.2 _ (Nat.ne_of_gt hzl)).trans hT
    have new : ObjOk X.prog X.w (L2.upd H s.heap.objs.size (.tup [x, y])) h'' s.heap.objs.size (.tup [x, y]) :=
      ⟨by show 2 ≤ sizeLine; decide, [y1, y2], .cons ru (.cons ru2 .nil), ⟨_, hT2, rfl, _, rfl⟩⟩
    have I1 : Inv X pins σ (L2.upd H s.heap.objs.size (.tup [x, y])) { s with heap := h'', toks := tk } :=
      I.turnedNew (t' := tk) (ch := [z, TI, TO, i1, i2]) (fun k o hb q => (sb.2 k (fun q' => hb (by simp [q']))).trans (hk k o (fun q' => hb (by simp [q'])) (fun q' => hb (by simp [q'])) (fun q' => hb (by simp [q'])) (fun q' => hb (by simp [q'])) q)) hf (Nat.le_refl _) new
    have TIi1 := D.TIi1
    have TIi2 := D.TIi2
    refine ⟨.ref s.heap.objs.size, _, I1, rfl, ⟨_, x, y, rfl, I.hok.fresh (Nat.le_refl _), rfl, fun l hl => by rw [inv_injA I hl hqx]; exact hx, fun l hl => by rw [inv_injA I hl hqy]; exact hy⟩, ⟨z'', ?_, ⟨y1, y2, ?_⟩, ?_, ?_⟩, fun k hk' => ?_⟩
    · exact (sb.2 _ D.TIz).trans (hk _ _ D.TIz D.TITO TIi1 TIi2 hTI)
    · exact (sb.2 _ D.TOz).trans TO'
    · exact s1.1.at' fun o q => (sb.2 _ (Ne.symm D.zi1)).trans q
    · exact s2.1.at' fun o q => (sb.2 _ (Ne.symm D.zi2)).trans q
    · have hlt : k < s.heap.objs.size := by
        rcases (by simpa using hk' : k = z ∨ k = TI ∨ k = TO ∨ k = i1 ∨ k = i2) with e | e | e | e | e
        · rw [e]; exact hzl
        · rw [e]; exact Heap.lt_size hTI
        · rw [e]; exact Heap.lt_size hTO
        · rw [e]; obtain ⟨_, e1, _⟩ := h1.ob; exact Heap.lt_size e1
        · rw [e]; obtain ⟨_, e2, _⟩ := h2.ob; exact Heap.lt_size e2
      rw [upd_ne (Nat.ne_of_lt hlt)]
      exact (hf k hk').1
  done := by
    intro X hP hw hK hc i pins s σ H E I hf st hg
    subst hP hw hK
    obtain ⟨hz, hTI, ⟨x0, y0, hTO⟩, h1, h2⟩ := st
    obtain ⟨xs, ys, hqx, hqy, l1, l2, hend⟩ := hg
    obtain ⟨its, rv, p1⟩ := inv_seqA I hqx
    obtain ⟨its2, rv2, p2⟩ := inv_seqA I hqy
    have e1 := rv.length
    have e2 := rv2.length
    exact wpAny_pyNext_zipD2_end D (drawsB (A := X.A.in1) (I.ok.hd hc) b i1 p n1 its.toArray) (drawsB (A := X.A.in1) (I.ok.hd hc) c i2 q n2 its2.toArray) hz hTI hTO ⟨h1, p1⟩ ⟨h2, p2⟩ (by simp; omega) (by simp; omega) (by simp; omega) fun h' tk hk =>
      ⟨rfl, I.turnedL (t' := tk) (ch := [z, TI, TO, i1, i2]) (fun k o hb q => hk k o (fun q' => hb (by simp [q'])) (fun q' => hb (by simp [q'])) (fun q' => hb (by simp [q'])) (fun q' => hb (by simp [q'])) q) hf⟩
  self := fun A i s Q E st h => wpAny_pyIter_zip st.1 h
def iZipB (K : PySem.W.Frag) (ta : TA) : TI := fun σ H R => ta σ H fun vs H1 => ∃ b c p q xs ys, vs = [.ref p, .ref q] ∧ SqA K H1 b p xs ∧ SqA K H1 c q ys ∧ R (ItzA K b c p q) H1
theorem pi_zipB {X : Cx} {e e2 : Expr} {ta : TA} {p pos tpos : Pos} {elts : List Expr} {kk : Nat} (hg : Gl X "zip") (hm : X.mg "zip" = none) (ha : PA X [e, e2] ta)
    (hs : starEach [e, e2] X.env = (false, eval e X.env) :: starEach [e2] X.env := by rfl) (hpl : (backTo pos (starEach [e2] X.env)).any (·.1) = false := by rfl) :
    PI X (.Tuple elts kk tpos) (.Call (.Name "zip" p) [e, e2] [] pos) (iZipB X.K ta) := by
  refine ⟨fun pins s σ H R I h => ?_⟩
  refine Call_ (ld_blt I hg hm PyProof.Rows.boot_zip (PyProof.Rows.callWith_type1 (thn (ha.run pos pins s σ H _ I h) fun us s1 ⟨vs, H1, I1, r1, q1⟩ => ?_) hs hpl))
  obtain ⟨b, c, p, q, xs, ys, ex, hqx, hqy, q1⟩ := q1
  subst ex
  cases r1 with
  | cons r rr =>
    cases rr with
    | cons r' rr =>
      cases rr
      cases r
      cases r'
      obtain ⟨its, rv, p1⟩ := inv_seqA I1 hqx
      obtain ⟨its2, rv2, p2⟩ := inv_seqA I1 hqy
      have l1 := seqB_live p1
      have l2 := seqB_live p2
      have sep : ZipSep2 (s1.heap.objs.size + 4) (s1.heap.objs.size + 2) (s1.heap.objs.size + 3) s1.heap.objs.size (s1.heap.objs.size + 1) [s1.heap.objs.size, p] [s1.heap.objs.size + 1, q] :=
        zip_sep2 (fp1 := [p]) (fp2 := [q]) (fun k hk => by rw [List.mem_singleton.mp hk]; exact l1) (fun k hk => by rw [List.mem_singleton.mp hk]; exact l2)
      refine zip_begins2 (beginsB b p its.toArray) (beginsB c q its2.toArray) p1 p2 fun h' hz hTI hTO h1 h2 hsz hk => wpAny_pyIter_zip hz ?_
      have I2 : Inv X pins σ H1 { s1 with heap := h' } := I1.kept (t' := s1.toks) hk
      refine ⟨s1.heap.objs.size + 4, [s1.heap.objs.size + 4, s1.heap.objs.size + 2, s1.heap.objs.size + 3, s1.heap.objs.size, s1.heap.objs.size + 1], _, _, H1, rfl, I2,
        turn_zipB sep (Nat.ne_of_lt l1) (Nat.ne_of_lt (Nat.lt_succ_of_lt l2)), ⟨hz, hTI, ⟨_, _, hTO⟩, itA_new h1, itA_new h2⟩, fun k hk' => ?_, q1⟩
      have hle : s1.heap.objs.size ≤ k := by
        rcases (by simpa using hk' : k = s1.heap.objs.size + 4 ∨ k = s1.heap.objs.size + 2 ∨ k = s1.heap.objs.size + 3 ∨ k = s1.heap.objs.size ∨ k = s1.heap.objs.size + 1) with z | z | z | z | z
        · rw [z]; exact Nat.le_add_right _ _
        · rw [z]; exact Nat.le_add_right _ _
        · rw [z]; exact Nat.le_add_right _ _
        · rw [z]; exact Nat.le_refl _
        · rw [z]; exact Nat.le_add_right _ _
      exact I1.fpOk hle (I1.hok.fresh hle)

/-! their pure side -/
def enL (ds : List D) : List D := ds.mapIdx fun i d => .tup [.int (i : Nat), d]
def zpL (xs ys : List D) : List D := List.zipWith (fun x y => .tup [x, y]) xs ys
def enD : List D → Option (List D)
  | [d] => (seqD d).map enL
  | _ => none
def zpD : List D → Option (List D)
  | [d, e] => match seqD d, seqD e with
    | some xs, some ys => some (zpL xs ys)
    | _, _ => none
  | _ => none
section
variable {K : PySem.W.Frag} {pd : Option PD} {F H : Hp}
theorem seqS {d : D} {v : V} {ds : List D} (r : Rep K pd F d v) (e : seqD d = some ds) : ∃ b a xs, v = .ref a ∧ ds.length ≤ SZ ∧ ∀ F1 H1, Same F F1 → Same F1 H1 → SqA K H1 b a xs ∧ RepL K pd F1 ds xs := by
  cases d <;> first | (cases e; done) | skip
  · cases e
    simp only [Rep] at r
    obtain ⟨a, xs, rfl, t1, hl, r⟩ := r
    exact ⟨true, a, xs, rfl, hl, fun F1 H1 f1 f2 => ⟨sqT_mono f2 (sqT_mono f1 t1), r.mono f1⟩⟩
  · cases e
    simp only [Rep] at r
    obtain ⟨a, xs, rfl, t1, hl, r⟩ := r
    exact ⟨false, a, xs, rfl, hl, fun F1 H1 f1 f2 => ⟨.of (f2 _ _ (f1 _ _ t1)), r.mono f1⟩⟩
theorem seqW {d : D} {v : V} {ds : List D} (r : RepB K pd F H d v) (e : seqD d = some ds) : ∃ b a xs, v = .ref a ∧ ds.length ≤ SZ ∧ ∀ F1 H1, Ext pd F H F1 H1 → SqA K H1 b a xs ∧ RepL K pd F1 ds xs := by
  rcases r with r | ⟨p, es, xs, rfl, rfl, h3, h4, h5, h6, h7⟩
  · obtain ⟨b, a, xs, h1, h2, h3⟩ := seqS r e
    exact ⟨b, a, xs, h1, h2, fun F1 H1 x => h3 F1 H1 x.ff x.fh⟩
  · cases e
    exact ⟨false, p, xs, rfl, h6, fun F1 H1 x => ⟨.of (x.hh _ _ h3 h4), h7.mono x.ff⟩⟩
theorem walk_en {G : Hp → Hp → Prop} {b : Bool} {a : Addr} {xs : List V} {ds : List D} (hG : ∀ F1 H1, G F1 H1 → Same F1 H1 ∧ SqA K H1 b a xs ∧ RepL K pd F1 ds xs) (i : Nat) (F1 H1 : Hp) (g : G F1 H1) :
    (∀ d, (enL ds)[i]? = some d → (IteA K b a).go i H1 ∧ ∀ x H2, (IteA K b a).yld i H1 x H2 → ∃ F2, Ext none F1 H1 F2 H2 ∧ Rep K pd F2 d x) ∧ (i = (enL ds).length → (IteA K b a).stop i H1) := by
  obtain ⟨fh, h1, h2⟩ := hG F1 H1 g
  refine ⟨fun d hd => ?_, fun e => ⟨xs, h1, by rw [h2.length, e]; simp [enL]⟩⟩
  unfold enL at hd
  rw [List.getElem?_mapIdx] at hd
  cases hdd : ds[i]? with
  | none => rw [hdd] at hd; cases hd
  | some d0 =>
    rw [hdd] at hd
    have hd := (Option.some.inj hd).symm
    subst hd
    obtain ⟨y, hy, ry⟩ := h2.get hdd
    refine ⟨⟨xs, y, h1, hy⟩, fun x H2 ⟨T, z, e1, e2, e3, e4⟩ => ?_⟩
    subst e1 e3
    have := e4 xs h1
    rw [hy] at this; cases this
    have x2 := Ext.new (o := .tup [V.int (i : Nat), y]) fh e2
    refine ⟨_, x2, ?_⟩
    simp only [Rep]
    exact ⟨T, _, rfl, .of upd_same, (by show 2 ≤ sizeLine; decide), .cons (by simp [Rep]) (.cons (ry.mono x2.ff) .nil)⟩
theorem walk_zp {G : Hp → Hp → Prop} {b c : Bool} {p q : Addr} {xs ys : List V} {ds es : List D} (hG : ∀ F1 H1, G F1 H1 → Same F1 H1 ∧ (SqA K H1 b p xs ∧ RepL K pd F1 ds xs) ∧ SqA K H1 c q ys ∧ RepL K pd F1 es ys) (i : Nat) (F1 H1 : Hp) (g : G F1 H1) :
    (∀ d, (zpL ds es)[i]? = some d → (ItzA K b c p q).go i H1 ∧ ∀ x H2, (ItzA K b c p q).yld i H1 x H2 → ∃ F2, Ext none F1 H1 F2 H2 ∧ Rep K pd F2 d x) ∧ (i = (zpL ds es).length → (ItzA K b c p q).stop i H1) := by
  obtain ⟨fh, ⟨h1, h2⟩, h3, h4⟩ := hG F1 H1 g
  refine ⟨fun d hd => ?_, fun e => ⟨xs, ys, h1, h3, ?_⟩⟩
  · unfold zpL at hd
    rw [List.getElem?_zipWith] at hd
    cases hdd : ds[i]? with
    | none => rw [hdd] at hd; cases hd
    | some d0 =>
      cases hee : es[i]? with
      | none => rw [hdd, hee] at hd; cases hd
      | some e0 =>
        rw [hdd, hee] at hd
        have hd := (Option.some.inj hd).symm
        subst hd
        obtain ⟨y, hy, ry⟩ := h2.get hdd
        obtain ⟨y', hy', ry'⟩ := h4.get hee
        refine ⟨⟨xs, ys, y, y', h1, h3, hy, hy'⟩, fun x H2 ⟨T, z, z', e1, e2, e3, e4, e5⟩ => ?_⟩
        subst e1 e3
        have a1 := e4 xs h1
        rw [hy] at a1; cases a1
        have a2 := e5 ys h3
        rw [hy'] at a2; cases a2
        have x2 := Ext.new (o := .tup [y, y']) fh e2
        refine ⟨_, x2, ?_⟩
        simp only [Rep]
        exact ⟨T, _, rfl, .of upd_same, (by show 2 ≤ sizeLine; decide), .cons (ry.mono x2.ff) (.cons (ry'.mono x2.ff) .nil)⟩
  · have : (zpL ds es).length = min ds.length es.length := by simp [zpL]
    rw [this] at e
    rw [h2.length, h4.length]
    omega
end
section
variable {ι : Type} {X : ι → Cx} {P : Program} {w : World} {K : PySem.W.Frag} {mg : Str → Option Value} {base : Heap} {N : List Str} {lv : Nat} {pos : Pos} {a b c e : Expr} {es elts : List Expr} {f fa fb fc : EF} {g : AF} {kk : Nat} {tpos p : Pos}
theorem iEnE (C : Fam X P w K mg base N lv) (hm : mg "enumerate" = none) (h : CA X K [a] g) (hg : ∀ i, Gl (X i) "enumerate" := by intro _; rfl) (hs : ∀ i, starEach [a] (X i).env = [(false, eval a (X i).env)] := by intro _; rfl) :
    CI X K (.Tuple elts kk tpos) (.Call (.Name "enumerate" p) [a] [] pos) (iRg enD g) := by
  obtain ⟨t, h1, h2⟩ := h
  refine ⟨iEnumA K t, fun i => by have := pi_enumA (pos := pos) (p := p) (elts := elts) (kk := kk) (tpos := tpos) (hg i) (by rw [C.m i]; exact hm) (h1 i) (hs i); rw [C.k i] at this; exact this, fun pd F0 H0 F H ρ σ s d s' o e R q => ?_⟩
  obtain ⟨xs, s1, e1, e⟩ := Mb_eq e
  obtain ⟨e2, rfl⟩ := Mo_eq e
  refine h2 pd F0 H0 F H ρ σ s xs s1 o e1 _ fun vs F1 H1 x1 d1 r1 => ?_
  have fh := (o.step x1 d1).fh
  unfold enD at e2
  split at e2
  · rename_i d0
    obtain ⟨y, ys, rfl, h3, h4⟩ := r1.cases
    have := h4.cases0; subst this
    cases h5 : seqD d0 with
    | none => rw [h5] at e2; cases e2
    | some ds =>
      rw [h5] at e2; cases e2
      obtain ⟨b, a, zs, rfl, hl, k⟩ := seqS h3 h5
      exact ⟨b, a, zs, rfl, (k F1 H1 (Same.refl _) fh).1, q _ F1 H1 x1 d1 ⟨by simp [enL]; exact hl, fun i F2 H2 f2 f3 => walk_en (G := fun F2 H2 => Same F1 F2 ∧ Same F2 H2) (fun F2 H2 g => ⟨g.2, k F2 H2 g.1 g.2⟩) i F2 H2 ⟨f2, f3⟩⟩⟩
  · cases e2
theorem iEnB (C : Fam X P w K mg base N lv) (hm : mg "enumerate" = none) (h : CAB X K [a] g) (hg : ∀ i, Gl (X i) "enumerate" := by intro _; rfl) (hs : ∀ i, starEach [a] (X i).env = [(false, eval a (X i).env)] := by intro _; rfl) :
    CIW X K (.Tuple elts kk tpos) (.Call (.Name "enumerate" p) [a] [] pos) (iRg enD g) := by
  obtain ⟨t, h1, h2⟩ := h
  refine ⟨iEnumA K t, fun i => by have := pi_enumA (pos := pos) (p := p) (elts := elts) (kk := kk) (tpos := tpos) (hg i) (by rw [C.m i]; exact hm) (h1 i) (hs i); rw [C.k i] at this; exact this, fun pd F0 H0 F H ρ σ s d s' o e R q => ?_⟩
  obtain ⟨xs, s1, e1, e⟩ := Mb_eq e
  obtain ⟨e2, rfl⟩ := Mo_eq e
  refine h2 pd F0 H0 F H ρ σ s xs s1 o e1 _ fun vs F1 H1 x1 d1 r1 => ?_
  have fh := (o.step x1 d1).fh
  unfold enD at e2
  split at e2
  · rename_i d0
    cases r1 with
    | cons h3 h4 =>
      cases h4
      cases h5 : seqD d0 with
      | none => rw [h5] at e2; cases e2
      | some ds =>
        rw [h5] at e2; cases e2
        obtain ⟨b, a, zs, rfl, hl, k⟩ := seqW h3 h5
        exact ⟨b, a, zs, rfl, (k F1 H1 (.refl fh)).1, q _ F1 H1 x1 d1 ⟨by simp [enL]; exact hl, fun i F2 H2 f2 => walk_en (G := fun F2 H2 => Ext pd F1 H1 F2 H2) (fun F2 H2 g => ⟨g.fh, k F2 H2 g⟩) i F2 H2 f2⟩⟩
  · cases e2
theorem iZpE (C : Fam X P w K mg base N lv) (hm : mg "zip" = none) (h : CA X K [a, b] g) (hg : ∀ i, Gl (X i) "zip" := by intro _; rfl) (hs : ∀ i, starEach [a, b] (X i).env = (false, eval a (X i).env) :: starEach [b] (X i).env := by intro _; rfl)
    (hpl : ∀ i, (backTo pos (starEach [b] (X i).env)).any (·.1) = false := by intro _; rfl) : CI X K (.Tuple elts kk tpos) (.Call (.Name "zip" p) [a, b] [] pos) (iRg zpD g) := by
  obtain ⟨t, h1, h2⟩ := h
  refine ⟨iZipB K t, fun i => by have := pi_zipB (pos := pos) (p := p) (elts := elts) (kk := kk) (tpos := tpos) (hg i) (by rw [C.m i]; exact hm) (h1 i) (hs i) (hpl i); rw [C.k i] at this; exact this, fun pd F0 H0 F H ρ σ s d s' o e R q => ?_⟩
  obtain ⟨xs, s1, e1, e⟩ := Mb_eq e
  obtain ⟨e2, rfl⟩ := Mo_eq e
  refine h2 pd F0 H0 F H ρ σ s xs s1 o e1 _ fun vs F1 H1 x1 d1 r1 => ?_
  have fh := (o.step x1 d1).fh
  unfold zpD at e2
  split at e2
  · rename_i d0 d1'
    obtain ⟨y, ys, rfl, h3, h4⟩ := r1.cases
    obtain ⟨y', ys', rfl, h3', h4'⟩ := h4.cases
    have := h4'.cases0; subst this
    cases h5 : seqD d0 with
    | none => rw [h5] at e2; cases e2
    | some ds =>
      cases h6 : seqD d1' with
      | none => rw [h5, h6] at e2; cases e2
      | some ds' =>
        rw [h5, h6] at e2; cases e2
        obtain ⟨b, a, zs, rfl, hl, k⟩ := seqS h3 h5
        obtain ⟨b', a', zs', rfl, hl', k'⟩ := seqS h3' h6
        exact ⟨b, b', a, a', zs, zs', rfl, (k F1 H1 (Same.refl _) fh).1, (k' F1 H1 (Same.refl _) fh).1, q _ F1 H1 x1 d1 ⟨by simp [zpL]; omega, fun i F2 H2 f2 f3 => walk_zp (G := fun F2 H2 => Same F1 F2 ∧ Same F2 H2) (fun F2 H2 g => ⟨g.2, k F2 H2 g.1 g.2, k' F2 H2 g.1 g.2⟩) i F2 H2 ⟨f2, f3⟩⟩⟩
  · cases e2
theorem iZpB (C : Fam X P w K mg base N lv) (hm : mg "zip" = none) (h : CAB X K [a, b] g) (hg : ∀ i, Gl (X i) "zip" := by intro _; rfl) (hs : ∀ i, starEach [a, b] (X i).env = (false, eval a (X i).env) :: starEach [b] (X i).env := by intro _; rfl)
    (hpl : ∀ i, (backTo pos (starEach [b] (X i).env)).any (·.1) = false := by intro _; rfl) : CIW X K (.Tuple elts kk tpos) (.Call (.Name "zip" p) [a, b] [] pos) (iRg zpD g) := by
  obtain ⟨t, h1, h2⟩ := h
  refine ⟨iZipB K t, fun i => by have := pi_zipB (pos := pos) (p := p) (elts := elts) (kk := kk) (tpos := tpos) (hg i) (by rw [C.m i]; exact hm) (h1 i) (hs i) (hpl i); rw [C.k i] at this; exact this, fun pd F0 H0 F H ρ σ s d s' o e R q => ?_⟩
  obtain ⟨xs, s1, e1, e⟩ := Mb_eq e
  obtain ⟨e2, rfl⟩ := Mo_eq e
  refine h2 pd F0 H0 F H ρ σ s xs s1 o e1 _ fun vs F1 H1 x1 d1 r1 => ?_
  have fh := (o.step x1 d1).fh
  unfold zpD at e2
  split at e2
  · rename_i d0 d1'
    cases r1 with
    | cons h3 h4 =>
      cases h4 with
      | cons h3' h4' =>
        cases h4'
        cases h5 : seqD d0 with
        | none => rw [h5] at e2; cases e2
        | some ds =>
          cases h6 : seqD d1' with
          | none => rw [h5, h6] at e2; cases e2
          | some ds' =>
            rw [h5, h6] at e2; cases e2
            obtain ⟨b, a, zs, rfl, hl, k⟩ := seqW h3 h5
            obtain ⟨b', a', zs', rfl, hl', k'⟩ := seqW h3' h6
            exact ⟨b, b', a, a', zs, zs', rfl, (k F1 H1 (.refl fh)).1, (k' F1 H1 (.refl fh)).1, q _ F1 H1 x1 d1 ⟨by simp [zpL]; omega, fun i F2 H2 f2 => walk_zp (G := fun F2 H2 => Ext pd F1 H1 F2 H2) (fun F2 H2 g => ⟨g.fh, k F2 H2 g, k' F2 H2 g⟩) i F2 H2 f2⟩⟩
  · cases e2
end
end Pu
namespace Pu
open PySem PySem.Spec PyProof.Rows L2

theorem blk_sc {ι : Type} {X : ι → Cx} {sc : Scope} {b : BlkI ι} : (blkF X sc b).env.scope = L2.relS sc (X b.i).env.scope := rfl
theorem ent_sc {P : Program} {w : World} {K : PySem.W.Frag} {mg : Str → Option Value} {base : Heap} {N : List Str} {k : Nat} {qual : Str} {scope : Scope} {f : Addr} {i : EntI k qual scope f} : (entF P w K mg base N k qual scope f i).env.scope = scope := rfl
theorem bt_len : bootBuiltins "len" = some (.builtin "len") := by decide +kernel
theorem bt_sum : bootBuiltins "sum" = some (.builtin "sum") := by decide +kernel
theorem bt_min : bootBuiltins "min" = some (.builtin "min") := by decide +kernel
theorem bt_max : bootBuiltins "max" = some (.builtin "max") := by decide +kernel
theorem bt_all : bootBuiltins "all" = some (.builtin "all") := by decide +kernel
theorem bt_any : bootBuiltins "any" = some (.builtin "any") := by decide +kernel
theorem bt_abs : bootBuiltins "abs" = some (.builtin "abs") := by decide +kernel
theorem bt_sorted : bootBuiltins "sorted" = some (.builtin "sorted") := by decide +kernel
theorem bt_tuple : bootBuiltins "tuple" = some (.type "tuple") := by decide +kernel
theorem bt_list : bootBuiltins "list" = some (.type "list") := by decide +kernel
theorem bt_int : bootBuiltins "int" = some (.type "int") := by decide +kernel
theorem roomU {lv : Nat} {A : Around} (r : Room lv A) : A.units + 200 < cLine := by have := r.un; omega

/-! ### D and the library's data -/
mutual
theorem toP_inj : ∀ {x y : D}, clean x = true → clean y = true → toP x = toP y → x = y
  | .non, y, _, c, e => by cases y <;> simp [toP] at e <;> first | rfl | simp [clean] at c
  | .bl a, y, _, c, e => by cases y <;> simp [toP] at e <;> first | (rw [e]; done) | simp [clean] at c
  | .int a, y, _, c, e => by cases y <;> simp [toP] at e <;> first | (rw [e]; done) | simp [clean] at c
  | .str a, y, _, c, e => by cases y <;> simp [toP] at e <;> first | (rw [e]; done) | simp [clean] at c
  | .rng, y, c, _, e => by simp [clean] at c
  | .tup a, y, c, c', e => by
    cases y <;> simp [toP] at e
    rw [toPs_inj (by simpa only [clean] using c) (by simpa only [clean] using c') e]
  | .lst a, y, c, c', e => by
    cases y <;> simp [toP] at e
    rw [toPs_inj (by simpa only [clean] using c) (by simpa only [clean] using c') e]
theorem toPs_inj : ∀ {x y : List D}, cleanL x = true → cleanL y = true → toPs x = toPs y → x = y
  | [], [], _, _, _ => rfl
  | [], _ :: _, _, _, e => by simp [toPs] at e
  | _ :: _, [], _, _, e => by simp [toPs] at e
  | a :: as, b :: bs, c, c', e => by
    simp only [toPs, List.cons.injEq] at e
    simp only [cleanL, Bool.and_eq_true] at c c'
    rw [toP_inj c.1 c'.1 e.1, toPs_inj c.2 c'.2 e.2]
end
theorem cleanL_all : ∀ {ds : List D}, cleanL ds = true ↔ ∀ d ∈ ds, clean d = true
  | [] => by simp [cleanL]
  | d :: ds => by simp [cleanL, cleanL_all (ds := ds)]

/-! ### order -/
def ordOk (x y : D) : Bool := cmpOk x && cmpOk y && PySem.W.alike (toP x) (toP y) && !isNonD x
def ltA (x y : D) : Option D := if ordOk x y = true then some (.bl (PySem.W.dataLt (toP x) (toP y))) else none
def gtA (x y : D) : Option D := if ordOk x y = true then some (.bl (PySem.W.dataLt (toP y) (toP x))) else none
def leA (x y : D) : Option D := if ordOk x y = true then some (.bl (!PySem.W.dataLt (toP y) (toP x))) else none
def geA (x y : D) : Option D := if ordOk x y = true then some (.bl (!PySem.W.dataLt (toP x) (toP y))) else none
theorem ordOk_ii (a b : Int) : ordOk (.int a) (.int b) = true := by simp [ordOk, cmpOk, clean, toP, SeqAt.shaped, PyData.canLay0, PyData.depth, PySem.W.alike, isNonD]
@[simp] theorem ltA_ii (a b : Int) : ltA (.int a) (.int b) = some (.bl (decide (a < b))) := by unfold ltA; rw [if_pos (ordOk_ii a b)]; simp [toP, PySem.W.dataLt_int]
@[simp] theorem gtA_ii (a b : Int) : gtA (.int a) (.int b) = some (.bl (decide (b < a))) := by unfold gtA; rw [if_pos (ordOk_ii a b)]; simp [toP, PySem.W.dataLt_int]
@[simp] theorem leA_ii (a b : Int) : leA (.int a) (.int b) = some (.bl (decide (a ≤ b))) := by unfold leA; rw [if_pos (ordOk_ii a b)]; simp only [toP, PySem.W.dataLt_int, ← decide_not]; exact congrArg (fun z => some (D.bl z)) (decide_eq_decide.mpr (by omega))
@[simp] theorem geA_ii (a b : Int) : geA (.int a) (.int b) = some (.bl (decide (b ≤ a))) := by unfold geA; rw [if_pos (ordOk_ii a b)]; simp only [toP, PySem.W.dataLt_int, ← decide_not]; exact congrArg (fun z => some (D.bl z)) (decide_eq_decide.mpr (by omega))
def rOrd (K : PySem.W.Frag) (f : PyData → PyData → Bool) : R2 := fun x y H Q => ∃ d e, Dp K H x d ∧ Dp K H y e ∧ PySem.W.alike d e = true ∧ d ≠ .none ∧ d.depth ≤ 64 ∧ Q (.bl (f d e)) H
section
variable {X : Cx} {K : PySem.W.Frag}
theorem dmin {d e : PyData} (h : d.depth ≤ 64) : min d.depth e.depth ≤ 64 := Nat.le_trans (Nat.min_le_left _ _) h
theorem op_ltA (hk : X.K = K) (hu : X.A.units + 200 < cLine) : OpR X (compareOp .Lt) (rOrd K fun d e => PySem.W.dataLt d e) := by
  subst hk
  intro pins s σ H x y v u Q I rx ry ⟨d, e, hd, he, ha, hn, hz, q⟩
  obtain ⟨as, r1⟩ := Dp.reads I d x v hd rx
  obtain ⟨bs, r2⟩ := Dp.reads I e y u he ry
  have := dmin (e := e) hz
  exact PySem.W.lt_data r1 r2 ha hn (by omega) ⟨.bl _, H, I, rfl, q⟩
theorem op_gtA (hk : X.K = K) (hu : X.A.units + 200 < cLine) : OpR X (compareOp .Gt) (rOrd K fun d e => PySem.W.dataLt e d) := by
  subst hk
  intro pins s σ H x y v u Q I rx ry ⟨d, e, hd, he, ha, hn, hz, q⟩
  obtain ⟨as, r1⟩ := Dp.reads I d x v hd rx
  obtain ⟨bs, r2⟩ := Dp.reads I e y u he ry
  have := dmin (e := e) hz
  exact PySem.W.gt_data r1 r2 ha hn (by omega) ⟨.bl _, H, I, rfl, q⟩
theorem op_leA (hk : X.K = K) (hu : X.A.units + 200 < cLine) : OpR X (compareOp .LtE) (rOrd K fun d e => !PySem.W.dataLt e d) := by
  subst hk
  intro pins s σ H x y v u Q I rx ry ⟨d, e, hd, he, ha, hn, hz, q⟩
  obtain ⟨as, r1⟩ := Dp.reads I d x v hd rx
  obtain ⟨bs, r2⟩ := Dp.reads I e y u he ry
  have := dmin (e := e) hz
  exact PySem.W.le_data r1 r2 ha hn (by omega) ⟨.bl _, H, I, rfl, q⟩
theorem op_geA (hk : X.K = K) (hu : X.A.units + 200 < cLine) : OpR X (compareOp .GtE) (rOrd K fun d e => !PySem.W.dataLt d e) := by
  subst hk
  intro pins s σ H x y v u Q I rx ry ⟨d, e, hd, he, ha, hn, hz, q⟩
  obtain ⟨as, r1⟩ := Dp.reads I d x v hd rx
  obtain ⟨bs, r2⟩ := Dp.reads I e y u he ry
  have := dmin (e := e) hz
  exact PySem.W.ge_data r1 r2 ha hn (by omega) ⟨.bl _, H, I, rfl, q⟩
theorem v_ord {f : PyData → PyData → Bool} {gg : D → D → Option D} (hg : ∀ x y, gg x y = if ordOk x y = true then some (.bl (f (toP x) (toP y))) else none) : V2 K (rOrd K f) gg := fun pd F H x y d v w fh rx ry e Q q => by
  rw [hg] at e
  split at e
  · rename_i h
    cases e
    unfold ordOk cmpOk at h
    simp only [Bool.and_eq_true, Bool.not_eq_true'] at h
    obtain ⟨⟨⟨⟨c1, s1⟩, c2, s2⟩, ha⟩, hn⟩ := h
    exact ⟨_, _, rx.dp fh c1, ry.dp fh c2, ha, by cases x <;> simp [toP, isNonD] at hn ⊢, SeqAt.depth_of_shaped s1, q _ F H (.refl fh) (by simp [Rep])⟩
  · cases e
theorem v_ltA : V2 K (rOrd K fun d e => PySem.W.dataLt d e) ltA := v_ord fun _ _ => rfl
theorem v_gtA : V2 K (rOrd K fun d e => PySem.W.dataLt e d) gtA := v_ord fun _ _ => rfl
theorem v_leA : V2 K (rOrd K fun d e => !PySem.W.dataLt e d) leA := v_ord fun _ _ => rfl
theorem v_geA : V2 K (rOrd K fun d e => !PySem.W.dataLt d e) geA := v_ord fun _ _ => rfl
theorem op_eqA (hk : X.K = K) (hu : X.A.units + 200 < cLine) : OpR X (compareOp .Eq) (rEqD K) := by subst hk; exact op_eqD (by omega)
theorem op_neA (hk : X.K = K) (hu : X.A.units + 200 < cLine) : OpR X (compareOp .NotEq) (rNeD K) := by subst hk; exact op_neD (by omega)

/-! ### in -/
def hasD (d : D) (ds : List D) : Bool := ds.any fun z => PyData.eqv (toP z) (toP d)
def inD (x y : D) : Option D := match seqD y with
  | some ds => if cmpOk x = true ∧ cmpOk y = true then some (.bl (hasD x ds)) else none
  | none => none
def ninD (x y : D) : Option D := match seqD y with
  | some ds => if cmpOk x = true ∧ cmpOk y = true then some (.bl (!hasD x ds)) else none
  | none => none
def sqP (b : Bool) (ds : List PyData) : PyData := if b = true then .tuple ds else .list ds
def rInA (K : PySem.W.Frag) (f : Bool → Bool) : R2 := fun x y H Q => ∃ b d ds, Dp K H x d ∧ Dp K H y (sqP b ds) ∧ SeqAt.shaped d = true ∧ SeqAt.shaped (sqP b ds) = true ∧ Q (.bl (f (ds.any fun z => PyData.eqv z d))) H
theorem op_inA (hk : X.K = K) (hu : X.A.units + 200 < cLine) : OpR X (compareOp .In) (rInA K id) := by
  subst hk
  intro pins s σ H x y v u Q I rx ry ⟨b, d, ds, hd, he, sd, se, q⟩
  obtain ⟨as, r1⟩ := Dp.reads I d x v hd rx
  cases b with
  | false =>
    obtain ⟨bs, r2⟩ := Dp.reads I (.list ds) y u he ry
    exact SeqAt.in_list_reads r2 r1 (SeqAt.canLay_of_shaped se) (SeqAt.canLay_of_shaped sd) (room_in_shaped sd (by omega)) ⟨.bl _, H, I, rfl, q⟩
  | true =>
    obtain ⟨bs, r2⟩ := Dp.reads I (.tuple ds) y u he ry
    exact SeqAt.in_tuple_reads r2 r1 (SeqAt.canLay_of_shaped se) (SeqAt.canLay_of_shaped sd) (room_in_shaped sd (by omega)) ⟨.bl _, H, I, rfl, q⟩
theorem op_ninA (hk : X.K = K) (hu : X.A.units + 200 < cLine) : OpR X (compareOp .NotIn) (rInA K not) := by
  subst hk
  intro pins s σ H x y v u Q I rx ry ⟨b, d, ds, hd, he, sd, se, q⟩
  obtain ⟨as, r1⟩ := Dp.reads I d x v hd rx
  cases b with
  | false =>
    obtain ⟨bs, r2⟩ := Dp.reads I (.list ds) y u he ry
    exact SeqAt.notIn_list_reads r2 r1 (SeqAt.canLay_of_shaped se) (SeqAt.canLay_of_shaped sd) (room_in_shaped sd (by omega)) ⟨.bl _, H, I, rfl, q⟩
  | true =>
    obtain ⟨bs, r2⟩ := Dp.reads I (.tuple ds) y u he ry
    exact SeqAt.notIn_tuple_reads r2 r1 (SeqAt.canLay_of_shaped se) (SeqAt.canLay_of_shaped sd) (room_in_shaped sd (by omega)) ⟨.bl _, H, I, rfl, q⟩
theorem any_toP (d : D) (ds : List D) : ((toPs ds).any fun z => PyData.eqv z (toP d)) = hasD d ds := by rw [toPs_eq, List.any_map]; rfl
theorem seq_sq {y : D} {ds : List D} (e : seqD y = some ds) : ∃ b, toP y = sqP b (toPs ds) := by
  cases y <;> first | (cases e; done) | skip
  · cases e; exact ⟨true, by simp [toP, sqP]⟩
  · cases e; exact ⟨false, by simp [toP, sqP]⟩
theorem v_inG {f : Bool → Bool} {gg : D → D → Option D} (hg : ∀ x y, gg x y = match seqD y with
    | some ds => if cmpOk x = true ∧ cmpOk y = true then some (.bl (f (hasD x ds))) else none
    | none => none) : V2 K (rInA K f) gg := fun pd F H x y d v w fh rx ry e Q q => by
  rw [hg] at e
  cases h5 : seqD y with
  | none => rw [h5] at e; cases e
  | some ds =>
    rw [h5] at e
    have e : (if cmpOk x = true ∧ cmpOk y = true then some (D.bl (f (hasD x ds))) else none) = some d := e
    split at e
    · rename_i h
      cases e
      unfold cmpOk at h
      simp only [Bool.and_eq_true] at h
      obtain ⟨⟨c1, s1⟩, c2, s2⟩ := h
      obtain ⟨b, hb⟩ := seq_sq h5
      have dy := ry.dp fh c2
      rw [hb] at dy s2
      exact ⟨b, _, _, rx.dp fh c1, dy, s1, s2, by rw [any_toP]; exact q _ F H (.refl fh) (by simp [Rep])⟩
    · cases e
theorem v_in : V2 K (rInA K id) inD := v_inG fun _ _ => rfl
theorem v_nin : V2 K (rInA K not) ninD := v_inG fun _ _ => rfl

/-! ### min, max of a sequence -/
def minA (x : D) (xs : List D) : D := xs.foldl (fun a y => if PySem.W.dataLt (toP y) (toP a) = true then y else a) x
def maxA (x : D) (xs : List D) : D := xs.foldl (fun a y => if PySem.W.dataLt (toP a) (toP y) = true then y else a) x
def allCmp (ds : List D) : Bool := (ds.all fun x => cmpOk x && !isNonD x) && ds.all fun x => ds.all fun y => PySem.W.alike (toP x) (toP y)
def onSeq {α : Type} (k : List D → Option α) : List D → Option α
  | [d] => match seqD d with
    | some ds => k ds
    | none => none
  | _ => none
def minD : List D → Option D := onSeq fun ds => match ds with
  | x :: xs => if allCmp (x :: xs) = true then some (minA x xs) else none
  | [] => none
def maxD : List D → Option D := onSeq fun ds => match ds with
  | x :: xs => if allCmp (x :: xs) = true then some (maxA x xs) else none
  | [] => none
theorem fold_toP (c : PyData → PyData → Bool) : ∀ (xs : List D) (x : D), toP (xs.foldl (fun a y => if c (toP y) (toP a) = true then y else a) x) = (toPs xs).foldl (fun a y => if c y a = true then y else a) (toP x)
  | [], x => rfl
  | y :: ys, x => by
    rw [List.foldl_cons, fold_toP c ys, toPs, List.foldl_cons]
    by_cases h : c (toP y) (toP x) = true
    · rw [if_pos h, if_pos h]
    · rw [if_neg h, if_neg h]
theorem minA_toP (x : D) (xs : List D) : toP (minA x xs) = PySem.W.minD (toP x) (toPs xs) := fold_toP (fun y a => PySem.W.dataLt y a) xs x
theorem maxA_toP (x : D) (xs : List D) : toP (maxA x xs) = PySem.W.maxD (toP x) (toPs xs) := fold_toP (fun y a => PySem.W.dataLt a y) xs x
theorem fold_mem (c : D → D → Bool) : ∀ (xs : List D) (x : D), xs.foldl (fun a y => if c y a = true then y else a) x ∈ x :: xs
  | [], x => by simp
  | y :: ys, x => by
    rw [List.foldl_cons]
    have := fold_mem c ys (if c y x = true then y else x)
    by_cases h : c y x = true
    · rw [if_pos h] at this ⊢
      exact List.mem_cons_of_mem _ this
    · rw [if_neg h] at this ⊢
      rcases List.mem_cons.mp this with z | z
      · rw [z]; simp
      · exact List.mem_cons_of_mem _ (List.mem_cons_of_mem _ z)
theorem minA_mem (x : D) (xs : List D) : minA x xs ∈ x :: xs := fold_mem (fun y a => PySem.W.dataLt (toP y) (toP a)) xs x
theorem maxA_mem (x : D) (xs : List D) : maxA x xs ∈ x :: xs := fold_mem (fun y a => PySem.W.dataLt (toP a) (toP y)) xs x
theorem allCmp_mem {ds : List D} (h : allCmp ds = true) : (∀ x ∈ ds, clean x = true ∧ SeqAt.shaped (toP x) = true ∧ isNonD x = false) ∧ ∀ x ∈ ds, ∀ y ∈ ds, PySem.W.alike (toP x) (toP y) = true := by
  unfold allCmp cmpOk at h
  simp only [Bool.and_eq_true, List.all_eq_true, Bool.not_eq_true'] at h
  exact ⟨fun x hx => ⟨(h.1 x hx).1.1, (h.1 x hx).1.2, (h.1 x hx).2⟩, h.2⟩
theorem alike_all {ds : List D} (h : allCmp ds = true) : PySem.W.AlikeAll (toPs ds) := by
  obtain ⟨h1, h2⟩ := allCmp_mem h
  rw [toPs_eq]
  refine ⟨fun x hx y hy => ?_, fun x hx => ?_⟩
  · obtain ⟨a, ha, rfl⟩ := List.mem_map.mp hx
    obtain ⟨b, hb, rfl⟩ := List.mem_map.mp hy
    exact h2 a ha b hb
  · obtain ⟨a, ha, rfl⟩ := List.mem_map.mp hx
    have := (h1 a ha).2.2
    cases a <;> simp [toP, isNonD] at this ⊢
theorem depthAll_le : ∀ {ds : List D}, (∀ x ∈ ds, SeqAt.shaped (toP x) = true) → PyData.depthAll (toPs ds) ≤ 64
  | [], _ => by simp [toPs, PyData.depthAll]
  | d :: ds, h => by
    have h1 := SeqAt.depth_of_shaped (h d (by simp))
    have h2 := depthAll_le (ds := ds) fun x hx => h x (by simp [hx])
    simp only [toPs, PyData.depthAll]
    omega
def rBest (K : PySem.W.Frag) (f : PyData → List PyData → PyData) : List V → Hp → VK → Prop := fun vs H Q => ∃ b a xs d ds, vs = [V.ref a] ∧ SqA K H b a xs ∧ DpAll K H xs (d :: ds) ∧ PySem.W.AlikeAll (d :: ds) ∧ PyData.depthAll (d :: ds) ≤ 64 ∧ (f d ds ∈ d :: ds) ∧
  ∀ (i : Nat) (v : V), (xs : List V)[i]? = some v → (d :: ds)[i]? = some (f d ds) → Q v H
theorem Vals.getB : ∀ {xs : List V} {us : List Value} {i : Nat} {u : Value}, Vals xs us → us[i]? = some u → ∃ x, xs[i]? = some x ∧ L2.RelV x u
  | _, _, i, u, .nil, e => by simp at e
  | _, _, 0, u, .cons r t, e => by simp at e; subst e; exact ⟨_, rfl, r⟩
  | _, _, i + 1, u, .cons r t, e => by
    obtain ⟨x, h1, h2⟩ := Vals.getB (i := i) t (by simpa using e)
    exact ⟨x, by simpa using h1, h2⟩
theorem readsAll_get : ∀ {h : Heap} {vs : List Value} {ds : List PyData} {as : List Addr} {i : Nat} {v : Value}, ReadsAll h vs ds as → vs[i]? = some v → ∃ d bs, ds[i]? = some d ∧ Reads h v d bs
  | _, _, _, _, i, v, .nil, e => by simp at e
  | _, _, _, _, 0, v, .cons r t, e => by simp at e; subst e; exact ⟨_, _, rfl, r⟩
  | _, _, _, _, i + 1, v, .cons r t, e => by
    obtain ⟨d, bs, h1, h2⟩ := readsAll_get (i := i) t (by simpa using e)
    exact ⟨d, bs, by simpa using h1, h2⟩
theorem c_best {id : String} {f : PyData → List PyData → PyData} (hk : X.K = K)
    (hl : ∀ {prog : Program} {w : World} {A : Around} {E : Value → Shared → Prop} {s : Shared} {l : Addr} {b : Bool} {vs : Array Value} {x : PyData} {xs : List PyData} {as : List Addr} {Q : Value → Shared → Prop}, A.handled = none → SeqB s.heap b l vs → ReadsAll s.heap vs.toList (x :: xs) as → PySem.W.AlikeAll (x :: xs) → A.units + 1 + PyData.depthAll (x :: xs) < cLine →
      (∀ (i : Nat) v h' tk bs, vs[i]? = some v → Reads h' v (f x xs) bs → (∀ b o, s.heap.get? b = some o → h'.get? b = some o) → Q v { s with heap := h', toks := tk }) → wpAny (model prog w) A (call (.builtin id) [.ref l]) Q E s)
    (hc : X.calm = true) (hu : X.A.units + 200 < cLine) : CallR X (.builtin id) (rBest K f) := by
  subst hk
  intro pins s σ H vs us Q I r h
  obtain ⟨b, a, xs, d, ds, rfl, hs, hd, ha, hz, hm, q⟩ := h
  obtain ⟨its, rv, p⟩ := inv_seqA I hs
  rw [Vals.ref1 r]
  obtain ⟨as, ra⟩ := Dp.readsAll I (d :: ds) xs its hd rv
  refine hl (I.ok.hd hc) p ra ha (by omega) fun i v h' tk bs hv rd hkeep => ?_
  have hv' : its[i]? = some v := by simpa using hv
  obtain ⟨x, hx, rx⟩ := Vals.getB rv hv'
  obtain ⟨e, cs, he, re⟩ := readsAll_get ra hv'
  have hmem : e ∈ d :: ds := List.mem_of_getElem? he
  have ee : e = f d ds := PySem.W.alike_unique e (f d ds) v cs bs (ha.1 _ hmem _ hm) (PySem.W.reads_keeps hkeep re) rd
  subst ee
  exact ⟨x, H, I.kept hkeep, rx, q i x hx he⟩
theorem c_min (hk : X.K = K) (hc : X.calm = true) (hu : X.A.units + 200 < cLine) : CallR X (.builtin "min") (rBest K PySem.W.minD) := c_best hk (fun {prog w A E s l b vs x xs as Q} h0 h1 h2 h3 h4 h5 => by
  cases b
  · exact PySem.W.min_list_data h0 h1 h2 h3 h4 h5
  · exact PySem.W.min_tuple_data h0 h1 h2 h3 h4 h5) hc hu
theorem c_max (hk : X.K = K) (hc : X.calm = true) (hu : X.A.units + 200 < cLine) : CallR X (.builtin "max") (rBest K PySem.W.maxD) := c_best hk (fun {prog w A E s l b vs x xs as Q} h0 h1 h2 h3 h4 h5 => by
  cases b
  · exact PySem.W.max_list_data h0 h1 h2 h3 h4 h5
  · exact PySem.W.max_tuple_data h0 h1 h2 h3 h4 h5) hc hu
theorem seqV {pd : Option PD} {F H : Hp} {d : D} {v : V} {ds : List D} (fh : Same F H) (r : RepB K pd F H d v) (e : seqD d = some ds) : ∃ b a xs, v = .ref a ∧ ds.length ≤ SZ ∧ SqA K H b a xs ∧ RepL K pd F ds xs := by
  obtain ⟨b, a, xs, h1, h2, h3⟩ := seqW r e
  exact ⟨b, a, xs, h1, h2, h3 F H (.refl fh)⟩
theorem v_best {f : PyData → List PyData → PyData} {fA : D → List D → D} (h1 : ∀ x xs, toP (fA x xs) = f (toP x) (toPs xs)) (h2 : ∀ x xs, fA x xs ∈ x :: xs) {gg : List D → Option D}
    (hg : gg = onSeq fun ds => match ds with
      | x :: xs => if allCmp (x :: xs) = true then some (fA x xs) else none
      | [] => none) : VL K (rBest K f) gg := fun pd F H xs d vs fh r e Q q => by
  subst hg
  unfold onSeq at e
  split at e
  · rename_i d0
    cases r with
    | cons r0 rt =>
      cases rt
      cases h5 : seqD d0 with
      | none => rw [h5] at e; cases e
      | some ds =>
        rw [h5] at e
        cases ds with
        | nil => cases e
        | cons x xs =>
          have e : (if allCmp (x :: xs) = true then some (fA x xs) else none) = some d := e
          split at e
          · rename_i hc
            cases e
            obtain ⟨b, a, ys, rfl, hl, sq, rr⟩ := seqV fh r0 h5
            obtain ⟨m1, m2⟩ := allCmp_mem hc
            have hcl : cleanL (x :: xs) = true := cleanL_all.mpr fun z hz => (m1 z hz).1
            refine ⟨b, a, ys, toP x, toPs xs, rfl, sq, RepL.dp fh hcl rr, alike_all hc, depthAll_le (ds := x :: xs) fun z hz => (m1 z hz).2.1, ?_, fun i v hv hi => ?_⟩
            · rw [← h1]
              have := List.mem_map_of_mem (f := toP) (h2 x xs)
              rw [← toPs_eq] at this
              exact this
            · obtain ⟨dd, hdd, rd⟩ := rr.getV hv
              have hi' : (toPs (x :: xs))[i]? = some (f (toP x) (toPs xs)) := hi
              rw [toPs_eq, List.getElem?_map, hdd, ← h1] at hi'
              have : dd = fA x xs := toP_inj (m1 _ (List.mem_of_getElem? hdd)).1 (m1 _ (h2 x xs)).1 (Option.some.inj hi')
              subst this
              exact q v F H (.refl fh) rd
          · cases e
  · cases e
theorem v_min : VL K (rBest K PySem.W.minD) minD := v_best minA_toP minA_mem rfl
theorem v_max : VL K (rBest K PySem.W.maxD) maxD := v_best maxA_toP maxA_mem rfl

/-! ### sum, all, any -/
def intsD : List D → Option (List Int)
  | [] => some []
  | .int i :: ds => (intsD ds).map (i :: ·)
  | _ => none
def blsD : List D → Option (List Bool)
  | [] => some []
  | .bl i :: ds => (blsD ds).map (i :: ·)
  | _ => none
theorem intsD_eq : ∀ {ds : List D} {ns : List Int}, intsD ds = some ns → ds = ns.map D.int
  | [], _, e => by cases e; rfl
  | .int i :: ds, ns, e => by
    simp only [intsD] at e
    cases h : intsD ds with
    | none => rw [h] at e; cases e
    | some ms => rw [h] at e; cases e; rw [intsD_eq h]; rfl
  | .non :: _, _, e => by cases e
  | .bl _ :: _, _, e => by cases e
  | .str _ :: _, _, e => by cases e
  | .tup _ :: _, _, e => by cases e
  | .lst _ :: _, _, e => by cases e
  | .rng :: _, _, e => by cases e
theorem blsD_eq : ∀ {ds : List D} {ns : List Bool}, blsD ds = some ns → ds = ns.map D.bl
  | [], _, e => by cases e; rfl
  | .bl i :: ds, ns, e => by
    simp only [blsD] at e
    cases h : blsD ds with
    | none => rw [h] at e; cases e
    | some ms => rw [h] at e; cases e; rw [blsD_eq h]; rfl
  | .non :: _, _, e => by cases e
  | .int _ :: _, _, e => by cases e
  | .str _ :: _, _, e => by cases e
  | .tup _ :: _, _, e => by cases e
  | .lst _ :: _, _, e => by cases e
  | .rng :: _, _, e => by cases e
@[simp] theorem intsD_map : ∀ ns : List Int, intsD (ns.map D.int) = some ns
  | [] => rfl
  | n :: ns => by simp [intsD, intsD_map ns]
@[simp] theorem blsD_map : ∀ ns : List Bool, blsD (ns.map D.bl) = some ns
  | [] => rfl
  | n :: ns => by simp [blsD, blsD_map ns]
def sumD : List D → Option D := onSeq fun ds => (intsD ds).map fun ns => .int ns.sum
def allD : List D → Option D
  | [.lst ds] => (blsD ds).map fun bs => .bl (bs.all id)
  | _ => none
def anyD : List D → Option D
  | [.lst ds] => (blsD ds).map fun bs => .bl (bs.any id)
  | _ => none
def rSumA (K : PySem.W.Frag) : List V → Hp → VK → Prop := fun vs H Q => ∃ (b : Bool) (a : Addr) (ns : List Int), vs = [V.ref a] ∧ SqA K H b a (ns.map V.int) ∧ Q (.int ns.sum) H
theorem c_sum (hk : X.K = K) (hc : X.calm = true) : CallR X (.builtin "sum") (rSumA K) := by
  subst hk
  intro pins s σ H vs us Q I r h
  obtain ⟨b, a, ns, rfl, hs, q⟩ := h
  cases b with
  | false => exact cr_sum hc pins s σ H _ us Q I r ⟨a, ns, rfl, hs, q⟩
  | true =>
    obtain ⟨its, rv, p, _⟩ := I.tuple (show SqT X.K H a (ns.map V.int) from hs)
    rw [Vals.ref1 r]
    have hi : IntsAre its ns := Vals.ints rv
    obtain ⟨xs, hx⟩ := hi.allInts.items
    have hn : numsOf its.toArray.toList = ns := by rw [show its.toArray.toList = its from rfl, hi.numsOf]
    have ht : s.heap.IsTuple a its.toArray := p
    rw [hx] at ht hn
    rw [nums_intItems] at hn
    refine PySem.W.ktm_sumG (I.ok.hd hc) ht fun h' tk t' hkp => ?_
    rw [preSum_eq, List.take_of_length_le (by simp), hn]
    exact ⟨.int _, H, I.kept hkp, ⟨_, rfl⟩, q⟩
theorem v_sum : VL K (rSumA K) sumD := fun pd F H xs d vs fh r e Q q => by
  unfold sumD onSeq at e
  split at e
  · rename_i d0
    cases r with
    | cons r0 rt =>
      cases rt
      cases h5 : seqD d0 with
      | none => rw [h5] at e; cases e
      | some ds =>
        rw [h5] at e
        have e : (intsD ds).map (fun ns => D.int ns.sum) = some d := e
        cases h6 : intsD ds with
        | none => rw [h6] at e; cases e
        | some ns =>
          rw [h6] at e; cases e
          obtain ⟨b, a, ys, rfl, hl, sq, rr⟩ := seqV fh r0 h5
          rw [intsD_eq h6] at rr
          rw [rr.ints] at sq
          exact ⟨b, a, ns, rfl, sq, q _ F H (.refl fh) (by simp [Rep])⟩
  · cases e
theorem c_all (hk : X.K = K) (hc : X.calm = true) : CallR X (.builtin "all") (rAll K) := by subst hk; exact cr_all hc
theorem c_any (hk : X.K = K) (hc : X.calm = true) : CallR X (.builtin "any") (rAny K) := by subst hk; exact cr_any hc
theorem v_all : VL K (rAll K) allD := fun pd F H xs d vs fh r e Q q => by
  unfold allD at e
  split at e
  · rename_i ds
    cases h6 : blsD ds with
    | none => rw [h6] at e; cases e
    | some bs =>
      rw [h6] at e; cases e
      cases r with
      | cons r0 rt =>
        cases rt
        obtain ⟨a, ys, rfl, h3, _, h4⟩ := r0.lst fh
        rw [blsD_eq h6] at h4
        rw [h4.bls] at h3
        exact ⟨a, bs, rfl, .of h3, q _ F H (.refl fh) (by simp [Rep])⟩
  · cases e
theorem v_any : VL K (rAny K) anyD := fun pd F H xs d vs fh r e Q q => by
  unfold anyD at e
  split at e
  · rename_i ds
    cases h6 : blsD ds with
    | none => rw [h6] at e; cases e
    | some bs =>
      rw [h6] at e; cases e
      cases r with
      | cons r0 rt =>
        cases rt
        obtain ⟨a, ys, rfl, h3, _, h4⟩ := r0.lst fh
        rw [blsD_eq h6] at h4
        rw [h4.bls] at h3
        exact ⟨a, bs, rfl, .of h3, q _ F H (.refl fh) (by simp [Rep])⟩
  · cases e

/-! ### is True -/
def isBD : D → D → Option D
  | .bl a, .bl b => some (.bl (decide (a = b)))
  | _, _ => none
def isNotBD : D → D → Option D
  | .bl a, .bl b => some (.bl (!decide (a = b)))
  | _, _ => none
theorem v_isB : V2 K rIsB isBD := fun pd F H x y d v w fh rx ry e Q q => by
  cases x <;> cases y <;> first | (cases e; done) | skip
  cases e
  exact ⟨_, _, rx.bl, ry.bl, q _ F H (.refl fh) (by simp [Rep])⟩
theorem v_isNotB : V2 K rNotB isNotBD := fun pd F H x y d v w fh rx ry e Q q => by
  cases x <;> cases y <;> first | (cases e; done) | skip
  cases e
  exact ⟨_, _, rx.bl, ry.bl, q _ F H (.refl fh) (by simp [Rep])⟩

/-! ### += of ints; powers -/
def addI : D → D → Option D
  | .int a, .int b => some (.int (a + b))
  | _, _ => none
theorem v_iadd : V2 K (rI0 fun i j => .int (i + j)) addI := v2I0 (g := fun i j => .int (i + j)) (fun _ _ _ _ => by simp [Rep]) (int2 (fun _ _ => rfl) fun x y h => by cases x <;> cases y <;> first | rfl | exact (h _ _ rfl rfl).elim)
def powD : D → D → Option D
  | .int i, .int j => if 0 ≤ j ∧ j ≤ 1000000 ∧ i.natAbs < 2 ^ 64 then some (.int (i ^ j.toNat)) else none
  | _, _ => none
theorem v_pow : V2 K (rI CPow fun i j => .int (i ^ j.toNat)) powD := v2I (g := fun i j => .int (i ^ j.toNat)) (fun _ _ _ _ => by simp [Rep]) fun x y d e => by
  cases x <;> cases y <;> first | (cases e; done) | skip
  rename_i i j
  simp only [powD] at e
  split at e
  · rename_i h; exact ⟨i, j, rfl, rfl, h, (Option.some.inj e).symm⟩
  · cases e
end
end Pu
namespace Pu
open PySem PySem.Spec PyProof.Rows L2

/-! ### tuple * int -/
theorem tmul_same (l : Addr) (items : Array Value) (n : Nat) (dd : Option Addr) (sl : Array (Option Value)) (x : Int) (u : Tok) (c0 : (decide (x < -(2 ^ 63)) || decide (x ≥ 2 ^ 63)) = false) (c1 : (items.isEmpty || x == 1) = true) :
    Meets (Builtin.«tuple.__mul__» ⟨[.ref l, .int x u], []⟩) (fun _ R s => s.heap.get? l = some { cls := .type "tuple", dict := dd, data := .seq items n, slots := sl } ∧ R (.ok (.ret (Value.ref l))) s) :=
  .of_wp fun prog w A R s h => by
    obtain ⟨hp, g, d, tk, os⟩ := s
    obtain ⟨hl, h⟩ := h
    have f1 := AutoSeq1.idx_int
    wp_walk using wpAny_loadPart' hl
    repeat (first
      | (refine wpAny_ite_false (decide_eq_false (by rw [c0]; exact Bool.false_ne_true)) ?_; wp_walk using wpAny_loadPart' hl)
      | (refine wpAny_ite_true (decide_eq_true c1) ?_; wp_walk using wpAny_loadPart' hl))
    exact ⟨_, rfl, h⟩
theorem tmul_none (l : Addr) (items : Array Value) (n : Nat) (dd : Option Addr) (sl : Array (Option Value)) (x : Int) (u : Tok) (c0 : (decide (x < -(2 ^ 63)) || decide (x ≥ 2 ^ 63)) = false) (c1 : (items.isEmpty || x == 1) = false) (c2 : (decide (x ≤ 0) || items.isEmpty) = true) :
    Meets (Builtin.«tuple.__mul__» ⟨[.ref l, .int x u], []⟩) (fun _ R s => s.heap.get? l = some { cls := .type "tuple", dict := dd, data := .seq items n, slots := sl } ∧
      R (.ok (.ret (Value.ref s.heap.objs.size))) { s with heap := s.heap.push { cls := Value.type "tuple", data := Data.seq #[] }, toks := s.toks }) :=
  .of_wp fun prog w A R s h => by
    obtain ⟨hp, g, d, tk, os⟩ := s
    obtain ⟨hl, h⟩ := h
    have f1 := AutoSeq1.idx_int
    wp_walk using wpAny_loadPart' hl
    repeat (first
      | (refine wpAny_ite_false (decide_eq_false (by rw [c0]; exact Bool.false_ne_true)) ?_; wp_walk using wpAny_loadPart' hl)
      | (refine wpAny_ite_false (decide_eq_false (by rw [c1]; exact Bool.false_ne_true)) ?_; wp_walk using wpAny_loadPart' hl)
      | (refine wpAny_ite_true (decide_eq_true c2) ?_; wp_walk using wpAny_loadPart' hl))
    exact ⟨_, rfl, h⟩
def rRepA (K : PySem.W.Frag) : R2 := fun x y H Q => ∃ l k xs, x = .ref l ∧ y = .int k ∧ SqT K H l xs ∧ -(2 ^ 63) ≤ k ∧ k ≤ 1000 ∧ xs.length ≤ 1000 ∧ (xs = [] ∨ k = 1 → Q (.ref l) H) ∧ (xs ≠ [] → k ≠ 1 → ∀ p, H p = none → Q (.ref p) (L2.upd H p (.tup (List.replicate k.toNat xs).flatten)))
section
variable {X : Cx} {K : PySem.W.Frag}
theorem op_repTA (hk : X.K = K) : OpR X (binaryOp .Mult) (rRepA K) := by
  subst hk
  intro pins s σ H x y v u Q I rx ry h
  obtain ⟨l, k, xs, rfl, rfl, hT, h1, h2, hz, q1, q2⟩ := h
  by_cases hbig : xs ≠ [] ∧ 2 ≤ k
  · exact op_repT pins s σ H _ _ v u Q I rx ry ⟨l, k, xs, rfl, rfl, hT, hbig.1, hbig.2, h2, hz, q2 hbig.1 (by omega)⟩
  cases rx
  obtain ⟨t, rfl⟩ := ry
  obtain ⟨its, r, ⟨⟨cls, dd, data, sl⟩, ho, hc, n, hd⟩, hs⟩ := I.tuple hT
  simp only at hc hd
  subst hc hd
  have hle : its.length = xs.length := r.length.symm
  have c0 : (decide (k < -(2 ^ 63)) || decide (k ≥ 2 ^ 63)) = false := by
    rw [decide_eq_false (by omega), decide_eq_false (by omega)] <;> rfl
  by_cases hsame : xs = [] ∨ k = 1
  · have c1 : (its.toArray.isEmpty || k == 1) = true := by
      rcases hsame with e | e
      · subst e
        cases its with
        | nil => rfl
        | cons a b => cases hle
      · subst e; simp
    exact wpAny_binaryOp_repeat_ref (T := "tuple") (U := "int") (by decide) ⟨_, ho, rfl⟩ (fun s' => typeIs_int s' k t) noFill_tuple_mul F.fills_int_mul F.slot_int_rmul repeat_tuple F.slot_int_index.lookup
      (call_meets F.slot_int_rmul (typeIs_int s k t) F.entry_int_rmul (F.args_int_rmul_2 _ _) (int_rmul_tuple k t l its.toArray n dd sl)
        ⟨ho, rfl, ⟨_, ho, rfl⟩, call_meets F.slot_tuple_mul ⟨_, ho, rfl⟩ F.entry_tuple_mul (F.args_tuple_mul_2 _ _) (tmul_same l its.toArray n dd sl k t c0 c1) ⟨ho, .ref l, H, I, rfl, q1 hsame⟩⟩)
  · have hx : xs ≠ [] := fun e => hsame (.inl e)
    have hk1 : k ≠ 1 := fun e => hsame (.inr e)
    have hk0 : k ≤ 0 := by
      by_cases h2 : 2 ≤ k
      · exact absurd ⟨hx, h2⟩ hbig
      · omega
    have hi : its.toArray.isEmpty = false := by
      cases its with
      | nil => exact absurd (List.eq_nil_of_length_eq_zero hle.symm) hx
      | cons a b => rfl
    have c1 : (its.toArray.isEmpty || k == 1) = false := by
      rw [hi, Bool.false_or]
      exact beq_eq_false_iff_ne.mpr hk1
    have c2 : (decide (k ≤ 0) || its.toArray.isEmpty) = true := by rw [decide_eq_true hk0]; rfl
    have e0 : k.toNat = 0 := by omega
    have q := q2 hx hk1
    rw [e0] at q
    refine wpAny_binaryOp_repeat_ref (T := "tuple") (U := "int") (by decide) ⟨_, ho, rfl⟩ (fun s' => typeIs_int s' k t) noFill_tuple_mul F.fills_int_mul F.slot_int_rmul repeat_tuple F.slot_int_index.lookup
      (call_meets F.slot_int_rmul (typeIs_int s k t) F.entry_int_rmul (F.args_int_rmul_2 _ _) (int_rmul_tuple k t l its.toArray n dd sl)
        ⟨ho, rfl, ⟨_, ho, rfl⟩, call_meets F.slot_tuple_mul ⟨_, ho, rfl⟩ F.entry_tuple_mul (F.args_tuple_mul_2 _ _) (tmul_none l its.toArray n dd sl k t c0 c1 c2) ⟨ho, ?_⟩⟩)
    refine ⟨.ref s.heap.objs.size, _, I.laid (t' := s.toks) (o := .tup []) (fun b ob q => Heap.get?_push_of_some _ q) (Nat.le_refl _) ?_, rfl, q _ (I.hok.fresh (Nat.le_refl _))⟩
    exact ⟨Nat.zero_le _, [], .nil, IsTup.new _ _⟩
def repT : D → D → Option D
  | .tup a, .int k => if -(2 ^ 63) ≤ k ∧ k ≤ 1000 ∧ a.length ≤ 1000 then some (.tup (List.replicate k.toNat a).flatten) else none
  | _, _ => none
theorem v_repT : V2 K (rRepA K) repT := fun pd F H x y d v w fh rx ry e Q q => by
  cases x <;> cases y <;> first | (cases e; done) | skip
  rename_i as k
  simp only [repT] at e
  split at e
  · rename_i hl
    cases e
    obtain ⟨a, xs, rfl, t1, t2, l1, r1⟩ := rx.tup fh
    refine ⟨a, k, xs, rfl, ry.int, t1, hl.1, hl.2.1, by rw [r1.length]; exact hl.2.2, fun z => ?_, fun _ _ p n => ?_⟩
    · have : (List.replicate k.toNat as).flatten = as := by
        rcases z with z | z
        · subst z
          have : as = [] := List.eq_nil_of_length_eq_zero r1.length.symm
          subst this
          simp
        · subst z; simp
      rw [this] at q
      exact q _ F H (.refl fh) (by simp only [Rep]; exact ⟨a, xs, rfl, t2, l1, r1⟩)
    · have x2 := Ext.new (o := .tup (List.replicate k.toNat xs).flatten) fh n
      refine q _ _ _ x2 ?_
      simp only [Rep]
      refine ⟨p, _, rfl, .of upd_same, ?_, (r1.rep _).mono x2.ff⟩
      rw [List.length_flatten, List.map_replicate, List.sum_replicate_nat]
      have a1 : k.toNat * as.length ≤ 1000 * 1000 := Nat.mul_le_mul (by omega) hl.2.2
      exact Nat.le_trans a1 (by decide)
  · cases e

/-! ### x[::-1] -/
theorem sliceRev {prog : Program} {w : World} {A : Around} {E : Value → Shared → Prop} {s : Shared} {sl : Addr} {vl vu vs : Value} {n : Nat} {Q : Int × Int × Nat → Shared → Prop} (hs : s.heap.IsSliceOf sl vl vu vs) (pl : IsPart vl none) (pu : IsPart vu none) (ps : IsPart vs (some (-1)))
    (h : Q ((n : Int) - 1, -1, n) s) : wpAny (model prog w) A (Builtin.Slice.sliceApplied (.ref sl) (pure (n : Int))) Q E s := by
  obtain ⟨os, hos, hcs, hds⟩ := id hs
  unfold Builtin.Slice.sliceApplied Builtin.Slice.sliceFields
  refine wpAny_bind (wpAny_bind (wpAny_field hos hds (x := vl) rfl (wpAny_bind (wpAny_field hos hds (x := vu) rfl (wpAny_bind (wpAny_field hos hds (x := vs) rfl (wpAny_pure ?_)))))))
  refine wpAny_bind (HT.slicePart_ ps ?_)
  show wpAny _ _ (if ((-1 : Int) == 0) = true then _ else _) _ _ s
  rw [if_neg (by decide)]
  refine wpAny_bind (HT.slicePart_ pl (wpAny_bind (HT.slicePart_ pu (wpAny_bind (wpAny_pure ?_)))))
  show wpAny _ _ (pure ((n : Int) - 1, (-1 : Int), Builtin.Slice.slicePlaces ((n : Int) - 1) (-1) (-1))) _ _ s
  have e : Builtin.Slice.slicePlaces ((n : Int) - 1) (-1) (-1) = n := by
    unfold Builtin.Slice.slicePlaces
    rw [if_neg (by decide)]
    by_cases h : (n : Int) - 1 > -1
    · rw [if_pos h, show (- -1 : Int) = 1 by decide, Int.ediv_one]; omega
    · rw [if_neg h]; omega
  rw [e]
  exact wpAny_pure h
theorem filterMap_same {α β : Type} {f g : α → Option β} : ∀ {l : List α}, (∀ x ∈ l, f x = g x) → l.filterMap f = l.filterMap g
  | [], _ => rfl
  | a :: l, h => by
    rw [List.filterMap_cons, List.filterMap_cons, h a (by simp), filterMap_same fun x hx => h x (by simp [hx])]
theorem pick_rev (xs : Array Value) : ((List.range xs.size).filterMap fun (m : Nat) => xs[((xs.size : Int) - 1 + (m : Int) * -1).toNat]?).toArray = xs.toList.reverse.toArray := by
  have e := PySem.W.krv_all xs
  have e2 : ((List.range xs.size).filterMap fun (m : Nat) => xs[((xs.size : Int) - 1 + (m : Int) * -1).toNat]?) = ((List.range xs.size).map fun k => xs.size - 1 - k).filterMap (xs[·]?) := by
    rw [List.filterMap_map]
    refine filterMap_same fun m hm => ?_
    have := List.mem_range.mp hm
    show xs[((xs.size : Int) - 1 + (m : Int) * -1).toNat]? = xs[xs.size - 1 - m]?
    rw [show ((xs.size : Int) - 1 + (m : Int) * -1).toNat = xs.size - 1 - m by omega]
  rw [e2, PySem.W.krv_range, List.filterMap_reverse, e]
theorem getItem_tuple_rev {prog : Program} {w : World} {A : Around} {E : Value → Shared → Prop} {s : Shared} {t sl : Addr} {items : Array Value} {vl vu vs : Value} {Q : Value → Shared → Prop} (ht : IsTup s.heap t items) (hs : s.heap.IsSliceOf sl vl vu vs) (pl : IsPart vl none) (pu : IsPart vu none) (ps : IsPart vs (some (-1)))
    (h : Q (.ref s.heap.objs.size) { s with heap := s.heap.push { cls := .type "tuple", data := .seq items.toList.reverse.toArray } })
    (hsz : items.size ≤ sizeLine) : wpAny (model prog w) A (getItem (.ref t) (.ref sl)) Q E s := by
  have htake : sizeOk (.seq items.toList.reverse.toArray) := by
    show items.toList.reverse.toArray.size ≤ sizeLine
    simpa using hsz
  obtain ⟨os, hos, hcs, hds⟩ := id hs
  have hTs : s.TypeIs (.ref sl) "slice" := ⟨os, hos, hcs⟩
  unfold getItem
  try with_reducible refine wpAny_holding ?_
  first | refine wpAny_bind (wpAny_pure ?_) | skip
  refine wpAny_bind (wpAny_sequenceKey ht.typeIs (by decide) ?_)
  refine wpAny_bind (wpAny_callSpecial?_slot (name := Str.ofString "__getitem__") ht.typeIs PyProof.Rows.slot_tuple_getitem
    (wpAny_call_entry PyProof.Rows.slot_tuple_getitem ht.typeIs entry_tuple_getitem ?_ (args_tuple_getitem _ _)))
  show wpAny _ _ (Builtin.Tuple.tupleItemsOf (.ref t) >>= _) _ _ s
  refine wpAny_bind (tupleItemsOf_ ht ?_)
  refine wpAny_bind (wpAny_typeOf hTs ?_)
  rw [if_pos (by decide)]
  refine wpAny_bind (sliceRev hs pl pu ps ?_)
  have hno : ¬ ((((items.size : Int) - 1) == 0 && (-1 : Int) == 1 && items.size == items.size) = true) := by simp
  show wpAny _ _ (if (((items.size : Int) - 1) == 0 && (-1 : Int) == 1 && items.size == items.size) = true then _ else _) _ _ s
  rw [if_neg hno, pick_rev]
  first
    | exact wpAny_bind (m := Builtin.Tuple.tupleExact _) (wpAny_newObj_type (wpAny_pure ⟨_, rfl, wpAny_pure h⟩) htake)
    | exact wpAny_bind (m := Builtin.Tuple.tupleExact _) (wpAny_newObj_type (wpAny_bind (wpAny_pure (wpAny_pure ⟨_, rfl, wpAny_pure h⟩))) htake)
    | exact wpAny_bind (wpAny_bind (m := Builtin.Tuple.tupleExact _) (wpAny_newObj_type (wpAny_pure (wpAny_pure ⟨_, rfl, wpAny_pure h⟩)) htake))
    | exact wpAny_bind (wpAny_bind (m := Builtin.Tuple.tupleExact _) (wpAny_newObj_type (wpAny_pure ⟨_, rfl, wpAny_pure h⟩) htake))
def tRevA (K : PySem.W.Frag) (te : TE) : TE := fun σ H Q => te σ H fun x H1 => ∃ b a xs, x = .ref a ∧ SqA K H1 b a xs ∧ ∀ p, H1 p = none → Q (.ref p) (L2.upd H1 p (if b = true then .tup xs.reverse else .lst xs.reverse))
theorem pe_revA {X : Cx} {e : Expr} {te : TE} {k : Nat} {p1 p2 p3 pos : Pos} (he : PE X e te) : PE X (.Subscript e (.Slice none none (some (.UnaryOp .USub (.Constant (.int 1) k p1) p2)) p3) pos) (tRevA X.K te) := by
  refine ⟨fun pins s σ H Q I h => ?_⟩
  refine Subscript_ (thn (he.run pins s σ H _ I h) fun v s1 ⟨x, H1, I1, r1, q1⟩ => ?_)
  obtain ⟨b, a, xs, ex, hx, q⟩ := q1
  subst ex
  cases r1
  have hst : PO X (some (.UnaryOp .USub (.Constant (.int 1) k p1) p2)) (tPart (tUn (rU fun i => .int (-i)) (tC (.int 1)))) := po_some (pe_un un_neg pe_int)
  refine wpAny_Slice (thn (po_none.run pins s1 σ H1 (fun o H2 => o = none ∧ H2 = H1) I1 ⟨rfl, rfl⟩) fun vl s2 ⟨l, H2, I2, pl, el, e2⟩ => ?_)
  subst el e2
  refine thn (po_none.run pins s2 σ H2 (fun o H3 => o = none ∧ H3 = H2) I2 ⟨rfl, rfl⟩) fun vu s3 ⟨u, H3, I3, pu, eu, e3⟩ => ?_
  subst eu e3
  refine thn (hst.run pins s3 σ H3 (fun o H4 => o = some (-1) ∧ H4 = H3) I3 ⟨1, rfl, -1, rfl, rfl, rfl⟩) fun vs s4 ⟨o, H4, I4, ps, eo, e4⟩ => ?_
  subst eo e4
  have I5 : Inv X pins σ H4 { s4 with heap := s4.heap.push { cls := .type "slice", data := .fields #[vl, vu, vs] } } := I4.kept (t' := s4.toks) fun b ob q => Heap.get?_push_of_some _ q
  show wpAny (model X.prog X.w) X.A (subscriptTail e (.Slice none none (some (.UnaryOp .USub (.Constant (.int 1) k p1) p2)) p3) (.ref a) (.ref s4.heap.objs.size)) (EP X pins σ Q) X.xe { s4 with heap := s4.heap.push { cls := .type "slice", data := .fields #[vl, vu, vs] } }
  cases b with
  | false =>
    obtain ⟨its, r, ht, hz⟩ := I5.list (show SqL X.K H4 a xs from hx)
    have hlen := r.length
    refine tail_any (ops := [.ref a, .ref s4.heap.objs.size]) ht.isList.typeIs (PySem.slot_list_getitem.lookup) ?_ (by with_unfolding_all rfl)
    refine wpAny_getItem_list_slice ht.isList (Heap.IsSliceOf.new _ vl vu vs) pl pu ps (by decide) ?_ (by rw [List.size_toArray]; omega)
    rw [PySem.W.krv_pick]
    refine ⟨.ref _, _, I5.laid (t' := s4.toks) (o := .lst xs.reverse) (fun b ob q => Heap.get?_push_of_some _ q) (Nat.le_refl _) ?_, rfl, q _ (I5.hok.fresh (Nat.le_refl _))⟩
    exact ⟨by rw [List.length_reverse]; exact hz, _, 0, r.reverse, Heap.get?_push_size _ rfl⟩
  | true =>
    obtain ⟨its, r, ht, hz⟩ := I5.tuple (show SqT X.K H4 a xs from hx)
    have hlen := r.length
    refine tail_any (ops := [.ref a, .ref s4.heap.objs.size]) ht.typeIs (PyProof.Rows.slot_tuple_getitem.lookup) ?_ (by with_unfolding_all rfl)
    refine getItem_tuple_rev ht (Heap.IsSliceOf.new _ vl vu vs) pl pu ps ?_ (by rw [List.size_toArray]; omega)
    refine ⟨.ref _, _, I5.laid (t' := s4.toks) (o := .tup xs.reverse) (fun b ob q => Heap.get?_push_of_some _ q) (Nat.le_refl _) ?_, rfl, q _ (I5.hok.fresh (Nat.le_refl _))⟩
    exact ⟨by rw [List.length_reverse]; exact hz, _, r.reverse, IsTup.new _ _⟩
def revD : D → Option D
  | .tup a => some (.tup a.reverse)
  | .lst a => some (.lst a.reverse)
  | _ => none
end
section
variable {ι : Type} {X : ι → Cx} {P : Program} {w : World} {K : PySem.W.Frag} {mg : Str → Option Value} {base : Heap} {N : List Str} {lv : Nat} {pos : Pos} {a b c e : Expr} {es elts : List Expr} {f fa fb fc : EF} {g : AF}
theorem cRev (C : Fam X P w K mg base N lv) {k : Nat} {p1 p2 p3 : Pos} (h : CB X K e f) : CE X K (.Subscript e (.Slice none none (some (.UnaryOp .USub (.Constant (.int 1) k p1) p2)) p3) pos) (x1 revD f) := by
  obtain ⟨t, h1, h2⟩ := h
  refine ⟨tRevA K t, fun i => by have := pe_revA (pos := pos) (k := k) (p1 := p1) (p2 := p2) (p3 := p3) (h1 i); rw [C.k i] at this; exact this, fun pd F0 H0 F H ρ σ s d s' o e Q q => ?_⟩
  obtain ⟨x, s1, e1, e⟩ := Mb_eq e
  obtain ⟨e2, rfl⟩ := Mo_eq e
  refine h2 pd F0 H0 F H ρ σ s x s1 o e1 _ fun v F1 H1 x1 d1 r1 => ?_
  have fh := (o.step x1 d1).fh
  cases x <;> first | (cases e2; done) | skip
  · cases e2
    obtain ⟨p, xs, rfl, t1, t2, hl, r⟩ := r1.tup fh
    refine ⟨true, p, xs, rfl, t1, fun z n => ?_⟩
    have x2 := Ext.new (o := .tup xs.reverse) fh n
    refine q _ _ _ (x1.trans x2.lift) (d1.grow x2) ?_
    simp only [Rep]
    exact ⟨z, _, rfl, .of upd_same, by rw [List.length_reverse]; exact hl, r.reverse.mono x2.ff⟩
  · cases e2
    obtain ⟨p, xs, rfl, t1, hl, r⟩ := r1.lst fh
    refine ⟨false, p, xs, rfl, .of t1, fun z n => ?_⟩
    have x2 := Ext.new (o := .lst xs.reverse) fh n
    refine q _ _ _ (x1.trans x2.lift) (d1.grow x2) ?_
    simp only [Rep]
    exact ⟨z, _, rfl, upd_same, by rw [List.length_reverse]; exact hl, r.reverse.mono x2.ff⟩

/-! ### l.index(x) -/
def idxD (d : D) (ds : List D) : Option Nat := ds.findIdx? fun z => PyData.eqv (toP z) (toP d)
def indexD (x y : D) : Option D := match x with
  | .lst ds => if cmpOk (.lst ds) = true ∧ cmpOk y = true then (idxD y ds).map fun j => .int (j : Nat) else none
  | _ => none
theorem cIndex (C : Fam X P w K mg base N lv) {apos cpos : Pos} (ho : CB X K a fa) (ha : CB X K b fb)
    (hbase : ∀ j, attributeBase a "index" (X j).env (eval a (X j).env) = eval a (X j).env := by intro _; rfl)
    (hfew : ∀ j, ((backTo cpos (starEach [b] (X j).env)).all (fun x => !x.1) && (backToKw cpos (keywordEach [] (X j).env)).all (fun x => x.1.isSome)
      && decide (([b] : List Expr).length + ([] : List Keyword).length + (if ([] : List Keyword).isEmpty then 0 else 1) < 30)) = true := by intro _; rfl)
    (hline : (apos.endLine == cpos.line) = true := by rfl) (hs : ∀ j, starEach [b] (X j).env = (false, eval b (X j).env) :: starEach [] (X j).env := by intro _; rfl) (hplain : ∀ j, (backTo cpos (starEach [] (X j).env)).any (·.1) = false := by intro _; rfl) :
    CE X K (.Call (.Attribute a "index" apos) [b] [] cpos) (x2 indexD fa fb) := by
  obtain ⟨ta, a1, a2⟩ := ho
  obtain ⟨tb, b1, b2⟩ := ha
  refine ⟨tBM K "list" (rIndexD K) ta (tCons tb tNil), fun j => by
    have := pe_bm (X := X j) (cpos := cpos) (apos := apos) PySem.F.plainAttrs_list PySem.F.slot_list_index PySem.F.type_list_index (mt_indexD (by have := (C.r j).un; omega)) (a1 j) (pa_cons (b1 j) pa_nil (hs j)) (hbase j) (hfew j) hline (hs j) (hplain j)
    rw [C.k j] at this
    exact this, fun pd F0 H0 F H ρ σ s d s' o e Q q => ?_⟩
  obtain ⟨x, s1, e1, e⟩ := Mb_eq e
  obtain ⟨y, s2, e2, e⟩ := Mb_eq e
  obtain ⟨e3, rfl⟩ := Mo_eq e
  refine a2 pd F0 H0 F H ρ σ s x s1 o e1 _ fun v F1 H1 x1 d1 r1 => ?_
  have o1 := o.step x1 d1
  obtain ⟨ds, rfl⟩ : ∃ ds, x = .lst ds := by cases x <;> first | (cases e3; done) | exact ⟨_, rfl⟩
  · simp only [indexD] at e3
    split at e3
    · rename_i hc
      cases hj : idxD y ds with
      | none => rw [hj] at e3; cases e3
      | some j =>
        rw [hj] at e3; cases e3
        obtain ⟨p, xs, rfl, h3, _, h4⟩ := r1.lst o1.fh
        refine ⟨.inl ⟨rfl, xs, .of h3⟩, b2 pd F0 H0 F1 H1 ρ σ s1 y s2 o1 e2 _ fun u F2 H2 x2 d2 r2 => ?_⟩
        have o2 := o1.step x2 d2
        have r1' := r1.mono x2
        unfold cmpOk at hc
        simp only [Bool.and_eq_true] at hc
        obtain ⟨⟨c1, s1'⟩, c2, s2'⟩ := hc
        have dl := r1'.dp o2.fh c1
        have hjj := hj
        unfold idxD at hjj
        rw [List.findIdx?_eq_some_iff_getElem] at hjj
        obtain ⟨hlt, h5, h6⟩ := hjj
        simp only [toP] at dl s1'
        refine ⟨p, u, toP y, toPs ds, j, toP ds[j], rfl, rfl, dl, r2.dp o2.fh c2, s1', s2', by rw [toPs_eq, List.getElem?_map, List.getElem?_eq_getElem hlt]; rfl, h5, fun m z' hm hz => ?_, q _ F2 H2 (x1.trans x2) o2.dok (by simp [Rep])⟩
        rw [toPs_eq, List.getElem?_map, List.getElem?_eq_getElem (by omega)] at hz
        have hz := Option.some.inj hz
        subst hz
        simpa using h6 m hm
    · cases e3

/-! ### list(range(..)), tuple(range(..)) -/
def o1 (g : D → Option (List D)) (f : EF) : AF := fun ρ => Mb (f ρ) fun x => Mo (g x)
def rgo1 : D → Option (List D)
  | .int j => if -(2 ^ 62) ≤ j ∧ j ≤ 16777216 then some (rangeL 0 j.toNat) else none
  | _ => none
def rgo2 : D → D → Option (List D)
  | .int i, .int j => if -(2 ^ 61) ≤ i ∧ i < 2 ^ 61 ∧ -(2 ^ 61) ≤ j ∧ j < 2 ^ 61 ∧ j - i ≤ 16777216 then some (rangeL i (j - i).toNat) else none
  | _, _ => none
def xTp (a : AF) : EF := fun ρ => Mb (a ρ) fun xs => Mp (.tup xs)
theorem rgV_rep {K : PySem.W.Frag} {pd : Option PD} {F : Hp} (i : Int) (j : Int) : RepL K pd F (rangeL i (j - i).toNat) (L2.rgV i j) := by
  have e1 : rangeL i (j - i).toNat = ((List.range (j - i).toNat).map fun (k : Nat) => i + (k : Int)).map D.int := by unfold rangeL; rw [List.map_map]; rfl
  have e2 : L2.rgV i j = ((List.range (j - i).toNat).map fun (k : Nat) => i + (k : Int)).map V.int := by unfold L2.rgV; rw [List.map_map]; rfl
  rw [e1, e2]
  exact RepL.ofInts _
theorem oListRg1 (C : Fam X P w K mg base N lv) (hm1 : mg "list" = none) (hm2 : mg "range" = none) {p p2 pos2 : Pos} (h : CE X K a fa) (hg : ∀ i, Gl (X i) "list" := by intro _; rfl) (hg2 : ∀ i, Gl (X i) "range" := by intro _; rfl)
    (na : ∀ i, starEach [a] (X i).env = (false, eval a (X i).env) :: starEach [] (X i).env := by intro _; rfl) (nb : ∀ i, starEach [.Call (.Name "range" p2) [a] [] pos2] (X i).env = (false, eval (.Call (.Name "range" p2) [a] [] pos2) (X i).env) :: starEach [] (X i).env := by intro _; rfl) :
    CO X K (.Call (.Name "list" p) [.Call (.Name "range" p2) [a] [] pos2] [] pos) (o1 rgo1 fa) := by
  obtain ⟨t, h1, h2⟩ := h
  refine ⟨_, fun i => pe_listRg (C.c i) (hg i) (by rw [C.m i]; exact hm1) (prg_1 (hg2 i) (by rw [C.m i]; exact hm2) (h1 i) (na i)) (nb i), fun pd F0 H0 F H ρ σ s d s' o e Q q => ?_⟩
  obtain ⟨x, s1, e1, e⟩ := Mb_eq e
  obtain ⟨e2, rfl⟩ := Mo_eq e
  refine h2 pd F0 H0 F H ρ σ s x s1 o e1 _ fun v F1 H1 x1 d1 r1 => ?_
  have fh := (o.step x1 d1).fh
  cases x <;> first | (cases e2; done) | skip
  rename_i j
  simp only [rgo1] at e2
  split at e2
  · rename_i hj
    cases e2
    simp only [Rep] at r1
    subst r1
    refine ⟨j, rfl, ⟨by omega, by omega, by omega, by omega, by omega⟩, fun z n => ?_⟩
    have x2 := Ext.own (o := .lst (L2.rgV 0 j)) fh n
    have rr := rgV_rep (K := K) (pd := pd) (F := F1) 0 j
    rw [Int.sub_zero] at rr
    refine q z (L2.rgV 0 j) F1 _ (x1.trans x2.lift) (d1.grow x2) ?_ (nF_of fh n) upd_same ?_ rr
    · cases hp : H z with
      | none => rfl
      | some u => exact absurd n (x1.hd z (by rw [hp]; simp))
    · unfold rangeL; rw [List.length_map, List.length_range]; show j.toNat ≤ 2 ^ 24; omega
  · cases e2
theorem oListRg2 (C : Fam X P w K mg base N lv) (hm1 : mg "list" = none) (hm2 : mg "range" = none) {p p2 pos2 : Pos} (h : CE X K a fa) (h' : CE X K b fb) (hg : ∀ i, Gl (X i) "list" := by intro _; rfl) (hg2 : ∀ i, Gl (X i) "range" := by intro _; rfl)
    (na : ∀ i, starEach [a, b] (X i).env = (false, eval a (X i).env) :: starEach [b] (X i).env := by intro _; rfl) (na2 : ∀ i, starEach [b] (X i).env = (false, eval b (X i).env) :: starEach [] (X i).env := by intro _; rfl)
    (hp : ∀ i, (backTo pos2 (starEach [b] (X i).env)).any (·.1) = false := by intro _; rfl)
    (nb : ∀ i, starEach [.Call (.Name "range" p2) [a, b] [] pos2] (X i).env = (false, eval (.Call (.Name "range" p2) [a, b] [] pos2) (X i).env) :: starEach [] (X i).env := by intro _; rfl) :
    CO X K (.Call (.Name "list" p) [.Call (.Name "range" p2) [a, b] [] pos2] [] pos) (o2 rgo2 fa fb) := by
  obtain ⟨t, h1, h2⟩ := h
  obtain ⟨u, u1, u2⟩ := h'
  refine ⟨_, fun i => pe_listRg (C.c i) (hg i) (by rw [C.m i]; exact hm1) (prg_2 (hg2 i) (by rw [C.m i]; exact hm2) (h1 i) (u1 i) (na i) (na2 i) (hp i)) (nb i), fun pd F0 H0 F H ρ σ s d s' o e Q q => ?_⟩
  obtain ⟨x, s1, e1, e⟩ := Mb_eq e
  obtain ⟨y, s2, e2, e⟩ := Mb_eq e
  obtain ⟨e3, rfl⟩ := Mo_eq e
  refine h2 pd F0 H0 F H ρ σ s x s1 o e1 _ fun v F1 H1 x1 d1 r1 => ?_
  refine u2 pd F0 H0 F1 H1 ρ σ s1 y s2 (o.step x1 d1) e2 _ fun v' F2 H2 x2 d2 r2 => ?_
  have fh := ((o.step x1 d1).step x2 d2).fh
  obtain ⟨i, j, rfl, rfl⟩ : ∃ i j, x = .int i ∧ y = .int j := by cases x <;> cases y <;> first | (cases e3; done) | exact ⟨_, _, rfl, rfl⟩
  simp only [rgo2] at e3
  split at e3
  · rename_i hj
    cases e3
    simp only [Rep] at r1 r2
    subst r1 r2
    refine ⟨i, j, rfl, rfl, ⟨by omega, by omega, by omega, by omega, by omega⟩, fun z n => ?_⟩
    have x3 := Ext.own (o := .lst (L2.rgV i j)) fh n
    refine q z (L2.rgV i j) F2 _ (x1.trans (x2.trans x3.lift)) (d2.grow x3) ?_ (nF_of fh n) upd_same ?_ (rgV_rep i j)
    · cases hp : H z with
      | none => rfl
      | some u => exact absurd n ((x1.trans x2).hd z (by rw [hp]; simp))
    · unfold rangeL; rw [List.length_map, List.length_range]; show (j - i).toNat ≤ 2 ^ 24; omega
  · cases e3
theorem cTupRg1 (C : Fam X P w K mg base N lv) (hm1 : mg "tuple" = none) (hm2 : mg "range" = none) {p p2 pos2 : Pos} (h : CE X K a fa) (hg : ∀ i, Gl (X i) "tuple" := by intro _; rfl) (hg2 : ∀ i, Gl (X i) "range" := by intro _; rfl)
    (na : ∀ i, starEach [a] (X i).env = (false, eval a (X i).env) :: starEach [] (X i).env := by intro _; rfl) (nb : ∀ i, starEach [.Call (.Name "range" p2) [a] [] pos2] (X i).env = (false, eval (.Call (.Name "range" p2) [a] [] pos2) (X i).env) :: starEach [] (X i).env := by intro _; rfl) :
    CE X K (.Call (.Name "tuple" p) [.Call (.Name "range" p2) [a] [] pos2] [] pos) (xTp (o1 rgo1 fa)) := by
  obtain ⟨t, h1, h2⟩ := h
  refine ⟨_, fun i => pe_tupRg (C.c i) (hg i) (by rw [C.m i]; exact hm1) (prg_1 (hg2 i) (by rw [C.m i]; exact hm2) (h1 i) (na i)) (nb i), fun pd F0 H0 F H ρ σ s d s' o e Q q => ?_⟩
  obtain ⟨x0, s0, e0, e⟩ := Mb_eq e
  obtain ⟨rfl, rfl⟩ := Mp_eq e
  obtain ⟨x, s1, e1, e⟩ := Mb_eq e0
  obtain ⟨e2, rfl⟩ := Mo_eq e
  refine h2 pd F0 H0 F H ρ σ s x s1 o e1 _ fun v F1 H1 x1 d1 r1 => ?_
  have fh := (o.step x1 d1).fh
  cases x <;> first | (cases e2; done) | skip
  rename_i j
  simp only [rgo1] at e2
  split at e2
  · rename_i hj
    cases e2
    simp only [Rep] at r1
    subst r1
    refine ⟨j, rfl, ⟨by omega, by omega, by omega, by omega, by omega⟩, fun z n => ?_⟩
    have x2 := Ext.new (o := .tup (L2.rgV 0 j)) fh n
    have rr := rgV_rep (K := K) (pd := pd) (F := F1) 0 j
    rw [Int.sub_zero] at rr
    refine q _ _ _ (x1.trans x2.lift) (d1.grow x2) ?_
    simp only [Rep]
    exact ⟨z, _, rfl, .of upd_same, by unfold rangeL; rw [List.length_map, List.length_range]; show j.toNat ≤ 2 ^ 24; omega, rr.mono x2.ff⟩
  · cases e2

/-! ### x = [.. for ..] -/
theorem semS_set {i : Nat} {te : TE} (h2 : SemE K te f) : SemS K (tAsg te (gName i)) (sSet i f) := fun pd F0 H0 F H ρ σ s r ρ' s' o e E q => by
  obtain ⟨d, s1, e1, e2⟩ := Mb_eq e
  obtain ⟨a, rfl⟩ := Mp_eq e2
  cases a
  exact h2 pd F0 H0 F H _ σ s d _ o e1 _ fun v F' H' x d' r => q _ F' H' x.ff ((o.step x d').set r)
theorem cSwLc (C : Fam X P w K mg base N lv) {y : Str} {py : Pos} {elt tg iter : Expr} {ifs : List Expr} {scope : Scope} {js : List Nat} {fi : AF} {gg : TGt} {ft : TF} {fe : EF} {lpos : Pos} (i : Nat) (own : List (Str × Nat)) (hi : CIW X K tg iter fi) (ok : ∀ i, BlkOk N (X i).env.scope scope own)
    (hg : CG (blkF X scope) K tg js gg) (ht : ∃ t, (∀ b, PTs (blkF X scope b) ifs t) ∧ SemT K t ft) (he : CE (blkF X scope) K elt fe) (hN : N[i]? = some y) (hk : ∀ j, (X j).env.scope.kind = .function) (hy : ∀ j, (X j).env.scope.names.lookup y = some .local) (hl : (py.line == lpos.line) = true)
    (ha : (scope.names.any fun (n, k) => n == y && (k == .local || k == .cell)) = false) (hj : ∀ j ∈ js, j ∈ own.map (·.2)) (hs : ∀ i, ∀ x, foldedSetIterable iter (X i).env x = pure x) :
    ∃ te, (∀ j, PS (X j) (.Assign [.Name y py] (.ListComp elt [⟨tg, iter, ifs, 0⟩] scope lpos) pos) (tAsg te (gName i))) ∧ SemO K te (oComp fi gg ft fe (own.map (·.2))) := by
  obtain ⟨wi, i1, i2⟩ := hi
  obtain ⟨g, g1, g2⟩ := hg
  obtain ⟨tt, t1, t2⟩ := ht
  obtain ⟨te, e1, e2⟩ := he
  exact ⟨_, fun i => ps_setLc (own := own) (C.c i) (by rw [C.n i]; exact C.nd) (by rw [C.n i]; exact hN) (hy i) (sw_true (hk i) (hy i) hl ha) (i1 i) (by rw [C.n i]; exact ok i) (fun s H Cc cl fp => g1 ⟨i, s, H, Cc, cl, fp⟩) (fun s H Cc cl fp => t1 ⟨i, s, H, Cc, cl, fp⟩) (fun s H Cc cl fp => e1 ⟨i, s, H, Cc, cl, fp⟩) (hs i), semO_comp i2 g2 t2 e2 hj⟩
theorem cOwnLc (C : Fam X P w K mg base N lv) {y : Str} {py : Pos} {elt tg iter : Expr} {ifs : List Expr} {scope : Scope} {js : List Nat} {fi : AF} {gg : TGt} {ft : TF} {fe : EF} {lpos : Pos} (i : Nat) (own : List (Str × Nat)) (hi : CIW X K tg iter fi) (ok : ∀ i, BlkOk N (X i).env.scope scope own)
    (hg : CG (blkF X scope) K tg js gg) (ht : ∃ t, (∀ b, PTs (blkF X scope b) ifs t) ∧ SemT K t ft) (he : CE (blkF X scope) K elt fe) (hN : N[i]? = some y := by rfl) (hk : ∀ j, (X j).env.scope.kind = .function := by intro _; rfl) (hy : ∀ j, (X j).env.scope.names.lookup y = some .local := by intro _; rfl) (hl : (py.line == lpos.line) = true := by rfl)
    (ha : (scope.names.any fun (n, k) => n == y && (k == .local || k == .cell)) = false := by decide +kernel) (hj : ∀ j ∈ js, j ∈ own.map (·.2) := by decide) (hs : ∀ i, ∀ x, foldedSetIterable iter (X i).env x = pure x := by intro _ _; rfl) :
    CS X K (.Assign [.Name y py] (.ListComp elt [⟨tg, iter, ifs, 0⟩] scope lpos) pos) (sOwn i (oComp fi gg ft fe (own.map (·.2)))) :=
  let ⟨te, h1, h2⟩ := cSwLc C i own hi ok hg ht he hN hk hy hl ha hj hs; ⟨_, h1, semS_own h2⟩
theorem cSetLc (C : Fam X P w K mg base N lv) {y : Str} {py : Pos} {elt tg iter : Expr} {ifs : List Expr} {scope : Scope} {js : List Nat} {fi : AF} {gg : TGt} {ft : TF} {fe : EF} {lpos : Pos} (i : Nat) (own : List (Str × Nat)) (hi : CIW X K tg iter fi) (ok : ∀ i, BlkOk N (X i).env.scope scope own)
    (hg : CG (blkF X scope) K tg js gg) (ht : ∃ t, (∀ b, PTs (blkF X scope b) ifs t) ∧ SemT K t ft) (he : CE (blkF X scope) K elt fe) (hN : N[i]? = some y := by rfl) (hk : ∀ j, (X j).env.scope.kind = .function := by intro _; rfl) (hy : ∀ j, (X j).env.scope.names.lookup y = some .local := by intro _; rfl) (hl : (py.line == lpos.line) = true := by rfl)
    (ha : (scope.names.any fun (n, k) => n == y && (k == .local || k == .cell)) = false := by decide +kernel) (hj : ∀ j ∈ js, j ∈ own.map (·.2) := by decide) (hs : ∀ i, ∀ x, foldedSetIterable iter (X i).env x = pure x := by intro _ _; rfl) :
    CS X K (.Assign [.Name y py] (.ListComp elt [⟨tg, iter, ifs, 0⟩] scope lpos) pos) (sSet i (xOf (oComp fi gg ft fe (own.map (·.2))))) :=
  let ⟨te, h1, h2⟩ := cSwLc C i own hi ok hg ht he hN hk hy hl ha hj hs; ⟨_, h1, semS_set (sem_of_O h2)⟩

/-! ### a module's names -/
structure CstOk (mg : Str → Option Value) (x : Str) (d : D) (K : PySem.W.Frag) : Prop where
  ex : ∃ v u, mg x = some u ∧ L2.RelV v u ∧ ∀ pd F, Rep K pd F d v
theorem CstOk.ce {x : Str} {d : D} (k : CstOk mg x d K) (C : Fam X P w K mg base N lv) (hg : ∀ j, Gl (X j) x := by intro _; rfl) (hd : (x == ("__debug__" : Str)) = false := by decide) : CE X K (.Name x pos) (xC d) :=
  let ⟨v, u, h1, h2, h3⟩ := k.ex; cGlob C h1 h2 h3 hg hd
theorem CstOk.int {x : Str} {i : Int} {t : Tok} (h : mg x = some (.int i t)) : CstOk mg x (.int i) K := ⟨.int i, _, h, ⟨t, rfl⟩, fun _ _ => by simp [Rep]⟩
structure Bi (mg : Str → Option Value) : Prop where
  len : mg "len" = none
  sum : mg "sum" = none
  min : mg "min" = none
  max : mg "max" = none
  all : mg "all" = none
  any : mg "any" = none
  abs : mg "abs" = none
  int : mg "int" = none
  sorted : mg "sorted" = none
  tuple : mg "tuple" = none
  list : mg "list" = none
  range : mg "range" = none
  enumerate : mg "enumerate" = none
  zip : mg "zip" = none
end
end Pu
namespace Pu
open PySem PySem.Spec PyProof.Rows L2

/-! ### a def's own list becomes known to all, ahead of a statement -/
def sFz (i : Nat) (g : SF) : SF := fun ρ => onOw ρ[i]? fun ds => g (ρ.set i (.sh (.lst ds)))
section
variable {ι : Type} {X : ι → Cx} {P : Program} {w : World} {K : PySem.W.Frag} {mg : Str → Option Value} {base : Heap} {N : List Str} {lv : Nat} {pos : Pos} {st : Stmt} {rest : List Stmt} {e : Expr} {f fk : EF} {g g' : SF}
theorem cFz (i : Nat) (h : CS X K st g) : CS X K st (sFz i g) := by
  obtain ⟨t, h1, h2⟩ := h
  refine ⟨t, h1, fun pd F0 H0 F H ρ σ s r ρ' s' o e E q => ?_⟩
  obtain ⟨ds, hds, e⟩ := onOw_eq e
  obtain ⟨p, F', _, f1, o', _⟩ := o.freeze hds
  exact h2 pd F0 H0 F' H _ σ s r ρ' s' o' e E (q.from f1)

/-! ### a, b = x, y: from the right -/
def sPar (i j : Nat) (f g : EF) : SF := fun ρ => Mb (f ρ) fun a => Mb (g ρ) fun b => Mp (.nx, (ρ.set i (.sh a)).set j (.sh b))

/-! ### the law's draw object -/
def rdD (k : Nat) (s : DS) : D := match k with
  | 0 => .lst (s.ns.map D.int)
  | 1 => .int s.pos
  | 2 => .int s.acc
  | _ => .int s.seed
def xRd (i k : Nat) : EF := fun ρ => onSh ρ[i]? fun d => match d with
  | .rng => fun s => some (rdD k s, s)
  | _ => Mf
def wrD (k : Nat) (v : Int) (s : DS) : DS := match k with
  | 1 => { s with pos := v }
  | 2 => { s with acc := v }
  | _ => { s with seed := v }
def wrOk (k : Nat) (v : Int) : Bool := decide (0 ≤ v) && (k != 3 || decide (v < 2147483647))
def sWr (i k : Nat) (f : EF) : SF := fun ρ => Mb (f ρ) fun d => onInt d fun v => onSh ρ[i]? fun x => match x with
  | .rng => fun s => if wrOk k v = true then some ((.nx, ρ), wrD k v s) else none
  | _ => Mf
theorem onSh_rng {i : Nat} {ρ : Rho} {α : Type} {k : M α} {s s' : DS} {a : α} (e : onSh ρ[i]? (fun d => match d with
  | .rng => k
  | _ => Mf) s = some (a, s')) : ρ[i]? = some (.sh .rng) ∧ k s = some (a, s') := by
  obtain ⟨d, h, e⟩ := onSh_eq e
  cases d <;> first | (cases e; done) | exact ⟨h, e⟩
theorem Ok.rng {K : PySem.W.Frag} {pd : Option PD} {F0 H0 F H : Hp} {ρ : Rho} {σ : L2.St} {s : DS} {i : Nat} (o : Ok K pd F0 H0 F H ρ σ s) (h : ρ[i]? = some (.sh .rng)) :
    ∃ x, pd = some x ∧ σ[i]? = some (some (.ref x.p)) ∧ F x.p = none ∧ s.ok ∧ H x.p = some (.lst [.ref x.q, .int s.pos, .int s.acc, .int s.seed]) ∧ F x.q = some (.lst (s.ns.map V.int)) := by
  obtain ⟨v, h1, h2⟩ := o.sh h
  simp only [Rep] at h2
  obtain ⟨a, rfl, h2⟩ := h2
  cases pd with
  | none => cases h2
  | some x =>
    have : x.p = a := Option.some.inj h2
    subst this
    obtain ⟨d1, d2, d3, d4⟩ := o.dok
    exact ⟨x, rfl, h1, d1, d2, d3, d4⟩
theorem Ok.wr {K : PySem.W.Frag} {x : PD} {F0 H0 F H : Hp} {ρ : Rho} {σ : L2.St} {s s' : DS} (o : Ok K (some x) F0 H0 F H ρ σ s) (ok : s'.ok) (hn : s'.ns = s.ns) :
    Ok K (some x) F0 H0 F (L2.upd H x.p (.lst [.ref x.q, .int s'.pos, .int s'.acc, .int s'.seed])) ρ σ s' := by
  obtain ⟨d1, d2, d3, d4⟩ := o.dok
  refine ⟨⟨o.ext.ff, fun a u e n => ?_, fun a e => ?_, o.ext.nw, fun a u e => ?_⟩, ⟨o.env.len, fun i sl e => ?_, o.env.ap⟩, d1, ok, upd_same, by rw [hn]; exact d4⟩
  · have : a ≠ x.p := fun z => n (by rw [z]; rfl)
    rw [upd_ne this]; exact o.ext.hh a u e n
  · by_cases ha : a = x.p
    · subst ha; rw [upd_same]; simp
    · rw [upd_ne ha]; exact o.ext.hd a e
  · have : a ≠ x.p := fun z => by rw [z, d1] at e; cases e
    rw [upd_ne this]; exact o.ext.fh a u e
  · obtain ⟨q, h1, h2⟩ := o.env.at' i sl e
    refine ⟨q, h1, ?_⟩
    cases sl with
    | un => trivial
    | sh d => exact h2
    | ow fs =>
      obtain ⟨p', xs', rfl, a2, a3, a4, a5, a6, a7⟩ := h2
      exact ⟨p', xs', rfl, a2, a3, a4, by rw [upd_ne (fun z => a4 (by rw [z]; rfl))]; exact a5, a6, a7⟩
theorem cRd (C : Fam X P w K mg base N lv) (i k : Nat) {x : Str} {p2 p3 : Pos} {kk} (hk : k ≤ 3) (hN : N[i]? = some x := by rfl) (hv : ∀ j, Vis (X j).env.scope x := by intro _; first | exact Or.inl rfl | exact Or.inr (Or.inl rfl) | exact Or.inr (Or.inr rfl))
    (hd : (x == ("__debug__" : Str)) = false := by decide) (hcd : (x == ("__classdict__" : Str)) = false := by decide) : CE X K (.Subscript (.Name x p2) (.Constant (.int (k : Nat)) kk p3) pos) (xRd i k) := by
  refine ⟨tOp (rIxL K) (tVar i) (tC (.int (k : Nat))), fun j => ?_, fun pd F0 H0 F H ρ σ s d s' o e Q q => ?_⟩
  · have := pe_ix (pos := pos) (X := X j) ix_list (pe_var (pos := p2) (by rw [C.n j]; exact hN) (hv j) hd hcd) (pe_int (i := ((k : Nat) : Int)) (j := kk) (pos := p3)) (fun _ _ => rfl)
    rw [C.k j] at this
    exact this
  · obtain ⟨h, e⟩ := onSh_rng e
    obtain ⟨e1, e2⟩ := Prod.mk.inj (Option.some.inj e)
    subst e2
    obtain ⟨x, rfl, h1, d1, d2, d3, d4⟩ := o.rng h
    have hcase : k = 0 ∨ k = 1 ∨ k = 2 ∨ k = 3 := by omega
    have fin : ∃ z, atI [V.ref x.q, .int s.pos, .int s.acc, .int s.seed] (k : Nat) = some z ∧ Rep K (some x) F d z := by
      rcases hcase with rfl | rfl | rfl | rfl
      · refine ⟨_, rfl, ?_⟩
        rw [← e1]
        simp only [rdD, Rep]
        exact ⟨x.q, _, rfl, d4, by rw [List.length_map]; exact Nat.le_trans d2.nl (by decide), RepL.ofInts _⟩
      · exact ⟨_, rfl, by rw [← e1]; simp [rdD, Rep]⟩
      · exact ⟨_, rfl, by rw [← e1]; simp [rdD, Rep]⟩
      · exact ⟨_, rfl, by rw [← e1]; simp [rdD, Rep]⟩
    obtain ⟨z, hz, rz⟩ := fin
    exact ⟨_, h1, x.p, _, (k : Nat), z, rfl, rfl, .of d3, hz, q z F H (.refl o.fh) o.dok rz⟩
theorem cWr (C : Fam X P w K mg base N lv) (i k : Nat) {x : Str} {p2 p3 p4 : Pos} {kk} (h : CE X K e f) (hk : 1 ≤ k ∧ k ≤ 3) (hN : N[i]? = some x := by rfl) (hv : ∀ j, Vis (X j).env.scope x := by intro _; first | exact Or.inl rfl | exact Or.inr (Or.inl rfl) | exact Or.inr (Or.inr rfl))
    (hd : (x == ("__debug__" : Str)) = false := by decide) (hcd : (x == ("__classdict__" : Str)) = false := by decide)
    (ha : ∀ j, ∀ v, assign (.Subscript (.Name x p2) (.Constant (.int (k : Nat)) kk p4) p3) (X j).env v = (do
      let ov ← holding [v] (eval (.Name x p2) (X j).env)
      let iv ← holding [v, ov] (eval (.Constant (.int (k : Nat)) kk p4) (X j).env)
      standAt p3
      holding [v, ov, iv] (setItem ov iv v)
      release [v, ov, iv] []) := by intro _ _; rfl)
    (hs : ∀ j, swapsWithSole [.Subscript (.Name x p2) (.Constant (.int (k : Nat)) kk p4) p3] e pos.line (X j).env = pure false := by intro _; rfl) (hw : ∀ j, swappedStores [.Subscript (.Name x p2) (.Constant (.int (k : Nat)) kk p4) p3] e (X j).env = pure none := by intro _; rfl)
    (h1 : ∀ j, (assignEach [.Subscript (.Name x p2) (.Constant (.int (k : Nat)) kk p4) p3] (X j).env).map (·.2) = [assign (.Subscript (.Name x p2) (.Constant (.int (k : Nat)) kk p4) p3) (X j).env] := by intro _; rfl) :
    CS X K (.Assign [.Subscript (.Name x p2) (.Constant (.int (k : Nat)) kk p4) p3] e pos) (sWr i k f) := by
  obtain ⟨t, e1, e2⟩ := h
  refine ⟨_, fun j => ps_asg (e1 j) (pg_sub (pe_var (by rw [C.n j]; exact hN) (hv j) hd hcd) (pe_int (i := ((k : Nat) : Int)) (j := kk) (pos := p4)) set_list (ha j)) (hs j) (hw j) (h1 j), fun pd F0 H0 F H ρ σ s r ρ' s' o e E q => ?_⟩
  obtain ⟨d, s1, a1, e⟩ := Mb_eq e
  obtain ⟨v, rfl, e⟩ := onInt_eq e
  obtain ⟨hr, e⟩ := onSh_rng e
  split at e
  · rename_i hok
    obtain ⟨e3, e4⟩ := Prod.mk.inj (Option.some.inj e)
    cases e3
    subst e4
    refine e2 pd F0 H0 F H _ σ s _ _ o a1 _ fun z F1 H1 x1 d1 r1 => ?_
    have o1 := o.step x1 d1
    simp only [Rep] at r1
    subst r1
    obtain ⟨x, rfl, h1, c1, c2, c3, c4⟩ := o1.rng hr
    unfold wrOk at hok
    simp only [Bool.and_eq_true, Bool.or_eq_true, bne_iff_ne, ne_eq, decide_eq_true_eq] at hok
    refine ⟨_, h1, x.p, _, (k : Nat), k, rfl, rfl, c3, ?_, ?_⟩
    · rcases (show k = 1 ∨ k = 2 ∨ k = 3 by omega) with rfl | rfl | rfl <;> rfl
    · rcases (show k = 1 ∨ k = 2 ∨ k = 3 by omega) with rfl | rfl | rfl
      · exact q σ F1 _ x1.ff (o1.wr (s' := wrD 1 v s1) ⟨hok.1, c2.a0, c2.s0, c2.s1, c2.nl⟩ rfl)
      · exact q σ F1 _ x1.ff (o1.wr (s' := wrD 2 v s1) ⟨c2.p0, hok.1, c2.s0, c2.s1, c2.nl⟩ rfl)
      · exact q σ F1 _ x1.ff (o1.wr (s' := wrD 3 v s1) ⟨c2.p0, c2.a0, hok.1, by rcases hok.2 with z | z; exact absurd rfl z; exact z, c2.nl⟩ rfl)
  · cases e
end

/-! ### _law_begin(script) -/
def spBegin (K : PySem.W.Frag) : Sp := fun vs H Q _ => ∃ (a : Addr) (ns : List Int), vs = [.ref a] ∧ SqL K H a (ns.map V.int) ∧ ns.length ≤ 63 ∧
  ∀ (q p : Addr) (H1 : Hp) (seed : Int), 0 ≤ seed → seed < 2147483647 → p ≠ q → H1 q = some (.lst (ns.map V.int)) → H1 p = some (.lst [.ref q, .int 0, .int 0, .int seed]) → Q (.ref p) H1
theorem seed_next {s c : Int} (h0 : 0 ≤ s) (h1 : s < 2147483647) : 0 ≤ (s * 69621 + c % 2147483629 + 7) % 2147483647 ∧ (s * 69621 + c % 2147483629 + 7) % 2147483647 < 2147483647 := ⟨Int.emod_nonneg _ (by decide), Int.emod_lt_of_pos _ (by decide)⟩
theorem log_small {x : Int} (h : x.natAbs < 2 ^ 64) : x.natAbs.log2 < 64 := by
  by_cases h0 : x.natAbs = 0
  · rw [h0]; decide
  · exact (Nat.log2_lt h0).mpr h
/-- the reading of its body, by hand (N = script, seed, cell) -/
def tBegin (K : PySem.W.Frag) (tl : TE) : TS := tSeq (tAsg (tC (.int 1)) (gName 1)) (tSeq (tFor (iList K (tVar 0)) (gName 2) (tAsg (tOp (rI (fun _ j => 0 < j) fun i j => .int (i % j)) (tOp (rAddAll K) (tOp (rAddAll K) (tOp (rI CMulW fun i j => .int (i * j)) (tVar 1) (tC (.int 69621)))
  (tOp (rI (fun _ j => 0 < j) fun i j => .int (i % j)) (tCB (fun xs H Q => (∃ i, xs = [.int i] ∧ Q (.int i) H) ∨ ∃ k, xs = [.bl k] ∧ Q (.int (if k then 1 else 0)) H) (tCons (tVar 2) tNil)) (tC (.int 2147483629)))) (tC (.int 7))) (tC (.int 2147483647))) (gName 1))) (tRet tl))
theorem semBegin {K : PySem.W.Frag} {H : Hp} {a : Addr} {ns : List Int} {Q : VK} {E : Ends} (hS : SqL K H a (ns.map V.int)) (hl : ns.length ≤ 63)
    (q : ∀ (q p : Addr) (H1 : Hp) (seed : Int), 0 ≤ seed → seed < 2147483647 → p ≠ q → H1 q = some (.lst (ns.map V.int)) → H1 p = some (.lst [.ref q, .int 0, .int 0, .int seed]) → Q (.ref p) H1) (hE : E.rt = Q) {y1 y2 : Option V}
    (tl : TE) (htl : tl = tLst (tCons (tCB (fun xs H Q => ∃ p ys, xs = [.ref p] ∧ (SqL K H p ys ∨ SqT K H p ys) ∧ ∀ l, H l = none → Q (.ref l) (L2.upd H l (.lst ys))) (tCons (tVar 0) tNil)) (tCons (tC (.int 0)) (tCons (tC (.int 0)) (tCons (tVar 1) tNil))))) :
    tBegin K tl E [some (.ref a), y1, y2] H := by
  refine ⟨.ref a, rfl, a, rfl, ⟨_, hS⟩, ?_⟩
  refine ⟨fun i m σ H' => H' = H ∧ i + m = ns.length ∧ ∃ s y, σ = [some (.ref a), some (.int s), y] ∧ 0 ≤ s ∧ s < 2147483647, ⟨ns.length, rfl, by simp, 1, _, rfl, by decide, by decide⟩, ?_⟩
  rintro i m σ H' ⟨rfl, him, s, y, rfl, h0, h1⟩
  by_cases hi : i < ns.length
  · have g : (ns.map V.int)[i]? = some (.int ns[i]) := by rw [List.getElem?_map, List.getElem?_eq_getElem hi]; rfl
    refine .inr ⟨⟨_, _, hS, g⟩, fun σ' H2 => H2 = H' ∧ i + 1 + (m - 1) = ns.length ∧ ∃ s y, σ' = [some (.ref a), some (.int s), y] ∧ 0 ≤ s ∧ s < 2147483647, fun σ' H2 h => ⟨m - 1, by omega, h⟩, fun x H2 hy => ?_⟩
    obtain ⟨rfl, hx⟩ := hy
    have ex : x = .int ns[i] := Option.some.inj ((hx _ hS).symm.trans g)
    subst ex
    have hlog : s.natAbs.log2 + (69621 : Int).natAbs.log2 < 1000000 := by
      have := log_small (x := s) (by omega)
      have : (69621 : Int).natAbs.log2 < 64 := log_small (by decide)
      omega
    have hn := seed_next (c := ns[i]) h0 h1
    exact ⟨_, rfl, s, 69621, rfl, rfl, hlog, _, rfl, .inl ⟨_, rfl, _, _, rfl, rfl, (by show (0 : Int) < 2147483629; decide), .inl ⟨_, _, rfl, rfl, .inl ⟨_, _, rfl, rfl, ⟨_, _, rfl, rfl, (by show (0 : Int) < 2147483647; decide), ⟨rfl, by omega, _, _, rfl, hn.1, hn.2⟩⟩⟩⟩⟩⟩
  · refine .inl ⟨⟨_, hS, by rw [List.length_map]; omega⟩, ?_⟩
    show tl [some (.ref a), some (.int s), y] H' E.rt
    rw [hE]
    subst htl
    refine ⟨.ref a, rfl, a, _, rfl, .inl hS, fun l hl' => ⟨.int s, rfl, by show 4 ≤ sizeLine; decide, fun p hp => ?_⟩⟩
    have hne : p ≠ l := by rintro rfl; rw [upd_same] at hp; cases hp
    exact q l p _ s h0 h1 hne (by rw [upd_ne (Ne.symm hne), upd_same]) upd_same
abbrev tBeginL (K : PySem.W.Frag) : TE := tLst (tCons (tCB (fun xs H Q => ∃ p ys, xs = [.ref p] ∧ (SqL K H p ys ∨ SqT K H p ys) ∧ ∀ l, H l = none → Q (.ref l) (L2.upd H l (.lst ys))) (tCons (tVar 0) tNil)) (tCons (tC (.int 0)) (tCons (tC (.int 0)) (tCons (tVar 1) tNil))))
section
variable {P : Program} {w : World} {K : PySem.W.Frag} {mg : Str → Option Value} {base : Heap}
theorem begin_ok {st : Stmt} {f : Addr} {fd : FuncData} {k : Nat} {x : Str} (F : FnP K x st f fd) (S : FnScope ["script", "seed", "cell"] ["script"] (defScope st))
    (h : ∀ i, PSs (entF P w K mg base ["script", "seed", "cell"] k x (defScope st) f i) (defBody st) (tBegin K (tBeginL K))) : FnOk P w K mg base CX0 (k + 1) f fd ["script"] (spBegin K) := by
  refine F.okP S (fun vs H Q E h => ?_) (fun cdv A outer s H vs Q E hr h' => ?_)
  · obtain ⟨a, ns, rfl, _⟩ := h
    rfl
  · obtain ⟨a, ns, rfl, hS, hlen, q⟩ := h'
    exact ⟨_, h ⟨cdv, A, outer, s, H, E, hr⟩, semBegin hS hlen q rfl _ rfl⟩
/-- the start of a law's slots: the script forgotten, d the draw object -/
def rho0 (n : Nat) : Rho := .un :: .sh .rng :: List.replicate (n - 2) .un
def spLaw (K : PySem.W.Frag) (n : Nat) (g : SF) : Sp := fun vs H Q _ => ∃ (a : Addr) (ns : List Int), vs = [.ref a] ∧ SqL K H a (ns.map V.int) ∧ ns.length ≤ 63 ∧ (∀ seed, 0 ≤ seed → seed < 2147483647 → ∃ ρ' s', g (rho0 n) ⟨ns, 0, 0, seed⟩ = some ((.rt (.bl true), ρ'), s')) ∧ ∀ H', Q (.bl true) H'
theorem law_ok {st : Stmt} {f fB : Addr} {fd fdB : FuncData} {k kB : Nat} {x : Str} {N : List Str} {p2 p3 p4 p5 pos : Pos} {rest : List Stmt} {g : SF} (F : FnP K x st f fd) (S : FnScope N ["script"] (defScope st))
    (FB : FnOk P w K mg base CX0 kB fB fdB ["script"] (spBegin K)) (hkB : kB ≤ k) (bB : Binds K fdB ["script"] []) (gB : mg "_law_begin" = some (.ref fB)) (kpB : PySem.W.keepIn K (.ref fB) = true)
    (hb : defBody st = .Assign [.Name "d" p2] (.Call (.Name "_law_begin" p3) [.Name "script" p4] [] p5) pos :: rest) (h : CSs (entF P w K mg base N k x (defScope st) f) K rest g)
    (hN0 : N[0]? = some (Str.ofString "script")) (hN1 : N[1]? = some (Str.ofString "d")) (n : Nat := N.length) (hn : N.length = n := by rfl) (hn2 : 2 ≤ n := by decide)
    (hv : ∀ j, Vis (entF P w K mg base N k x (defScope st) f j).env.scope "script" := by intro _; first | exact Or.inl rfl | exact Or.inr (Or.inl rfl) | exact Or.inr (Or.inr rfl)) (hx : ∀ j, Loc (entF P w K mg base N k x (defScope st) f j).env.scope "d" := by intro _; first | exact Or.inl rfl | exact Or.inr rfl)
    (hg : ∀ i, Gl (entF P w K mg base N k x (defScope st) f i) "_law_begin" := by intro _; rfl)
    (he : ∀ i, starEach [.Name "script" p4] (entF P w K mg base N k x (defScope st) f i).env = (false, eval (.Name "script" p4) (entF P w K mg base N k x (defScope st) f i).env) :: starEach [] (entF P w K mg base N k x (defScope st) f i).env := by intro _; rfl)
    (hpl : ∀ i, (backTo p5 (starEach [] (entF P w K mg base N k x (defScope st) f i).env)).any (·.1) = false := by intro _; rfl)
    (hs : ∀ j, swapsWith (.Call (.Name "_law_begin" p3) [.Name "script" p4] [] p5) (some (.Name "d" p2)) pos.line (entF P w K mg base N k x (defScope st) f j).env = pure false := by intro _; rfl) :
    FnOk P w K mg base CX0 (k + 1) f fd ["script"] (spLaw K n g) := by
  subst hn
  refine F.okP S (fun vs H Q E h => ?_) (fun cdv A outer s H vs Q E hr h' => ?_)
  · obtain ⟨a, ns, rfl, _⟩ := h
    rfl
  · obtain ⟨a, ns, rfl, hS, hlen, hG, q⟩ := h'
    obtain ⟨t, t1, t2⟩ := h
    have i0 : EntI k x (defScope st) f := ⟨cdv, A, outer, s, H, E, hr⟩
    refine ⟨tSeq (tAsg (tCall (spBegin K) [] E0 (tCons (tVar 0) tNil)) (gName 1)) t, ?_, ?_⟩
    · rw [hb]
      refine pss_cons (ps_set (S.nd) hN1 (hx ⟨cdv, A, outer, s, H, E, hr⟩) ?_ (hs ⟨cdv, A, outer, s, H, E, hr⟩)) (t1 ⟨cdv, A, outer, s, H, E, hr⟩)
      exact pe_call (X := entF P w K mg base N k x (defScope st) f ⟨cdv, A, outer, s, H, E, hr⟩) FB (hr.mono hkB) (hg ⟨cdv, A, outer, s, H, E, hr⟩) gB kpB bB .nil pass0 (pa_cons (pe_var hN0 (hv ⟨cdv, A, outer, s, H, E, hr⟩)) pa_nil (he ⟨cdv, A, outer, s, H, E, hr⟩)) (by decide) (he ⟨cdv, A, outer, s, H, E, hr⟩) (hpl ⟨cdv, A, outer, s, H, E, hr⟩)
    · have hst : L2.start N [V.ref a] = some (.ref a) :: none :: List.replicate (N.length - 2) none := by
        show [some (V.ref a)] ++ List.replicate (N.length - 1) none = _
        have : N.length - 1 = (N.length - 2) + 1 := by omega
        rw [this, List.replicate_succ]; rfl
      rw [hst]
      refine ⟨.ref a, rfl, a, ns, rfl, hS, hlen, fun qa p H1 seed h0 h1 hne e1 e2 => ?_⟩
      obtain ⟨ρ', s', hgg⟩ := hG seed h0 h1
      have nF : (L2.upd (fun _ => none) qa (HO.lst (ns.map V.int)) : Hp) p = none := by rw [upd_ne hne]
      refine t2 (some ⟨p, qa⟩) (L2.upd (fun _ => none) qa (.lst (ns.map V.int))) H1 (L2.upd (fun _ => none) qa (.lst (ns.map V.int))) H1 (rho0 N.length) _ ⟨ns, 0, 0, seed⟩ _ ρ' s' ⟨.refl fun b u e => ?_, ⟨?_, fun i sl e => ?_, fun i j ds es z hij e3 => ?_⟩, nF, ⟨Int.le_refl _, Int.le_refl _, h0, h1, hlen⟩, e2, upd_same⟩ hgg _ ?_
      · by_cases hb' : b = qa
        · subst hb'; rw [upd_same] at e; cases e; exact e1
        · rw [upd_ne hb'] at e; cases e
      · simp [rho0]
      · cases i with
        | zero => cases e; exact ⟨_, rfl, trivial⟩
        | succ i =>
          cases i with
          | zero => cases e; exact ⟨some (.ref p), rfl, .ref p, rfl, by simp only [Rep]; exact ⟨p, rfl, rfl⟩⟩
          | succ i =>
            have e : (List.replicate (N.length - 2) Slot.un)[i]? = some sl := e
            rw [List.getElem?_replicate] at e
            split at e
            · rename_i hlt
              cases e
              refine ⟨none, ?_, trivial⟩
              show (List.replicate (N.length - 2) (none : Option V))[i]? = some none
              rw [List.getElem?_replicate, if_pos hlt]
            · cases e
      · exfalso
        have := List.mem_of_getElem? e3
        simp [rho0] at this
      · exact fun v F' H' _ _ r => by
          simp only [Rep] at r
          subst r
          exact q H'
end
end Pu
namespace Pu
open PySem PySem.Spec PyProof.Rows L2

/-! ### plain values as data -/
class EnQ (α : Type) where
  e : α → D
  k : Nat
  cl : ∀ a, clean (e a) = true
  lay : ∀ a, (toP (e a)).canLay0 = true
  dp : ∀ a, (toP (e a)).depth ≤ k
  eqv : ∀ a b, PyData.eqv (toP (e a)) (toP (e b)) = true ↔ a = b
class En (α : Type) extends EnQ α where
  nn : ∀ a, isNonD (e a) = false
  lt : α → α → Bool
  al : ∀ a b, PySem.W.alike (toP (e a)) (toP (e b)) = true
  ltv : ∀ a b, PySem.W.dataLt (toP (e a)) (toP (e b)) = lt a b
  irr : ∀ a, lt a a = false
  trans : ∀ a b c, lt a b = true → lt b c = true → lt a c = true
  tot : ∀ a b, lt a b = false → lt b a = false → a = b
abbrev en {α : Type} [EnQ α] (a : α) : D := EnQ.e a
@[reducible] instance : En Int where
  e := .int
  k := 0
  cl _ := rfl
  lay _ := by simp [toP, PyData.canLay0]
  dp _ := by simp [toP, PyData.depth]
  nn _ := rfl
  eqv a b := by simp [toP, PyData.eqv]
  lt a b := decide (a < b)
  al a b := by simp [toP, PySem.W.alike]
  ltv a b := by simp [toP, PySem.W.dataLt_int]
  irr a := by simp
  trans a b c h1 h2 := by simp at *; omega
  tot a b h1 h2 := by simp at *; omega
@[reducible] instance : En Nat where
  e n := .int n
  k := 0
  cl _ := rfl
  lay _ := by simp [toP, PyData.canLay0]
  dp _ := by simp [toP, PyData.depth]
  nn _ := rfl
  eqv a b := by simp only [toP, PyData.eqv, beq_iff_eq]; omega
  lt a b := decide (a < b)
  al a b := by simp [toP, PySem.W.alike]
  ltv a b := by simp [toP, PySem.W.dataLt_int]
  irr a := by simp
  trans a b c h1 h2 := by simp at *; omega
  tot a b h1 h2 := by simp at *; omega
@[reducible] instance : EnQ Bool where
  e := .bl
  k := 0
  cl _ := rfl
  lay _ := by simp [toP, PyData.canLay0]
  dp _ := by simp [toP, PyData.depth]
  eqv a b := by simp [toP, PyData.eqv]
section
variable {α β : Type}
theorem cleanL_map [EnQ α] : ∀ l : List α, cleanL (l.map EnQ.e) = true
  | [] => rfl
  | a :: l => by simp [cleanL, EnQ.cl, cleanL_map l]
theorem lay_map [EnQ α] : ∀ l : List α, PyData.canLayAll0 (toPs (l.map EnQ.e)) = true
  | [] => by simp [toPs, PyData.canLayAll0]
  | a :: l => by simp [toPs, PyData.canLayAll0, EnQ.lay, lay_map l]
theorem dp_map [EnQ α] : ∀ l : List α, PyData.depthAll (toPs (l.map EnQ.e)) ≤ EnQ.k α
  | [] => by simp [toPs, PyData.depthAll]
  | a :: l => by
    have := dp_map l
    have := EnQ.dp a
    simp only [List.map_cons, toPs, PyData.depthAll]
    omega
theorem eqvAll_map [EnQ α] : ∀ l m : List α, PyData.eqvAll (toPs (l.map EnQ.e)) (toPs (m.map EnQ.e)) = true ↔ l = m
  | [], [] => by simp [toPs, PyData.eqvAll]
  | [], b :: m => by simp [toPs, PyData.eqvAll]
  | a :: l, [] => by simp [toPs, PyData.eqvAll]
  | a :: l, b :: m => by simp [toPs, PyData.eqvAll, EnQ.eqv, eqvAll_map l m]
@[reducible] instance [EnQ α] : EnQ (List α) where
  e l := .tup (l.map EnQ.e)
  k := EnQ.k α + 1
  cl l := by simp only [clean]; exact cleanL_map l
  lay l := by simp only [toP, PyData.canLay0]; exact lay_map l
  dp l := by simp only [toP, PyData.depth]; have := dp_map l; omega
  eqv l m := by simp only [toP, PyData.eqv]; exact eqvAll_map l m
def lxL (lt : α → α → Bool) : List α → List α → Bool
  | [], [] => false
  | [], _ :: _ => true
  | _ :: _, [] => false
  | a :: l, b :: m => lt a b || (!lt b a && lxL lt l m)
theorem alL [En α] : ∀ l m : List α, PySem.W.alikeAll (toPs (l.map EnQ.e)) (toPs (m.map EnQ.e)) = true
  | [], _ => by simp [toPs, PySem.W.alikeAll]
  | a :: l, [] => by simp [toPs, PySem.W.alikeAll]
  | a :: l, b :: m => by simp [toPs, PySem.W.alikeAll, En.al, alL l m]
theorem ltL [En α] : ∀ l m : List α, PyProof.Rows.lexLt PyProof.Rows.itemOrd (PySem.W.keyToksAll (toPs (l.map EnQ.e))) (PySem.W.keyToksAll (toPs (m.map EnQ.e))) = lxL En.lt l m
  | [], [] => by simp [toPs, PySem.W.keyToksAll, PyProof.Rows.lexLt, lxL]; rfl
  | [], b :: m => by
    simp only [List.map_nil, List.map_cons, toPs, PySem.W.keyToksAll, lxL]
    rfl
  | a :: l, [] => by
    simp only [List.map_nil, List.map_cons, toPs, PySem.W.keyToksAll, lxL]
    rfl
  | a :: l, b :: m => by
    simp only [List.map_cons, toPs, lxL]
    cases h : PyData.eqv (toP (EnQ.e a)) (toP (EnQ.e b)) with
    | true =>
      have := (EnQ.eqv a b).mp h
      subst this
      rw [PySem.W.dataLt_all_yes (En.al a a) h, ltL l m, En.irr]; simp
    | false =>
      rw [PySem.W.dataLt_all_no (En.al a b) h, En.ltv]
      have hne : a ≠ b := fun z => by rw [(EnQ.eqv a b).mpr z] at h; cases h
      cases h1 : En.lt a b with
      | true => simp
      | false =>
        cases h2 : En.lt b a with
        | true => simp
        | false => exact absurd (En.tot a b h1 h2) hne
theorem lxL_irr [En α] : ∀ l : List α, lxL En.lt l l = false
  | [] => rfl
  | a :: l => by simp [lxL, En.irr, lxL_irr l]
theorem lt_asym [En α] {a b : α} (h : En.lt a b = true) : En.lt b a = false := by
  cases h2 : En.lt b a with
  | false => rfl
  | true => have := En.trans a b a h h2; rw [En.irr] at this; cases this
theorem lxL_trans [En α] : ∀ l m n : List α, lxL En.lt l m = true → lxL En.lt m n = true → lxL En.lt l n = true
  | [], [], _, h, _ => by simp [lxL] at h
  | [], _ :: _, [], _, h => by simp [lxL] at h
  | [], _ :: _, _ :: _, _, _ => rfl
  | _ :: _, [], _, h, _ => by simp [lxL] at h
  | _ :: _, _ :: _, [], _, h => by simp [lxL] at h
  | a :: l, b :: m, c :: n, h1, h2 => by
    simp only [lxL, Bool.or_eq_true, Bool.and_eq_true, Bool.not_eq_true'] at h1 h2 ⊢
    rcases h1 with h1 | ⟨h1, h1'⟩ <;> rcases h2 with h2 | ⟨h2, h2'⟩
    · exact .inl (En.trans a b c h1 h2)
    · cases hb : En.lt b c with
      | true => exact .inl (En.trans a b c h1 hb)
      | false => have := En.tot b c hb h2; subst this; exact .inl h1
    · cases ha : En.lt a b with
      | true => exact .inl (En.trans a b c ha h2)
      | false => have := En.tot a b ha h1; subst this; exact .inl h2
    · cases ha : En.lt a b with
      | true =>
        cases hb : En.lt b c with
        | true => exact .inl (En.trans a b c ha hb)
        | false => have := En.tot b c hb h2; subst this; exact .inl ha
      | false =>
        have := En.tot a b ha h1; subst this
        exact .inr ⟨h2, lxL_trans l m n h1' h2'⟩
theorem lxL_tot [En α] : ∀ l m : List α, lxL En.lt l m = false → lxL En.lt m l = false → l = m
  | [], [], _, _ => rfl
  | [], _ :: _, h, _ => by simp [lxL] at h
  | _ :: _, [], _, h => by simp [lxL] at h
  | a :: l, b :: m, h1, h2 => by
    simp only [lxL, Bool.or_eq_false_iff, Bool.and_eq_false_iff, Bool.not_eq_false'] at h1 h2
    have hab := En.tot a b h1.1 h2.1
    subst hab
    rw [En.irr] at h1 h2
    rw [lxL_tot l m (by simpa using h1.2) (by simpa using h2.2)]
@[reducible] instance [En α] : En (List α) where
  nn _ := rfl
  lt := lxL En.lt
  al l m := by show PySem.W.alike (toP (.tup _)) (toP (.tup _)) = true; simp only [toP, PySem.W.alike]; exact alL l m
  ltv l m := by show PySem.W.dataLt (toP (.tup _)) (toP (.tup _)) = _; simp only [toP]; rw [PySem.W.dataLt_tuple]; exact ltL l m
  irr := lxL_irr
  trans := lxL_trans
  tot := lxL_tot
@[reducible] instance [EnQ α] [EnQ β] : EnQ (α × β) where
  e p := .tup [EnQ.e p.1, EnQ.e p.2]
  k := EnQ.k α + EnQ.k β + 1
  cl p := by simp [clean, cleanL, EnQ.cl]
  lay p := by simp [toP, toPs, PyData.canLay0, PyData.canLayAll0, EnQ.lay]
  dp p := by
    have := EnQ.dp p.1
    have := EnQ.dp p.2
    simp only [toP, toPs, PyData.depth, PyData.depthAll]; omega
  eqv p q := by
    simp only [toP, toPs, PyData.eqv, PyData.eqvAll, Bool.and_true, Bool.and_eq_true, EnQ.eqv]
    exact ⟨fun h => Prod.ext h.1 h.2, fun h => by rw [h]; exact ⟨rfl, rfl⟩⟩
def ltP (f : α → α → Bool) (g : β → β → Bool) (p q : α × β) : Bool := f p.1 q.1 || (!f q.1 p.1 && g p.2 q.2)
theorem ltP_v [En α] [En β] (p q : α × β) : PySem.W.dataLt (toP (EnQ.e p)) (toP (EnQ.e q)) = ltP En.lt En.lt p q := by
  show PySem.W.dataLt (toP (.tup [EnQ.e p.1, EnQ.e p.2])) (toP (.tup [EnQ.e q.1, EnQ.e q.2])) = _
  simp only [toP, toPs]
  rw [PySem.W.dataLt_tuple]
  unfold ltP
  cases h : PyData.eqv (toP (EnQ.e p.1)) (toP (EnQ.e q.1)) with
  | true =>
    have e1 := (EnQ.eqv _ _).mp h
    rw [PySem.W.dataLt_all_yes (En.al _ _) h]
    cases h' : PyData.eqv (toP (EnQ.e p.2)) (toP (EnQ.e q.2)) with
    | true =>
      have e2 := (EnQ.eqv _ _).mp h'
      rw [PySem.W.dataLt_all_yes (En.al _ _) h', e1, e2, En.irr, En.irr]; rfl
    | false =>
      rw [PySem.W.dataLt_all_no (En.al _ _) h', En.ltv, e1, En.irr]; simp
  | false =>
    rw [PySem.W.dataLt_all_no (En.al _ _) h, En.ltv]
    have hne : p.1 ≠ q.1 := fun z => by rw [(EnQ.eqv _ _).mpr z] at h; cases h
    cases h1 : En.lt p.1 q.1 with
    | true => simp
    | false =>
      cases h2 : En.lt q.1 p.1 with
      | true => simp
      | false => exact absurd (En.tot _ _ h1 h2) hne
@[reducible] instance [En α] [En β] : En (α × β) where
  nn _ := rfl
  lt := ltP En.lt En.lt
  al p q := by show PySem.W.alike (toP (.tup [EnQ.e p.1, EnQ.e p.2])) (toP (.tup [EnQ.e q.1, EnQ.e q.2])) = true; simp [toP, toPs, PySem.W.alike, PySem.W.alikeAll, En.al]
  ltv := ltP_v
  irr p := by simp [ltP, En.irr]
  trans p q r h1 h2 := by
    simp only [ltP, Bool.or_eq_true, Bool.and_eq_true, Bool.not_eq_true'] at h1 h2 ⊢
    rcases h1 with h1 | ⟨h1, h1'⟩ <;> rcases h2 with h2 | ⟨h2, h2'⟩
    · exact .inl (En.trans _ _ _ h1 h2)
    · cases hb : En.lt q.1 r.1 with
      | true => exact .inl (En.trans _ _ _ h1 hb)
      | false => have := En.tot _ _ hb h2; rw [this] at h1; exact .inl h1
    · cases ha : En.lt p.1 q.1 with
      | true => exact .inl (En.trans _ _ _ ha h2)
      | false => have := En.tot _ _ ha h1; rw [← this] at h2; exact .inl h2
    · cases ha : En.lt p.1 q.1 with
      | true =>
        cases hb : En.lt q.1 r.1 with
        | true => exact .inl (En.trans _ _ _ ha hb)
        | false => have := En.tot _ _ hb h2; rw [this] at ha; exact .inl ha
      | false =>
        have := En.tot _ _ ha h1
        rw [← this] at h2
        exact .inr ⟨h2, En.trans _ _ _ h1' h2'⟩
  tot p q h1 h2 := by
    simp only [ltP, Bool.or_eq_false_iff, Bool.and_eq_false_iff, Bool.not_eq_false'] at h1 h2
    have e1 := En.tot _ _ h1.1 h2.1
    rw [e1, En.irr] at h1
    rw [e1, En.irr] at h2
    exact Prod.ext e1 (En.tot _ _ (by simpa using h1.2) (by simpa using h2.2))
@[reducible] instance [En α] : EnQ (Option α) where
  e o := match o with
    | none => .non
    | some a => EnQ.e a
  k := EnQ.k α
  cl o := by cases o with
    | none => rfl
    | some a => exact EnQ.cl a
  lay o := by cases o with
    | none => simp [toP, PyData.canLay0]
    | some a => exact EnQ.lay a
  dp o := by cases o with
    | none => simp [toP, PyData.depth]
    | some a => exact EnQ.dp a
  eqv o p := by
    cases o with
    | none => cases p with
      | none => simp [toP, PyData.eqv]
      | some b =>
        have := En.nn b
        show PyData.eqv (toP .non) (toP (EnQ.e b)) = true ↔ _
        cases h : (EnQ.e b : D) <;> simp [toP, PyData.eqv, h, isNonD] at this ⊢
    | some a => cases p with
      | none =>
        have := En.nn a
        show PyData.eqv (toP (EnQ.e a)) (toP .non) = true ↔ _
        cases h : (EnQ.e a : D) <;> simp [toP, PyData.eqv, h, isNonD] at this ⊢
      | some b =>
        show PyData.eqv (toP (EnQ.e a)) (toP (EnQ.e b)) = true ↔ _
        rw [EnQ.eqv]; simp
/-! the operations on such -/
class Sh (α : Type) [EnQ α] : Prop where
  s : EnQ.k α ≤ 60
instance : Sh Int := ⟨by decide⟩
instance : Sh Nat := ⟨by decide⟩
instance : Sh Bool := ⟨by decide⟩
theorem shaped_en [EnQ α] (h : EnQ.k α ≤ 64) (a : α) : cmpOk (EnQ.e a) = true := by
  unfold cmpOk SeqAt.shaped
  rw [EnQ.cl, EnQ.lay]
  have := EnQ.dp a
  simp; omega
theorem cmpOk_tup [EnQ α] (h : EnQ.k α ≤ 60) (l : List α) : cmpOk (.tup (l.map EnQ.e)) = true := shaped_en (α := List α) (by show EnQ.k α + 1 ≤ 64; omega) l
theorem cmpOk_lst [EnQ α] (h : EnQ.k α ≤ 60) (l : List α) : cmpOk (.lst (l.map EnQ.e)) = true := by
  unfold cmpOk SeqAt.shaped
  simp only [clean, toP, PyData.canLay0, PyData.depth, cleanL_map, lay_map, Bool.true_and, decide_eq_true_eq]
  have := dp_map l
  omega
theorem eq_en [EnQ α] [DecidableEq α] (h : EnQ.k α ≤ 60) (a b : α) : eqD (EnQ.e a) (EnQ.e b) = some (.bl (decide (a = b))) := by
  unfold eqD
  rw [if_pos ⟨shaped_en (by omega) a, shaped_en (by omega) b⟩]
  congr 2
  by_cases e : a = b
  · rw [decide_eq_true e, (EnQ.eqv a b).mpr e]
  · rw [decide_eq_false e]
    cases hh : PyData.eqv (toP (EnQ.e a)) (toP (EnQ.e b)) with
    | false => rfl
    | true => exact absurd ((EnQ.eqv a b).mp hh) e
theorem ne_en [EnQ α] [DecidableEq α] (h : EnQ.k α ≤ 60) (a b : α) : neD (EnQ.e a) (EnQ.e b) = some (.bl (!decide (a = b))) := by
  unfold neD
  rw [if_pos ⟨shaped_en (by omega) a, shaped_en (by omega) b⟩]
  congr 3
  by_cases e : a = b
  · rw [decide_eq_true e, (EnQ.eqv a b).mpr e]
  · rw [decide_eq_false e]
    cases hh : PyData.eqv (toP (EnQ.e a)) (toP (EnQ.e b)) with
    | false => rfl
    | true => exact absurd ((EnQ.eqv a b).mp hh) e
theorem eqL_en [EnQ α] [DecidableEq α] (h : EnQ.k α ≤ 60) (l m : List α) : eqD (.lst (l.map EnQ.e)) (.lst (m.map EnQ.e)) = some (.bl (decide (l = m))) := by
  unfold eqD
  rw [if_pos ⟨cmpOk_lst h l, cmpOk_lst h m⟩]
  simp only [toP, PyData.eqv]
  congr 2
  by_cases e : l = m
  · rw [decide_eq_true e, (eqvAll_map l m).mpr e]
  · rw [decide_eq_false e]
    cases hh : PyData.eqvAll (toPs (l.map EnQ.e)) (toPs (m.map EnQ.e)) with
    | false => rfl
    | true => exact absurd ((eqvAll_map l m).mp hh) e
theorem neL_en [EnQ α] [DecidableEq α] (h : EnQ.k α ≤ 60) (l m : List α) : neD (.lst (l.map EnQ.e)) (.lst (m.map EnQ.e)) = some (.bl (!decide (l = m))) := by
  have := eqL_en h l m
  unfold eqD at this
  unfold neD
  rw [if_pos ⟨cmpOk_lst h l, cmpOk_lst h m⟩] at this ⊢
  have := D.bl.inj (Option.some.inj this)
  rw [this]
theorem hasD_en [EnQ α] [DecidableEq α] (a : α) : ∀ l : List α, hasD (EnQ.e a) (l.map EnQ.e) = decide (a ∈ l)
  | [] => rfl
  | b :: l => by
    have ih := hasD_en a l
    unfold hasD at ih ⊢
    rw [List.map_cons, List.any_cons, ih]
    by_cases e : a = b
    · subst e
      rw [(EnQ.eqv a a).mpr rfl]; simp
    · have : PyData.eqv (toP (EnQ.e b)) (toP (EnQ.e a)) = false := by
        cases hh : PyData.eqv (toP (EnQ.e b)) (toP (EnQ.e a)) with
        | false => rfl
        | true => exact absurd ((EnQ.eqv b a).mp hh).symm e
      rw [this]; simp [e]
theorem inL_en [EnQ α] [DecidableEq α] (h : EnQ.k α ≤ 60) (a : α) (l : List α) : inD (EnQ.e a) (.lst (l.map EnQ.e)) = some (.bl (decide (a ∈ l))) := by
  unfold inD; simp only [seqD]; rw [if_pos ⟨shaped_en (by omega) a, cmpOk_lst h l⟩, hasD_en]
theorem inT_en [EnQ α] [DecidableEq α] (h : EnQ.k α ≤ 60) (a : α) (l : List α) : inD (EnQ.e a) (.tup (l.map EnQ.e)) = some (.bl (decide (a ∈ l))) := by
  unfold inD; simp only [seqD]; rw [if_pos ⟨shaped_en (by omega) a, cmpOk_tup h l⟩, hasD_en]
theorem ninL_en [EnQ α] [DecidableEq α] (h : EnQ.k α ≤ 60) (a : α) (l : List α) : ninD (EnQ.e a) (.lst (l.map EnQ.e)) = some (.bl (!decide (a ∈ l))) := by
  unfold ninD; simp only [seqD]; rw [if_pos ⟨shaped_en (by omega) a, cmpOk_lst h l⟩, hasD_en]
theorem ninT_en [EnQ α] [DecidableEq α] (h : EnQ.k α ≤ 60) (a : α) (l : List α) : ninD (EnQ.e a) (.tup (l.map EnQ.e)) = some (.bl (!decide (a ∈ l))) := by
  unfold ninD; simp only [seqD]; rw [if_pos ⟨shaped_en (by omega) a, cmpOk_tup h l⟩, hasD_en]
theorem ninT_yes [EnQ α] [DecidableEq α] (h : EnQ.k α ≤ 60) {a : α} {l : List α} (hm : a ∈ l) : ninD (EnQ.e a) (.tup (l.map EnQ.e)) = some (.bl false) := by rw [ninT_en h a l]; simp [hm]
theorem ninL_yes [EnQ α] [DecidableEq α] (h : EnQ.k α ≤ 60) {a : α} {l : List α} (hm : a ∈ l) : ninD (EnQ.e a) (.lst (l.map EnQ.e)) = some (.bl false) := by rw [ninL_en h a l]; simp [hm]
theorem ordOk_en [En α] (h : EnQ.k α ≤ 60) (a b : α) : ordOk (EnQ.e a) (EnQ.e b) = true := by
  unfold ordOk; rw [shaped_en (by omega) a, shaped_en (by omega) b, En.al, En.nn]; rfl
theorem lt_en [En α] (h : EnQ.k α ≤ 60) (a b : α) : ltA (EnQ.e a) (EnQ.e b) = some (.bl (En.lt a b)) := by unfold ltA; rw [if_pos (ordOk_en h a b), En.ltv]
/-! least, greatest -/
def mnE [En α] (x : α) (xs : List α) : α := xs.foldl (fun a y => if En.lt y a = true then y else a) x
def mxE [En α] (x : α) (xs : List α) : α := xs.foldl (fun a y => if En.lt a y = true then y else a) x
theorem minA_en [En α] : ∀ (xs : List α) (x : α), minA (EnQ.e x) (xs.map EnQ.e) = EnQ.e (mnE x xs)
  | [], x => rfl
  | y :: xs, x => by
    have ih := minA_en xs (if En.lt y x = true then y else x)
    unfold minA mnE at ih ⊢
    rw [List.map_cons, List.foldl_cons, List.foldl_cons, ← ih, En.ltv]
    by_cases h : En.lt y x = true <;> simp [h]
theorem maxA_en [En α] : ∀ (xs : List α) (x : α), maxA (EnQ.e x) (xs.map EnQ.e) = EnQ.e (mxE x xs)
  | [], x => rfl
  | y :: xs, x => by
    have ih := maxA_en xs (if En.lt x y = true then y else x)
    unfold maxA mxE at ih ⊢
    rw [List.map_cons, List.foldl_cons, List.foldl_cons, ← ih, En.ltv]
    by_cases h : En.lt x y = true <;> simp [h]
theorem allCmp_en [En α] (h : EnQ.k α ≤ 60) (l : List α) : allCmp (l.map EnQ.e) = true := by
  unfold allCmp
  simp only [Bool.and_eq_true, List.all_eq_true, List.mem_map, forall_exists_index, and_imp, forall_apply_eq_imp_iff₂, Bool.not_eq_true']
  exact ⟨fun a _ => ⟨shaped_en (by omega) a, En.nn a⟩, fun a _ b _ => En.al a b⟩
theorem min_seq [En α] (h : EnQ.k α ≤ 60) {d : D} {x : α} {xs : List α} (hd : seqD d = some ((x :: xs).map EnQ.e)) : minD [d] = some (EnQ.e (mnE x xs)) := by
  unfold minD onSeq
  simp only [hd, List.map_cons]
  have := allCmp_en h (x :: xs)
  rw [List.map_cons] at this
  rw [if_pos this, minA_en]
theorem max_seq [En α] (h : EnQ.k α ≤ 60) {d : D} {x : α} {xs : List α} (hd : seqD d = some ((x :: xs).map EnQ.e)) : maxD [d] = some (EnQ.e (mxE x xs)) := by
  unfold maxD onSeq
  simp only [hd, List.map_cons]
  have := allCmp_en h (x :: xs)
  rw [List.map_cons] at this
  rw [if_pos this, maxA_en]
theorem mnE_mem [En α] (x : α) (xs : List α) : mnE x xs ∈ x :: xs := by
  unfold mnE
  induction xs generalizing x with
  | nil => simp
  | cons y ys ih =>
    rw [List.foldl_cons]
    have := ih (if En.lt y x = true then y else x)
    by_cases h : En.lt y x = true
    · simp only [h, if_true] at this ⊢; exact List.mem_cons_of_mem _ this
    · simp only [h] at this ⊢
      rcases List.mem_cons.mp this with z | z
      · exact List.mem_cons.mpr (.inl z)
      · exact List.mem_cons_of_mem _ (List.mem_cons_of_mem _ z)
theorem mxE_mem [En α] (x : α) (xs : List α) : mxE x xs ∈ x :: xs := by
  unfold mxE
  induction xs generalizing x with
  | nil => simp
  | cons y ys ih =>
    rw [List.foldl_cons]
    have := ih (if En.lt x y = true then y else x)
    by_cases h : En.lt x y = true
    · simp only [h, if_true] at this ⊢; exact List.mem_cons_of_mem _ this
    · simp only [h] at this ⊢
      rcases List.mem_cons.mp this with z | z
      · exact List.mem_cons.mpr (.inl z)
      · exact List.mem_cons_of_mem _ (List.mem_cons_of_mem _ z)
theorem le_trans' [En α] {a b c : α} (h1 : En.lt b a = false) (h2 : En.lt c b = false) : En.lt c a = false := by
  cases h : En.lt c a with
  | false => rfl
  | true =>
    cases h3 : En.lt a b with
    | true => have := En.trans _ _ _ h h3; rw [h2] at this; cases this
    | false => have := En.tot _ _ h3 h1; subst this; rw [h2] at h; cases h
theorem mnE_le [En α] (x : α) (xs : List α) : ∀ y ∈ x :: xs, En.lt y (mnE x xs) = false := by
  unfold mnE
  induction xs generalizing x with
  | nil => intro y hy; rw [List.mem_singleton.mp hy]; exact En.irr x
  | cons z zs ih =>
    intro y hy
    rw [List.foldl_cons]
    by_cases h : En.lt z x = true
    · simp only [h, if_true]
      have := ih z
      rcases List.mem_cons.mp hy with e | e
      · subst e
        exact le_trans' (this z (by simp)) (lt_asym h)
      · exact this y e
    · simp only [h]
      have := ih x
      rcases List.mem_cons.mp hy with e | e
      · subst e; exact this y (by simp)
      · rcases List.mem_cons.mp e with e | e
        · subst e
          exact le_trans' (this x (by simp)) (by simpa using h)
        · exact this y (List.mem_cons_of_mem _ e)
theorem mxE_le [En α] (x : α) (xs : List α) : ∀ y ∈ x :: xs, En.lt (mxE x xs) y = false := by
  unfold mxE
  induction xs generalizing x with
  | nil => intro y hy; rw [List.mem_singleton.mp hy]; exact En.irr x
  | cons z zs ih =>
    intro y hy
    rw [List.foldl_cons]
    by_cases h : En.lt x z = true
    · simp only [h, if_true]
      have := ih z
      rcases List.mem_cons.mp hy with e | e
      · subst e
        exact le_trans' (lt_asym h) (this z (by simp))
      · exact this y e
    · simp only [h]
      have := ih x
      rcases List.mem_cons.mp hy with e | e
      · subst e; exact this y (by simp)
      · rcases List.mem_cons.mp e with e | e
        · subst e
          exact le_trans' (by simpa using h) (this x (by simp))
        · exact this y (List.mem_cons_of_mem _ e)
theorem mnE_uniq [En α] {x : α} {xs : List α} {m : α} (h1 : m ∈ x :: xs) (h2 : ∀ y ∈ x :: xs, En.lt y m = false) : mnE x xs = m := En.tot _ _ (mnE_le x xs m h1 |> fun h => h2 _ (mnE_mem x xs)) (mnE_le x xs m h1)
/-! places -/
theorem idxD_en [EnQ α] [DecidableEq α] (a : α) : ∀ l : List α, idxD (EnQ.e a) (l.map EnQ.e) = l.findIdx? fun z => decide (z = a)
  | [] => rfl
  | b :: l => by
    have ih := idxD_en a l
    unfold idxD at ih ⊢
    rw [List.map_cons, List.findIdx?_cons, List.findIdx?_cons, ih]
    by_cases e : b = a
    · subst e
      rw [(EnQ.eqv b b).mpr rfl]; simp
    · have : PyData.eqv (toP (EnQ.e b)) (toP (EnQ.e a)) = false := by
        cases hh : PyData.eqv (toP (EnQ.e b)) (toP (EnQ.e a)) with
        | false => rfl
        | true => exact absurd ((EnQ.eqv b a).mp hh) e
      rw [this]; simp [e]
theorem index_en [EnQ α] [DecidableEq α] (h : EnQ.k α ≤ 60) (a : α) (l : List α) : indexD (.lst (l.map EnQ.e)) (EnQ.e a) = (l.findIdx? fun z => decide (z = a)).map fun j => .int (j : Nat) := by
  unfold indexD; simp only []
  rw [if_pos ⟨cmpOk_lst h l, shaped_en (by omega) a⟩, idxD_en]
end
end Pu
namespace Pu
open PySem PySem.Spec PyProof.Rows L2

/-! ### what the words come to: weakest preconditions -/
def wp {α : Type} (m : M α) (s : DS) (Q : α → DS → Prop) : Prop := ∃ a s', m s = some (a, s') ∧ Q a s'
section
variable {α β : Type} {s : DS} {Q : α → DS → Prop}
theorem wp_some {m : M α} {a : α} {s' : DS} (h : m s = some (a, s')) : wp m s Q ↔ Q a s' := by
  unfold wp; rw [h]
  exact ⟨fun ⟨b, t, e, q⟩ => by cases e; exact q, fun q => ⟨a, s', rfl, q⟩⟩
theorem Mb_some {m : M β} {f : β → M α} {b : β} {s s1 : DS} (h : m s = some (b, s1)) : Mb m f s = f b s1 := by unfold Mb; rw [h]
theorem wp_mono {m : M α} {Q' : α → DS → Prop} (h : wp m s Q) (hq : ∀ a s', Q a s' → Q' a s') : wp m s Q' := let ⟨a, s', e, q⟩ := h; ⟨a, s', e, hq a s' q⟩
@[simp] theorem wp_Mp (a : α) : wp (Mp a) s Q ↔ Q a s := wp_some rfl
@[simp] theorem wp_Mf : wp (Mf : M α) s Q ↔ False := ⟨(fun h => by obtain ⟨_, _, e, _⟩ := h; cases e), False.elim⟩
theorem wp_congr {m : M α} {Q' : α → DS → Prop} (h : ∀ a s', Q a s' ↔ Q' a s') : wp m s Q ↔ wp m s Q' := ⟨fun x => wp_mono x fun a s' => (h a s').mp, fun x => wp_mono x fun a s' => (h a s').mpr⟩
theorem ite_F {c P : Prop} [Decidable c] : (if c then P else False) ↔ c ∧ P := by by_cases h : c <;> simp [h]
@[simp] theorem wp_Mb (m : M β) (f : β → M α) : wp (Mb m f) s Q ↔ wp m s fun b s' => wp (f b) s' Q := by
  constructor
  · rintro ⟨a, s', e, q⟩
    obtain ⟨b, s1, e1, e2⟩ := Mb_eq e
    exact ⟨b, s1, e1, a, s', e2, q⟩
  · rintro ⟨b, s1, e1, a, s', e2, q⟩
    refine ⟨a, s', ?_, q⟩
    unfold Mb; rw [e1]; exact e2
@[simp] theorem wp_Mo (o : Option α) : wp (Mo o) s Q ↔ ∃ a, o = some a ∧ Q a s := by
  cases o with
  | none => simp
  | some a => simp
@[simp] theorem wp_ite (c : Prop) [Decidable c] (a b : M α) : wp (if c then a else b) s Q ↔ if c then wp a s Q else wp b s Q := by split <;> rfl
@[simp] theorem wp_asB {d : D} {Q : Bool → DS → Prop} : wp (asB d) s Q ↔ ∃ b, d = .bl b ∧ Q b s := by
  cases d <;> simp [asB]
@[simp] theorem wp_onOw {o : Option Slot} {k : List D → M α} : wp (onOw o k) s Q ↔ ∃ ds, o = some (.ow ds) ∧ wp (k ds) s Q := by
  cases o with
  | none => simp [onOw]
  | some x => cases x <;> simp [onOw]
@[simp] theorem wp_onSh {o : Option Slot} {k : D → M α} : wp (onSh o k) s Q ↔ ∃ ds, o = some (.sh ds) ∧ wp (k ds) s Q := by
  cases o with
  | none => simp [onSh]
  | some x => cases x <;> simp [onSh]
@[simp] theorem wp_onInt {o : D} {k : Int → M α} : wp (onInt o k) s Q ↔ ∃ i, o = .int i ∧ wp (k i) s Q := by cases o <;> simp [onInt]
@[simp] theorem wp_onLst {o : D} {k : List D → M α} : wp (onLst o k) s Q ↔ ∃ i, o = .lst i ∧ wp (k i) s Q := by cases o <;> simp [onLst]
@[simp] theorem wp_onSome {o : Option β} {k : β → M α} : wp (onSome o k) s Q ↔ ∃ i, o = some i ∧ wp (k i) s Q := by cases o <;> simp [onSome]
end
section
variable {s : DS} {ρ : Rho} {Q : D → DS → Prop} {QA : List D → DS → Prop} {QT : Bool → DS → Prop} {QS : Res × Rho → DS → Prop}
@[simp] theorem w_xSh (i : Nat) : wp (xSh i ρ) s Q ↔ ∃ d, ρ[i]? = some (.sh d) ∧ Q d s := by
  unfold xSh
  cases h : ρ[i]? with
  | none => simp
  | some x => cases x <;> simp
/-- what a slot holds, as data -/
def slotD : Option Slot → Option D
  | some (.sh d) => some d
  | some (.ow ds) => some (.lst ds)
  | _ => none
@[simp] theorem slotD_sh (d : D) : slotD (some (.sh d)) = some d := rfl
@[simp] theorem slotD_ow (d : List D) : slotD (some (.ow d)) = some (.lst d) := rfl
@[simp] theorem w_xNm (i : Nat) : wp (xNm i ρ) s Q ↔ ∃ d, slotD ρ[i]? = some d ∧ Q d s := by
  unfold xNm
  cases h : ρ[i]? with
  | none => simp [slotD]
  | some x => cases x <;> simp [slotD]
@[simp] theorem w_xC (d : D) : wp (xC d ρ) s Q ↔ Q d s := by unfold xC; simp
@[simp] theorem w_x1 (g : D → Option D) (a : EF) : wp (x1 g a ρ) s Q ↔ wp (a ρ) s fun x s1 => ∃ d, g x = some d ∧ Q d s1 := by unfold x1; simp
@[simp] theorem w_x2 (g : D → D → Option D) (a b : EF) : wp (x2 g a b ρ) s Q ↔ wp (a ρ) s fun x s1 => wp (b ρ) s1 fun y s2 => ∃ d, g x y = some d ∧ Q d s2 := by unfold x2; simp
@[simp] theorem w_xL (g : List D → Option D) (a : AF) : wp (xL g a ρ) s Q ↔ wp (a ρ) s fun x s1 => ∃ d, g x = some d ∧ Q d s1 := by unfold xL; simp
@[simp] theorem w_o1 (g : D → Option (List D)) (a : EF) : wp (o1 g a ρ) s QA ↔ wp (a ρ) s fun x s1 => ∃ d, g x = some d ∧ QA d s1 := by unfold o1; simp
@[simp] theorem w_o2 (g : D → D → Option (List D)) (a b : EF) : wp (o2 g a b ρ) s QA ↔ wp (a ρ) s fun x s1 => wp (b ρ) s1 fun y s2 => ∃ d, g x y = some d ∧ QA d s2 := by unfold o2; simp
@[simp] theorem w_oL (g : List D → Option (List D)) (a : AF) : wp (oL g a ρ) s QA ↔ wp (a ρ) s fun x s1 => ∃ d, g x = some d ∧ QA d s1 := by unfold oL; simp
@[simp] theorem w_xOf (a : AF) : wp (xOf a ρ) s Q ↔ wp (a ρ) s fun ds s1 => Q (.lst ds) s1 := by unfold xOf; simp
@[simp] theorem w_xTp (a : AF) : wp (xTp a ρ) s Q ↔ wp (a ρ) s fun ds s1 => Q (.tup ds) s1 := by unfold xTp; simp
@[simp] theorem w_aN : wp (aN ρ) s QA ↔ QA [] s := by unfold aN; simp
@[simp] theorem w_aC (a : EF) (r : AF) : wp (aC a r ρ) s QA ↔ wp (a ρ) s fun x s1 => wp (r ρ) s1 fun xs s2 => QA (x :: xs) s2 := by unfold aC; simp
@[simp] theorem w_xCh (g g' : D → D → Option D) (a b c : EF) : wp (xCh g g' a b c ρ) s Q ↔ wp (a ρ) s fun x s1 => wp (b ρ) s1 fun y s2 => ∃ k, g x y = some (.bl k) ∧ if k = true then wp (c ρ) s2 fun w s3 => ∃ d, g' y w = some d ∧ Q d s3 else Q (.bl false) s2 := by
  unfold xCh; simp only [wp_Mb, wp_Mo, wp_asB, wp_ite, wp_Mp]
  refine wp_congr fun x s1 => wp_congr fun y s2 => ⟨?_, ?_⟩
  · rintro ⟨z, h1, b, rfl, h2⟩; exact ⟨b, h1, h2⟩
  · rintro ⟨b, h1, h2⟩; exact ⟨_, h1, b, rfl, h2⟩
@[simp] theorem w_xAnd (a b : EF) : wp (xAnd a b ρ) s Q ↔ wp (a ρ) s fun x s1 => ∃ k, x = .bl k ∧ if k = true then wp (b ρ) s1 Q else Q (.bl false) s1 := by unfold xAnd; simp
@[simp] theorem w_xOr (a b : EF) : wp (xOr a b ρ) s Q ↔ wp (a ρ) s fun x s1 => ∃ k, x = .bl k ∧ if k = true then Q (.bl true) s1 else wp (b ρ) s1 Q := by unfold xOr; simp
@[simp] theorem w_xNot (a : EF) : wp (xNot a ρ) s Q ↔ wp (a ρ) s fun x s1 => ∃ k, x = .bl k ∧ Q (.bl (!k)) s1 := by unfold xNot; simp
@[simp] theorem w_xIf (t : TF) (a b : EF) : wp (xIf t a b ρ) s Q ↔ wp (t ρ) s fun k s1 => if k = true then wp (a ρ) s1 Q else wp (b ρ) s1 Q := by unfold xIf; simp
@[simp] theorem w_xTup (a : AF) : wp (xTup a ρ) s Q ↔ wp (a ρ) s fun xs s1 => xs.length ≤ SZ ∧ Q (.tup xs) s1 := by
  unfold xTup; simp only [wp_Mb, wp_ite, wp_Mp, wp_Mf, ite_F]
@[simp] theorem w_oLst (a : AF) : wp (oLst a ρ) s QA ↔ wp (a ρ) s fun xs s1 => xs.length ≤ SZ ∧ QA xs s1 := by
  unfold oLst; simp only [wp_Mb, wp_ite, wp_Mp, wp_Mf, ite_F]
@[simp] theorem w_tV (a : EF) : wp (tV a ρ) s QT ↔ wp (a ρ) s fun x s1 => ∃ b, x = .bl b ∧ QT b s1 := by unfold tV; simp
@[simp] theorem w_tAnd (a b : TF) : wp (tAnd a b ρ) s QT ↔ wp (a ρ) s fun k s1 => if k = true then wp (b ρ) s1 QT else QT false s1 := by unfold tAnd; simp
@[simp] theorem w_tOr (a b : TF) : wp (tOr a b ρ) s QT ↔ wp (a ρ) s fun k s1 => if k = true then QT true s1 else wp (b ρ) s1 QT := by unfold tOr; simp
@[simp] theorem w_tNot (a : TF) : wp (tNot a ρ) s QT ↔ wp (a ρ) s fun k s1 => QT (!k) s1 := by unfold tNot; simp
@[simp] theorem w_tTr (a : EF) : wp (tTr a ρ) s QT ↔ wp (a ρ) s fun x s1 => ∃ b, truD x = some b ∧ QT b s1 := by unfold tTr; simp
@[simp] theorem w_tYes : wp (tYes' ρ) s QT ↔ QT true s := by unfold tYes'; simp
@[simp] theorem w_xCall (m : List D → M D) (a : AF) : wp (xCall m a ρ) s Q ↔ wp (a ρ) s fun xs s1 => wp (m xs) s1 Q := by unfold xCall; simp
@[simp] theorem w_xCallB (m : List D → M D) (a : AF) : wp (xCallB m a ρ) s Q ↔ wp (a ρ) s fun xs s1 => wp (m xs) s1 fun d s2 => noL d = true ∧ Q d s2 := by
  unfold xCallB; simp only [wp_Mb, wp_ite, wp_Mp, wp_Mf, ite_F]
@[simp] theorem w_iSq (f : EF) : wp (iSq f ρ) s QA ↔ wp (f ρ) s fun d s1 => ∃ ds, seqD d = some ds ∧ QA ds s1 := by unfold iSq; simp
@[simp] theorem w_iRg (g : List D → Option (List D)) (f : AF) : wp (iRg g f ρ) s QA ↔ wp (f ρ) s fun xs s1 => ∃ ds, g xs = some ds ∧ QA ds s1 := by unfold iRg; simp
/-- a slice's end -/
def wpO (f : Option EF) (ρ : Rho) (s : DS) (Q : Option Int → DS → Prop) : Prop := match f with
  | none => Q none s
  | some f => wp (f ρ) s fun d s1 => ∃ i, d = .int i ∧ Q (some i) s1
@[simp] theorem wpO_none {Q : Option Int → DS → Prop} : wpO none ρ s Q ↔ Q none s := Iff.rfl
@[simp] theorem wpO_some {f : EF} {Q : Option Int → DS → Prop} : wpO (some f) ρ s Q ↔ wp (f ρ) s fun d s1 => ∃ i, d = .int i ∧ Q (some i) s1 := Iff.rfl
@[simp] theorem w_xSl (g : D → Option Int → Option Int → Option D) (a : EF) (lo hi : Option EF) : wp (xSl g a lo hi ρ) s Q ↔ wp (a ρ) s fun x s1 => wpO lo ρ s1 fun l s2 => wpO hi ρ s2 fun u s3 => ∃ d, g x l u = some d ∧ Q d s3 := by
  have k1 : ∀ (d : D) (s2 : DS) (R : Option Int → DS → Prop), wp ((match d with | .int i => Mp (some i) | _ => Mf) : M (Option Int)) s2 R ↔ ∃ i, d = .int i ∧ R (some i) s2 := fun d s2 R => by cases d <;> simp
  unfold xSl; simp only [wp_Mb, wp_Mo]
  refine wp_congr fun x s1 => ?_
  cases lo with
  | none =>
    simp only [wpO_none, wp_Mp]
    cases hi with
    | none => simp only [wpO_none, wp_Mp]
    | some f =>
      simp only [wpO_some, wp_Mb]
      refine wp_congr fun d s2 => ?_
      cases d <;> simp
  | some f =>
    simp only [wpO_some, wp_Mb]
    refine wp_congr fun d s2 => ?_
    cases d <;> simp
    cases hi with
    | none => simp
    | some f' =>
      simp
      refine wp_congr fun d' s3 => ?_
      cases d' <;> simp
/-! statements -/
@[simp] theorem w_sNext : wp (sNext ρ) s QS ↔ QS (.nx, ρ) s := by unfold sNext; simp
@[simp] theorem w_sFail : wp (sFail ρ) s QS ↔ False := by unfold sFail; simp
@[simp] theorem w_sBreak : wp (sBreak ρ) s QS ↔ QS (.bk, ρ) s := by unfold sBreak; simp
@[simp] theorem w_sCont : wp (sCont ρ) s QS ↔ QS (.ct, ρ) s := by unfold sCont; simp
/-- what follows a statement -/
def aft (b : SF) (QS : Res × Rho → DS → Prop) : Res × Rho → DS → Prop
  | (.nx, ρ'), s' => wp (b ρ') s' QS
  | r, s' => QS r s'
@[simp] theorem aft_nx {b : SF} : aft b QS (.nx, ρ) s ↔ wp (b ρ) s QS := Iff.rfl
@[simp] theorem aft_rt {b : SF} {d : D} : aft b QS (.rt d, ρ) s ↔ QS (.rt d, ρ) s := Iff.rfl
@[simp] theorem aft_bk {b : SF} : aft b QS (.bk, ρ) s ↔ QS (.bk, ρ) s := Iff.rfl
@[simp] theorem aft_ct {b : SF} : aft b QS (.ct, ρ) s ↔ QS (.ct, ρ) s := Iff.rfl
@[simp] theorem w_sSeq (a b : SF) : wp (sSeq a b ρ) s QS ↔ wp (a ρ) s (aft b QS) := by
  unfold sSeq; simp only [wp_Mb]
  refine wp_congr fun r s1 => ?_
  obtain ⟨r, ρ1⟩ := r
  cases r <;> simp [aft]
@[simp] theorem w_sSet (i : Nat) (f : EF) : wp (sSet i f ρ) s QS ↔ wp (f ρ) s fun d s1 => QS (.nx, ρ.set i (.sh d)) s1 := by unfold sSet; simp
@[simp] theorem w_sOwn (i : Nat) (f : AF) : wp (sOwn i f ρ) s QS ↔ wp (f ρ) s fun d s1 => QS (.nx, ρ.set i (.ow d)) s1 := by unfold sOwn; simp
@[simp] theorem w_sDrop (f : EF) : wp (sDrop f ρ) s QS ↔ wp (f ρ) s fun d s1 => QS (.nx, ρ) s1 := by unfold sDrop; simp
@[simp] theorem w_sRet (f : EF) : wp (sRet f ρ) s QS ↔ wp (f ρ) s fun d s1 => QS (.rt d, ρ) s1 := by unfold sRet; simp
@[simp] theorem w_sRetN : wp (sRetN ρ) s QS ↔ QS (.rt .non, ρ) s := by unfold sRetN; simp
@[simp] theorem w_sTo (g : TGt) (f : EF) : wp (sTo g f ρ) s QS ↔ wp (f ρ) s fun d s1 => ∃ ρ', g d ρ = some ρ' ∧ QS (.nx, ρ') s1 := by unfold sTo; simp
@[simp] theorem w_sRetOw (i : Nat) : wp (sRetOw i ρ) s QS ↔ ∃ ds, ρ[i]? = some (.ow ds) ∧ QS (.rt (.lst ds), ρ) s := by unfold sRetOw; simp
@[simp] theorem w_sMove (i j : Nat) : wp (sMove i j ρ) s QS ↔ ∃ ds, ρ[i]? = some (.ow ds) ∧ QS (.nx, (ρ.set i (.sh (.lst ds))).set j (.sh (.lst ds))) s := by unfold sMove; simp
@[simp] theorem w_sFz (i : Nat) (g : SF) : wp (sFz i g ρ) s QS ↔ ∃ ds, ρ[i]? = some (.ow ds) ∧ wp (g (ρ.set i (.sh (.lst ds)))) s QS := by unfold sFz; simp
@[simp] theorem w_sIf (t : TF) (a b : SF) : wp (sIf t a b ρ) s QS ↔ wp (t ρ) s fun k s1 => if k = true then wp (a ρ) s1 QS else wp (b ρ) s1 QS := by unfold sIf; simp
@[simp] theorem w_sAug (i : Nat) (g : D → D → Option D) (f : EF) : wp (sAug i g f ρ) s QS ↔ ∃ x, ρ[i]? = some (.sh x) ∧ wp (f ρ) s fun y s1 => ∃ z, g x y = some z ∧ QS (.nx, ρ.set i (.sh z)) s1 := by unfold sAug; simp
@[simp] theorem w_sMeth (i : Nat) (u : List D → D → Option (List D)) (f : EF) : wp (sMeth i u f ρ) s QS ↔ wp (f ρ) s fun d s1 => ∃ ds, ρ[i]? = some (.ow ds) ∧ ∃ es, u ds d = some es ∧ QS (.nx, ρ.set i (.ow es)) s1 := by unfold sMeth; simp
@[simp] theorem w_sPut (i : Nat) (fk f : EF) : wp (sPut i fk f ρ) s QS ↔ wp (f ρ) s fun d s1 => wp (fk ρ) s1 fun k s2 => ∃ ds, ρ[i]? = some (.ow ds) ∧ ∃ k', k = .int k' ∧ ∃ j, ixN ds.length k' = some j ∧ QS (.nx, ρ.set i (.ow (ds.set j d))) s2 := by unfold sPut; simp
@[simp] theorem w_sAugIx (i : Nat) (g : D → D → Option D) (fk f : EF) : wp (sAugIx i g fk f ρ) s QS ↔ wp (fk ρ) s fun k s1 => ∃ ds, ρ[i]? = some (.ow ds) ∧ ∃ k', k = .int k' ∧ ∃ j, ixN ds.length k' = some j ∧ ∃ x, ds[j]? = some x ∧ wp (f ρ) s1 fun y s2 => ∃ z, g x y = some z ∧ QS (.nx, ρ.set i (.ow (ds.set j z))) s2 := by unfold sAugIx; simp
@[simp] theorem gNm_eq (i : Nat) (d : D) : gNm i d ρ = some (ρ.set i (.sh d)) := rfl
@[simp] theorem gTp_eq (gs : List TGt) (ds : List D) : gTp gs (.tup ds) ρ = gTs gs ds ρ := rfl
@[simp] theorem gTs_nil : gTs [] [] ρ = some ρ := rfl
@[simp] theorem gTs_nm (i : Nat) (gs : List TGt) (d : D) (ds : List D) : gTs (gNm i :: gs) (d :: ds) ρ = gTs gs ds (ρ.set i (.sh d)) := rfl
theorem gTs_cons (g : TGt) (gs : List TGt) (d : D) (ds : List D) {ρ1 : Rho} (h : g d ρ = some ρ1) : gTs (g :: gs) (d :: ds) ρ = gTs gs ds ρ1 := by show (match g d ρ with | some ρ' => gTs gs ds ρ' | none => none) = _; rw [h]
@[simp] theorem gTs_tp (g : List TGt) (gs : List TGt) (d : List D) (ds : List D) : gTs (gTp g :: gs) (.tup d :: ds) ρ = (gTs g d ρ).bind (gTs gs ds) := by
  show (match gTs g d ρ with | some ρ' => gTs gs ds ρ' | none => none) = _
  cases gTs g d ρ <;> rfl
/-- a def's run -/
theorem wp_def {n k : Nat} {g : SF} {args : List D} (hk : args.length = k) (h : wp (g (args.map Slot.sh ++ List.replicate (n - args.length) Slot.un)) s fun r s' => (∃ d, r.1 = .rt d ∧ Q d s') ∨ (r.1 = .nx ∧ Q .non s')) : wp (runDef n k g args) s Q := by
  unfold runDef
  rw [if_pos hk, wp_Mb]
  refine wp_mono h fun r s' h => ?_
  obtain ⟨r, ρ'⟩ := r
  rcases h with ⟨d, rfl, q⟩ | ⟨rfl, q⟩ <;> simpa
/-- a def that comes to one value and draws nothing -/
theorem def_eq {m : List D → M D} {args : List D} {d : D} (h : ∀ s, wp (m args) s fun x s' => x = d ∧ s' = s) (s : DS) : m args s = some (d, s) := by
  obtain ⟨a, s', e, rfl, rfl⟩ := h s
  exact e
theorem wp_eq {m : List D → M D} {args : List D} {d : D} (h : ∀ s, m args s = some (d, s)) : wp (m args) s Q ↔ Q d s := wp_some (h s)

/-! comprehensions and loops -/
theorem wp_comp {α : Type} {gg : TGt} {ft : TF} {fe : EF} {ρ : Rho} (I : DS → Prop) (P : D → D → Prop) (items : List D)
    (h : ∀ x ∈ items, ∀ s, I s → ∃ ρ1, gg x ρ = some ρ1 ∧ wp (ft ρ1) s fun b s1 => if b = true then wp (fe ρ1) s1 fun y s2 => I s2 ∧ P x y else I s1) :
    ∀ s, I s → wp (compM gg ft fe ρ items) s fun ys s' => I s' ∧ (∀ y ∈ ys, ∃ x ∈ items, P x y) ∧ ys.length ≤ items.length := by
  induction items with
  | nil => intro s hs; simp [compM, hs]
  | cons x xs ih =>
    intro s hs
    obtain ⟨ρ1, e, hw⟩ := h x (by simp) s hs
    unfold compM
    rw [e]
    simp only [wp_Mb]
    refine wp_mono hw fun b s1 hb => ?_
    have ih' := ih fun y hy => h y (by simp [hy])
    cases b with
    | true =>
      simp only [if_true, wp_Mb] at hb ⊢
      refine wp_mono hb fun y s2 ⟨h2, hp⟩ => ?_
      refine wp_mono (ih' s2 h2) fun ys s3 ⟨h3, h4, h5⟩ => ?_
      rw [wp_Mp]
      exact ⟨h3, fun z hz => by
        rcases List.mem_cons.mp hz with rfl | hz
        · exact ⟨x, by simp, hp⟩
        · obtain ⟨x', hx', hp'⟩ := h4 z hz; exact ⟨x', by simp [hx'], hp'⟩, by simp; omega⟩
    | false =>
      simp only [Bool.false_eq_true, if_false] at hb ⊢
      exact wp_mono (ih' s1 hb) fun ys s3 ⟨h3, h4, h5⟩ => ⟨h3, fun z hz => by obtain ⟨x', hx', hp'⟩ := h4 z hz; exact ⟨x', by simp [hx'], hp'⟩, by simp; omega⟩
/-- a comprehension that draws nothing -/
theorem comp_map {α : Type} {gg : TGt} {ft : TF} {fe : EF} {ρ : Rho} {en' : α → D} {p : α → Bool} {f : α → D} (l : List α)
    (h : ∀ x ∈ l, ∃ ρ1, gg (en' x) ρ = some ρ1 ∧ ∀ s, wp (ft ρ1) s (fun b s1 => b = p x ∧ s1 = s) ∧ (p x = true → wp (fe ρ1) s fun y s2 => y = f x ∧ s2 = s)) (s : DS) :
    compM gg ft fe ρ (l.map en') s = some ((l.filter p).map f, s) := by
  induction l generalizing s with
  | nil => rfl
  | cons x xs ih =>
    obtain ⟨ρ1, e, hw⟩ := h x (by simp)
    have ih' := ih fun y hy => h y (by simp [hy])
    obtain ⟨h1, h2⟩ := hw s
    obtain ⟨b, s1, e1, eb, es⟩ := h1
    subst eb es
    rw [List.map_cons]
    unfold compM
    rw [e]
    show Mb (ft ρ1) _ _ = _
    rw [Mb_some e1]
    cases hp : p x with
    | false => simp only [Bool.false_eq_true, if_false, List.filter_cons, hp]; exact ih' _
    | true =>
      obtain ⟨y, s2, e2, rfl, rfl⟩ := h2 hp
      simp only [if_true, List.filter_cons, hp, List.map_cons]
      rw [Mb_some e2, Mb_some (ih' _)]
      rfl
theorem comp_mapT {α : Type} {gg : TGt} {fe : EF} {ρ : Rho} {en' : α → D} {f : α → D} (l : List α)
    (h : ∀ x ∈ l, ∃ ρ1, gg (en' x) ρ = some ρ1 ∧ ∀ s, wp (fe ρ1) s fun y s2 => y = f x ∧ s2 = s) (s : DS) : compM gg tYes' fe ρ (l.map en') s = some (l.map f, s) := by
  have := comp_map (ft := tYes') (p := fun _ => true) l (fun x hx => let ⟨ρ1, e, hw⟩ := h x hx; ⟨ρ1, e, fun s => ⟨by simp, fun _ => hw s⟩⟩) s
  rw [List.filter_eq_self.mpr (by simp)] at this
  exact this
@[simp] theorem w_oComp (fi : AF) (gg : TGt) (ft : TF) (fe : EF) (vs : List Nat) : wp (oComp fi gg ft fe vs ρ) s QA ↔ wp (fi ρ) s fun xs s1 => wp (compM gg ft fe (wipeR ρ vs) xs) s1 QA := by unfold oComp; simp
@[simp] theorem w_sFor (fi : AF) (g : TGt) (body : SF) : wp (sFor fi g body ρ) s QS ↔ wp (fi ρ) s fun xs s1 => wp (loopM g body xs ρ) s1 QS := by unfold sFor; simp
/-- THE RULE for loops: what holds ahead of the items that are left -/
theorem wp_loop {g : TGt} {body : SF} (I : List D → Rho → DS → Prop) (h : ∀ x xs ρ s, I (x :: xs) ρ s → ∃ ρ1, g x ρ = some ρ1 ∧ wp (body ρ1) s fun r s' => match r with
      | (.nx, ρ2) => I xs ρ2 s'
      | (.ct, ρ2) => I xs ρ2 s'
      | (.bk, ρ2) => QS (.nx, ρ2) s'
      | (.rt d, ρ2) => QS (.rt d, ρ2) s') (h0 : ∀ ρ s, I [] ρ s → QS (.nx, ρ) s) : ∀ (xs : List D) (ρ : Rho) (s : DS), I xs ρ s → wp (loopM g body xs ρ) s QS
  | [], ρ, s, hi => by unfold loopM; rw [wp_Mp]; exact h0 ρ s hi
  | x :: xs, ρ, s, hi => by
    obtain ⟨ρ1, e, hw⟩ := h x xs ρ s hi
    unfold loopM
    rw [e]
    simp only [wp_Mb]
    refine wp_mono hw fun r s' hr => ?_
    obtain ⟨r, ρ2⟩ := r
    cases r with
    | nx => exact wp_loop I h h0 xs ρ2 s' hr
    | ct => exact wp_loop I h h0 xs ρ2 s' hr
    | bk => rw [wp_Mp]; exact hr
    | rt d => rw [wp_Mp]; exact hr
/-- THE RULE for while: a measure that falls -/
theorem wp_while {t : TF} {body : SF} (I : Nat → Rho → DS → Prop) (h : ∀ n ρ s, I n ρ s → wp (t ρ) s fun k s1 => if k = true then wp (body ρ) s1 fun r s' => match r with
      | (.nx, ρ2) => ∃ m, m < n ∧ I m ρ2 s'
      | (.ct, ρ2) => ∃ m, m < n ∧ I m ρ2 s'
      | (.bk, ρ2) => QS (.nx, ρ2) s'
      | (.rt d, ρ2) => QS (.rt d, ρ2) s' else QS (.nx, ρ) s1) : ∀ (F n : Nat) (ρ : Rho) (s : DS), n < F → I n ρ s → wp (whileM t body F ρ) s QS
  | 0, n, _, _, hn, _ => by omega
  | F + 1, n, ρ, s, hn, hi => by
    unfold whileM
    simp only [wp_Mb, wp_ite]
    refine wp_mono (h n ρ s hi) fun k s1 hk => ?_
    cases k with
    | false => simpa using hk
    | true =>
      simp only [if_true, wp_Mb] at hk ⊢
      refine wp_mono hk fun r s' hr => ?_
      obtain ⟨r, ρ2⟩ := r
      cases r with
      | nx => obtain ⟨m, hm, hi'⟩ := hr; exact wp_while I h F m ρ2 s' (by omega) hi'
      | ct => obtain ⟨m, hm, hi'⟩ := hr; exact wp_while I h F m ρ2 s' (by omega) hi'
      | bk => rw [wp_Mp]; exact hr
      | rt d => rw [wp_Mp]; exact hr
theorem w_sWhile {t : TF} {body : SF} (I : Nat → Rho → DS → Prop) (h : ∀ n ρ s, I n ρ s → wp (t ρ) s fun k s1 => if k = true then wp (body ρ) s1 fun r s' => match r with
      | (.nx, ρ2) => ∃ m, m < n ∧ I m ρ2 s'
      | (.ct, ρ2) => ∃ m, m < n ∧ I m ρ2 s'
      | (.bk, ρ2) => QS (.nx, ρ2) s'
      | (.rt d, ρ2) => QS (.rt d, ρ2) s' else QS (.nx, ρ) s1) (n : Nat) (hn : n < FUEL) (hi : I n ρ s) : wp (sWhile t body ρ) s QS := wp_while I h FUEL n ρ s hn hi
end
end Pu
namespace Pu
open PySem PySem.Spec PyProof.Rows L2
/-! ### the law's draws -/
def gTake : SF := sSeq (sIf (tAnd (tV (x2 eqD (xRd 0 2) (xC (.int 0)))) (tV (x2 ltA (xRd 0 1) (xL lenD (aC (xRd 0 0) (aN)))))) (sSeq (sWr 0 2 (xL absD (aC (xL intD (aC (x2 ixD (xRd 0 0) (xRd 0 1)) (aN))) (aN)))) (sSeq (sWr 0 1 (x2 addD (xRd 0 1) (xC (.int 1)))) (sIf (tV (x2 ltA (xRd 0 2) (x2 powD (xC (.int 10)) (xC (.int 18))))) (sSeq (sSet 3 (xL intD (aC (xRd 0 2) (aN)))) (sSeq (sWr 0 2 (xC (.int 0))) (sRet (x2 modD (xNm 3) (xNm 1))))) (sNext)))) (sNext)) (sSeq (sIf (tV (x2 gtA (xRd 0 2) (xC (.int 0)))) (sSeq (sSet 2 (x2 modD (xL intD (aC (xRd 0 2) (aN))) (xNm 1))) (sSeq (sWr 0 2 (x2 divD (xL intD (aC (xRd 0 2) (aN))) (xNm 1))) (sRet (xSh 2)))) (sNext)) (sSeq (sWr 0 3 (x2 modD (xL intD (aC (x2 addD (x2 mulD (xRd 0 3) (xC (.int 48271))) (xC (.int 11))) (aN))) (xC (.int 2147483647)))) (sRet (x2 modD (xL intD (aC (x2 divD (xRd 0 3) (xC (.int 3))) (aN))) (xNm 1)))))
def mTake : List D → M D := runDef 4 2 gTake
section
variable {s : DS} {ρ : Rho} {Q : D → DS → Prop} {QA : List D → DS → Prop} {QT : Bool → DS → Prop} {QS : Res × Rho → DS → Prop}
@[simp] theorem w_xRd (i k : Nat) : wp (xRd i k ρ) s Q ↔ ρ[i]? = some (.sh .rng) ∧ Q (rdD k s) s := by
  unfold xRd
  simp only [wp_onSh]
  constructor
  · rintro ⟨d, h, w⟩
    cases d <;> first | (simp at w; done) | skip
    obtain ⟨a, s', e, q⟩ := w
    cases e
    exact ⟨h, q⟩
  · rintro ⟨h, q⟩
    exact ⟨.rng, h, _, _, rfl, q⟩
@[simp] theorem w_sWr (i k : Nat) (f : EF) : wp (sWr i k f ρ) s QS ↔ wp (f ρ) s fun d s1 => ∃ v, d = .int v ∧ ρ[i]? = some (.sh .rng) ∧ wrOk k v = true ∧ QS (.nx, ρ) (wrD k v s1) := by
  unfold sWr
  simp only [wp_Mb, wp_onInt, wp_onSh]
  refine wp_congr fun d s1 => ⟨?_, ?_⟩
  · rintro ⟨v, rfl, x, h, w⟩
    cases x <;> first | (simp at w; done) | skip
    obtain ⟨a, s', e, q⟩ := w
    have e : (if wrOk k v = true then some ((Res.nx, ρ), wrD k v s1) else none) = some (a, s') := e
    split at e
    · rename_i hok
      cases e
      exact ⟨v, rfl, h, hok, q⟩
    · cases e
  · rintro ⟨v, rfl, h, hok, q⟩
    refine ⟨v, rfl, .rng, h, (.nx, ρ), wrD k v s1, ?_, q⟩
    show (if wrOk k v = true then some ((Res.nx, ρ), wrD k v s1) else none) = _
    rw [if_pos hok]
@[simp] theorem eqD_ii (a b : Int) : eqD (.int a) (.int b) = some (.bl (decide (a = b))) := eq_en (α := Int) (by decide) a b
@[simp] theorem neD_ii (a b : Int) : neD (.int a) (.int b) = some (.bl (!decide (a = b))) := ne_en (α := Int) (by decide) a b
@[simp] theorem lenD_l (a : List D) : lenD [.lst a] = some (.int a.length) := rfl
@[simp] theorem lenD_t (a : List D) : lenD [.tup a] = some (.int a.length) := rfl
@[simp] theorem tupD_l (a : List D) : tupD [.lst a] = some (.tup a) := rfl
@[simp] theorem tupD_t (a : List D) : tupD [.tup a] = some (.tup a) := rfl
@[simp] theorem listO_l (a : List D) : listO [.lst a] = some a := rfl
@[simp] theorem listO_t (a : List D) : listO [.tup a] = some a := rfl
@[simp] theorem absD_i (a : Int) : absD [.int a] = some (.int (if a < 0 then -a else a)) := rfl
@[simp] theorem intD_i (a : Int) : intD [.int a] = some (.int a) := rfl
@[simp] theorem intD_b (a : Bool) : intD [.bl a] = some (.int (if a then 1 else 0)) := rfl
@[simp] theorem max2D_ii (a b : Int) : max2D [.int a, .int b] = some (.int (max a b)) := by unfold max2D; simp only []; congr 2; omega
@[simp] theorem min2D_ii (a b : Int) : min2D [.int a, .int b] = some (.int (min a b)) := by unfold min2D; simp only []; congr 2; omega
@[simp] theorem addD_ii (a b : Int) : addD (.int a) (.int b) = some (.int (a + b)) := rfl
@[simp] theorem subD_ii (a b : Int) : subD (.int a) (.int b) = some (.int (a - b)) := rfl
@[simp] theorem addI_ii (a b : Int) : addI (.int a) (.int b) = some (.int (a + b)) := rfl
@[simp] theorem negD_i (a : Int) : negD (.int a) = some (.int (-a)) := rfl
theorem modD_ii (a : Int) {b : Int} (h : 0 < b) : modD (.int a) (.int b) = some (.int (a % b)) := by show (if 0 < b then some (D.int (a % b)) else none) = _; rw [if_pos h]
theorem divD_ii (a : Int) {b : Int} (h : 0 < b) (h2 : b.natAbs.log2 < 9000) : divD (.int a) (.int b) = some (.int (a / b)) := by show (if 0 < b ∧ b.natAbs.log2 < 9000 then some (D.int (a / b)) else none) = _; rw [if_pos ⟨h, h2⟩]
theorem mulD_ii {a b : Int} (h : a.natAbs.log2 + b.natAbs.log2 < 1000000) : mulD (.int a) (.int b) = some (.int (a * b)) := by show (if a.natAbs.log2 + b.natAbs.log2 < 1000000 then some (D.int (a * b)) else none) = _; rw [if_pos h]
theorem log_lt {x : Int} {k : Nat} (h : x.natAbs < 2 ^ k) : x.natAbs.log2 ≤ k := by
  by_cases h0 : x.natAbs = 0
  · rw [h0]; simp
  · exact Nat.le_of_lt ((Nat.log2_lt h0).mpr h)
theorem mulD_sm {a b : Int} (k : Nat) (h : a.natAbs < 2 ^ k) (h2 : b.natAbs < 2 ^ k) (hk : k < 500000 := by decide) : mulD (.int a) (.int b) = some (.int (a * b)) := mulD_ii (by have := log_lt h; have := log_lt h2; omega)
theorem divD_sm (a : Int) {b : Int} (k : Nat) (h : 0 < b) (h2 : b.natAbs < 2 ^ k) (hk : k < 9000 := by decide) : divD (.int a) (.int b) = some (.int (a / b)) := divD_ii a h (by have := log_lt h2; omega)
theorem atI_nat' {α : Type} (xs : List α) (n : Nat) : atI xs (n : Int) = xs[n]? := by
  cases h : xs[n]? with
  | some v => exact atI_nat h
  | none =>
    unfold atI ixN
    have := List.getElem?_eq_none_iff.mp h
    rw [if_pos (by omega), if_neg (by omega)]; rfl
theorem ixN_nat {n k : Nat} (h : k < n) : ixN n (k : Int) = some k := by unfold ixN; rw [if_pos (by omega), if_pos (by omega)]; simp
@[simp] theorem ixD_tn (xs : List D) (n : Nat) : ixD (.tup xs) (.int (n : Nat)) = xs[n]? := atI_nat' xs n
@[simp] theorem ixD_ln (xs : List D) (n : Nat) : ixD (.lst xs) (.int (n : Nat)) = xs[n]? := atI_nat' xs n
theorem ixD_t0 (xs : List D) : ixD (.tup xs) (.int 0) = xs[0]? := atI_nat' xs 0
theorem ixD_t1 (xs : List D) : ixD (.tup xs) (.int 1) = xs[1]? := atI_nat' xs 1
theorem ixD_t2 (xs : List D) : ixD (.tup xs) (.int 2) = xs[2]? := atI_nat' xs 2
theorem ixD_l0 (xs : List D) : ixD (.lst xs) (.int 0) = xs[0]? := atI_nat' xs 0
theorem ixD_l1 (xs : List D) : ixD (.lst xs) (.int 1) = xs[1]? := atI_nat' xs 1
@[simp] theorem seqD_t (xs : List D) : seqD (.tup xs) = some xs := rfl
@[simp] theorem seqD_l (xs : List D) : seqD (.lst xs) = some xs := rfl
@[simp] theorem isD_non (x : D) : isD x .non = some (.bl (isNonD x)) := rfl
@[simp] theorem isNotD_non (x : D) : isNotD x .non = some (.bl (!isNonD x)) := rfl
@[simp] theorem wrD1 (ns : List Int) (p a sd v : Int) : wrD 1 v ⟨ns, p, a, sd⟩ = ⟨ns, v, a, sd⟩ := rfl
@[simp] theorem wrD2 (ns : List Int) (p a sd v : Int) : wrD 2 v ⟨ns, p, a, sd⟩ = ⟨ns, p, v, sd⟩ := rfl
@[simp] theorem wrD3 (ns : List Int) (p a sd v : Int) : wrD 3 v ⟨ns, p, a, sd⟩ = ⟨ns, p, a, v⟩ := rfl
theorem pow18 : powD (.int 10) (.int 18) = some (.int 1000000000000000000) := by
  show (if (0 : Int) ≤ 18 ∧ (18 : Int) ≤ 1000000 ∧ (10 : Int).natAbs < 2 ^ 64 then some (D.int (10 ^ (18 : Int).toNat)) else none) = _
  rw [if_pos (by decide)]; rfl
set_option maxHeartbeats 4000000 in
/-- a draw: a number below many, the draw object still well -/
theorem take_ok {m : Int} (hm : 0 < m) (hm2 : m.natAbs < 2 ^ 64) (h : s.ok) : wp (mTake [.rng, .int m]) s fun d s' => s'.ok ∧ ∃ r : Int, d = .int r ∧ 0 ≤ r ∧ r < m := by
  have hmod : ∀ a : Int, 0 ≤ a % m ∧ a % m < m := fun a => ⟨Int.emod_nonneg _ (by omega), Int.emod_lt_of_pos _ hm⟩
  obtain ⟨ns, pos, acc, seed⟩ := s
  obtain ⟨p0, a0, s0, s1, hl⟩ := h
  simp only at p0 a0 s0 s1 hl
  have hdiv : ∀ a : Int, divD (.int a) (.int m) = some (.int (a / m)) := fun a => divD_sm a 64 hm hm2
  have hdivp : ∀ a : Int, 0 ≤ a → 0 ≤ a / m := fun a ha => Int.ediv_nonneg ha (by omega)
  have last : ∀ (p a : Int), 0 ≤ p → a = 0 → ∃ d, mulD (D.int seed) (D.int 48271) = some d ∧ ∃ d_1, addD d (D.int 11) = some d_1 ∧ ∃ d, intD [d_1] = some d ∧ ∃ d_2, modD d (D.int 2147483647) = some d_2 ∧ ∃ v, d_2 = D.int v ∧ wrOk 3 v = true ∧
      ∃ d, divD (D.int v) (D.int 3) = some d ∧ ∃ d_3, intD [d] = some d_3 ∧ ∃ d, modD d_3 (D.int m) = some d ∧ (DS.mk ns p a v).ok ∧ ∃ r, d = D.int r ∧ 0 ≤ r ∧ r < m := by
    intro p a hp ha
    have h1 : 0 ≤ (seed * 48271 + 11) % 2147483647 := Int.emod_nonneg _ (by decide)
    have h2 : (seed * 48271 + 11) % 2147483647 < 2147483647 := Int.emod_lt_of_pos _ (by decide)
    refine ⟨_, mulD_sm 64 (by omega) (by decide), _, rfl, _, rfl, _, modD_ii _ (by decide), _, rfl, by unfold wrOk; simp [h1, h2], _, divD_sm _ 64 (by decide) (by decide), _, rfl, _, modD_ii _ hm, ⟨hp, by rw [ha]; exact Int.le_refl _, h1, h2, hl⟩, _, rfl, (hmod _).1, (hmod _).2⟩
  refine wp_def rfl ?_
  by_cases hacc : acc = 0
  · subst hacc
    by_cases hpos : pos < ns.length
    · obtain ⟨k, rfl⟩ := Int.eq_ofNat_of_zero_le p0
      have hk : k < ns.length := by omega
      have hx : ixD (.lst (ns.map D.int)) (.int (k : Nat)) = some (.int ns[k]) := by rw [ixD_ln, List.getElem?_map, List.getElem?_eq_getElem hk]; rfl
      have hv : 0 ≤ (if ns[k] < 0 then -ns[k] else ns[k]) := by split <;> omega
      generalize hvv : (if ns[k] < 0 then -ns[k] else ns[k]) = v at hv
      have hvv' : absD [.int ns[k]] = some (.int v) := by rw [absD_i, hvv]
      by_cases hsm : v < 1000000000000000000
      · simp [gTake, List.replicate, modD_ii _ hm, rdD, hx, hvv', pow18, hk, wrOk, hv, hsm, hmod, hdiv, Nat.not_le.mpr hk, Int.not_le.mpr hsm]
        exact ⟨by omega, ⟨by show (0 : Int) ≤ (k : Int) + 1; omega, Int.le_refl _, s0, s1, hl⟩⟩
      · have hv0 : 0 < v := by omega
        simp [gTake, List.replicate, modD_ii _ hm, rdD, hx, hvv', pow18, hk, wrOk, hv, hsm, hmod, hdiv, hv0, Nat.not_le.mpr hk, Int.not_le.mpr hv0]
        exact ⟨by omega, Int.not_lt.mp hsm, hdivp v hv, ⟨by show (0 : Int) ≤ (k : Int) + 1; omega, hdivp v hv, s0, s1, hl⟩⟩
    · have := last pos 0 p0 rfl
      simp [gTake, List.replicate, rdD, hpos, Int.not_lt.mp hpos]
      simpa using this
  · have hacc0 : 0 < acc := by omega
    simp [gTake, List.replicate, modD_ii _ hm, rdD, hacc, hacc0, hdiv, wrOk, hmod, Int.not_le.mpr hacc0]
    exact ⟨hdivp acc a0, ⟨p0, hdivp acc a0, s0, s1, hl⟩⟩
end
end Pu
namespace Pu
open PySem PySem.Spec PyProof.Rows L2
section
variable {α β : Type}
theorem e_L [EnQ α] (l : List α) : (EnQ.e l : D) = .tup (l.map EnQ.e) := rfl
theorem e_P [EnQ α] [EnQ β] (p : α × β) : (EnQ.e p : D) = .tup [EnQ.e p.1, EnQ.e p.2] := rfl
theorem e_I (i : Int) : (EnQ.e i : D) = .int i := rfl
theorem e_N (i : Nat) : (EnQ.e i : D) = .int (i : Nat) := rfl
theorem e_B (i : Bool) : (EnQ.e i : D) = .bl i := rfl
theorem e_none [En α] : (EnQ.e (none : Option α) : D) = .non := rfl
theorem e_some [En α] (a : α) : (EnQ.e (some a) : D) = EnQ.e a := rfl
theorem SZ_eq : SZ = 16777216 := by decide
/-! ranges -/
theorem rng1_n {n : Nat} (h : n ≤ 16777216) : rng1D [.int (n : Nat)] = some ((List.range n).map EnQ.e) := by
  show (if (n : Int) ≤ 16777216 ∧ -(2 ^ 62) ≤ (n : Int) then some (rangeL 0 (n : Int).toNat) else none) = _
  rw [if_pos (by omega)]
  unfold rangeL
  simp only [Int.toNat_natCast, Option.some.injEq]
  exact List.map_congr_left fun i _ => by rw [Int.zero_add]; rfl
theorem rng1_i {j : Int} (h : j ≤ 16777216) (h2 : -1000 ≤ j) : rng1D [.int j] = some ((List.range j.toNat).map EnQ.e) := by
  show (if j ≤ 16777216 ∧ -(2 ^ 62) ≤ j then some (rangeL 0 j.toNat) else none) = _
  rw [if_pos (by omega)]
  unfold rangeL
  simp only [Option.some.injEq]
  exact List.map_congr_left fun i _ => by rw [Int.zero_add]; rfl
theorem rng2_n {a b : Nat} (h : a ≤ 16777216) (h : b ≤ 16777216) : rng2D [.int (a : Nat), .int (b : Nat)] = some ((List.range' a (b - a)).map EnQ.e) := by
  simp only [rng2D]
  rw [if_pos (by omega)]
  unfold rangeL
  rw [List.range'_eq_map_range, List.map_map]
  have : ((b : Int) - a).toNat = b - a := by omega
  rw [this]
  congr 1
/-! all, any, sums -/
theorem blsD_f (p : α → Bool) : ∀ l : List α, blsD (l.map fun x => .bl (p x)) = some (l.map p)
  | [] => rfl
  | x :: l => by simp [blsD, blsD_f p l]
theorem intsD_f (p : α → Int) : ∀ l : List α, intsD (l.map fun x => .int (p x)) = some (l.map p)
  | [] => rfl
  | x :: l => by simp [intsD, intsD_f p l]
theorem allD_f (p : α → Bool) (l : List α) : allD [.lst (l.map fun x => .bl (p x))] = some (.bl (l.all p)) := by
  show (blsD _).map _ = _
  rw [blsD_f]
  simp [List.all_map, Function.comp_def]
theorem anyD_f (p : α → Bool) (l : List α) : anyD [.lst (l.map fun x => .bl (p x))] = some (.bl (l.any p)) := by
  show (blsD _).map _ = _
  rw [blsD_f]
  simp [List.any_map, Function.comp_def]
theorem sumL_f (p : α → Int) (l : List α) : sumD [.lst (l.map fun x => .int (p x))] = some (.int (l.map p).sum) := by
  show (intsD _).map _ = _
  rw [intsD_f]; rfl
theorem sumT_f (p : α → Int) (l : List α) : sumD [.tup (l.map fun x => .int (p x))] = some (.int (l.map p).sum) := by
  show (intsD _).map _ = _
  rw [intsD_f]; rfl
theorem sumL_i (l : List Int) : sumD [.lst (l.map D.int)] = some (.int l.sum) := by
  show (intsD _).map _ = _
  rw [intsD_map]; rfl
theorem sumT_i (l : List Int) : sumD [.tup (l.map D.int)] = some (.int l.sum) := by
  show (intsD _).map _ = _
  rw [intsD_map]; rfl
theorem blsD_rep (b : Bool) : ∀ n : Nat, blsD (List.replicate n (.bl b)) = some (List.replicate n b)
  | 0 => rfl
  | n + 1 => by rw [List.replicate_succ, List.replicate_succ]; simp [blsD, blsD_rep b n]
@[simp] theorem allD_rep (n : Nat) : allD [.lst (List.replicate n (.bl true))] = some (.bl true) := by
  show (blsD _).map _ = _
  rw [blsD_rep]; simp
@[simp] theorem allD_true (l : List α) : allD [.lst (l.map fun _ => .bl true)] = some (.bl true) := by rw [allD_f (fun _ => true)]; simp
@[simp] theorem truD_bl (b : Bool) : truD (.bl b) = some b := rfl
@[simp] theorem truD_int (b : Int) : truD (.int b) = some (b != 0) := rfl
@[simp] theorem truD_non : truD .non = some false := rfl
@[simp] theorem truD_tup (l : List D) : truD (.tup l) = some (!l.isEmpty) := rfl
@[simp] theorem truD_lst (l : List D) : truD (.lst l) = some (!l.isEmpty) := rfl
/-! slices -/
theorem cut_take {γ : Type} (xs : List γ) (n : Nat) : cutD xs none (some (n : Int)) = xs.take n := by
  unfold cutD
  rw [HT.sIx_none, HT.sIx_nat, List.drop_zero, Nat.sub_zero]
  rcases Nat.le_total n xs.length with h | h
  · rw [Nat.min_eq_left h]
  · rw [Nat.min_eq_right h, List.take_of_length_le (Nat.le_refl _), List.take_of_length_le h]
theorem cut_drop {γ : Type} (xs : List γ) (n : Nat) : cutD xs (some (n : Int)) none = xs.drop n := by
  unfold cutD
  rw [HT.sIx_none, HT.sIx_nat]
  rcases Nat.le_total n xs.length with h | h
  · rw [Nat.min_eq_left h, List.take_of_length_le (by rw [List.length_drop]; exact Nat.le_refl _)]
  · rw [Nat.min_eq_right h, List.drop_of_length_le h, List.drop_of_length_le (Nat.le_refl xs.length)]; simp
theorem cut_init {γ : Type} (xs : List γ) : cutD xs none (some (-1)) = xs.dropLast := by
  unfold cutD
  rw [HT.sIx_none, List.drop_zero, Nat.sub_zero, List.dropLast_eq_take]
  have : HT.sIx xs.length xs.length (some (-1)) = xs.length - 1 := by
    show (if (-1 : Int) < 0 then (-1 + (xs.length : Int)).toNat else min (-1 : Int).toNat xs.length) = xs.length - 1
    rw [if_pos (by decide)]; omega
  rw [this]
theorem sl_take (xs : List D) (n : Nat) : slD (.tup xs) none (some (n : Int)) = some (.tup (xs.take n)) := by show some (D.tup _) = _; rw [cut_take]
theorem sl_drop (xs : List D) (n : Nat) : slD (.tup xs) (some (n : Int)) none = some (.tup (xs.drop n)) := by show some (D.tup _) = _; rw [cut_drop]
theorem slL_take (xs : List D) (n : Nat) : slD (.lst xs) none (some (n : Int)) = some (.lst (xs.take n)) := by show some (D.lst _) = _; rw [cut_take]
theorem slL_drop (xs : List D) (n : Nat) : slD (.lst xs) (some (n : Int)) none = some (.lst (xs.drop n)) := by show some (D.lst _) = _; rw [cut_drop]
theorem addD_tt {a b : List D} (h : a.length + b.length ≤ 16777216) : addD (.tup a) (.tup b) = some (.tup (a ++ b)) := by
  show (if a.length + b.length ≤ SZ then some (D.tup (a ++ b)) else none) = _
  rw [if_pos (by rw [SZ_eq]; exact h)]
theorem catO_ll {a b : List D} (h : a.length + b.length ≤ 16777216) : catO (.lst a) (.lst b) = some (a ++ b) := by
  show (if a.length + b.length ≤ SZ then some (a ++ b) else none) = _
  rw [if_pos (by rw [SZ_eq]; exact h)]
theorem repO_1 (x : D) {n : Nat} (h : n ≤ 16777216) : repO (.lst [x]) (.int (n : Nat)) = some (List.replicate n x) := by
  simp only [repO]
  rw [if_pos ⟨by omega, by omega, by rw [SZ_eq]; simp; exact h⟩]
  simp
theorem repT_1 (x : D) {n : Nat} (h : n ≤ 1000) : repT (.tup [x]) (.int (n : Nat)) = some (.tup (List.replicate n x)) := by
  simp only [repT]
  rw [if_pos ⟨by omega, by omega, by simp⟩]
  simp
theorem appU_eq {ds : List D} {d : D} (h : ds.length < 16777216) : appU ds d = some (ds ++ [d]) := by
  unfold appU; rw [if_pos (by rw [SZ_eq]; exact h)]
theorem extU_eq {ds es : List D} (h : ds.length + es.length ≤ 16777216) : extU ds (.lst es) = some (ds ++ es) := by
  show (if ds.length + es.length ≤ SZ then some (ds ++ es) else none) = _
  rw [if_pos (by rw [SZ_eq]; exact h)]
/-! enumerate, zip -/
theorem enL_map [EnQ α] (l : List α) : enL (l.map EnQ.e) = l.zipIdx.map fun p => .tup [.int (p.2 : Nat), EnQ.e p.1] := by
  unfold enL
  rw [List.mapIdx_eq_zipIdx_map, List.zipIdx_map, List.map_map]
  rfl
theorem zpL_map [EnQ α] [EnQ β] (l : List α) (m : List β) : zpL (l.map EnQ.e) (m.map EnQ.e) = (l.zip m).map EnQ.e := by
  unfold zpL
  rw [List.zipWith_map]
  induction l generalizing m with
  | nil => rfl
  | cons a l ih => cases m with
    | nil => rfl
    | cons b m => simp [ih m]; rfl
theorem fold_app {γ : Type} (f : α → γ) : ∀ (l : List α) (q : List γ), l.foldl (fun q x => q ++ [f x]) q = q ++ l.map f
  | [], q => by simp
  | a :: l, q => by rw [List.foldl_cons, fold_app f l]; simp
/-! loops over lists of values -/
def lpost (J : Rho → DS → Prop) (QS : Res × Rho → DS → Prop) : Res × Rho → DS → Prop
  | (.nx, ρ), s => J ρ s
  | (.ct, ρ), s => J ρ s
  | (.bk, ρ), s => QS (.nx, ρ) s
  | (.rt d, ρ), s => QS (.rt d, ρ) s
section
variable {J : Rho → DS → Prop} {QS : Res × Rho → DS → Prop} {ρ : Rho} {s : DS} {g : TGt} {body : SF}
@[simp] theorem lpost_nx : lpost J QS (.nx, ρ) s ↔ J ρ s := Iff.rfl
@[simp] theorem lpost_ct : lpost J QS (.ct, ρ) s ↔ J ρ s := Iff.rfl
@[simp] theorem lpost_bk : lpost J QS (.bk, ρ) s ↔ QS (.nx, ρ) s := Iff.rfl
@[simp] theorem lpost_rt {d : D} : lpost J QS (.rt d, ρ) s ↔ QS (.rt d, ρ) s := Iff.rfl
/-- a loop: J st by what is gathered so far (f) -/
theorem wp_fold {σ : Type} (en' : α → D) (f : σ → α → σ) (J : σ → Rho → DS → Prop) (l : List α) (st : σ)
    (h : ∀ x ∈ l, ∀ st ρ s, J st ρ s → ∃ ρ1, g (en' x) ρ = some ρ1 ∧ wp (body ρ1) s (lpost (J (f st x)) QS)) (h0 : ∀ ρ s, J (l.foldl f st) ρ s → QS (.nx, ρ) s) (hJ : J st ρ s) : wp (loopM g body (l.map en') ρ) s QS := by
  induction l generalizing st ρ s with
  | nil => unfold loopM; simp only [List.map_nil]; rw [wp_Mp]; exact h0 ρ s hJ
  | cons x xs ih =>
    obtain ⟨ρ1, e, hw⟩ := h x (by simp) st ρ s hJ
    rw [List.map_cons]
    unfold loopM
    rw [e]
    simp only [wp_Mb]
    refine wp_mono hw fun r s' hr => ?_
    obtain ⟨r, ρ2⟩ := r
    cases r with
    | nx => exact ih (f st x) (fun y hy => h y (by simp [hy])) h0 hr
    | ct => exact ih (f st x) (fun y hy => h y (by simp [hy])) h0 hr
    | bk => rw [wp_Mp]; exact hr
    | rt d => rw [wp_Mp]; exact hr
/-- a loop: J rest by what is left -/
theorem wp_rest (en' : α → D) (J : List α → Rho → DS → Prop) (l : List α)
    (h : ∀ x xs ρ s, J (x :: xs) ρ s → ∃ ρ1, g (en' x) ρ = some ρ1 ∧ wp (body ρ1) s (lpost (J xs) QS)) (h0 : ∀ ρ s, J [] ρ s → QS (.nx, ρ) s) (hJ : J l ρ s) : wp (loopM g body (l.map en') ρ) s QS := by
  induction l generalizing ρ s with
  | nil => unfold loopM; simp only [List.map_nil]; rw [wp_Mp]; exact h0 ρ s hJ
  | cons x xs ih =>
    obtain ⟨ρ1, e, hw⟩ := h x xs ρ s hJ
    rw [List.map_cons]
    unfold loopM
    rw [e]
    simp only [wp_Mb]
    refine wp_mono hw fun r s' hr => ?_
    obtain ⟨r, ρ2⟩ := r
    cases r with
    | nx => exact ih hr
    | ct => exact ih hr
    | bk => rw [wp_Mp]; exact hr
    | rt d => rw [wp_Mp]; exact hr
/-- a loop that keeps J -/
theorem wp_each (en' : α → D) (J : Rho → DS → Prop) (l : List α)
    (h : ∀ x ∈ l, ∀ ρ s, J ρ s → ∃ ρ1, g (en' x) ρ = some ρ1 ∧ wp (body ρ1) s (lpost J QS)) (h0 : ∀ ρ s, J ρ s → QS (.nx, ρ) s) (hJ : J ρ s) : wp (loopM g body (l.map en') ρ) s QS :=
  wp_fold (σ := Unit) en' (fun _ _ => ()) (fun _ => J) l () (fun x hx _ ρ s hj => h x hx ρ s hj) h0 hJ
end
theorem wp_whl {J : Unit} {QS : Res × Rho → DS → Prop} {ρ : Rho} {s : DS} {t : TF} {body : SF} (I : Nat → Rho → DS → Prop) (h : ∀ n ρ s, I n ρ s → wp (t ρ) s fun k s1 => if k = true then wp (body ρ) s1 (lpost (fun ρ2 s' => ∃ m, m < n ∧ I m ρ2 s') QS) else QS (.nx, ρ) s1)
    (n : Nat) (hn : n < FUEL) (hi : I n ρ s) : wp (sWhile t body ρ) s QS :=
  w_sWhile I (fun n ρ s hI => wp_mono (h n ρ s hI) fun k s1 hk => by
    cases k with
    | false => simpa using hk
    | true =>
      simp only [if_true] at hk ⊢
      refine wp_mono hk fun r s' hr => ?_
      obtain ⟨r, ρ2⟩ := r
      cases r <;> exact hr) n hn hi
/-- a comprehension, told by its list -/
theorem wp_compT {gg : TGt} {fe : EF} {ρ : Rho} {s : DS} {QA : List D → DS → Prop} {en' : α → D} {f : α → D} (l : List α)
    (h : ∀ x ∈ l, ∃ ρ1, gg (en' x) ρ = some ρ1 ∧ ∀ s, wp (fe ρ1) s fun y s2 => y = f x ∧ s2 = s) (q : QA (l.map f) s) : wp (compM gg tYes' fe ρ (l.map en')) s QA :=
  (wp_some (comp_mapT l h s)).mpr q
theorem wp_compF {gg : TGt} {ft : TF} {fe : EF} {ρ : Rho} {s : DS} {QA : List D → DS → Prop} {en' : α → D} {p : α → Bool} {f : α → D} (l : List α)
    (h : ∀ x ∈ l, ∃ ρ1, gg (en' x) ρ = some ρ1 ∧ ∀ s, wp (ft ρ1) s (fun b s1 => b = p x ∧ s1 = s) ∧ (p x = true → wp (fe ρ1) s fun y s2 => y = f x ∧ s2 = s)) (q : QA ((l.filter p).map f) s) : wp (compM gg ft fe ρ (l.map en')) s QA :=
  (wp_some (comp_map l h s)).mpr q
/-- a draw, as a natural number -/
theorem wp_take {m : Nat} {s : DS} {Q : D → DS → Prop} (hm : 0 < m) (hm2 : m < 2 ^ 64) (h : s.ok) (q : ∀ (r : Nat) (s' : DS), r < m → s'.ok → Q (.int (r : Nat)) s') : wp (mTake [.rng, .int (m : Nat)]) s Q := by
  refine wp_mono (take_ok (by omega) (by simpa using hm2) h) fun d s' ⟨ok, r, hr, h0, h1⟩ => ?_
  subst hr
  obtain ⟨k, rfl⟩ := Int.eq_ofNat_of_zero_le h0
  exact q k s' (by omega) ok
/-- a comprehension that draws -/
theorem wp_compS {gg : TGt} {fe : EF} {ρ : Rho} {en' : α → D} {QA : List D → DS → Prop} (P : α → D → Prop) (l : List α)
    (h : ∀ x ∈ l, ∀ s, s.ok → ∃ ρ1, gg (en' x) ρ = some ρ1 ∧ wp (fe ρ1) s fun y s2 => s2.ok ∧ P x y) {s : DS} (hs : s.ok) (q : ∀ ys s', s'.ok → ys.length = l.length → (∀ y ∈ ys, ∃ x ∈ l, P x y) → QA ys s') :
    wp (compM gg tYes' fe ρ (l.map en')) s QA := by
  have main : ∀ (l : List α), (∀ x ∈ l, ∀ s, s.ok → ∃ ρ1, gg (en' x) ρ = some ρ1 ∧ wp (fe ρ1) s fun y s2 => s2.ok ∧ P x y) → ∀ s, s.ok → wp (compM gg tYes' fe ρ (l.map en')) s fun ys s' => s'.ok ∧ ys.length = l.length ∧ ∀ y ∈ ys, ∃ x ∈ l, P x y := by
    intro l
    induction l with
    | nil => intro _ s hs; simp [compM, hs]
    | cons x xs ih =>
      intro h s hs
      obtain ⟨ρ1, e, hw⟩ := h x (by simp) s hs
      rw [List.map_cons]
      unfold compM
      rw [e]
      simp only [wp_Mb, w_tYes, if_true]
      refine wp_mono hw fun y s2 ⟨h2, hp⟩ => ?_
      refine wp_mono (ih (fun y hy => h y (by simp [hy])) s2 h2) fun ys s3 ⟨h3, h4, h5⟩ => ?_
      rw [wp_Mp]
      refine ⟨h3, by simp [h4], fun z hz => ?_⟩
      rcases List.mem_cons.mp hz with rfl | hz
      · exact ⟨x, by simp, hp⟩
      · obtain ⟨x', hx', hp'⟩ := h5 z hz; exact ⟨x', by simp [hx'], hp'⟩
  exact wp_mono (main l h s hs) fun ys s' ⟨a, b, c⟩ => q ys s' a b c
/-- a comprehension whose filter draws -/
theorem wp_compSub {gg : TGt} {ft : TF} {fe : EF} {ρ : Rho} {en' f : α → D} {QA : List D → DS → Prop} (l : List α)
    (h : ∀ x ∈ l, ∀ s, s.ok → ∃ ρ1, gg (en' x) ρ = some ρ1 ∧ wp (ft ρ1) s (fun _ s2 => s2.ok) ∧ ∀ s, wp (fe ρ1) s fun y s2 => y = f x ∧ s2 = s) {s : DS} (hs : s.ok) (q : ∀ (l' : List α) s', s'.ok → l'.Sublist l → QA (l'.map f) s') :
    wp (compM gg ft fe ρ (l.map en')) s QA := by
  have main : ∀ (l : List α), (∀ x ∈ l, ∀ s, s.ok → ∃ ρ1, gg (en' x) ρ = some ρ1 ∧ wp (ft ρ1) s (fun _ s2 => s2.ok) ∧ ∀ s, wp (fe ρ1) s fun y s2 => y = f x ∧ s2 = s) → ∀ s, s.ok → wp (compM gg ft fe ρ (l.map en')) s fun ys s' => s'.ok ∧ ∃ l' : List α, l'.Sublist l ∧ ys = l'.map f := by
    intro l
    induction l with
    | nil => intro _ s hs; simp [compM, hs]
    | cons x xs ih =>
      intro h s hs
      obtain ⟨ρ1, e, hw, hf⟩ := h x (by simp) s hs
      rw [List.map_cons]
      unfold compM
      rw [e]
      simp only [wp_Mb, wp_ite]
      refine wp_mono hw fun b s2 h2 => ?_
      have ih' := ih (fun y hy => h y (by simp [hy])) s2 h2
      cases b with
      | true =>
        simp only [if_true, wp_Mb]
        refine wp_mono (hf s2) fun y s3 ⟨e1, e2⟩ => ?_
        subst e1 e2
        refine wp_mono ih' fun ys s4 ⟨h3, l', h4, h5⟩ => ?_
        rw [wp_Mp]
        exact ⟨h3, x :: l', h4.cons₂ x, by rw [h5]; rfl⟩
      | false =>
        simp only [Bool.false_eq_true, if_false]
        exact wp_mono ih' fun ys s4 ⟨h3, l', h4, h5⟩ => ⟨h3, l', h4.cons x, h5⟩
  exact wp_mono (main l h s hs) fun ys s' ⟨a, l', b, c⟩ => by rw [c]; exact q l' s' a b
theorem choose_all {P : α → Prop} {f : α → D} : ∀ {ds : List D}, (∀ d ∈ ds, ∃ a, d = f a ∧ P a) → ∃ l : List α, ds = l.map f ∧ ∀ a ∈ l, P a
  | [], _ => ⟨[], rfl, fun _ h => by cases h⟩
  | d :: ds, h => by
    obtain ⟨a, h1, h2⟩ := h d (by simp)
    obtain ⟨l, h3, h4⟩ := choose_all (ds := ds) fun d hd => h d (by simp [hd])
    exact ⟨a :: l, by rw [h1, h3]; rfl, fun b hb => by rcases List.mem_cons.mp hb with rfl | hb; exact h2; exact h4 b hb⟩
end
end Pu
namespace Pu
open PySem PySem.Spec PyProof.Rows L2
/-! ### a module's name for a built-in function -/
section
variable {ι : Type} {X : ι → Cx} {P : Program} {w : World} {K : PySem.W.Frag} {mg : Str → Option Value} {base : Heap} {N : List Str} {lv : Nat} {pos : Pos} {a b c e : Expr} {es elts : List Expr} {f fa fb fc : EF} {g : AF}
theorem cCallBf (C : Fam X P w K mg base N lv) {x : Str} {p : Pos} {id : String} {r : List V → Hp → VK → Prop} {gg : List D → Option D} (hc : ∀ i, CallR (X i) (.builtin id) r) (hv' : VL K r gg) (hm : mg x = some (.builtin id)) (ha : CAB X K (e :: es) g) (hg : ∀ i, Gl (X i) x := by intro _; rfl)
    (hdb : (x == ("__debug__" : Str)) = false := by decide) (he : ∀ i, starEach (e :: es) (X i).env = (false, eval e (X i).env) :: starEach es (X i).env := by intro _; rfl)
    (hpl : ∀ i, (backTo pos (starEach es (X i).env)).any (·.1) = false := by intro _; rfl) : CE X K (.Call (.Name x p) (e :: es) [] pos) (xL gg g) :=
  let ⟨t, h1, h2⟩ := ha; ⟨_, fun i => pe_callBfun (hc i) (hg i) (by rw [C.m i]; exact hm) (h1 i) hdb (he i) (hpl i), semE_CB hv' h2⟩
def gcdD : List D → Option D
  | [.int a, .int b] => some (.int ((Nat.gcd a.natAbs b.natAbs : Nat) : Int))
  | _ => none
@[simp] theorem gcdD_ii (a b : Int) : gcdD [.int a, .int b] = some (.int ((Nat.gcd a.natAbs b.natAbs : Nat) : Int)) := rfl
theorem v_gcd : VL K rGcd gcdD := fun pd F H xs d vs fh r e Q q => by
  match xs, e with
  | [.int a, .int b], e =>
    cases e
    obtain ⟨v, w, rfl, r1, r2⟩ := r.two
    exact ⟨a, b, by rw [r1.int, r2.int], q _ F H (.refl fh) (by simp [Rep])⟩
end
/-! ### what the top holds, told by one Bool more -/
def bltB (K : PySem.W.Frag) (x : Str) (id : String) : Bool := He.eqO (PySem.W.nsIn K mainGlobals x) (some (some (.builtin id)))
theorem bltB_ok {K : PySem.W.Frag} {h : Heap} {mg : Str → Option Value} {x : Str} {id : String} (X : K.In h) (G : h.Ns mainGlobals mg) (e : bltB K x id = true) : mg x = some (.builtin id) := PySem.W.mg_of X G (He.eqO_ok e)
def intsB : List Value → List Int → Bool
  | [], [] => true
  | .int i _ :: vs, n :: ns => decide (i = n) && intsB vs ns
  | _, _ => false
theorem intsB_ok : ∀ {vs : List Value} {ns : List Int}, intsB vs ns = true → Vals (ns.map V.int) vs
  | [], [], _ => .nil
  | .int i t :: vs, n :: ns, h => by
    simp only [intsB, Bool.and_eq_true, decide_eq_true_eq] at h
    obtain ⟨rfl, h⟩ := h
    exact .cons ⟨t, rfl⟩ (intsB_ok h)
  | [], _ :: _, h => by simp [intsB] at h
  | v :: _, [], h => by cases v <;> simp [intsB] at h
  | .none :: _, _ :: _, h => by simp [intsB] at h
  | .bool _ :: _, _ :: _, h => by simp [intsB] at h
  | .str _ _ :: _, _ :: _, h => by simp [intsB] at h
  | .ref _ :: _, _ :: _, h => by simp [intsB] at h
  | .builtin _ :: _, _ :: _, h => by simp [intsB] at h
  | .type _ :: _, _ :: _, h => by simp [intsB] at h
  | .bytes _ _ :: _, _ :: _, h => by simp [intsB] at h
  | .float _ _ :: _, _ :: _, h => by simp [intsB] at h
  | .ellipsis :: _, _ :: _, h => by simp [intsB] at h
  | .notImplemented :: _, _ :: _, h => by simp [intsB] at h
def tupB (K : PySem.W.Frag) (x : Str) (ns : List Int) : Bool := match PySem.W.nsIn K mainGlobals x with
  | some (some (.ref a)) => (match K.lookup a with
    | some ⟨.type c, _, .seq its _, _⟩ => decide (c = "tuple") && intsB its.toList ns && decide (ns.length ≤ 1000)
    | _ => false)
  | _ => false
theorem tupB_ok {K : PySem.W.Frag} {h : Heap} {mg : Str → Option Value} {x : Str} {ns : List Int} (X : K.In h) (G : h.Ns mainGlobals mg) (e : tupB K x ns = true) : CstOk mg x (.tup (ns.map D.int)) K := by
  unfold tupB at e
  cases q : PySem.W.nsIn K mainGlobals x with
  | none => rw [q] at e; cases e
  | some o =>
    rw [q] at e
    cases o with
    | none => cases e
    | some v =>
      cases v <;> first | (cases e; done) | skip
      rename_i a
      have e : (match K.lookup a with
        | some ⟨.type c, _, .seq its _, _⟩ => decide (c = "tuple") && intsB its.toList ns && decide (ns.length ≤ 1000)
        | _ => false) = true := e
      cases q2 : K.lookup a with
      | none => rw [q2] at e; cases e
      | some ob =>
        rw [q2] at e
        obtain ⟨oc, od, dt, osl⟩ := ob
        cases oc <;> first | (cases e; done) | skip
        cases dt <;> first | (cases e; done) | skip
        rename_i c its n
        have e : (decide (c = "tuple") && intsB its.toList ns && decide (ns.length ≤ 1000)) = true := e
        simp only [Bool.and_eq_true, decide_eq_true_eq] at e
        obtain ⟨⟨rfl, h1⟩, h2⟩ := e
        have hv := intsB_ok h1
        have hl : its.toList.length = ns.length := by rw [← hv.length, List.length_map]
        refine ⟨.ref a, _, PySem.W.mg_of X G q, rfl, fun pd F => ?_⟩
        simp only [Rep]
        refine ⟨a, ns.map V.int, rfl, .inr ⟨_, its, n, q2, rfl, rfl, ?_, hv⟩, ?_, RepL.ofInts ns⟩
        · rw [← Array.length_toList, hl]; exact Nat.le_trans h2 (by decide)
        · rw [List.length_map]; exact Nat.le_trans h2 (by decide)
end Pu
namespace Pu
open PySem PySem.Spec PyProof.Rows L2
/-! ### sorted(list) -/
def isTupN : D → Bool
  | .tup (_ :: _) => true
  | _ => false
def notTup : D → Bool
  | .tup _ => false
  | _ => true
def sortB (ds : List D) : Bool := allCmp ds && (ds.all isTupN || ds.all notTup)
def sortL (ds : List D) : List D := ds.mergeSort fun x y => !PySem.W.dataLt (toP y) (toP x)
def sortO : List D → Option (List D)
  | [.lst ds] => if sortB ds = true then some (sortL ds) else none
  | _ => none
def rSortA (K : PySem.W.Frag) : List V → Hp → VK → Prop := fun vs H Q => ∃ (a : Addr) (xs : List V) (ds : List D), vs = [V.ref a] ∧ SqL K H a xs ∧ ds.length = xs.length ∧ DpAll K H xs (toPs ds) ∧ sortB ds = true ∧
  ∀ (zs : List (V × D)) (p : Addr), zs.Perm (xs.zip ds) → zs.map Prod.snd = sortL ds → H p = none → Q (.ref p) (L2.upd H p (.lst (zs.map Prod.fst)))
theorem each_zip {R : Value → V × D → Prop} : ∀ {us : List Value} {xs : List V} {ds : List D}, us.length = xs.length → ds.length = xs.length → (∀ (i : Nat) (u : Value) (x : V) (d : D), us[i]? = some u → xs[i]? = some x → ds[i]? = some d → R u (x, d)) → PySem.W.EachIs R us (xs.zip ds)
  | [], [], [], _, _, _ => .nil
  | u :: us, x :: xs, d :: ds, h1, h2, h => .cons (h 0 u x d rfl rfl rfl) (each_zip (by simpa using h1) (by simpa using h2) fun i u x d a b c => h (i + 1) u x d a b c)
  | [], _ :: _, _, h, _, _ => by simp at h
  | _ :: _, [], _, h, _, _ => by simp at h
  | _, [], _ :: _, _, h, _ => by simp at h
  | _, _ :: _, [], _, h, _ => by simp at h
theorem each_vals : ∀ {us : List Value} {zs : List (V × D)}, PySem.W.EachIs (fun u z => L2.RelV z.1 u) us zs → Vals (zs.map Prod.fst) us
  | _, _, .nil => .nil
  | _, _, .cons h t => .cons h (each_vals t)
theorem c_sorted {X : Cx} {K : PySem.W.Frag} (hk : X.K = K) (hu : X.A.units + 200 < cLine) : CallR X (.builtin "sorted") (rSortA K) := by
  subst hk
  intro pins s σ H vs us Q I r h
  obtain ⟨a, xs, ds, rfl, hs, hlen, hd, hb, q⟩ := h
  obtain ⟨its, rv, hl, hz⟩ := I.list hs
  rw [Vals.ref1 r]
  unfold sortB at hb
  simp only [Bool.and_eq_true, Bool.or_eq_true, List.all_eq_true] at hb
  obtain ⟨hc, ht⟩ := hb
  obtain ⟨m1, m2⟩ := allCmp_mem hc
  obtain ⟨as, ra⟩ := Dp.readsAll I (toPs ds) xs its hd rv
  have hlv := rv.length
  have henc : (xs.zip ds).map (fun z : V × D => toP z.2) = ds.map toP := by
    have : (xs.zip ds).map Prod.snd = ds := List.map_snd_zip (by omega)
    show (xs.zip ds).map (toP ∘ Prod.snd) = _
    rw [← List.map_map, this]
  have hal : PySem.W.AllAlike ((xs.zip ds).map fun z : V × D => toP z.2) := by
    rw [henc]
    intro d hd d' hd'
    obtain ⟨x, hx, rfl⟩ := List.mem_map.mp hd
    obtain ⟨y, hy, rfl⟩ := List.mem_map.mp hd'
    exact m2 x hx y hy
  have hsort : PySem.W.Sortable ((xs.zip ds).map fun z : V × D => toP z.2) := by
    rw [henc]
    rcases ht with ht | ht
    · refine .inl fun d hd => ?_
      obtain ⟨x, hx, rfl⟩ := List.mem_map.mp hd
      have := ht x hx
      cases x <;> first | (cases this; done) | skip
      rename_i l
      cases l with
      | nil => cases this
      | cons y ys => exact ⟨toP y, toPs ys, by simp [toP, toPs]⟩
    · refine .inr fun d hd => ?_
      obtain ⟨x, hx, rfl⟩ := List.mem_map.mp hd
      have h1 := ht x hx
      have h2 := (m1 x hx).2.2
      cases x <;> simp [notTup, isNonD, toP] at h1 h2 ⊢
  have hread : PySem.W.EachIs (fun v (z : V × D) => ∃ as, Reads s.heap v (toP z.2) as) its (xs.zip ds) := each_zip hlv.symm hlen fun i u x d h1 h2 h3 => by
    obtain ⟨d', bs, e1, e2⟩ := readsAll_get ra h1
    rw [toPs_eq, List.getElem?_map, h3] at e1
    cases e1
    exact ⟨bs, e2⟩
  refine PySem.W.sorted_data (R := fun u z => L2.RelV z.1 u) (enc := fun z : V × D => toP z.2) (vs := its) (bs := xs.zip ds) hl.isList (each_zip hlv.symm hlen fun i u x d h1 h2 h3 => ?_) hread hal hsort (by simp; omega) (fun b hb => ?_) fun out ho eo => ?_
  · obtain ⟨u', e1, e2⟩ := rv.get h2
    rw [h1] at e1; cases e1
    exact e2
  · have hbm := (List.of_mem_zip (show (b.1, b.2) ∈ xs.zip ds from hb)).2
    have := SeqAt.depth_of_shaped (m1 _ hbm).2.1
    omega
  · obtain ⟨n, hn⟩ := sortedAll_at s.heap its out.toArray
    have hperm : ((xs.zip ds).mergeSort (PySem.W.dataLe false fun z : V × D => toP z.2)).Perm (xs.zip ds) := List.mergeSort_perm _ _
    refine ⟨.ref _, _, I.laid (t' := s.toks) (o := .lst (((xs.zip ds).mergeSort (PySem.W.dataLe false fun z : V × D => toP z.2)).map Prod.fst)) (fun b ob q => sortedAll_old q) (Nat.le_succ _) ⟨?_, out, n, each_vals eo, hn⟩, rfl, q _ _ hperm ?_ (I.hok.fresh (Nat.le_succ _))⟩
    · rw [List.length_map, hperm.length_eq, List.length_zip]; omega
    · have hsnd : (xs.zip ds).map Prod.snd = ds := List.map_snd_zip (by omega)
      rw [List.map_mergeSort (r := PySem.W.dataLe false fun z : V × D => toP z.2) (s := fun x y => !PySem.W.dataLt (toP y) (toP x)) (f := Prod.snd) (fun a _ b _ => rfl), hsnd]
      rfl
theorem rep_zip {K : PySem.W.Frag} {pd : Option PD} {F : Hp} : ∀ {ds : List D} {xs : List V}, RepL K pd F ds xs → ∀ z ∈ xs.zip ds, Rep K pd F z.2 z.1
  | [], _, h, z, hz => by have := h.cases0; subst this; simp at hz
  | d :: ds, _, h, z, hz => by
    obtain ⟨y, ys, rfl, h1, h2⟩ := h.cases
    rw [List.zip_cons_cons] at hz
    rcases List.mem_cons.mp hz with rfl | hz
    · exact h1
    · exact rep_zip h2 z hz
theorem rep_unzip {K : PySem.W.Frag} {pd : Option PD} {F : Hp} : ∀ {zs : List (V × D)}, (∀ z ∈ zs, Rep K pd F z.2 z.1) → RepL K pd F (zs.map Prod.snd) (zs.map Prod.fst)
  | [], _ => .nil
  | z :: zs, h => .cons (h z (by simp)) (rep_unzip fun y hy => h y (by simp [hy]))
theorem v_sorted {K : PySem.W.Frag} : VLO K (rSortA K) sortO := fun pd F H xs ds vs fh r e Q q => by
  match xs, e with
  | [.lst as], e =>
    simp only [sortO] at e
    split at e
    · rename_i hb
      cases e
      cases r with
      | cons r0 rt =>
        cases rt
        have hcl : cleanL as = true := by
          unfold sortB at hb
          simp only [Bool.and_eq_true] at hb
          exact cleanL_all.mpr fun z hz => ((allCmp_mem hb.1).1 z hz).1
        obtain ⟨a, ys, rfl, h3, hl, h4⟩ := r0.lst fh
        refine ⟨a, ys, as, rfl, .of h3, h4.length.symm, RepL.dp fh hcl h4, hb, fun zs p hp hs n => ?_⟩
        refine q p _ F _ (Ext.own fh n) n (nF_of fh n) upd_same ?_ ?_
        · have : (sortL as).length = as.length := List.length_mergeSort _
          rw [this]; exact hl
        · rw [← hs]
          exact rep_unzip fun z hz => rep_zip h4 z (hp.mem_iff.mp hz)
    · cases e
end Pu
/-! The head of a program with imports at its top, for an open law with facts. -/
noncomputable section
namespace Pu
open PySem PySem.W PySem.Calls PyProof.Rows HandSHeadRun
/-- the whole run's equation at a world -/
def RunEqI (r : OpenRow) (q : Program) (H : Hook) (ob : SharedT → H.α) (M : Nat) (loose : List PySem.Str) (w : World) : Prop :=
  (wholeF (fun p => stepQ (denQ tabQ) p w) fenceQ M r.prog).map (fun x => (looksF r.prog x.1.heap x.2.abs, seenQ q loose (importedModules r.prog.main.body) (fun s => xlAt q [] s && recOk r.toRowW.records s) x.2.abs, ob x.2)) = some (true, openGood q loose, H.val w)
theorem head_anyI {r : OpenRow} {q : Program} {H : Hook} {ob : SharedT → H.α} {M : Nat} {loose : List PySem.Str} {d : DefRec} {kwd : List (PySem.Str × PySem.Expr)} (ho : ∀ s : SharedT, ob s = H.obs s.abs) (run : ∀ w, RunEqI r q H ob M loose w)
    (hdef : defOf q r.name = some (d, kwd)) (hp : r.prog.theDef r.name = some (d.params, d.body, d.scope)) (hk : kwWritten? d.params.kwonlyargs d.params.kw_defaults = some kwd)
    (hwr : (!r.writes || r.records.isEmpty) = true) (k1 : r.wellSaid = true) (ok : (chainsOk q && opensWell r.prog && (frees r.toRowW && r.within.isEmpty)) = true) (hb : r.prog.bare) (hw : r.toRowW.promised)
    (call : WalkO q loose (XL q []) H.says r.toRowW d kwd fun f vs => PySem.call f vs) : r.Holds := by
  have left : LeftO r.prog q loose (fun s => xlAt q [] s && recOk r.toRowW.records s) H.obs H.val M true :=
    left_imp fun w => by
      have z := run w
      have eo : ob = fun s => H.obs s.abs := funext ho
      unfold RunEqI at z
      rw [eo] at z
      rw [wholeQ_eq]
      simp only [seenQ_eq]
      exact z
  exact holds_open (r := r) (q := q) (loose := loose) (XP := XL q []) (YP := H.says) (d := d) (kwd := kwd) left H.of H.keeps (fun s z => xl_of s (Bool.and_eq_true_iff.mp z).1) XL.keeps hdef hp hk (fun s z => recFacts_of (Bool.and_eq_true_iff.mp z).2) hwr k1 ok hb hw call
end Pu
namespace Pu
open PySem PySem.Spec PyProof.Rows L2
/-! ### x.append(y.pop(e)) -/
def sAppPop (i j : Nat) (f : EF) : SF := fun ρ => Mb (f ρ) fun d => onInt d fun k => onOw ρ[j]? fun ds => onSome (ixN ds.length k) fun n => onSome ds[n]? fun y =>
  onOw ρ[i]? fun es => onSome (appU es y) fun es' => Mp (.nx, (ρ.set j (.ow (ds.eraseIdx n))).set i (.ow es'))
section
variable {ι : Type} {X : ι → Cx} {P : Program} {w : World} {K : PySem.W.Frag} {mg : Str → Option Value} {base : Heap} {N : List Str} {lv : Nat} {pos cpos apos cpos2 apos2 : Pos} {e : Expr} {f : EF}
theorem cAppPop (C : Fam X P w K mg base N lv) (i j : Nat) {x y : Str} {p2 p3 : Pos} (h : CE X K e f) (hij : i ≠ j := by decide) (hN : N[i]? = some x := by rfl) (hM : N[j]? = some y := by rfl)
    (hv : ∀ l, Vis (X l).env.scope x := by intro _; first | exact Or.inl rfl | exact Or.inr (Or.inl rfl) | exact Or.inr (Or.inr rfl))
    (hv2 : ∀ l, Vis (X l).env.scope y := by intro _; first | exact Or.inl rfl | exact Or.inr (Or.inl rfl) | exact Or.inr (Or.inr rfl))
    (hd : (x == ("__debug__" : Str)) = false := by decide) (hcd : (x == ("__classdict__" : Str)) = false := by decide)
    (hd2 : (y == ("__debug__" : Str)) = false := by decide) (hcd2 : (y == ("__classdict__" : Str)) = false := by decide)
    (hbase : ∀ l, attributeBase (.Name x p2) "append" (X l).env (eval (.Name x p2) (X l).env) = eval (.Name x p2) (X l).env := by intro _; rfl)
    (hbase2 : ∀ l, attributeBase (.Name y p3) "pop" (X l).env (eval (.Name y p3) (X l).env) = eval (.Name y p3) (X l).env := by intro _; rfl)
    (hfew : ∀ l, ((backTo cpos (starEach [.Call (.Attribute (.Name y p3) "pop" apos2) [e] [] cpos2] (X l).env)).all (fun x => !x.1) && (backToKw cpos (keywordEach [] (X l).env)).all (fun x => x.1.isSome)
      && decide (([.Call (.Attribute (.Name y p3) "pop" apos2) [e] [] cpos2] : List Expr).length + ([] : List Keyword).length + (if ([] : List Keyword).isEmpty then 0 else 1) < 30)) = true := by intro _; rfl)
    (hfew2 : ∀ l, ((backTo cpos2 (starEach [e] (X l).env)).all (fun x => !x.1) && (backToKw cpos2 (keywordEach [] (X l).env)).all (fun x => x.1.isSome)
      && decide (([e] : List Expr).length + ([] : List Keyword).length + (if ([] : List Keyword).isEmpty then 0 else 1) < 30)) = true := by intro _; rfl)
    (hline : (apos.endLine == cpos.line) = true := by rfl) (hline2 : (apos2.endLine == cpos2.line) = true := by rfl)
    (hs : ∀ l, starEach [.Call (.Attribute (.Name y p3) "pop" apos2) [e] [] cpos2] (X l).env = (false, eval (.Call (.Attribute (.Name y p3) "pop" apos2) [e] [] cpos2) (X l).env) :: starEach [] (X l).env := by intro _; rfl)
    (hs2 : ∀ l, starEach [e] (X l).env = (false, eval e (X l).env) :: starEach [] (X l).env := by intro _; rfl)
    (hplain : ∀ l, (backTo cpos (starEach [] (X l).env)).any (·.1) = false := by intro _; rfl) (hplain2 : ∀ l, (backTo cpos2 (starEach [] (X l).env)).any (·.1) = false := by intro _; rfl)
    (hsw : ∀ l, swapsWith (.Call (.Attribute (.Name x p2) "append" apos) [.Call (.Attribute (.Name y p3) "pop" apos2) [e] [] cpos2] [] cpos) none pos.line (X l).env = pure false := by intro _; rfl) :
    CS X K (.Expr (.Call (.Attribute (.Name x p2) "append" apos) [.Call (.Attribute (.Name y p3) "pop" apos2) [e] [] cpos2] [] cpos) pos) (sAppPop i j f) := by
  obtain ⟨t, h1, h2⟩ := h
  refine ⟨tDrop (tBM K "list" rAppend (tVar i) (tCons (tBM K "list" rPopAt (tVar j) (tCons t tNil)) tNil)), fun l => ps_expr (by
    have inner := pe_bm (X := X l) (cpos := cpos2) (apos := apos2) PySem.F.plainAttrs_list PySem.F.slot_list_pop PySem.F.type_list_pop mt_popAt (pe_var (pos := p3) (by rw [C.n l]; exact hM) (hv2 l) hd2 hcd2) (pa_cons (h1 l) pa_nil (hs2 l)) (hbase2 l) (hfew2 l) hline2 (hs2 l) (hplain2 l)
    have := pe_bm (X := X l) (cpos := cpos) (apos := apos) PySem.F.plainAttrs_list PySem.F.slot_list_append PySem.F.type_list_append mt_append (pe_var (pos := p2) (by rw [C.n l]; exact hN) (hv l) hd hcd) (pa_cons inner pa_nil (hs l)) (hbase l) (hfew l) hline (hs l) (hplain l)
    rw [C.k l] at this
    exact this) (hsw l), ?_⟩
  intro pd F0 H0 F H ρ σ s r' ρ' s' o e E q
  obtain ⟨d, s1, e1, e⟩ := Mb_eq e
  obtain ⟨k, rfl, e⟩ := onInt_eq e
  obtain ⟨ds, hds, e⟩ := onOw_eq e
  obtain ⟨n, hn, e⟩ := onSome_eq e
  obtain ⟨dy, hy, e⟩ := onSome_eq e
  obtain ⟨es, hes, e⟩ := onOw_eq e
  obtain ⟨es', hu, e⟩ := onSome_eq e
  obtain ⟨a, rfl⟩ := Mp_eq e
  cases a
  obtain ⟨z, a1, p, xs, rfl, a2, a3, a4, a5, a6, a7⟩ := o.env.at' i _ hes
  obtain ⟨z, b1, q', ys, rfl, b2, b3, b4, b5, b6, b7⟩ := o.env.at' j _ hds
  refine ⟨.ref p, a1, .inl ⟨rfl, xs, .of a5⟩, ?_⟩
  refine ⟨.ref q', b1, .inl ⟨rfl, ys, .of b5⟩, h2 pd F0 H0 F H _ σ s _ _ o e1 _ fun v F1 H1 x1 d1 r1 => ?_⟩
  have o1 := o.step x1 d1
  simp only [Rep] at r1
  subst r1
  have b7' := b7.mono x1.ff
  obtain ⟨i1, i2, i3, i4⟩ := ixN_seq hn
  obtain ⟨yv, hyv, ry⟩ := b7'.get hy
  have hSZ : SZ = 16777216 := by decide
  refine ⟨q', ys, k, n, yv, rfl, rfl, x1.hh _ _ b5 b4, by omega, by omega, by rw [b7.length]; exact i1, hyv, ?_⟩
  have o2 := o1.upd hds b1 (es' := ds.eraseIdx n) (ys := ys.eraseIdx n) (by have := List.length_eraseIdx_le ds n; omega) (b7'.eraseIdx n)
  have hes2 : (ρ.set j (.ow (ds.eraseIdx n)))[i]? = some (.ow es) := by rw [List.getElem?_set_ne (fun z => hij z.symm)]; exact hes
  obtain ⟨z, c1, p', zs, hz, c2, c3, c4, c5, c6, c7⟩ := o2.env.at' i _ hes2
  rw [a1] at c1
  cases c1
  cases hz
  exact v_app pd F1 _ p zs es dy yv es' o2.fh c5 c7 c6 ry hu (fun _ Hn => E.nx σ Hn) fun ys' hl ry' => q σ F1 _ x1.ff (o2.upd hes2 a1 hl ry')
end
@[simp] theorem w_sAppPop {QS : Res × Rho → DS → Prop} {ρ : Rho} {s : DS} (i j : Nat) (f : EF) : wp (sAppPop i j f ρ) s QS ↔ wp (f ρ) s fun d s1 => ∃ k, d = .int k ∧ ∃ ds, ρ[j]? = some (.ow ds) ∧ ∃ n, ixN ds.length k = some n ∧ ∃ y, ds[n]? = some y ∧
    ∃ es, ρ[i]? = some (.ow es) ∧ ∃ es', appU es y = some es' ∧ QS (.nx, (ρ.set j (.ow (ds.eraseIdx n))).set i (.ow es')) s1 := by unfold sAppPop; simp
end Pu
namespace Pu
open PySem PySem.Spec PyProof.Rows L2
theorem iop_mulW {X : Cx} : OpR X (inplaceOp .Mult) (rI CMulW fun i j => .int (i * j)) := opI fun _ _ _ _ _ _ _ hc q => imul_int q hc.ok
/-! ### sorted(tuple) -/
section
open PySem.Calls
variable {prog : Program} {w : World} {A : Around} {E : Value → Shared → Prop} {s : Shared}
theorem collectT {a : Addr} {us : List Value} {Q : List Value → Shared → Prop} (hT : IsTup s.heap a us.toArray) (hz : us.length ≤ sizeLine)
    (q : Q us { s with heap := (s.heap.push (seqObj "list" #[] 0)).update s.heap.objs.size (Obj.mapSeq (· ++ us.toArray)) }) : wpAny (model prog w) A (collect (.ref a)) Q E s := by
  obtain ⟨ob, hob, hcl, m, hdt⟩ := id hT
  unfold collect
  refine wpAny_bind (wpAny_runValue (codeAny_builtin entry_proto_collect' ?_))
  show wpAny (model prog w) _ (do again (.builtin "list.__iadd__" ⟨[← newList [], .ref a], []⟩)) _ _ s
  refine wpAny_bind (wpAny_newList (wpAny_pure ⟨Code.quiet_builtin _ (by decide +kernel), codeAny_builtin entry_list_iadd' ?_⟩))
  show wpAny (model prog w) _ (Builtin.List.listExtendWith (.ref s.heap.objs.size) (.ref a) (.ref s.heap.objs.size)) _ _ { s with heap := s.heap.push (seqObj "list" #[] 0) }
  unfold Builtin.List.listExtendWith
  have hob' : (s.heap.push (seqObj "list" #[] 0)).get? a = some ob := Heap.get?_push_of_some _ hob
  have hnew : (s.heap.push (seqObj "list" #[] 0)).get? s.heap.objs.size = some (seqObj "list" #[] 0) := Heap.get?_push_size _ rfl
  refine wpAny_bind (wpAny_typeOf (T := "tuple") ⟨ob, hob', hcl⟩ ?_)
  rw [if_pos (by rw [show (Value.type "tuple" == Value.type "tuple") = true from rfl]; simp)]
  refine wpAny_bind (listItems_at hob' hdt ?_)
  refine wpAny_bind (listItems_at (xs := #[]) (n := 0) hnew rfl ?_)
  rw [if_neg (by simp)]
  refine wpAny_bind (listUpdate_at (xs := #[]) (n := 0) hnew rfl ?_ (Nat.zero_le _) (by show (#[] ++ us.toArray).size ≤ sizeLine + 1; simp only [Array.size_append, List.size_toArray, List.length_nil]; omega))
  refine wpAny_pure ?_
  show wpAny (model prog w) A (do
      let ob ← load s.heap.objs.size
      match ob.data with
      | .seq ys _ => pure ys.toList
      | _ => unsupported "internal:collect") Q E { s with heap := (s.heap.push (seqObj "list" #[] 0)).update s.heap.objs.size (Obj.mapSeq (· ++ us.toArray)) }
  refine wpAny_bind (wpAny_load (get?_update_seq hnew _) ?_)
  show wpAny (model prog w) _ (pure ((#[] : Array Value) ++ us.toArray).toList) Q E _
  rw [show ((#[] : Array Value) ++ us.toArray).toList = us by simp]
  exact wpAny_pure q
theorem sortedT_of {a : Addr} {us : List Value} {Q : Value → Shared → Prop} (hT : IsTup s.heap a us.toArray) (hz : us.length ≤ sizeLine)
    (body : ∀ E' : Value → Shared → Prop, wpAny (model prog w) A.in1.in1 (Builtin.«list.sort» ⟨[.ref (s.heap.objs.size + 1)], []⟩) (fun f s' => f = .done (.ret .none) ∧ Q (.ref (s.heap.objs.size + 1)) s') E' { s with heap := PySem.W.copyHeap s.heap us }) :
    wpAny (model prog w) A (call (.builtin "sorted") [.ref a] []) Q E s := by
  refine call_function_entry_kw kind_sorted plain_sorted entry_sorted (args_sorted1 _) ?_
  unfold Builtin.«sorted»
  refine wpAny_bind (m := checkCount "sorted" 1 1 _) (wpAny_pure ?_)
  refine wpAny_bind (collectT hT hz ?_)
  refine wpAny_bind (wpAny_newList ?_ hz)
  have hsz : ((s.heap.push (seqObj "list" #[] 0)).update s.heap.objs.size (Obj.mapSeq (· ++ us.toArray))).objs.size = s.heap.objs.size + 1 := by rw [Heap.size_update, size_push']
  show wpAny (model prog w) _ _ _ _ { s with heap := PySem.W.copyHeap s.heap us }
  rw [hsz]
  refine wpAny_bind (wpAny_holding (wpAny_call_entry_kw slot_list_sort ⟨_, PySem.W.copyHeap_at s.heap us, rfl⟩ entry_list_sort ?body (args_list_sort _)))
  case body =>
    show wpAny (model prog w) A.in1.in1 (Builtin.«list.sort» ⟨[.ref (s.heap.objs.size + 1)], []⟩) _ _ _
    refine wpAny_mono (body _) (fun f s' hf => ?_) fun _ _ e => e
    obtain ⟨rfl, hq⟩ := hf
    exact ⟨_, rfl, wpAny_pure ⟨_, rfl, hq⟩⟩
theorem sortedT_data {β : Type} {us : List Value} {bs : List β} {enc : β → PyData} {R : Value → β → Prop} {a : Addr} {Q : Value → Shared → Prop} (hT : IsTup s.heap a us.toArray) (e : PySem.W.EachIs R us bs) (er : PySem.W.EachIs (fun v b => ∃ as, Reads s.heap v (enc b) as) us bs)
    (hal : PySem.W.AllAlike (bs.map enc)) (hk : PySem.W.Sortable (bs.map enc)) (hL : bs.length ≤ sizeLine) (hu : ∀ b, b ∈ bs → A.units + 2 + (enc b).depth < cLine)
    (h : ∀ out, out.length = bs.length → PySem.W.EachIs R out (bs.mergeSort (PySem.W.dataLe false enc)) → Q (.ref (s.heap.objs.size + 1)) { s with heap := sortedAll s.heap us (List.toArray out) }) :
    wpAny (model prog w) A (call (.builtin "sorted") [.ref a] []) Q E s := by
  have er' : PySem.W.EachIs (fun v b => ∃ as, Reads (PySem.W.sortingHeap (PySem.W.copyHeap s.heap us) (s.heap.objs.size + 1) us) v (enc b) as) us bs := er.mono fun _ _ ⟨as, r⟩ => ⟨as, PyProof.Rows.Reads.keeps (fun _ _ => PySem.W.sorting_copy_old) r⟩
  have hl : us.length ≤ sizeLine := by rw [e.length]; exact hL
  refine sortedT_of hT hl fun E' => ?_
  have S := PySem.W.SortsAt.data (prog := prog) (w := w) (A := A.in1.in1) (s := { s with heap := PySem.W.sortingHeap (PySem.W.copyHeap s.heap us) (s.heap.objs.size + 1) us }) (PySem.W.each_map (R := fun v d => ∃ as, Reads (PySem.W.sortingHeap (PySem.W.copyHeap s.heap us) (s.heap.objs.size + 1) us) v d as) enc er') hal hk (PySem.W.bound_map hu)
  exact PySem.W.list_sort_vals (s := { s with heap := PySem.W.copyHeap s.heap us }) (PySem.W.copyHeap_at s.heap us) S hl ⟨rfl, h _ (by rw [PySem.W.sortVals_length false rfl]; exact e.length) (PySem.W.sortVals_data false e er' hal)⟩
end
/-- sorted of a list or of a tuple -/
def sortX : List D → Option (List D)
  | [.lst ds] => if sortB ds = true then some (sortL ds) else none
  | [.tup ds] => if sortB ds = true then some (sortL ds) else none
  | _ => none
def rSortX (K : PySem.W.Frag) : List V → Hp → VK → Prop := fun vs H Q => rSortA K vs H Q ∨ ∃ (a : Addr) (xs : List V) (ds : List D), vs = [V.ref a] ∧ SqT K H a xs ∧ ds.length = xs.length ∧ DpAll K H xs (toPs ds) ∧ sortB ds = true ∧
  ∀ (zs : List (V × D)) (p : Addr), zs.Perm (xs.zip ds) → zs.map Prod.snd = sortL ds → H p = none → Q (.ref p) (L2.upd H p (.lst (zs.map Prod.fst)))
theorem c_sortedX {X : Cx} {K : PySem.W.Frag} (hk : X.K = K) (hu : X.A.units + 200 < cLine) : CallR X (.builtin "sorted") (rSortX K) := by
  intro pins s σ H vs us Q I r h
  rcases h with h | h
  · exact c_sorted hk hu pins s σ H vs us Q I r h
  subst hk
  obtain ⟨a, xs, ds, rfl, hs, hlen, hd, hb, q⟩ := h
  obtain ⟨its, rv, hl, hz⟩ := I.tuple hs
  rw [Vals.ref1 r]
  unfold sortB at hb
  simp only [Bool.and_eq_true, Bool.or_eq_true, List.all_eq_true] at hb
  obtain ⟨hc, ht⟩ := hb
  obtain ⟨m1, m2⟩ := allCmp_mem hc
  obtain ⟨as, ra⟩ := Dp.readsAll I (toPs ds) xs its hd rv
  have hlv := rv.length
  have henc : (xs.zip ds).map (fun z : V × D => toP z.2) = ds.map toP := by
    have : (xs.zip ds).map Prod.snd = ds := List.map_snd_zip (by omega)
    show (xs.zip ds).map (toP ∘ Prod.snd) = _
    rw [← List.map_map, this]
  have hal : PySem.W.AllAlike ((xs.zip ds).map fun z : V × D => toP z.2) := by
    rw [henc]
    intro d hd d' hd'
    obtain ⟨x, hx, rfl⟩ := List.mem_map.mp hd
    obtain ⟨y, hy, rfl⟩ := List.mem_map.mp hd'
    exact m2 x hx y hy
  have hsort : PySem.W.Sortable ((xs.zip ds).map fun z : V × D => toP z.2) := by
    rw [henc]
    rcases ht with ht | ht
    · refine .inl fun d hd => ?_
      obtain ⟨x, hx, rfl⟩ := List.mem_map.mp hd
      have := ht x hx
      cases x <;> first | (cases this; done) | skip
      rename_i l
      cases l with
      | nil => cases this
      | cons y ys => exact ⟨toP y, toPs ys, by simp [toP, toPs]⟩
    · refine .inr fun d hd => ?_
      obtain ⟨x, hx, rfl⟩ := List.mem_map.mp hd
      have h1 := ht x hx
      have h2 := (m1 x hx).2.2
      cases x <;> simp [notTup, isNonD, toP] at h1 h2 ⊢
  have hread : PySem.W.EachIs (fun v (z : V × D) => ∃ as, Reads s.heap v (toP z.2) as) its (xs.zip ds) := each_zip hlv.symm hlen fun i u x d h1 h2 h3 => by
    obtain ⟨d', bs, e1, e2⟩ := readsAll_get ra h1
    rw [toPs_eq, List.getElem?_map, h3] at e1
    cases e1
    exact ⟨bs, e2⟩
  refine sortedT_data (R := fun u z => L2.RelV z.1 u) (enc := fun z : V × D => toP z.2) (us := its) (bs := xs.zip ds) hl (each_zip hlv.symm hlen fun i u x d h1 h2 h3 => ?_) hread hal hsort (by simp; omega) (fun b hb => ?_) fun out ho eo => ?_
  · obtain ⟨u', e1, e2⟩ := rv.get h2
    rw [h1] at e1; cases e1
    exact e2
  · have hbm := (List.of_mem_zip (show (b.1, b.2) ∈ xs.zip ds from hb)).2
    have := SeqAt.depth_of_shaped (m1 _ hbm).2.1
    omega
  · obtain ⟨n, hn⟩ := sortedAll_at s.heap its out.toArray
    have hperm : ((xs.zip ds).mergeSort (PySem.W.dataLe false fun z : V × D => toP z.2)).Perm (xs.zip ds) := List.mergeSort_perm _ _
    refine ⟨.ref _, _, I.laid (t' := s.toks) (o := .lst (((xs.zip ds).mergeSort (PySem.W.dataLe false fun z : V × D => toP z.2)).map Prod.fst)) (fun b ob q => sortedAll_old q) (Nat.le_succ _) ⟨?_, out, n, each_vals eo, hn⟩, rfl, q _ _ hperm ?_ (I.hok.fresh (Nat.le_succ _))⟩
    · rw [List.length_map, hperm.length_eq, List.length_zip]; omega
    · have hsnd : (xs.zip ds).map Prod.snd = ds := List.map_snd_zip (by omega)
      rw [List.map_mergeSort (r := PySem.W.dataLe false fun z : V × D => toP z.2) (s := fun x y => !PySem.W.dataLt (toP y) (toP x)) (f := Prod.snd) (fun a _ b _ => rfl), hsnd]
      rfl
theorem v_sortedX {K : PySem.W.Frag} : VLO K (rSortX K) sortX := fun pd F H xs ds vs fh r e Q q => by
  match xs, e with
  | [.lst as], e => exact .inl (v_sorted pd F H [.lst as] ds vs fh r e Q q)
  | [.tup as], e =>
    refine .inr ?_
    simp only [sortX] at e
    split at e
    · rename_i hb
      cases e
      obtain ⟨v, rfl, rb⟩ := r.one
      have hcl : cleanL as = true := by
        unfold sortB at hb
        simp only [Bool.and_eq_true] at hb
        exact cleanL_all.mpr fun z hz => ((allCmp_mem hb.1).1 z hz).1
      obtain ⟨a, ys, rfl, h3, h3', hl, h4⟩ := rb.tup fh
      refine ⟨a, ys, as, rfl, h3, h4.length.symm, RepL.dp fh hcl h4, hb, fun zs p hp hs n => ?_⟩
      refine q p _ F _ (Ext.own fh n) n (nF_of fh n) upd_same ?_ ?_
      · have : (sortL as).length = as.length := List.length_mergeSort _
        rw [this]; exact hl
      · rw [← hs]
        exact rep_unzip fun z hz => rep_zip h4 z (hp.mem_iff.mp hz)
    · cases e
end Pu
set_option maxHeartbeats 4000000
namespace Lw
open PySem PySem.Spec PyProof.Rows L2 Pu
def topS (i : Nat) : Stmt := PySem.Challenge.pw_marketguild_k73_whole_fair_dealings.main.body.getD i (.Pass ⟨0, 0, 0, 0⟩)
def c_MOST_HANDS : D := (.int 4)
def c_MOST_THINGS : D := (.int 7)
section
variable {P : Program} {w : World} {K : PySem.W.Frag} {mg : Str → Option Value} {base : Heap}
abbrev s_check_division : Stmt := topS 6
theorem sc_check_division : FnScope ["worths", "row"] ["worths"] (defScope s_check_division) := ⟨rfl, rfl, rfl, by decide +kernel, rfl, by decide +kernel, by decide +kernel⟩
def g_check_division : SF := sSeq (sIf (tNot (tV (xCh leA leA (xC (.int 1)) (xL lenD (aC (xNm 0) (aN))) (xC c_MOST_HANDS)))) (sFail) (sNext)) (sFor (iSq (xSh 0)) (gNm 1) (sSeq (sIf (tOr (tV (x2 neD (xL lenD (aC (xNm 1) (aN))) (xL lenD (aC (x2 ixD (xNm 0) (xC (.int 0))) (aN))))) (tV (x2 gtA (xL lenD (aC (xNm 1) (aN))) (xC c_MOST_THINGS)))) (sFail) (sNext)) (sIf (tAnd (tTr (xNm 1)) (tV (x2 ltA (xL minD (aC (xNm 1) (aN))) (xC (.int 0))))) (sFail) (sNext))))
def m_check_division : List D → M D := runDef 2 1 g_check_division
theorem ok_check_division (B : Bi mg) (k_MOST_HANDS : CstOk mg "MOST_HANDS" c_MOST_HANDS K) (k_MOST_THINGS : CstOk mg "MOST_THINGS" c_MOST_THINGS K) {f : Addr} {fd : FuncData} (F : FnP K "check_division" s_check_division f fd) (hm : mg "check_division" = some (.ref f)) (hb : Binds K fd ["worths"] []) : DefOk P w K mg base "check_division" 1 ["worths"] m_check_division :=
  have C := Fam.ent (P := P) (w := w) (K := K) (mg := mg) (base := base) (N := ["worths", "row"]) (k := 0) (qual := "check_division") (scope := defScope s_check_division) (f := f) sc_check_division.nd
  def_ok F sc_check_division (show CSs _ K (defBody s_check_division) g_check_division from ssCons (cIfS (tNotR (tChainR (fun i => op_leA (C.k i) (roomU (C.r i))) (fun i => op_leA (C.k i) (roomU (C.r i))) v_leA v_leA (CE.brw (cInt)) (CE.brw (cCallB C (fun i => c_len (C.k i)) v_len B.len bt_len (cbCons (cNm C 0) (cbNil)))) (CE.brw (k_MOST_HANDS.ce C)))) (ssOne (cNever)) (ssNil)) (ssOne (cFor C (fun _ => PassesOwn.never) (iSeqE C (cSh C 0)) (gName' C 1) (ssCons (cIfS (CW.t (wOr (tCmp (fun i => op_neA (C.k i) (roomU (C.r i))) v_ne (CE.brw (cCallB C (fun i => c_len (C.k i)) v_len B.len bt_len (cbCons (cNm C 1) (cbNil)))) (CE.brw (cCallB C (fun i => c_len (C.k i)) v_len B.len bt_len (cbCons (CE.brw (cIx (fun i => ix_both (C.k i)) v_ix (cNm C 0) (CE.brw (cInt)) (fun _ _ => rfl))) (cbNil)))) (nomark _)) (wOr1 (tCmp (fun i => op_gtA (C.k i) (roomU (C.r i))) v_gtA (CE.brw (cCallB C (fun i => c_len (C.k i)) v_len B.len bt_len (cbCons (cNm C 1) (cbNil)))) (CE.brw (k_MOST_THINGS.ce C)) (nomark _))))) (ssOne (cNever)) (ssNil)) (ssOne (cIfS (CW.t (wAnd (tTruth C (cNm C 1)) (wAnd1 (tCmp (fun i => op_ltA (C.k i) (roomU (C.r i))) v_ltA (CE.brw (cCallB C (fun i => c_min (C.k i) (C.c i) (roomU (C.r i))) v_min B.min bt_min (cbCons (cNm C 1) (cbNil)))) (CE.brw (cInt)) (nomark _))))) (ssOne (cNever)) (ssNil))))))) hm hb 2 1
abbrev s_check_dealt : Stmt := topS 7
theorem sc_check_dealt : FnScope ["worths", "dealt", "hand"] ["worths", "dealt"] (defScope s_check_dealt) := ⟨rfl, rfl, rfl, by decide +kernel, rfl, by decide +kernel, by decide +kernel⟩
def g_check_dealt : SF := sSeq (sDrop (xCall m_check_division (aC (xSh 0) (aN)))) (sIf (tOr (tV (x2 neD (xL lenD (aC (xNm 1) (aN))) (xL lenD (aC (x2 ixD (xNm 0) (xC (.int 0))) (aN))))) (tNot (tTr (xL allD (aC (xOf (oComp (iSq (xNm 1)) (gNm 2) (tYes') (xCh leA ltA (xC (.int 0)) (xNm 2) (xL lenD (aC (xNm 0) (aN)))) [2])) (aN)))))) (sFail) (sNext))
def m_check_dealt : List D → M D := runDef 3 2 g_check_dealt
theorem ok_check_dealt (B : Bi mg) (d_check_division : DefOk P w K mg base "check_division" 1 ["worths"] m_check_division) {f : Addr} {fd : FuncData} (F : FnP K "check_dealt" s_check_dealt f fd) (hm : mg "check_dealt" = some (.ref f)) (hb : Binds K fd ["worths", "dealt"] []) : DefOk P w K mg base "check_dealt" 2 ["worths", "dealt"] m_check_dealt :=
  have C := Fam.ent (P := P) (w := w) (K := K) (mg := mg) (base := base) (N := ["worths", "dealt", "hand"]) (k := 1) (qual := "check_dealt") (scope := defScope s_check_dealt) (f := f) sc_check_dealt.nd
  def_ok F sc_check_dealt (show CSs _ K (defBody s_check_dealt) g_check_dealt from ssCons (cExpr (cCall C d_check_division (by decide) (caCons (cSh C 0) (caNil)))) (ssOne (cIfS (CW.t (wOr (tCmp (fun i => op_neA (C.k i) (roomU (C.r i))) v_ne (CE.brw (cCallB C (fun i => c_len (C.k i)) v_len B.len bt_len (cbCons (cNm C 1) (cbNil)))) (CE.brw (cCallB C (fun i => c_len (C.k i)) v_len B.len bt_len (cbCons (CE.brw (cIx (fun i => ix_both (C.k i)) v_ix (cNm C 0) (CE.brw (cInt)) (fun _ _ => rfl))) (cbNil)))) (nomark _)) (wOr1 (tNotR (tTruth C (CE.brw (cCallB C (fun i => c_all (C.k i) (C.c i)) v_all B.all bt_all (cbCons (CE.brw (CO.frz (oLc C [("hand", 2)] (iSeqB C (cNm C 1)) (fun _ => blkOk_by (by rw [ent_sc]; decide +kernel)) (gName' (C.blk _) 2) (ctNone) (cChain (fun i => op_leA ((C.blk _).k i) (roomU ((C.blk _).r i))) (fun i => op_ltA ((C.blk _).k i) (roomU ((C.blk _).r i))) v_leA v_ltA (CE.brw (cInt)) (cNm (C.blk _) 2) (CE.brw (cCallB (C.blk _) (fun i => c_len ((C.blk _).k i)) v_len B.len bt_len (cbCons (cNm (C.blk _) 0) (cbNil)))))))) (cbNil))))))))) (ssOne (cNever)) (ssNil)))) hm hb 3 2
abbrev s_pile_of : Stmt := topS 8
theorem sc_pile_of : FnScope ["dealt", "hand", "thing", "other"] ["dealt", "hand"] (defScope s_pile_of) := ⟨rfl, rfl, rfl, by decide +kernel, rfl, by decide +kernel, by decide +kernel⟩
def g_pile_of : SF := sRet (xL tupD (aC (xOf (oComp (iRg enD (aC (xNm 0) (aN))) (gTp [gNm 2, gNm 3]) (tV (x2 eqD (xNm 3) (xNm 1))) (xSh 2) [2, 3])) (aN)))
def m_pile_of : List D → M D := runDef 4 2 g_pile_of
theorem ok_pile_of (B : Bi mg)  {f : Addr} {fd : FuncData} (F : FnP K "pile_of" s_pile_of f fd) (hm : mg "pile_of" = some (.ref f)) (hb : Binds K fd ["dealt", "hand"] []) : DefOk P w K mg base "pile_of" 1 ["dealt", "hand"] m_pile_of :=
  have C := Fam.ent (P := P) (w := w) (K := K) (mg := mg) (base := base) (N := ["dealt", "hand", "thing", "other"]) (k := 0) (qual := "pile_of") (scope := defScope s_pile_of) (f := f) sc_pile_of.nd
  def_ok F sc_pile_of (show CSs _ K (defBody s_pile_of) g_pile_of from ssOne (cRet (cCallT C (fun i => c_tup (C.k i)) v_tup B.tuple bt_tuple (cbCons (CE.brw (CO.frz (oLc C [("thing", 2), ("other", 3)] (iEnB C B.enumerate (cbCons (cNm C 0) (cbNil))) (fun _ => blkOk_by (by rw [ent_sc]; decide +kernel)) (gTup' (C.blk _) (gsCons (gName' (C.blk _) 2) (gsCons (gName' (C.blk _) 3) (gsNil)))) (ctOne (tCmp (fun i => op_eqA ((C.blk _).k i) (roomU ((C.blk _).r i))) v_eq (cNm (C.blk _) 3) (cNm (C.blk _) 1) (nomark _))) (cSh (C.blk _) 2)))) (cbNil))))) hm hb 4 2
abbrev s_worth_of : Stmt := topS 9
theorem sc_worth_of : FnScope ["worths", "hand", "pile", "thing"] ["worths", "hand", "pile"] (defScope s_worth_of) := ⟨rfl, rfl, rfl, by decide +kernel, rfl, by decide +kernel, by decide +kernel⟩
def g_worth_of : SF := sRet (xL sumD (aC (xOf (oComp (iSq (xNm 2)) (gNm 3) (tYes') (x2 ixD (x2 ixD (xNm 0) (xNm 1)) (xNm 3)) [3])) (aN)))
def m_worth_of : List D → M D := runDef 4 3 g_worth_of
theorem ok_worth_of (B : Bi mg)  {f : Addr} {fd : FuncData} (F : FnP K "worth_of" s_worth_of f fd) (hm : mg "worth_of" = some (.ref f)) (hb : Binds K fd ["worths", "hand", "pile"] []) : DefOk P w K mg base "worth_of" 1 ["worths", "hand", "pile"] m_worth_of :=
  have C := Fam.ent (P := P) (w := w) (K := K) (mg := mg) (base := base) (N := ["worths", "hand", "pile", "thing"]) (k := 0) (qual := "worth_of") (scope := defScope s_worth_of) (f := f) sc_worth_of.nd
  def_ok F sc_worth_of (show CSs _ K (defBody s_worth_of) g_worth_of from ssOne (cRet (cCallB C (fun i => c_sum (C.k i) (C.c i)) v_sum B.sum bt_sum (cbCons (CE.brw (CO.frz (oLc C [("thing", 3)] (iSeqB C (cNm C 2)) (fun _ => blkOk_by (by rw [ent_sc]; decide +kernel)) (gName' (C.blk _) 3) (ctNone) (cIx (fun i => ix_both ((C.blk _).k i)) v_ix (CE.brw (cIx (fun i => ix_both ((C.blk _).k i)) v_ix (cNm (C.blk _) 0) (cNm (C.blk _) 1) (fun _ _ => rfl))) (cNm (C.blk _) 3) (fun _ _ => rfl))))) (cbNil))))) hm hb 4 3
abbrev s_envies : Stmt := topS 10
theorem sc_envies : FnScope ["worths", "dealt", "found", "one", "own", "other"] ["worths", "dealt"] (defScope s_envies) := ⟨rfl, rfl, rfl, by decide +kernel, rfl, by decide +kernel, by decide +kernel⟩
def g_envies : SF := sSeq (sDrop (xCall m_check_dealt (aC (xSh 0) (aC (xSh 1) (aN))))) (sSeq (sOwn 2 (oLst (aN))) (sSeq (sFor (iRg rng1D (aC (xL lenD (aC (xNm 0) (aN))) (aN))) (gNm 3) (sSeq (sSet 4 (xCall m_worth_of (aC (xSh 0) (aC (xSh 3) (aC (xCall m_pile_of (aC (xSh 1) (aC (xSh 3) (aN)))) (aN)))))) (sFor (iRg rng1D (aC (xL lenD (aC (xNm 0) (aN))) (aN))) (gNm 5) (sIf (tV (x2 gtA (xCall m_worth_of (aC (xSh 0) (aC (xSh 3) (aC (xCall m_pile_of (aC (xSh 1) (aC (xSh 5) (aN)))) (aN))))) (xNm 4))) (sMeth 2 appU (xTup (aC (xSh 3) (aC (xSh 5) (aN))))) (sNext))))) (sRet (xL tupD (aC (xNm 2) (aN))))))
def m_envies : List D → M D := runDef 6 2 g_envies
theorem ok_envies (B : Bi mg) (d_check_dealt : DefOk P w K mg base "check_dealt" 2 ["worths", "dealt"] m_check_dealt) (d_worth_of : DefOk P w K mg base "worth_of" 1 ["worths", "hand", "pile"] m_worth_of) (d_pile_of : DefOk P w K mg base "pile_of" 1 ["dealt", "hand"] m_pile_of) {f : Addr} {fd : FuncData} (F : FnP K "envies" s_envies f fd) (hm : mg "envies" = some (.ref f)) (hb : Binds K fd ["worths", "dealt"] []) : DefOk P w K mg base "envies" 3 ["worths", "dealt"] m_envies :=
  have C := Fam.ent (P := P) (w := w) (K := K) (mg := mg) (base := base) (N := ["worths", "dealt", "found", "one", "own", "other"]) (k := 2) (qual := "envies") (scope := defScope s_envies) (f := f) sc_envies.nd
  def_ok F sc_envies (show CSs _ K (defBody s_envies) g_envies from ssCons (cExpr (cCall C d_check_dealt (by decide) (caCons (cSh C 0) (caCons (cSh C 1) (caNil))))) (ssCons (cOwn C 2 (oList (caNil))) (ssCons (cFor C (fun _ => PassesOwn.never) (iRng1E C B.range (caCons (cCallB C (fun i => c_len (C.k i)) v_len B.len bt_len (cbCons (cNm C 0) (cbNil))) (caNil))) (gName' C 3) (ssCons (cSet C 4 (cCall C d_worth_of (by decide) (caCons (cSh C 0) (caCons (cSh C 3) (caCons (cCall C d_pile_of (by decide) (caCons (cSh C 1) (caCons (cSh C 3) (caNil)))) (caNil)))))) (ssOne (cFor C (fun _ => PassesOwn.never) (iRng1E C B.range (caCons (cCallB C (fun i => c_len (C.k i)) v_len B.len bt_len (cbCons (cNm C 0) (cbNil))) (caNil))) (gName' C 5) (ssOne (cIfS (tCmp (fun i => op_gtA (C.k i) (roomU (C.r i))) v_gtA (CE.brw (cCall C d_worth_of (by decide) (caCons (cSh C 0) (caCons (cSh C 3) (caCons (cCall C d_pile_of (by decide) (caCons (cSh C 1) (caCons (cSh C 5) (caNil)))) (caNil)))))) (cNm C 4) (nomark _)) (ssOne (cApp C 2 (cTup (caCons (cSh C 3) (caCons (cSh C 5) (caNil)))))) (ssNil))))))) (ssOne (cRet (cCallT C (fun i => c_tup (C.k i)) v_tup B.tuple bt_tuple (cbCons (cNm C 2) (cbNil)))))))) hm hb 6 2
abbrev s_strongest_envy : Stmt := topS 11
theorem sc_strongest_envy : FnScope ["worths", "dealt", "is_any", "one", "other", "own", "pile", "parts", "thing"] ["worths", "dealt", "is_any"] (defScope s_strongest_envy) := ⟨rfl, rfl, rfl, by decide +kernel, rfl, by decide +kernel, by decide +kernel⟩
def g_strongest_envy : SF := sSeq (sDrop (xCall m_check_dealt (aC (xSh 0) (aC (xSh 1) (aN))))) (sSeq (sFor (iSq (xCall m_envies (aC (xSh 0) (aC (xSh 1) (aN))))) (gTp [gNm 3, gNm 4]) (sSeq (sSet 5 (xCall m_worth_of (aC (xSh 0) (aC (xSh 3) (aC (xCall m_pile_of (aC (xSh 1) (aC (xSh 3) (aN)))) (aN)))))) (sSeq (sSet 6 (xCall m_pile_of (aC (xSh 1) (aC (xSh 4) (aN))))) (sSeq (sSet 7 (xOf (oComp (iSq (xNm 6)) (gNm 8) (tYes') (x2 ixD (x2 ixD (xNm 0) (xNm 3)) (xNm 8)) [8]))) (sIf (tV (x2 gtA (x2 subD (xCall m_worth_of (aC (xSh 0) (aC (xSh 3) (aC (xSh 6) (aN))))) (xIf (tTr (xNm 2)) (xL minD (aC (xNm 7) (aN))) (xL maxD (aC (xNm 7) (aN))))) (xNm 5))) (sRet (xTup (aC (xSh 3) (aC (xSh 4) (aN))))) (sNext)))))) (sRet (xC .non)))
def m_strongest_envy : List D → M D := runDef 9 3 g_strongest_envy
theorem ok_strongest_envy (B : Bi mg) (d_check_dealt : DefOk P w K mg base "check_dealt" 2 ["worths", "dealt"] m_check_dealt) (d_envies : DefOk P w K mg base "envies" 3 ["worths", "dealt"] m_envies) (d_worth_of : DefOk P w K mg base "worth_of" 1 ["worths", "hand", "pile"] m_worth_of) (d_pile_of : DefOk P w K mg base "pile_of" 1 ["dealt", "hand"] m_pile_of) {f : Addr} {fd : FuncData} (F : FnP K "strongest_envy" s_strongest_envy f fd) (hm : mg "strongest_envy" = some (.ref f)) (hb : Binds K fd ["worths", "dealt", "is_any"] []) : DefOk P w K mg base "strongest_envy" 4 ["worths", "dealt", "is_any"] m_strongest_envy :=
  have C := Fam.ent (P := P) (w := w) (K := K) (mg := mg) (base := base) (N := ["worths", "dealt", "is_any", "one", "other", "own", "pile", "parts", "thing"]) (k := 3) (qual := "strongest_envy") (scope := defScope s_strongest_envy) (f := f) sc_strongest_envy.nd
  def_ok F sc_strongest_envy (show CSs _ K (defBody s_strongest_envy) g_strongest_envy from ssCons (cExpr (cCall C d_check_dealt (by decide) (caCons (cSh C 0) (caCons (cSh C 1) (caNil))))) (ssCons (cFor C (fun _ => PassesOwn.never) (iSeqE C (cCall C d_envies (by decide) (caCons (cSh C 0) (caCons (cSh C 1) (caNil))))) (gTup' C (gsCons (gName' C 3) (gsCons (gName' C 4) (gsNil)))) (ssCons (cSet C 5 (cCall C d_worth_of (by decide) (caCons (cSh C 0) (caCons (cSh C 3) (caCons (cCall C d_pile_of (by decide) (caCons (cSh C 1) (caCons (cSh C 3) (caNil)))) (caNil)))))) (ssCons (cSet C 6 (cCall C d_pile_of (by decide) (caCons (cSh C 1) (caCons (cSh C 4) (caNil))))) (ssCons (cSetLc C 7 [("thing", 8)] (iSeqB C (cNm C 6)) (fun _ => blkOk_by (by rw [ent_sc]; decide +kernel)) (gName' (C.blk _) 8) (ctNone) (cIx (fun i => ix_both ((C.blk _).k i)) v_ix (CE.brw (cIx (fun i => ix_both ((C.blk _).k i)) v_ix (cNm (C.blk _) 0) (cNm (C.blk _) 3) (fun _ _ => rfl))) (cNm (C.blk _) 8) (fun _ _ => rfl))) (ssOne (cIfS (tCmp (fun i => op_gtA (C.k i) (roomU (C.r i))) v_gtA (CE.brw (cBin (fun _ => op_sub) v_sub (CE.brw (cCall C d_worth_of (by decide) (caCons (cSh C 0) (caCons (cSh C 3) (caCons (cSh C 6) (caNil)))))) (CE.brw (cIf (tTruth C (cNm C 2)) (cCallB C (fun i => c_min (C.k i) (C.c i) (roomU (C.r i))) v_min B.min bt_min (cbCons (cNm C 7) (cbNil))) (cCallB C (fun i => c_max (C.k i) (C.c i) (roomU (C.r i))) v_max B.max bt_max (cbCons (cNm C 7) (cbNil))))))) (cNm C 5) (nomark _)) (ssOne (cRet (cTup (caCons (cSh C 3) (caCons (cSh C 4) (caNil)))))) (ssNil))))))) (ssOne (cRet (cNon))))) hm hb 9 3
abbrev s_in_turns : Stmt := topS 12
theorem sc_in_turns : FnScope ["worths", "order", "dealt", "turn", "hand", "left", "thing"] ["worths", "order"] (defScope s_in_turns) := ⟨rfl, rfl, rfl, by decide +kernel, rfl, by decide +kernel, by decide +kernel⟩
def g_in_turns : SF := sSeq (sDrop (xCall m_check_division (aC (xSh 0) (aN)))) (sSeq (sIf (tV (x2 neD (xOf (oL sortX (aC (xNm 1) (aN)))) (xOf (o1 rgo1 (xL lenD (aC (xNm 0) (aN))))))) (sFail) (sNext)) (sSeq (sOwn 2 (o2 repO (xOf (oLst (aC (xC .non) (aN)))) (xL lenD (aC (x2 ixD (xNm 0) (xC (.int 0))) (aN))))) (sSeq (sFor (iRg rng1D (aC (xL lenD (aC (x2 ixD (xNm 0) (xC (.int 0))) (aN))) (aN))) (gNm 3) (sSeq (sSet 4 (x2 ixD (xNm 1) (x2 modD (xNm 3) (xL lenD (aC (xNm 1) (aN)))))) (sSeq (sSet 5 (xOf (oComp (iRg rng1D (aC (xL lenD (aC (xNm 2) (aN))) (aN))) (gNm 6) (tV (x2 isD (x2 ixD (xNm 2) (xNm 6)) (xC .non))) (xTup (aC (x2 subD (xC (.int 0)) (x2 ixD (x2 ixD (xNm 0) (xNm 4)) (xNm 6))) (aC (xSh 6) (aN)))) [6]))) (sPut 2 (x2 ixD (xL minD (aC (xNm 5) (aN))) (xC (.int 1))) (xSh 4))))) (sRet (xL tupD (aC (xNm 2) (aN)))))))
def m_in_turns : List D → M D := runDef 7 2 g_in_turns
theorem ok_in_turns (B : Bi mg) (d_check_division : DefOk P w K mg base "check_division" 1 ["worths"] m_check_division) {f : Addr} {fd : FuncData} (F : FnP K "in_turns" s_in_turns f fd) (hm : mg "in_turns" = some (.ref f)) (hb : Binds K fd ["worths", "order"] []) : DefOk P w K mg base "in_turns" 2 ["worths", "order"] m_in_turns :=
  have C := Fam.ent (P := P) (w := w) (K := K) (mg := mg) (base := base) (N := ["worths", "order", "dealt", "turn", "hand", "left", "thing"]) (k := 1) (qual := "in_turns") (scope := defScope s_in_turns) (f := f) sc_in_turns.nd
  def_ok F sc_in_turns (show CSs _ K (defBody s_in_turns) g_in_turns from ssCons (cExpr (cCall C d_check_division (by decide) (caCons (cSh C 0) (caNil)))) (ssCons (cIfS (tCmp (fun i => op_neA (C.k i) (roomU (C.r i))) v_ne (CE.brw (CO.frz (oCallB C (fun i => c_sortedX (C.k i) (roomU (C.r i))) v_sortedX B.sorted bt_sorted (cbCons (cNm C 1) (cbNil))))) (CE.brw (CO.frz (oListRg1 C B.list B.range (cCallB C (fun i => c_len (C.k i)) v_len B.len bt_len (cbCons (cNm C 0) (cbNil)))))) (nomark _)) (ssOne (cNever)) (ssNil)) (ssCons (cOwn C 2 (oBin (fun _ => op_rep) v_repO (CE.brw (CO.frz (oList (caCons (cNon) (caNil))))) (CE.brw (cCallB C (fun i => c_len (C.k i)) v_len B.len bt_len (cbCons (CE.brw (cIx (fun i => ix_both (C.k i)) v_ix (cNm C 0) (CE.brw (cInt)) (fun _ _ => rfl))) (cbNil)))))) (ssCons (cFor C (fun _ => PassesOwn.never) (iRng1E C B.range (caCons (cCallB C (fun i => c_len (C.k i)) v_len B.len bt_len (cbCons (CE.brw (cIx (fun i => ix_both (C.k i)) v_ix (cNm C 0) (CE.brw (cInt)) (fun _ _ => rfl))) (cbNil))) (caNil))) (gName' C 3) (ssCons (cSet C 4 (cIx (fun i => ix_both (C.k i)) v_ix (cNm C 1) (CE.brw (cBin (fun _ => op_mod) v_mod (cNm C 3) (CE.brw (cCallB C (fun i => c_len (C.k i)) v_len B.len bt_len (cbCons (cNm C 1) (cbNil)))))) (fun _ _ => rfl))) (ssCons (cSetLc C 5 [("thing", 6)] (CI.w (iRng1E C B.range (caCons (cCallB C (fun i => c_len (C.k i)) v_len B.len bt_len (cbCons (cNm C 2) (cbNil))) (caNil)))) (fun _ => blkOk_by (by rw [ent_sc]; decide +kernel)) (gName' (C.blk _) 6) (ctOne (tCmp (fun _ => op_isN) v_is (CE.brw (cIx (fun i => ix_both ((C.blk _).k i)) v_ix (cNm (C.blk _) 2) (cNm (C.blk _) 6) (fun _ _ => rfl))) (CE.brw (cNon)) (nomark _))) (cTup (caCons (cBin (fun _ => op_sub) v_sub (CE.brw (cInt)) (CE.brw (cIx (fun i => ix_both ((C.blk _).k i)) v_ix (CE.brw (cIx (fun i => ix_both ((C.blk _).k i)) v_ix (cNm (C.blk _) 0) (cNm (C.blk _) 4) (fun _ _ => rfl))) (cNm (C.blk _) 6) (fun _ _ => rfl)))) (caCons (cSh (C.blk _) 6) (caNil))))) (ssOne (cPut C 2 (cSh C 4) (cIx (fun i => ix_both (C.k i)) v_ix (CE.brw (cCallB C (fun i => c_min (C.k i) (C.c i) (roomU (C.r i))) v_min B.min bt_min (cbCons (cNm C 5) (cbNil)))) (CE.brw (cInt)) (fun _ _ => rfl))))))) (ssOne (cRet (cCallT C (fun i => c_tup (C.k i)) v_tup B.tuple bt_tuple (cbCons (cNm C 2) (cbNil))))))))) hm hb 7 2
abbrev s_all_deals : Stmt := topS 13
theorem sc_all_deals : FnScope ["worths", "found", "_", "longer", "row", "hand"] ["worths"] (defScope s_all_deals) := ⟨rfl, rfl, rfl, by decide +kernel, rfl, by decide +kernel, by decide +kernel⟩
def g_all_deals : SF := sSeq (sSet 1 (xOf (oLst (aC (xTup (aN)) (aN))))) (sSeq (sFor (iSq (x2 ixD (xNm 0) (xC (.int 0)))) (gNm 2) (sSeq (sOwn 3 (oLst (aN))) (sSeq (sFor (iSq (xSh 1)) (gNm 4) (sMeth 3 extU (xOf (oComp (iRg rng1D (aC (xL lenD (aC (xNm 0) (aN))) (aN))) (gNm 5) (tYes') (x2 addD (xNm 4) (xTup (aC (xSh 5) (aN)))) [5])))) (sMove 3 1)))) (sRet (xSh 1)))
def m_all_deals : List D → M D := runDef 6 1 g_all_deals
theorem ok_all_deals (B : Bi mg)  {f : Addr} {fd : FuncData} (F : FnP K "all_deals" s_all_deals f fd) (hm : mg "all_deals" = some (.ref f)) (hb : Binds K fd ["worths"] []) : DefOk P w K mg base "all_deals" 1 ["worths"] m_all_deals :=
  have C := Fam.ent (P := P) (w := w) (K := K) (mg := mg) (base := base) (N := ["worths", "found", "_", "longer", "row", "hand"]) (k := 0) (qual := "all_deals") (scope := defScope s_all_deals) (f := f) sc_all_deals.nd
  def_ok F sc_all_deals (show CSs _ K (defBody s_all_deals) g_all_deals from ssCons (cSet C 1 (CO.frz (oList (caCons (cTup (caNil)) (caNil))))) (ssCons (cFor C (fun _ => PassesOwn.never) (iSeqE C (cIx (fun i => ix_both (C.k i)) v_ix (cNm C 0) (CE.brw (cInt)) (fun _ _ => rfl))) (gName' C 2) (ssCons (cOwn C 3 (oList (caNil))) (ssCons (cFor C (fun _ => PassesOwn.never) (iSeqE C (cSh C 1)) (gName' C 4) (ssOne (cExt C 3 (CE.brw (CO.frz (oLc C [("hand", 5)] (CI.w (iRng1E C B.range (caCons (cCallB C (fun i => c_len (C.k i)) v_len B.len bt_len (cbCons (cNm C 0) (cbNil))) (caNil)))) (fun _ => blkOk_by (by rw [ent_sc]; decide +kernel)) (gName' (C.blk _) 5) (ctNone) (cBin (fun i => op_addAll ((C.blk _).k i)) v_add (cNm (C.blk _) 4) (CE.brw (cTup (caCons (cSh (C.blk _) 5) (caNil))))))))))) (ssOne (cMove C 3 1))))) (ssOne (cRet (cSh C 1))))) hm hb 6 1
abbrev s_worths_of : Stmt := topS 14
theorem sc_worths_of : FnScope ["worths", "dealt", "hand"] ["worths", "dealt"] (defScope s_worths_of) := ⟨rfl, rfl, rfl, by decide +kernel, rfl, by decide +kernel, by decide +kernel⟩
def g_worths_of : SF := sRet (xOf (oComp (iRg rng1D (aC (xL lenD (aC (xNm 0) (aN))) (aN))) (gNm 2) (tYes') (xCall m_worth_of (aC (xSh 0) (aC (xSh 2) (aC (xCall m_pile_of (aC (xSh 1) (aC (xSh 2) (aN)))) (aN))))) [2]))
def m_worths_of : List D → M D := runDef 3 2 g_worths_of
theorem ok_worths_of (B : Bi mg) (d_worth_of : DefOk P w K mg base "worth_of" 1 ["worths", "hand", "pile"] m_worth_of) (d_pile_of : DefOk P w K mg base "pile_of" 1 ["dealt", "hand"] m_pile_of) {f : Addr} {fd : FuncData} (F : FnP K "worths_of" s_worths_of f fd) (hm : mg "worths_of" = some (.ref f)) (hb : Binds K fd ["worths", "dealt"] []) : DefOk P w K mg base "worths_of" 2 ["worths", "dealt"] m_worths_of :=
  have C := Fam.ent (P := P) (w := w) (K := K) (mg := mg) (base := base) (N := ["worths", "dealt", "hand"]) (k := 1) (qual := "worths_of") (scope := defScope s_worths_of) (f := f) sc_worths_of.nd
  def_ok F sc_worths_of (show CSs _ K (defBody s_worths_of) g_worths_of from ssOne (cRet (CO.frz (oLc C [("hand", 2)] (CI.w (iRng1E C B.range (caCons (cCallB C (fun i => c_len (C.k i)) v_len B.len bt_len (cbCons (cNm C 0) (cbNil))) (caNil)))) (fun _ => blkOk_by (by rw [ent_sc]; decide +kernel)) (gName' (C.blk _) 2) (ctNone) (cCall (C.blk _) d_worth_of (by decide) (caCons (cSh (C.blk _) 0) (caCons (cSh (C.blk _) 2) (caCons (cCall (C.blk _) d_pile_of (by decide) (caCons (cSh (C.blk _) 1) (caCons (cSh (C.blk _) 2) (caNil)))) (caNil))))))))) hm hb 3 2
abbrev s_product_of : Stmt := topS 15
theorem sc_product_of : FnScope ["numbers", "found", "number"] ["numbers"] (defScope s_product_of) := ⟨rfl, rfl, rfl, by decide +kernel, rfl, by decide +kernel, by decide +kernel⟩
def g_product_of : SF := sSeq (sSet 1 (xC (.int 1))) (sSeq (sFor (iSq (xSh 0)) (gNm 2) (sAug 1 mulD (xL max2D (aC (xC (.int 1)) (aC (xNm 2) (aN)))))) (sRet (xTup (aC (xL lenD (aC (xOf (oComp (iSq (xNm 0)) (gNm 2) (tV (x2 gtA (xNm 2) (xC (.int 0)))) (xSh 2) [2])) (aN))) (aC (xSh 1) (aN))))))
def m_product_of : List D → M D := runDef 3 1 g_product_of
theorem ok_product_of (B : Bi mg)  {f : Addr} {fd : FuncData} (F : FnP K "product_of" s_product_of f fd) (hm : mg "product_of" = some (.ref f)) (hb : Binds K fd ["numbers"] []) : DefOk P w K mg base "product_of" 1 ["numbers"] m_product_of :=
  have C := Fam.ent (P := P) (w := w) (K := K) (mg := mg) (base := base) (N := ["numbers", "found", "number"]) (k := 0) (qual := "product_of") (scope := defScope s_product_of) (f := f) sc_product_of.nd
  def_ok F sc_product_of (show CSs _ K (defBody s_product_of) g_product_of from ssCons (cSet C 1 (cInt)) (ssCons (cFor C (fun _ => PassesOwn.never) (iSeqE C (cSh C 0)) (gName' C 2) (ssOne (cAug C 1 (fun _ => iop_mulW) v_mul (cCallB C (fun i => call_max2 (C.c i)) v_max2 B.max bt_max (cbCons (CE.brw (cInt)) (cbCons (cNm C 2) (cbNil))))))) (ssOne (cRet (cTup (caCons (cCallB C (fun i => c_len (C.k i)) v_len B.len bt_len (cbCons (CE.brw (CO.frz (oLc C [("number", 2)] (iSeqB C (cNm C 0)) (fun _ => blkOk_by (by rw [ent_sc]; decide +kernel)) (gName' (C.blk _) 2) (ctOne (tCmp (fun i => op_gtA ((C.blk _).k i) (roomU ((C.blk _).r i))) v_gtA (cNm (C.blk _) 2) (CE.brw (cInt)) (nomark _))) (cSh (C.blk _) 2)))) (cbNil))) (caCons (cSh C 1) (caNil)))))))) hm hb 3 1
abbrev s_best_product : Stmt := topS 16
theorem sc_best_product : FnScope ["worths", "best", "dealt", "key"] ["worths"] (defScope s_best_product) := ⟨rfl, rfl, rfl, by decide +kernel, rfl, by decide +kernel, by decide +kernel⟩
def g_best_product : SF := sSeq (sDrop (xCall m_check_division (aC (xSh 0) (aN)))) (sSeq (sSet 1 (xC .non)) (sSeq (sFor (iSq (xCall m_all_deals (aC (xSh 0) (aN)))) (gNm 2) (sSeq (sSet 3 (xCall m_product_of (aC (xCall m_worths_of (aC (xSh 0) (aC (xSh 2) (aN)))) (aN)))) (sIf (tOr (tV (x2 isD (xNm 1) (xC .non))) (tV (x2 gtA (xNm 3) (x2 ixD (xNm 1) (xC (.int 0)))))) (sSet 1 (xTup (aC (xSh 3) (aC (xSh 2) (aN))))) (sNext)))) (sRet (xTup (aC (x2 ixD (xNm 1) (xC (.int 1))) (aC (x2 ixD (xNm 1) (xC (.int 0))) (aN)))))))
def m_best_product : List D → M D := runDef 4 1 g_best_product
theorem ok_best_product (B : Bi mg) (d_check_division : DefOk P w K mg base "check_division" 1 ["worths"] m_check_division) (d_all_deals : DefOk P w K mg base "all_deals" 1 ["worths"] m_all_deals) (d_product_of : DefOk P w K mg base "product_of" 1 ["numbers"] m_product_of) (d_worths_of : DefOk P w K mg base "worths_of" 2 ["worths", "dealt"] m_worths_of) {f : Addr} {fd : FuncData} (F : FnP K "best_product" s_best_product f fd) (hm : mg "best_product" = some (.ref f)) (hb : Binds K fd ["worths"] []) : DefOk P w K mg base "best_product" 3 ["worths"] m_best_product :=
  have C := Fam.ent (P := P) (w := w) (K := K) (mg := mg) (base := base) (N := ["worths", "best", "dealt", "key"]) (k := 2) (qual := "best_product") (scope := defScope s_best_product) (f := f) sc_best_product.nd
  def_ok F sc_best_product (show CSs _ K (defBody s_best_product) g_best_product from ssCons (cExpr (cCall C d_check_division (by decide) (caCons (cSh C 0) (caNil)))) (ssCons (cSet C 1 (cNon)) (ssCons (cFor C (fun _ => PassesOwn.never) (iSeqE C (cCall C d_all_deals (by decide) (caCons (cSh C 0) (caNil)))) (gName' C 2) (ssCons (cSet C 3 (cCall C d_product_of (by decide) (caCons (cCall C d_worths_of (by decide) (caCons (cSh C 0) (caCons (cSh C 2) (caNil)))) (caNil)))) (ssOne (cIfS (CW.t (wOr (tCmp (fun _ => op_isN) v_is (cNm C 1) (CE.brw (cNon)) (nomark _)) (wOr1 (tCmp (fun i => op_gtA (C.k i) (roomU (C.r i))) v_gtA (cNm C 3) (CE.brw (cIx (fun i => ix_both (C.k i)) v_ix (cNm C 1) (CE.brw (cInt)) (fun _ _ => rfl))) (nomark _))))) (ssOne (cSet C 1 (cTup (caCons (cSh C 3) (caCons (cSh C 2) (caNil)))))) (ssNil))))) (ssOne (cRet (cTup (caCons (cIx (fun i => ix_both (C.k i)) v_ix (cNm C 1) (CE.brw (cInt)) (fun _ _ => rfl)) (caCons (cIx (fun i => ix_both (C.k i)) v_ix (cNm C 1) (CE.brw (cInt)) (fun _ _ => rfl)) (caNil))))))))) hm hb 4 1
abbrev s_most_level : Stmt := topS 17
theorem sc_most_level : FnScope ["worths", "best", "dealt", "key"] ["worths"] (defScope s_most_level) := ⟨rfl, rfl, rfl, by decide +kernel, rfl, by decide +kernel, by decide +kernel⟩
def g_most_level : SF := sSeq (sDrop (xCall m_check_division (aC (xSh 0) (aN)))) (sSeq (sSet 1 (xC .non)) (sSeq (sFor (iSq (xCall m_all_deals (aC (xSh 0) (aN)))) (gNm 2) (sSeq (sSet 3 (xL tupD (aC (xOf (oL sortO (aC (xCall m_worths_of (aC (xSh 0) (aC (xSh 2) (aN)))) (aN)))) (aN)))) (sIf (tOr (tV (x2 isD (xNm 1) (xC .non))) (tV (x2 gtA (xNm 3) (x2 ixD (xNm 1) (xC (.int 0)))))) (sSet 1 (xTup (aC (xSh 3) (aC (xSh 2) (aN))))) (sNext)))) (sRet (xTup (aC (x2 ixD (xNm 1) (xC (.int 1))) (aC (x2 ixD (xNm 1) (xC (.int 0))) (aN)))))))
def m_most_level : List D → M D := runDef 4 1 g_most_level
theorem ok_most_level (B : Bi mg) (d_check_division : DefOk P w K mg base "check_division" 1 ["worths"] m_check_division) (d_all_deals : DefOk P w K mg base "all_deals" 1 ["worths"] m_all_deals) (d_worths_of : DefOk P w K mg base "worths_of" 2 ["worths", "dealt"] m_worths_of) {f : Addr} {fd : FuncData} (F : FnP K "most_level" s_most_level f fd) (hm : mg "most_level" = some (.ref f)) (hb : Binds K fd ["worths"] []) : DefOk P w K mg base "most_level" 3 ["worths"] m_most_level :=
  have C := Fam.ent (P := P) (w := w) (K := K) (mg := mg) (base := base) (N := ["worths", "best", "dealt", "key"]) (k := 2) (qual := "most_level") (scope := defScope s_most_level) (f := f) sc_most_level.nd
  def_ok F sc_most_level (show CSs _ K (defBody s_most_level) g_most_level from ssCons (cExpr (cCall C d_check_division (by decide) (caCons (cSh C 0) (caNil)))) (ssCons (cSet C 1 (cNon)) (ssCons (cFor C (fun _ => PassesOwn.never) (iSeqE C (cCall C d_all_deals (by decide) (caCons (cSh C 0) (caNil)))) (gName' C 2) (ssCons (cSet C 3 (cCallT C (fun i => c_tup (C.k i)) v_tup B.tuple bt_tuple (cbCons (CE.brw (CO.frz (oCallB C (fun i => c_sorted (C.k i) (roomU (C.r i))) v_sorted B.sorted bt_sorted (cbCons (CE.brw (cCall C d_worths_of (by decide) (caCons (cSh C 0) (caCons (cSh C 2) (caNil))))) (cbNil))))) (cbNil)))) (ssOne (cIfS (CW.t (wOr (tCmp (fun _ => op_isN) v_is (cNm C 1) (CE.brw (cNon)) (nomark _)) (wOr1 (tCmp (fun i => op_gtA (C.k i) (roomU (C.r i))) v_gtA (cNm C 3) (CE.brw (cIx (fun i => ix_both (C.k i)) v_ix (cNm C 1) (CE.brw (cInt)) (fun _ _ => rfl))) (nomark _))))) (ssOne (cSet C 1 (cTup (caCons (cSh C 3) (caCons (cSh C 2) (caNil)))))) (ssNil))))) (ssOne (cRet (cTup (caCons (cIx (fun i => ix_both (C.k i)) v_ix (cNm C 1) (CE.brw (cInt)) (fun _ _ => rfl)) (caCons (cIx (fun i => ix_both (C.k i)) v_ix (cNm C 1) (CE.brw (cInt)) (fun _ _ => rfl)) (caNil))))))))) hm hb 4 1
abbrev s_sure_part : Stmt := topS 18
theorem sc_sure_part : FnScope ["worths", "hand", "best", "dealt", "pile"] ["worths", "hand"] (defScope s_sure_part) := ⟨rfl, rfl, rfl, by decide +kernel, rfl, by decide +kernel, by decide +kernel⟩
def g_sure_part : SF := sSeq (sDrop (xCall m_check_division (aC (xSh 0) (aN)))) (sSeq (sIf (tNot (tV (xCh leA ltA (xC (.int 0)) (xNm 1) (xL lenD (aC (xNm 0) (aN)))))) (sFail) (sNext)) (sSeq (sSet 2 (xC (.int 0))) (sSeq (sFor (iSq (xCall m_all_deals (aC (xSh 0) (aN)))) (gNm 3) (sSet 2 (xL max2D (aC (xNm 2) (aC (xL minD (aC (xOf (oComp (iRg rng1D (aC (xL lenD (aC (xNm 0) (aN))) (aN))) (gNm 4) (tYes') (xCall m_worth_of (aC (xSh 0) (aC (xSh 1) (aC (xCall m_pile_of (aC (xSh 3) (aC (xSh 4) (aN)))) (aN))))) [4])) (aN))) (aN)))))) (sRet (xSh 2)))))
def m_sure_part : List D → M D := runDef 5 2 g_sure_part
theorem ok_sure_part (B : Bi mg) (d_check_division : DefOk P w K mg base "check_division" 1 ["worths"] m_check_division) (d_all_deals : DefOk P w K mg base "all_deals" 1 ["worths"] m_all_deals) (d_worth_of : DefOk P w K mg base "worth_of" 1 ["worths", "hand", "pile"] m_worth_of) (d_pile_of : DefOk P w K mg base "pile_of" 1 ["dealt", "hand"] m_pile_of) {f : Addr} {fd : FuncData} (F : FnP K "sure_part" s_sure_part f fd) (hm : mg "sure_part" = some (.ref f)) (hb : Binds K fd ["worths", "hand"] []) : DefOk P w K mg base "sure_part" 2 ["worths", "hand"] m_sure_part :=
  have C := Fam.ent (P := P) (w := w) (K := K) (mg := mg) (base := base) (N := ["worths", "hand", "best", "dealt", "pile"]) (k := 1) (qual := "sure_part") (scope := defScope s_sure_part) (f := f) sc_sure_part.nd
  def_ok F sc_sure_part (show CSs _ K (defBody s_sure_part) g_sure_part from ssCons (cExpr (cCall C d_check_division (by decide) (caCons (cSh C 0) (caNil)))) (ssCons (cIfS (tNotR (tChainR (fun i => op_leA (C.k i) (roomU (C.r i))) (fun i => op_ltA (C.k i) (roomU (C.r i))) v_leA v_ltA (CE.brw (cInt)) (cNm C 1) (CE.brw (cCallB C (fun i => c_len (C.k i)) v_len B.len bt_len (cbCons (cNm C 0) (cbNil)))))) (ssOne (cNever)) (ssNil)) (ssCons (cSet C 2 (cInt)) (ssCons (cFor C (fun _ => PassesOwn.never) (iSeqE C (cCall C d_all_deals (by decide) (caCons (cSh C 0) (caNil)))) (gName' C 3) (ssOne (cSet C 2 (cCallB C (fun i => call_max2 (C.c i)) v_max2 B.max bt_max (cbCons (cNm C 2) (cbCons (CE.brw (cCallB C (fun i => c_min (C.k i) (C.c i) (roomU (C.r i))) v_min B.min bt_min (cbCons (CE.brw (CO.frz (oLc C [("pile", 4)] (CI.w (iRng1E C B.range (caCons (cCallB C (fun i => c_len (C.k i)) v_len B.len bt_len (cbCons (cNm C 0) (cbNil))) (caNil)))) (fun _ => blkOk_by (by rw [ent_sc]; decide +kernel)) (gName' (C.blk _) 4) (ctNone) (cCall (C.blk _) d_worth_of (by decide) (caCons (cSh (C.blk _) 0) (caCons (cSh (C.blk _) 1) (caCons (cCall (C.blk _) d_pile_of (by decide) (caCons (cSh (C.blk _) 3) (caCons (cSh (C.blk _) 4) (caNil)))) (caNil)))))))) (cbNil)))) (cbNil))))))) (ssOne (cRet (cSh C 2))))))) hm hb 5 2
abbrev s_better_for_all : Stmt := topS 19
theorem sc_better_for_all : FnScope ["worths", "dealt", "own", "other", "row", "k"] ["worths", "dealt"] (defScope s_better_for_all) := ⟨rfl, rfl, rfl, by decide +kernel, rfl, by decide +kernel, by decide +kernel⟩
def g_better_for_all : SF := sSeq (sDrop (xCall m_check_dealt (aC (xSh 0) (aC (xSh 1) (aN))))) (sSeq (sSet 2 (xCall m_worths_of (aC (xSh 0) (aC (xSh 1) (aN))))) (sSeq (sFor (iSq (xCall m_all_deals (aC (xSh 0) (aN)))) (gNm 3) (sSeq (sSet 4 (xCall m_worths_of (aC (xSh 0) (aC (xSh 3) (aN))))) (sIf (tAnd (tV (x2 neD (xNm 4) (xNm 2))) (tTr (xL allD (aC (xOf (oComp (iRg rng1D (aC (xL lenD (aC (xNm 2) (aN))) (aN))) (gNm 5) (tYes') (x2 geA (x2 ixD (xNm 4) (xNm 5)) (x2 ixD (xNm 2) (xNm 5))) [5])) (aN))))) (sRet (xSh 3)) (sNext)))) (sRet (xC .non))))
def m_better_for_all : List D → M D := runDef 6 2 g_better_for_all
theorem ok_better_for_all (B : Bi mg) (d_check_dealt : DefOk P w K mg base "check_dealt" 2 ["worths", "dealt"] m_check_dealt) (d_worths_of : DefOk P w K mg base "worths_of" 2 ["worths", "dealt"] m_worths_of) (d_all_deals : DefOk P w K mg base "all_deals" 1 ["worths"] m_all_deals) {f : Addr} {fd : FuncData} (F : FnP K "better_for_all" s_better_for_all f fd) (hm : mg "better_for_all" = some (.ref f)) (hb : Binds K fd ["worths", "dealt"] []) : DefOk P w K mg base "better_for_all" 3 ["worths", "dealt"] m_better_for_all :=
  have C := Fam.ent (P := P) (w := w) (K := K) (mg := mg) (base := base) (N := ["worths", "dealt", "own", "other", "row", "k"]) (k := 2) (qual := "better_for_all") (scope := defScope s_better_for_all) (f := f) sc_better_for_all.nd
  def_ok F sc_better_for_all (show CSs _ K (defBody s_better_for_all) g_better_for_all from ssCons (cExpr (cCall C d_check_dealt (by decide) (caCons (cSh C 0) (caCons (cSh C 1) (caNil))))) (ssCons (cSet C 2 (cCall C d_worths_of (by decide) (caCons (cSh C 0) (caCons (cSh C 1) (caNil))))) (ssCons (cFor C (fun _ => PassesOwn.never) (iSeqE C (cCall C d_all_deals (by decide) (caCons (cSh C 0) (caNil)))) (gName' C 3) (ssCons (cSet C 4 (cCall C d_worths_of (by decide) (caCons (cSh C 0) (caCons (cSh C 3) (caNil))))) (ssOne (cIfS (CW.t (wAnd (tCmp (fun i => op_neA (C.k i) (roomU (C.r i))) v_ne (cNm C 4) (cNm C 2) (nomark _)) (wAnd1 (tTruth C (CE.brw (cCallB C (fun i => c_all (C.k i) (C.c i)) v_all B.all bt_all (cbCons (CE.brw (CO.frz (oLc C [("k", 5)] (CI.w (iRng1E C B.range (caCons (cCallB C (fun i => c_len (C.k i)) v_len B.len bt_len (cbCons (cNm C 2) (cbNil))) (caNil)))) (fun _ => blkOk_by (by rw [ent_sc]; decide +kernel)) (gName' (C.blk _) 5) (ctNone) (cCmp (fun i => op_geA ((C.blk _).k i) (roomU ((C.blk _).r i))) v_geA (CE.brw (cIx (fun i => ix_both ((C.blk _).k i)) v_ix (cNm (C.blk _) 4) (cNm (C.blk _) 5) (fun _ _ => rfl))) (CE.brw (cIx (fun i => ix_both ((C.blk _).k i)) v_ix (cNm (C.blk _) 2) (cNm (C.blk _) 5) (fun _ _ => rfl))) (nomark _))))) (cbNil)))))))) (ssOne (cRet (cSh C 3))) (ssNil))))) (ssOne (cRet (cNon)))))) hm hb 6 2
abbrev s__law_begin : Stmt := topS 21
theorem sc__law_begin : FnScope ["script", "seed", "cell"] ["script"] (defScope s__law_begin) := ⟨rfl, rfl, rfl, by decide +kernel, rfl, by decide +kernel, by decide +kernel⟩
theorem rd_begin {k : Nat} {f : Addr} (B : Bi mg) (i : EntI k "_law_begin" (defScope s__law_begin) f) : PSs (entF P w K mg base ["script", "seed", "cell"] k "_law_begin" (defScope s__law_begin) f i) (defBody s__law_begin) (tBegin K (tBeginL K)) :=
  pss_cons (ps_set (i := 1) sc__law_begin.nd rfl (.inl rfl) pe_int)
    (pss_cons (ps_for PassesOwn.never rfl (pi_list (pv 0)) (pg_name (i := 2) sc__law_begin.nd rfl (.inl rfl)) (pss_one (ps_set (i := 1) sc__law_begin.nd rfl (.inl rfl) (pe_op op_mod (pe_op (op_addAll rfl) (pe_op (op_addAll rfl) (pe_op op_mulW (pv 1) pe_int) (pe_op op_mod (pe_callTy call_int1 (by rfl) B.int bt_int (pa_cons (pv 2) pa_nil)) pe_int)) pe_int) pe_int))))
      (pss_one (ps_ret (pe_lst (pa_cons (pe_callTy call_list_of (by rfl) B.list bt_list (pa_cons (pv 0) pa_nil)) (pa_cons pe_int (pa_cons pe_int (pa_cons (pv 1) pa_nil))))))))
theorem ok_begin (B : Bi mg) {f : Addr} {fd : FuncData} (F : FnP K "_law_begin" s__law_begin f fd) : FnOk P w K mg base CX0 1 f fd ["script"] (spBegin K) := begin_ok F sc__law_begin fun i => rd_begin B i
abbrev s__law_take : Stmt := topS 22
theorem sc__law_take : FnScope ["d", "many", "digit", "small"] ["d", "many"] (defScope s__law_take) := ⟨rfl, rfl, rfl, by decide +kernel, rfl, by decide +kernel, by decide +kernel⟩
def g__law_take : SF := sSeq (sIf (tAnd (tV (x2 eqD (xRd 0 2) (xC (.int 0)))) (tV (x2 ltA (xRd 0 1) (xL lenD (aC (xRd 0 0) (aN)))))) (sSeq (sWr 0 2 (xL absD (aC (xL intD (aC (x2 ixD (xRd 0 0) (xRd 0 1)) (aN))) (aN)))) (sSeq (sWr 0 1 (x2 addD (xRd 0 1) (xC (.int 1)))) (sIf (tV (x2 ltA (xRd 0 2) (x2 powD (xC (.int 10)) (xC (.int 18))))) (sSeq (sSet 3 (xL intD (aC (xRd 0 2) (aN)))) (sSeq (sWr 0 2 (xC (.int 0))) (sRet (x2 modD (xNm 3) (xNm 1))))) (sNext)))) (sNext)) (sSeq (sIf (tV (x2 gtA (xRd 0 2) (xC (.int 0)))) (sSeq (sSet 2 (x2 modD (xL intD (aC (xRd 0 2) (aN))) (xNm 1))) (sSeq (sWr 0 2 (x2 divD (xL intD (aC (xRd 0 2) (aN))) (xNm 1))) (sRet (xSh 2)))) (sNext)) (sSeq (sWr 0 3 (x2 modD (xL intD (aC (x2 addD (x2 mulD (xRd 0 3) (xC (.int 48271))) (xC (.int 11))) (aN))) (xC (.int 2147483647)))) (sRet (x2 modD (xL intD (aC (x2 divD (xRd 0 3) (xC (.int 3))) (aN))) (xNm 1)))))
def m__law_take : List D → M D := runDef 4 2 g__law_take
theorem ok__law_take (B : Bi mg)  {f : Addr} {fd : FuncData} (F : FnP K "_law_take" s__law_take f fd) (hm : mg "_law_take" = some (.ref f)) (hb : Binds K fd ["d", "many"] []) : DefOk P w K mg base "_law_take" 1 ["d", "many"] m__law_take :=
  have C := Fam.ent (P := P) (w := w) (K := K) (mg := mg) (base := base) (N := ["d", "many", "digit", "small"]) (k := 0) (qual := "_law_take") (scope := defScope s__law_take) (f := f) sc__law_take.nd
  def_ok F sc__law_take (show CSs _ K (defBody s__law_take) g__law_take from ssCons (cIfS (CW.t (wAnd (tCmp (fun i => op_eqA (C.k i) (roomU (C.r i))) v_eq (CE.brw (cRd C 0 2 (by decide))) (CE.brw (cInt)) (nomark _)) (wAnd1 (tCmp (fun i => op_ltA (C.k i) (roomU (C.r i))) v_ltA (CE.brw (cRd C 0 1 (by decide))) (CE.brw (cCallB C (fun i => c_len (C.k i)) v_len B.len bt_len (cbCons (CE.brw (cRd C 0 0 (by decide))) (cbNil)))) (nomark _))))) (ssCons (cWr C 0 2 (cCallB C (fun i => call_abs) v_abs B.abs bt_abs (cbCons (CE.brw (cCallT C (fun i => call_int1) v_int B.int bt_int (cbCons (CE.brw (cIx (fun i => ix_both (C.k i)) v_ix (CE.brw (cRd C 0 0 (by decide))) (CE.brw (cRd C 0 1 (by decide))) (fun _ _ => rfl))) (cbNil)))) (cbNil))) (by decide)) (ssCons (cWr C 0 1 (cBin (fun i => op_addAll (C.k i)) v_add (CE.brw (cRd C 0 1 (by decide))) (CE.brw (cInt))) (by decide)) (ssOne (cIfS (tCmp (fun i => op_ltA (C.k i) (roomU (C.r i))) v_ltA (CE.brw (cRd C 0 2 (by decide))) (CE.brw (cBin (fun _ => op_pow) v_pow (CE.brw (cInt)) (CE.brw (cInt)))) (nomark _)) (ssCons (cSet C 3 (cCallT C (fun i => call_int1) v_int B.int bt_int (cbCons (CE.brw (cRd C 0 2 (by decide))) (cbNil)))) (ssCons (cWr C 0 2 (cInt) (by decide)) (ssOne (cRet (cBin (fun _ => op_mod) v_mod (cNm C 3) (cNm C 1)))))) (ssNil))))) (ssNil)) (ssCons (cIfS (tCmp (fun i => op_gtA (C.k i) (roomU (C.r i))) v_gtA (CE.brw (cRd C 0 2 (by decide))) (CE.brw (cInt)) (nomark _)) (ssCons (cSet C 2 (cBin (fun _ => op_mod) v_mod (CE.brw (cCallT C (fun i => call_int1) v_int B.int bt_int (cbCons (CE.brw (cRd C 0 2 (by decide))) (cbNil)))) (cNm C 1))) (ssCons (cWr C 0 2 (cBin (fun _ => op_fdivW) v_div (CE.brw (cCallT C (fun i => call_int1) v_int B.int bt_int (cbCons (CE.brw (cRd C 0 2 (by decide))) (cbNil)))) (cNm C 1)) (by decide)) (ssOne (cRet (cSh C 2))))) (ssNil)) (ssCons (cWr C 0 3 (cBin (fun _ => op_mod) v_mod (CE.brw (cCallT C (fun i => call_int1) v_int B.int bt_int (cbCons (CE.brw (cBin (fun i => op_addAll (C.k i)) v_add (CE.brw (cBin (fun _ => op_mulW) v_mul (CE.brw (cRd C 0 3 (by decide))) (CE.brw (cInt)))) (CE.brw (cInt)))) (cbNil)))) (CE.brw (cInt))) (by decide)) (ssOne (cRet (cBin (fun _ => op_mod) v_mod (CE.brw (cCallT C (fun i => call_int1) v_int B.int bt_int (cbCons (CE.brw (cBin (fun _ => op_fdivW) v_div (CE.brw (cRd C 0 3 (by decide))) (CE.brw (cInt)))) (cbNil)))) (cNm C 1))))))) hm hb 4 2
abbrev s__law_own : Stmt := topS 23
theorem sc__law_own : FnScope ["worths", "dealt", "hand", "k"] ["worths", "dealt", "hand"] (defScope s__law_own) := ⟨rfl, rfl, rfl, by decide +kernel, rfl, by decide +kernel, by decide +kernel⟩
def g__law_own : SF := sRet (xL sumD (aC (xOf (oComp (iRg rng1D (aC (xL lenD (aC (xNm 1) (aN))) (aN))) (gNm 3) (tV (x2 eqD (x2 ixD (xNm 1) (xNm 3)) (xNm 2))) (x2 ixD (x2 ixD (xNm 0) (xNm 2)) (xNm 3)) [3])) (aN)))
def m__law_own : List D → M D := runDef 4 3 g__law_own
theorem ok__law_own (B : Bi mg)  {f : Addr} {fd : FuncData} (F : FnP K "_law_own" s__law_own f fd) (hm : mg "_law_own" = some (.ref f)) (hb : Binds K fd ["worths", "dealt", "hand"] []) : DefOk P w K mg base "_law_own" 1 ["worths", "dealt", "hand"] m__law_own :=
  have C := Fam.ent (P := P) (w := w) (K := K) (mg := mg) (base := base) (N := ["worths", "dealt", "hand", "k"]) (k := 0) (qual := "_law_own") (scope := defScope s__law_own) (f := f) sc__law_own.nd
  def_ok F sc__law_own (show CSs _ K (defBody s__law_own) g__law_own from ssOne (cRet (cCallB C (fun i => c_sum (C.k i) (C.c i)) v_sum B.sum bt_sum (cbCons (CE.brw (CO.frz (oLc C [("k", 3)] (CI.w (iRng1E C B.range (caCons (cCallB C (fun i => c_len (C.k i)) v_len B.len bt_len (cbCons (cNm C 1) (cbNil))) (caNil)))) (fun _ => blkOk_by (by rw [ent_sc]; decide +kernel)) (gName' (C.blk _) 3) (ctOne (tCmp (fun i => op_eqA ((C.blk _).k i) (roomU ((C.blk _).r i))) v_eq (CE.brw (cIx (fun i => ix_both ((C.blk _).k i)) v_ix (cNm (C.blk _) 1) (cNm (C.blk _) 3) (fun _ _ => rfl))) (cNm (C.blk _) 2) (nomark _))) (cIx (fun i => ix_both ((C.blk _).k i)) v_ix (CE.brw (cIx (fun i => ix_both ((C.blk _).k i)) v_ix (cNm (C.blk _) 0) (cNm (C.blk _) 2) (fun _ _ => rfl))) (cNm (C.blk _) 3) (fun _ _ => rfl))))) (cbNil))))) hm hb 4 3
abbrev s_law : Stmt := topS 24
theorem sc_law : FnScope ("script" :: "d" :: "hands" :: "things" :: "worths" :: "factor" :: "hand" :: "grown" :: "one" :: "left" :: "order" :: "dealt" :: "alike" :: "levels_of" :: "whole" :: "ones" :: "shares" :: "best" :: "key" :: "flat" :: "level" :: "first" :: "j" :: "k" :: "number" :: "other" :: []) ["script"] (defScope s_law) := ⟨rfl, rfl, rfl, by decide +kernel, rfl, by decide +kernel, by decide +kernel⟩
def g_law : SF := sSeq (sSet 2 (x2 addD (xC (.int 1)) (xCall m__law_take (aC (xSh 1) (aC (xC (.int 3)) (aN)))))) (sSeq (sSet 3 (xCall m__law_take (aC (xSh 1) (aC (xC (.int 6)) (aN))))) (sSeq (sSet 4 (xL tupD (aC (xOf (oComp (iRg rng1D (aC (xSh 2) (aN))) (gNm 22) (tYes') (xL tupD (aC (xOf (oComp (iRg rng1D (aC (xSh 3) (aN))) (gNm 23) (tYes') (xCall m__law_take (aC (xSh 1) (aC (xC (.int 8)) (aN)))) [23])) (aN))) [22])) (aN)))) (sSeq (sTo (gTp [gNm 17, gNm 18]) (xCall m_best_product (aC (xSh 4) (aN)))) (sSeq (sIf (tOr (tV (x2 isNotD (xCall m_strongest_envy (aC (xSh 4) (aC (xSh 17) (aC (xC (.bl false)) (aN))))) (xC .non))) (tOr (tV (x2 isNotD (xCall m_better_for_all (aC (xSh 4) (aC (xSh 17) (aN)))) (xC .non))) (tV (x2 neD (x2 ixD (xNm 18) (xC (.int 0))) (xL lenD (aC (xOf (oComp (iRg rng1D (aC (xSh 2) (aN))) (gNm 6) (tV (x2 gtA (xCall m__law_own (aC (xSh 4) (aC (xSh 17) (aC (xSh 6) (aN))))) (xC (.int 0)))) (xSh 6) [6])) (aN))))))) (sRet (xC (.bl false))) (sNext)) (sSeq (sTo (gTp [gNm 19, gNm 20]) (xCall m_most_level (aC (xSh 4) (aN)))) (sSeq (sIf (tOr (tV (x2 isNotD (xCall m_better_for_all (aC (xSh 4) (aC (xSh 19) (aN)))) (xC .non))) (tOr (tV (x2 neD (xNm 20) (xL tupD (aC (xOf (oL sortO (aC (xOf (oComp (iRg rng1D (aC (xSh 2) (aN))) (gNm 6) (tYes') (xCall m__law_own (aC (xSh 4) (aC (xSh 19) (aC (xSh 6) (aN))))) [6])) (aN)))) (aN))))) (tV (x2 ltA (x2 ixD (xNm 20) (xC (.int 0))) (xL minD (aC (xOf (oComp (iRg rng1D (aC (xSh 2) (aN))) (gNm 6) (tYes') (xCall m__law_own (aC (xSh 4) (aC (xSh 17) (aC (xSh 6) (aN))))) [6])) (aN))))))) (sRet (xC (.bl false))) (sNext)) (sSeq (sSet 5 (x2 addD (xC (.int 1)) (xCall m__law_take (aC (xSh 1) (aC (xC (.int 5)) (aN)))))) (sSeq (sSet 6 (xCall m__law_take (aC (xSh 1) (aC (xSh 2) (aN))))) (sSeq (sSet 7 (x2 addD (x2 addD (xSl slD (xNm 4) none (some (xSh 6))) (xTup (aC (xL tupD (aC (xOf (oComp (iSq (x2 ixD (xNm 4) (xNm 6))) (gNm 24) (tYes') (x2 mulD (xNm 5) (xNm 24)) [24])) (aN))) (aN)))) (xSl slD (xNm 4) (some (x2 addD (xNm 6) (xC (.int 1)))) none))) (sSeq (sIf (tOr (tAnd (tV (x2 eqD (x2 ixD (xNm 18) (xC (.int 0))) (xNm 2))) (tV (x2 neD (x2 ixD (xCall m_best_product (aC (xSh 7) (aN))) (xC (.int 0))) (xNm 17)))) (tV (x2 neD (xCall m_sure_part (aC (xSh 7) (aC (xSh 6) (aN)))) (x2 mulD (xNm 5) (xCall m_sure_part (aC (xSh 4) (aC (xSh 6) (aN)))))))) (sRet (xC (.bl false))) (sNext)) (sSeq (sFor (iRg rng1D (aC (xSh 2) (aN))) (gNm 8) (sSeq (sIf (tV (x2 gtA (x2 mulD (xNm 2) (xCall m_sure_part (aC (xSh 4) (aC (xSh 8) (aN))))) (xL sumD (aC (x2 ixD (xNm 4) (xNm 8)) (aN))))) (sRet (xC (.bl false))) (sNext)) (sIf (tAnd (tV (x2 eqD (xCall m_envies (aC (xSh 4) (aC (xSh 17) (aN)))) (xTup (aN)))) (tV (x2 ltA (x2 mulD (xNm 2) (xCall m__law_own (aC (xSh 4) (aC (xSh 17) (aC (xSh 8) (aN)))))) (xL sumD (aC (x2 ixD (xNm 4) (xNm 8)) (aN)))))) (sRet (xC (.bl false))) (sNext)))) (sSeq (sOwn 9 (o1 rgo1 (xSh 2))) (sSeq (sOwn 10 (oLst (aN))) (sSeq (sWhile (tV (x2 gtA (xL lenD (aC (xNm 9) (aN))) (xC (.int 0)))) (sAppPop 10 9 (xCall m__law_take (aC (xSh 1) (aC (xL lenD (aC (xNm 9) (aN))) (aN)))))) (sSeq (sSet 11 (xCall m_in_turns (aC (xSh 4) (aC (xL tupD (aC (xNm 10) (aN))) (aN))))) (sSeq (sIf (tOr (tV (x2 isNotD (xCall m_strongest_envy (aC (xSh 4) (aC (xSh 11) (aC (xC (.bl false)) (aN))))) (xC .non))) (tV (x2 gtA (xL lenD (aC (xOf (oComp (iSq (xCall m_envies (aC (xSh 4) (aC (xSh 11) (aN))))) (gTp [gNm 8, gNm 25]) (tV (x2 ltA (x2 indexD (xNm 10) (xNm 8)) (x2 indexD (xNm 10) (xNm 25)))) (xC (.int 1)) [8, 25])) (aN))) (xC (.int 0))))) (sRet (xC (.bl false))) (sNext)) (sSeq (sIf (tV (x2 eqD (xNm 2) (xC (.int 2)))) (sSeq (sSet 21 (xCall m_in_turns (aC (xSh 4) (aC (xTup (aC (xC (.int 0)) (aC (xC (.int 1)) (aN)))) (aN))))) (sIf (tV (x2 ltA (x2 mulD (xCall m__law_own (aC (xSh 4) (aC (xSh 21) (aC (xC (.int 0)) (aN))))) (xC (.int 2))) (xL sumD (aC (x2 ixD (xNm 4) (xC (.int 0))) (aN))))) (sRet (xC (.bl false))) (sNext))) (sNext)) (sSeq (sSet 12 (x2 repT (xTup (aC (x2 ixD (xNm 4) (xC (.int 0))) (aN))) (xNm 2))) (sSeq (sSet 13 (x2 ixD (xCall m_most_level (aC (xSh 12) (aN))) (xC (.int 1)))) (sSeq (sIf (tOr (tV (x2 neD (x2 ixD (xNm 13) (xC (.int 0))) (xCall m_sure_part (aC (xSh 12) (aC (xC (.int 0)) (aN)))))) (tV (x2 neD (xL sumD (aC (xNm 13) (aN))) (xL sumD (aC (x2 ixD (xNm 4) (xC (.int 0))) (aN)))))) (sRet (xC (.bl false))) (sNext)) (sSeq (sIf (tAnd (tV (x2 gtA (xNm 3) (xC (.int 0)))) (tV (x2 gtA (x2 subD (x2 ixD (xNm 13) (x1 negD (xC (.int 1)))) (x2 ixD (xNm 13) (xC (.int 0)))) (xL maxD (aC (x2 ixD (xNm 4) (xC (.int 0))) (aN)))))) (sRet (xC (.bl false))) (sNext)) (sSeq (sSet 14 (xCall m_best_product (aC (xSh 12) (aN)))) (sSeq (sIf (tAnd (tV (x2 isNotD (xCall m_strongest_envy (aC (xSh 12) (aC (x2 ixD (xNm 14) (xC (.int 0))) (aC (xC (.bl true)) (aN))))) (xC .non))) (tV (x2 gtA (xL minD (aC (xOf (o2 catO (xOf (oComp (iSq (x2 ixD (xNm 4) (xC (.int 0)))) (gNm 24) (tYes') (xSh 24) [24])) (xOf (oLst (aC (xC (.int 1)) (aN)))))) (aN))) (xC (.int 0))))) (sRet (xC (.bl false))) (sNext)) (sSeq (sSet 15 (xL tupD (aC (xOf (o2 repO (xOf (oLst (aC (x2 repT (xTup (aC (xC (.int 1)) (aN))) (xNm 3)) (aN)))) (xNm 2))) (aN)))) (sSeq (sSet 16 (xOf (oL sortO (aC (xOf (oComp (iRg rng1D (aC (xSh 2) (aN))) (gNm 8) (tYes') (xCall m__law_own (aC (xSh 15) (aC (x2 ixD (xCall m_best_product (aC (xSh 15) (aN))) (xC (.int 0))) (aC (xSh 8) (aN))))) [8])) (aN))))) (sRet (xAnd (x2 leA (x2 subD (x2 ixD (xNm 16) (x1 negD (xC (.int 1)))) (x2 ixD (xNm 16) (xC (.int 0)))) (xC (.int 1))) (x2 eqD (x2 ixD (xCall m_most_level (aC (xSh 15) (aN))) (xC (.int 1))) (xL tupD (aC (xNm 16) (aN)))))))))))))))))))))))))))))))
theorem ok_law (B : Bi mg) (d__law_take : DefOk P w K mg base "_law_take" 1 ["d", "many"] m__law_take) (d_best_product : DefOk P w K mg base "best_product" 3 ["worths"] m_best_product) (d_most_level : DefOk P w K mg base "most_level" 3 ["worths"] m_most_level) (d_in_turns : DefOk P w K mg base "in_turns" 2 ["worths", "order"] m_in_turns) (d_strongest_envy : DefOk P w K mg base "strongest_envy" 4 ["worths", "dealt", "is_any"] m_strongest_envy) (d_better_for_all : DefOk P w K mg base "better_for_all" 3 ["worths", "dealt"] m_better_for_all) (d_sure_part : DefOk P w K mg base "sure_part" 2 ["worths", "hand"] m_sure_part) (d__law_own : DefOk P w K mg base "_law_own" 1 ["worths", "dealt", "hand"] m__law_own) (d_envies : DefOk P w K mg base "envies" 3 ["worths", "dealt"] m_envies) {f fB : Addr} {fd fdB : FuncData} (F : FnP K "law" s_law f fd) (FB : FnOk P w K mg base CX0 1 fB fdB ["script"] (spBegin K)) (bB : Binds K fdB ["script"] []) (gB : mg "_law_begin" = some (.ref fB)) (kpB : PySem.W.keepIn K (.ref fB) = true) : FnOk P w K mg base CX0 5 f fd ["script"] (spLaw K 26 g_law) :=
  have C := Fam.ent (P := P) (w := w) (K := K) (mg := mg) (base := base) (N := ("script" :: "d" :: "hands" :: "things" :: "worths" :: "factor" :: "hand" :: "grown" :: "one" :: "left" :: "order" :: "dealt" :: "alike" :: "levels_of" :: "whole" :: "ones" :: "shares" :: "best" :: "key" :: "flat" :: "level" :: "first" :: "j" :: "k" :: "number" :: "other" :: [])) (k := 4) (qual := "law") (scope := defScope s_law) (f := f) sc_law.nd
  law_ok F sc_law FB (by decide) bB gB kpB rfl (show CSs _ K ((defBody s_law).drop 1) g_law from ssCons (cSet C 2 (cBin (fun i => op_addAll (C.k i)) v_add (CE.brw (cInt)) (CE.brw (cCall C d__law_take (by decide) (caCons (cSh C 1) (caCons (cInt) (caNil))))))) (ssCons (cSet C 3 (cCall C d__law_take (by decide) (caCons (cSh C 1) (caCons (cInt) (caNil))))) (ssCons (cSet C 4 (cCallT C (fun i => c_tup (C.k i)) v_tup B.tuple bt_tuple (cbCons (CE.brw (CO.frz (oLc C [("j", 22)] (CI.w (iRng1E C B.range (caCons (cSh C 2) (caNil)))) (fun _ => blkOk_by (by rw [ent_sc]; decide +kernel)) (gName' (C.blk _) 22) (ctNone) (cCallT (C.blk _) (fun i => c_tup ((C.blk _).k i)) v_tup B.tuple bt_tuple (cbCons (CE.brw (CO.frz (oLc (C.blk _) [("k", 23)] (CI.w (iRng1E (C.blk _) B.range (caCons (cSh (C.blk _) 3) (caNil)))) (fun _ => blkOk_by (by rw [blk_sc, ent_sc]; decide +kernel)) (gName' ((C.blk _).blk _) 23) (ctNone) (cCall ((C.blk _).blk _) d__law_take (by decide) (caCons (cSh ((C.blk _).blk _) 1) (caCons (cInt) (caNil))))))) (cbNil)))))) (cbNil)))) (ssCons (cTo (cCall C d_best_product (by decide) (caCons (cSh C 4) (caNil))) (gTup' C (gsCons (gName' C 17) (gsCons (gName' C 18) (gsNil))))) (ssCons (cIfS (CW.t (wOr (tCmp (fun _ => op_notN) v_isNot (CE.brw (cCall C d_strongest_envy (by decide) (caCons (cSh C 4) (caCons (cSh C 17) (caCons (cBl) (caNil)))))) (CE.brw (cNon)) (nomark _)) (wOr (tCmp (fun _ => op_notN) v_isNot (CE.brw (cCall C d_better_for_all (by decide) (caCons (cSh C 4) (caCons (cSh C 17) (caNil))))) (CE.brw (cNon)) (nomark _)) (wOr1 (tCmp (fun i => op_neA (C.k i) (roomU (C.r i))) v_ne (CE.brw (cIx (fun i => ix_both (C.k i)) v_ix (cNm C 18) (CE.brw (cInt)) (fun _ _ => rfl))) (CE.brw (cCallB C (fun i => c_len (C.k i)) v_len B.len bt_len (cbCons (CE.brw (CO.frz (oLc C [("hand", 6)] (CI.w (iRng1E C B.range (caCons (cSh C 2) (caNil)))) (fun _ => blkOk_by (by rw [ent_sc]; decide +kernel)) (gName' (C.blk _) 6) (ctOne (tCmp (fun i => op_gtA ((C.blk _).k i) (roomU ((C.blk _).r i))) v_gtA (CE.brw (cCall (C.blk _) d__law_own (by decide) (caCons (cSh (C.blk _) 4) (caCons (cSh (C.blk _) 17) (caCons (cSh (C.blk _) 6) (caNil)))))) (CE.brw (cInt)) (nomark _))) (cSh (C.blk _) 6)))) (cbNil)))) (nomark _)))))) (ssOne (cRet (cBl))) (ssNil)) (ssCons (cTo (cCall C d_most_level (by decide) (caCons (cSh C 4) (caNil))) (gTup' C (gsCons (gName' C 19) (gsCons (gName' C 20) (gsNil))))) (ssCons (cIfS (CW.t (wOr (tCmp (fun _ => op_notN) v_isNot (CE.brw (cCall C d_better_for_all (by decide) (caCons (cSh C 4) (caCons (cSh C 19) (caNil))))) (CE.brw (cNon)) (nomark _)) (wOr (tCmp (fun i => op_neA (C.k i) (roomU (C.r i))) v_ne (cNm C 20) (CE.brw (cCallT C (fun i => c_tup (C.k i)) v_tup B.tuple bt_tuple (cbCons (CE.brw (CO.frz (oCallB C (fun i => c_sorted (C.k i) (roomU (C.r i))) v_sorted B.sorted bt_sorted (cbCons (CE.brw (CO.frz (oLc C [("hand", 6)] (CI.w (iRng1E C B.range (caCons (cSh C 2) (caNil)))) (fun _ => blkOk_by (by rw [ent_sc]; decide +kernel)) (gName' (C.blk _) 6) (ctNone) (cCall (C.blk _) d__law_own (by decide) (caCons (cSh (C.blk _) 4) (caCons (cSh (C.blk _) 19) (caCons (cSh (C.blk _) 6) (caNil)))))))) (cbNil))))) (cbNil)))) (nomark _)) (wOr1 (tCmp (fun i => op_ltA (C.k i) (roomU (C.r i))) v_ltA (CE.brw (cIx (fun i => ix_both (C.k i)) v_ix (cNm C 20) (CE.brw (cInt)) (fun _ _ => rfl))) (CE.brw (cCallB C (fun i => c_min (C.k i) (C.c i) (roomU (C.r i))) v_min B.min bt_min (cbCons (CE.brw (CO.frz (oLc C [("hand", 6)] (CI.w (iRng1E C B.range (caCons (cSh C 2) (caNil)))) (fun _ => blkOk_by (by rw [ent_sc]; decide +kernel)) (gName' (C.blk _) 6) (ctNone) (cCall (C.blk _) d__law_own (by decide) (caCons (cSh (C.blk _) 4) (caCons (cSh (C.blk _) 17) (caCons (cSh (C.blk _) 6) (caNil)))))))) (cbNil)))) (nomark _)))))) (ssOne (cRet (cBl))) (ssNil)) (ssCons (cSet C 5 (cBin (fun i => op_addAll (C.k i)) v_add (CE.brw (cInt)) (CE.brw (cCall C d__law_take (by decide) (caCons (cSh C 1) (caCons (cInt) (caNil))))))) (ssCons (cSet C 6 (cCall C d__law_take (by decide) (caCons (cSh C 1) (caCons (cSh C 2) (caNil))))) (ssCons (cSet C 7 (cBin (fun i => op_addAll (C.k i)) v_add (CE.brw (cBin (fun i => op_addAll (C.k i)) v_add (CE.brw (cSlice (fun i => sl_all (C.k i)) v_sl (cNm C 4) cpNone (cpSome (cSh C 6)))) (CE.brw (cTup (caCons (cCallT C (fun i => c_tup (C.k i)) v_tup B.tuple bt_tuple (cbCons (CE.brw (CO.frz (oLc C [("number", 24)] (iSeqB C (CE.brw (cIx (fun i => ix_both (C.k i)) v_ix (cNm C 4) (cNm C 6) (fun _ _ => rfl)))) (fun _ => blkOk_by (by rw [ent_sc]; decide +kernel)) (gName' (C.blk _) 24) (ctNone) (cBin (fun _ => op_mulW) v_mul (cNm (C.blk _) 5) (cNm (C.blk _) 24))))) (cbNil))) (caNil)))))) (CE.brw (cSlice (fun i => sl_all (C.k i)) v_sl (cNm C 4) (cpSome (cBin (fun i => op_addAll (C.k i)) v_add (cNm C 6) (CE.brw (cInt)))) cpNone)))) (ssCons (cIfS (CW.t (wOr (CW.t (wAnd (tCmp (fun i => op_eqA (C.k i) (roomU (C.r i))) v_eq (CE.brw (cIx (fun i => ix_both (C.k i)) v_ix (cNm C 18) (CE.brw (cInt)) (fun _ _ => rfl))) (cNm C 2) (nomark _)) (wAnd1 (tCmp (fun i => op_neA (C.k i) (roomU (C.r i))) v_ne (CE.brw (cIx (fun i => ix_both (C.k i)) v_ix (CE.brw (cCall C d_best_product (by decide) (caCons (cSh C 7) (caNil)))) (CE.brw (cInt)) (fun _ _ => rfl))) (cNm C 17) (nomark _))))) (wOr1 (tCmp (fun i => op_neA (C.k i) (roomU (C.r i))) v_ne (CE.brw (cCall C d_sure_part (by decide) (caCons (cSh C 7) (caCons (cSh C 6) (caNil))))) (CE.brw (cBin (fun _ => op_mulW) v_mul (cNm C 5) (CE.brw (cCall C d_sure_part (by decide) (caCons (cSh C 4) (caCons (cSh C 6) (caNil))))))) (nomark _))))) (ssOne (cRet (cBl))) (ssNil)) (ssCons (cFor C (fun _ => PassesOwn.never) (iRng1E C B.range (caCons (cSh C 2) (caNil))) (gName' C 8) (ssCons (cIfS (tCmp (fun i => op_gtA (C.k i) (roomU (C.r i))) v_gtA (CE.brw (cBin (fun _ => op_mulW) v_mul (cNm C 2) (CE.brw (cCall C d_sure_part (by decide) (caCons (cSh C 4) (caCons (cSh C 8) (caNil))))))) (CE.brw (cCallB C (fun i => c_sum (C.k i) (C.c i)) v_sum B.sum bt_sum (cbCons (CE.brw (cIx (fun i => ix_both (C.k i)) v_ix (cNm C 4) (cNm C 8) (fun _ _ => rfl))) (cbNil)))) (nomark _)) (ssOne (cRet (cBl))) (ssNil)) (ssOne (cIfS (CW.t (wAnd (tCmp (fun i => op_eqA (C.k i) (roomU (C.r i))) v_eq (CE.brw (cCall C d_envies (by decide) (caCons (cSh C 4) (caCons (cSh C 17) (caNil))))) (CE.brw (cTup (caNil))) (nomark _)) (wAnd1 (tCmp (fun i => op_ltA (C.k i) (roomU (C.r i))) v_ltA (CE.brw (cBin (fun _ => op_mulW) v_mul (cNm C 2) (CE.brw (cCall C d__law_own (by decide) (caCons (cSh C 4) (caCons (cSh C 17) (caCons (cSh C 8) (caNil)))))))) (CE.brw (cCallB C (fun i => c_sum (C.k i) (C.c i)) v_sum B.sum bt_sum (cbCons (CE.brw (cIx (fun i => ix_both (C.k i)) v_ix (cNm C 4) (cNm C 8) (fun _ _ => rfl))) (cbNil)))) (nomark _))))) (ssOne (cRet (cBl))) (ssNil))))) (ssCons (cOwn C 9 (oListRg1 C B.list B.range (cSh C 2))) (ssCons (cOwn C 10 (oList (caNil))) (ssCons (cWhile (fun _ => PassesOwn.never) (tCmp (fun i => op_gtA (C.k i) (roomU (C.r i))) v_gtA (CE.brw (cCallB C (fun i => c_len (C.k i)) v_len B.len bt_len (cbCons (cNm C 9) (cbNil)))) (CE.brw (cInt)) (nomark _)) (ssOne (cAppPop C 10 9 (cCall C d__law_take (by decide) (caCons (cSh C 1) (caCons (cCallB C (fun i => c_len (C.k i)) v_len B.len bt_len (cbCons (cNm C 9) (cbNil))) (caNil))))))) (ssCons (cSet C 11 (cCall C d_in_turns (by decide) (caCons (cSh C 4) (caCons (cCallT C (fun i => c_tup (C.k i)) v_tup B.tuple bt_tuple (cbCons (cNm C 10) (cbNil))) (caNil))))) (ssCons (cIfS (CW.t (wOr (tCmp (fun _ => op_notN) v_isNot (CE.brw (cCall C d_strongest_envy (by decide) (caCons (cSh C 4) (caCons (cSh C 11) (caCons (cBl) (caNil)))))) (CE.brw (cNon)) (nomark _)) (wOr1 (tCmp (fun i => op_gtA (C.k i) (roomU (C.r i))) v_gtA (CE.brw (cCallB C (fun i => c_len (C.k i)) v_len B.len bt_len (cbCons (CE.brw (CO.frz (oLc C [("one", 8), ("other", 25)] (iSeqB C (CE.brw (cCall C d_envies (by decide) (caCons (cSh C 4) (caCons (cSh C 11) (caNil)))))) (fun _ => blkOk_by (by rw [ent_sc]; decide +kernel)) (gTup' (C.blk _) (gsCons (gName' (C.blk _) 8) (gsCons (gName' (C.blk _) 25) (gsNil)))) (ctOne (tCmp (fun i => op_ltA ((C.blk _).k i) (roomU ((C.blk _).r i))) v_ltA (CE.brw (cIndex (C.blk _) (cNm (C.blk _) 10) (cNm (C.blk _) 8))) (CE.brw (cIndex (C.blk _) (cNm (C.blk _) 10) (cNm (C.blk _) 25))) (nomark _))) (cInt)))) (cbNil)))) (CE.brw (cInt)) (nomark _))))) (ssOne (cRet (cBl))) (ssNil)) (ssCons (cIfS (tCmp (fun i => op_eqA (C.k i) (roomU (C.r i))) v_eq (cNm C 2) (CE.brw (cInt)) (nomark _)) (ssCons (cSet C 21 (cCall C d_in_turns (by decide) (caCons (cSh C 4) (caCons (cTup (caCons (cInt) (caCons (cInt) (caNil)))) (caNil))))) (ssOne (cIfS (tCmp (fun i => op_ltA (C.k i) (roomU (C.r i))) v_ltA (CE.brw (cBin (fun _ => op_mulW) v_mul (CE.brw (cCall C d__law_own (by decide) (caCons (cSh C 4) (caCons (cSh C 21) (caCons (cInt) (caNil)))))) (CE.brw (cInt)))) (CE.brw (cCallB C (fun i => c_sum (C.k i) (C.c i)) v_sum B.sum bt_sum (cbCons (CE.brw (cIx (fun i => ix_both (C.k i)) v_ix (cNm C 4) (CE.brw (cInt)) (fun _ _ => rfl))) (cbNil)))) (nomark _)) (ssOne (cRet (cBl))) (ssNil)))) (ssNil)) (ssCons (cSet C 12 (cBin (fun i => op_repTA (C.k i)) v_repT (CE.brw (cTup (caCons (cIx (fun i => ix_both (C.k i)) v_ix (cNm C 4) (CE.brw (cInt)) (fun _ _ => rfl)) (caNil)))) (cNm C 2))) (ssCons (cSet C 13 (cIx (fun i => ix_both (C.k i)) v_ix (CE.brw (cCall C d_most_level (by decide) (caCons (cSh C 12) (caNil)))) (CE.brw (cInt)) (fun _ _ => rfl))) (ssCons (cIfS (CW.t (wOr (tCmp (fun i => op_neA (C.k i) (roomU (C.r i))) v_ne (CE.brw (cIx (fun i => ix_both (C.k i)) v_ix (cNm C 13) (CE.brw (cInt)) (fun _ _ => rfl))) (CE.brw (cCall C d_sure_part (by decide) (caCons (cSh C 12) (caCons (cInt) (caNil))))) (nomark _)) (wOr1 (tCmp (fun i => op_neA (C.k i) (roomU (C.r i))) v_ne (CE.brw (cCallB C (fun i => c_sum (C.k i) (C.c i)) v_sum B.sum bt_sum (cbCons (cNm C 13) (cbNil)))) (CE.brw (cCallB C (fun i => c_sum (C.k i) (C.c i)) v_sum B.sum bt_sum (cbCons (CE.brw (cIx (fun i => ix_both (C.k i)) v_ix (cNm C 4) (CE.brw (cInt)) (fun _ _ => rfl))) (cbNil)))) (nomark _))))) (ssOne (cRet (cBl))) (ssNil)) (ssCons (cIfS (CW.t (wAnd (tCmp (fun i => op_gtA (C.k i) (roomU (C.r i))) v_gtA (cNm C 3) (CE.brw (cInt)) (nomark _)) (wAnd1 (tCmp (fun i => op_gtA (C.k i) (roomU (C.r i))) v_gtA (CE.brw (cBin (fun _ => op_sub) v_sub (CE.brw (cIx (fun i => ix_both (C.k i)) v_ix (cNm C 13) (CE.brw (cUn (fun _ => un_neg) v_neg (CE.brw (cInt)))) (fun _ _ => rfl))) (CE.brw (cIx (fun i => ix_both (C.k i)) v_ix (cNm C 13) (CE.brw (cInt)) (fun _ _ => rfl))))) (CE.brw (cCallB C (fun i => c_max (C.k i) (C.c i) (roomU (C.r i))) v_max B.max bt_max (cbCons (CE.brw (cIx (fun i => ix_both (C.k i)) v_ix (cNm C 4) (CE.brw (cInt)) (fun _ _ => rfl))) (cbNil)))) (nomark _))))) (ssOne (cRet (cBl))) (ssNil)) (ssCons (cSet C 14 (cCall C d_best_product (by decide) (caCons (cSh C 12) (caNil)))) (ssCons (cIfS (CW.t (wAnd (tCmp (fun _ => op_notN) v_isNot (CE.brw (cCall C d_strongest_envy (by decide) (caCons (cSh C 12) (caCons (cIx (fun i => ix_both (C.k i)) v_ix (cNm C 14) (CE.brw (cInt)) (fun _ _ => rfl)) (caCons (cBl) (caNil)))))) (CE.brw (cNon)) (nomark _)) (wAnd1 (tCmp (fun i => op_gtA (C.k i) (roomU (C.r i))) v_gtA (CE.brw (cCallB C (fun i => c_min (C.k i) (C.c i) (roomU (C.r i))) v_min B.min bt_min (cbCons (CE.brw (CO.frz (oBin (fun _ => op_cat) v_catO (CE.brw (CO.frz (oLc C [("number", 24)] (iSeqB C (CE.brw (cIx (fun i => ix_both (C.k i)) v_ix (cNm C 4) (CE.brw (cInt)) (fun _ _ => rfl)))) (fun _ => blkOk_by (by rw [ent_sc]; decide +kernel)) (gName' (C.blk _) 24) (ctNone) (cSh (C.blk _) 24)))) (CE.brw (CO.frz (oList (caCons (cInt) (caNil)))))))) (cbNil)))) (CE.brw (cInt)) (nomark _))))) (ssOne (cRet (cBl))) (ssNil)) (ssCons (cSet C 15 (cCallT C (fun i => c_tup (C.k i)) v_tup B.tuple bt_tuple (cbCons (CE.brw (CO.frz (oBin (fun _ => op_rep) v_repO (CE.brw (CO.frz (oList (caCons (cBin (fun i => op_repTA (C.k i)) v_repT (CE.brw (cTup (caCons (cInt) (caNil)))) (cNm C 3)) (caNil))))) (cNm C 2)))) (cbNil)))) (ssCons (cSet C 16 (CO.frz (oCallB C (fun i => c_sorted (C.k i) (roomU (C.r i))) v_sorted B.sorted bt_sorted (cbCons (CE.brw (CO.frz (oLc C [("one", 8)] (CI.w (iRng1E C B.range (caCons (cSh C 2) (caNil)))) (fun _ => blkOk_by (by rw [ent_sc]; decide +kernel)) (gName' (C.blk _) 8) (ctNone) (cCall (C.blk _) d__law_own (by decide) (caCons (cSh (C.blk _) 15) (caCons (cIx (fun i => ix_both ((C.blk _).k i)) v_ix (CE.brw (cCall (C.blk _) d_best_product (by decide) (caCons (cSh (C.blk _) 15) (caNil)))) (CE.brw (cInt)) (fun _ _ => rfl)) (caCons (cSh (C.blk _) 8) (caNil)))))))) (cbNil))))) (ssOne (cRet (cAnd (cCmp (fun i => op_leA (C.k i) (roomU (C.r i))) v_leA (CE.brw (cBin (fun _ => op_sub) v_sub (CE.brw (cIx (fun i => ix_both (C.k i)) v_ix (cNm C 16) (CE.brw (cUn (fun _ => un_neg) v_neg (CE.brw (cInt)))) (fun _ _ => rfl))) (CE.brw (cIx (fun i => ix_both (C.k i)) v_ix (cNm C 16) (CE.brw (cInt)) (fun _ _ => rfl))))) (CE.brw (cInt)) (nomark _)) (cOne (cCmp (fun i => op_eqA (C.k i) (roomU (C.r i))) v_eq (CE.brw (cIx (fun i => ix_both (C.k i)) v_ix (CE.brw (cCall C d_most_level (by decide) (caCons (cSh C 15) (caNil)))) (CE.brw (cInt)) (fun _ _ => rfl))) (CE.brw (cCallT C (fun i => c_tup (C.k i)) v_tup B.tuple bt_tuple (cbCons (cNm C 16) (cbNil)))) (nomark _)))))))))))))))))))))))))))))))) rfl rfl 26
end
end Lw
set_option maxHeartbeats 1000000
namespace Lw
/-! ### sums -/
def S : Nat → (Nat → Nat) → Nat
  | 0, _ => 0
  | n + 1, f => S n f + f n
theorem S_le : ∀ {n : Nat} {f g : Nat → Nat}, (∀ i, i < n → f i ≤ g i) → S n f ≤ S n g
  | 0, _, _, _ => Nat.le_refl _
  | n + 1, f, g, h => Nat.add_le_add (S_le fun i hi => h i (by omega)) (h n (by omega))
theorem S_lt {n : Nat} {f g : Nat → Nat} (h : ∀ i, i < n → f i ≤ g i) {j : Nat} (hj : j < n) (hl : f j < g j) : S n f < S n g := by
  induction n with
  | zero => omega
  | succ n ih =>
    show S n f + f n < S n g + g n
    have a := h n (by omega)
    by_cases e : j = n
    · subst e
      have : S j f ≤ S j g := S_le fun i hi => h i (by omega)
      omega
    · have := ih (fun i hi => h i (by omega)) (by omega)
      omega
theorem S_ex {n : Nat} {f g : Nat → Nat} (h : S n f < S n g) : ∃ i, i < n ∧ f i < g i := by
  refine Classical.byContradiction fun c => ?_
  have : S n g ≤ S n f := S_le fun i hi => by
    refine Nat.le_of_not_lt fun z => c ⟨i, hi, z⟩
  omega
theorem S_other {n : Nat} {f g : Nat → Nat} (h : S n f = S n g) {i : Nat} (hi : i < n) (hl : f i < g i) : ∃ j, j < n ∧ g j < f j := by
  refine Classical.byContradiction fun c => ?_
  have : S n f < S n g := S_lt (fun j hj => Nat.le_of_not_lt fun z => c ⟨j, hj, z⟩) hi hl
  omega
theorem S_add : ∀ (n : Nat) (f g : Nat → Nat), S n (fun i => f i + g i) = S n f + S n g
  | 0, _, _ => rfl
  | n + 1, f, g => by simp only [S, S_add n f g]; omega
theorem S_mul (c : Nat) : ∀ (n : Nat) (f : Nat → Nat), S n (fun i => c * f i) = c * S n f
  | 0, _ => rfl
  | n + 1, f => by simp only [S, S_mul c n f, Nat.mul_add]
theorem S_congr : ∀ {n : Nat} {f g : Nat → Nat}, (∀ i, i < n → f i = g i) → S n f = S n g
  | 0, _, _, _ => rfl
  | n + 1, f, g, h => by
    have a : S n f = S n g := S_congr fun i hi => h i (by omega)
    have b := h n (by omega)
    show S n f + f n = S n g + g n
    rw [a, b]
theorem S_bump {n : Nat} {f : Nat → Nat} {x : Nat} (hx : x < n) : S n (fun i => if i = x then f i + 1 else f i) = S n f + 1 := by
  induction n with
  | zero => omega
  | succ n ih =>
    by_cases e : x = n
    · subst e
      simp only [S, if_pos]
      rw [S_congr (f := fun i => if i = x then f i + 1 else f i) (g := f) (fun i hi => if_neg (by omega))]
      omega
    · simp only [S, if_neg (show ¬ n = x by omega)]
      rw [ih (by omega)]
      omega
theorem S_split {n : Nat} {f : Nat → Nat} {k : Nat} (hk : k < n) : S n f = S n (fun i => if i = k then 0 else f i) + f k := by
  induction n with
  | zero => omega
  | succ n ih =>
    by_cases e : k = n
    · subst e
      simp only [S, if_pos]
      rw [S_congr (f := fun i => if i = k then 0 else f i) (g := f) (fun i hi => if_neg (by omega))]
      omega
    · simp only [S, if_neg (show ¬ n = k by omega)]
      rw [ih (by omega)]
      omega
theorem filt_S (p : Nat → Bool) (f : Nat → Nat) : ∀ m, (((List.range m).filter p).map f).sum = S m (fun i => if p i then f i else 0)
  | 0 => rfl
  | m + 1 => by
    rw [List.range_succ, List.filter_append, List.map_append, List.sum_append, filt_S p f m]
    show _ = S m _ + _
    congr 1
    by_cases h : p m <;> simp [h]
theorem S_zero : ∀ n, S n (fun _ => 0) = 0
  | 0 => rfl
  | n + 1 => by show S n _ + 0 = 0; rw [S_zero n]
theorem S_const (q : Nat) : ∀ m, S m (fun _ => q) = m * q
  | 0 => by simp [S]
  | m + 1 => by show S m _ + q = _; rw [S_const q m, Nat.add_mul]; omega
theorem S_swap (f : Nat → Nat → Nat) (n : Nat) : ∀ m, S m (fun k => S n (fun j => f j k)) = S n (fun j => S m (fun k => f j k))
  | 0 => (S_zero n).symm
  | m + 1 => by
    show S m _ + S n _ = S n (fun j => S m (f j) + f j m)
    rw [S_add, S_swap f n m]
theorem S_one {n : Nat} {j : Nat} (hj : j < n) (x : Nat) : S n (fun i => if i = j then x else 0) = x := by
  rw [S_split hj, if_pos rfl, S_congr (g := fun _ => 0) (fun i _ => by by_cases h : i = j <;> simp [h]), S_zero]; omega
theorem S_le1 {n : Nat} {f : Nat → Nat} {k : Nat} (hk : k < n) : f k ≤ S n f := by rw [S_split hk]; omega
theorem sum_S (l : List Nat) : l.sum = S l.length (fun i => l.getD i 0) := by
  have h := filt_S (fun _ => true) (fun i => l.getD i 0) l.length
  simp only [if_true] at h
  rw [← h]
  congr 1
  rw [List.filter_eq_self.mpr (by simp)]
  refine List.ext_getElem (by simp) fun i h1 h2 => ?_
  simp [h1]
/-! ### things dealt out: worths, dealings, piles -/
abbrev Ws := List (List Nat)
structure Wt (ws : Ws) (n m : Nat) : Prop where
  hn : ws.length = n
  h1 : 1 ≤ n
  h4 : n ≤ 4
  h7 : m ≤ 7
  rows : ∀ r ∈ ws, r.length = m ∧ ∀ x ∈ r, x < 1000
def wv (ws : Ws) (j k : Nat) : Nat := (ws.getD j []).getD k 0
structure Dl (n m : Nat) (d : List Nat) : Prop where
  len : d.length = m
  lt : ∀ x ∈ d, x < n
def at0 (d : List Nat) (k : Nat) : Nat := d.getD k 0
def pile (d : List Nat) (j : Nat) : List Nat := (List.range d.length).filter fun k => decide (at0 d k = j)
def Vl (f : Nat → Nat) (d : List Nat) (j : Nat) : Nat := ((pile d j).map f).sum
theorem Vl_S (f : Nat → Nat) (d : List Nat) (j : Nat) : Vl f d j = S d.length fun k => if at0 d k = j then f k else 0 := by
  unfold Vl pile
  rw [filt_S]
  exact S_congr fun k _ => by by_cases h : at0 d k = j <;> simp [h]
theorem at0_lt {n m : Nat} {d : List Nat} (D : Dl n m d) {k : Nat} (hk : k < m) : at0 d k < n := by
  have hk : k < d.length := by rw [D.len]; exact hk
  unfold at0
  rw [List.getD_eq_getElem?_getD, List.getElem?_eq_getElem hk]
  exact D.lt _ (List.getElem_mem hk)
/-- all that is dealt out, is in one pile -/
theorem Vl_all {n m : Nat} {d : List Nat} (D : Dl n m d) (f : Nat → Nat) : S n (fun j => Vl f d j) = S m f := by
  rw [S_congr (fun j _ => Vl_S f d j), D.len, ← S_swap (fun j k => if at0 d k = j then f k else 0)]
  refine S_congr fun k hk => ?_
  rw [S_congr (g := fun j => if j = at0 d k then f k else 0) (fun j _ => by
    by_cases h : at0 d k = j
    · rw [if_pos h, if_pos h.symm]
    · rw [if_neg h, if_neg fun z => h z.symm])]
  exact S_one (at0_lt D hk) _
/-- a thing goes over to another hand -/
theorem set_Dl {n m : Nat} {d : List Nat} (D : Dl n m d) (g : Nat) {i : Nat} (hi : i < n) : Dl n m (d.set g i) := ⟨by simp [D.len], fun x hx => by
  rcases List.mem_or_eq_of_mem_set hx with h | rfl
  · exact D.lt x h
  · exact hi⟩
theorem at0_set {d : List Nat} {g : Nat} (hg : g < d.length) (i k : Nat) : at0 (d.set g i) k = if k = g then i else at0 d k := by
  unfold at0
  rw [List.getD_eq_getElem?_getD, List.getD_eq_getElem?_getD, List.getElem?_set]
  by_cases h : g = k
  · subst h; simp [hg]
  · rw [if_neg h, if_neg (fun z => h z.symm)]
theorem Vl_set {d : List Nat} {g : Nat} (hg : g < d.length) (f : Nat → Nat) {i : Nat} (hne : at0 d g ≠ i) (j : Nat) :
    Vl f (d.set g i) j + (if j = at0 d g then f g else 0) = Vl f d j + if j = i then f g else 0 := by
  rw [Vl_S, Vl_S, List.length_set]
  rw [S_split hg, S_split (f := fun k => if at0 d k = j then f k else 0) hg]
  have e : S d.length (fun k => if k = g then 0 else if at0 (d.set g i) k = j then f k else 0) = S d.length (fun k => if k = g then 0 else if at0 d k = j then f k else 0) := S_congr fun k _ => by
    by_cases h : k = g
    · rw [if_pos h, if_pos h]
    · rw [if_neg h, if_neg h, at0_set hg, if_neg h]
  rw [e, at0_set hg, if_pos rfl]
  by_cases h1 : i = j
  · rw [if_neg (show ¬ j = at0 d g from fun z => hne (by rw [h1, z])), if_pos h1, if_neg (show ¬ at0 d g = j from fun z => hne (by rw [h1, z])), if_pos h1.symm]; omega
  · by_cases h2 : at0 d g = j
    · rw [if_pos h2.symm, if_neg h1, if_pos h2, if_neg (show ¬ j = i from fun z => h1 z.symm)]; omega
    · rw [if_neg (show ¬ j = at0 d g from fun z => h2 z.symm), if_neg h1, if_neg h2, if_neg (show ¬ j = i from fun z => h1 z.symm)]
theorem Vl_mul (c : Nat) (f : Nat → Nat) (d : List Nat) (j : Nat) : Vl (fun k => c * f k) d j = c * Vl f d j := by
  rw [Vl_S, Vl_S, ← S_mul]
  exact S_congr fun k _ => by by_cases h : at0 d k = j <;> simp [h]
theorem Vl_congr {f g : Nat → Nat} {d : List Nat} (h : ∀ k, k < d.length → f k = g k) (j : Nat) : Vl f d j = Vl g d j := by
  rw [Vl_S, Vl_S]
  exact S_congr fun k hk => by by_cases e : at0 d k = j <;> simp [e, h k hk]
theorem mem_pile {d : List Nat} {j k : Nat} : k ∈ pile d j ↔ k < d.length ∧ at0 d k = j := by simp [pile]
theorem Vl_ge {f : Nat → Nat} {d : List Nat} {j k : Nat} (h : k ∈ pile d j) : f k ≤ Vl f d j := by
  obtain ⟨h1, h2⟩ := mem_pile.mp h
  rw [Vl_S]
  have := S_le1 (f := fun k => if at0 d k = j then f k else 0) h1
  simpa [h2] using this
theorem Vl_pos {f : Nat → Nat} {d : List Nat} {j : Nat} (h : 0 < Vl f d j) : ∃ k ∈ pile d j, 0 < f k := by
  rw [Vl_S] at h
  have h' : S d.length (fun _ => 0) < S d.length fun k => if at0 d k = j then f k else 0 := by rw [S_zero]; exact h
  obtain ⟨k, hk, hl⟩ := S_ex h'
  by_cases e : at0 d k = j
  · exact ⟨k, mem_pile.mpr ⟨hk, e⟩, by simpa [e] using hl⟩
  · simp [e] at hl
theorem Vl_small {f : Nat → Nat} {d : List Nat} {j : Nat} (hd : d.length ≤ 7) (h : ∀ k, k < d.length → f k < 1000) : Vl f d j < 8000 := by
  rw [Vl_S]
  have := S_le (n := d.length) (f := fun k => if at0 d k = j then f k else 0) (g := fun _ => 1000) (fun k hk => by have := h k hk; by_cases e : at0 d k = j <;> simp [e]; omega)
  rw [S_const] at this
  omega
end Lw
set_option maxHeartbeats 1000000
namespace Lw
open PySem PySem.Spec PyProof.Rows L2 Pu
theorem take_eq : m__law_take = mTake := rfl
abbrev wD (ws : Ws) : D := .tup (ws.map EnQ.e)
abbrev rD (r : List Nat) : D := .tup (r.map EnQ.e)
theorem ix_nat (l : List Nat) {k : Nat} (h : k < l.length) : ixD (rD l) (.int (k : Nat)) = some (.int (at0 l k : Nat)) := by
  rw [ixD_tn, List.getElem?_map, List.getElem?_eq_getElem h]
  unfold at0
  rw [List.getD_eq_getElem?_getD, List.getElem?_eq_getElem h]; rfl
theorem ixL_nat (l : List Nat) {k : Nat} (h : k < l.length) : ixD (.lst (l.map EnQ.e)) (.int (k : Nat)) = some (.int (at0 l k : Nat)) := by
  rw [ixD_ln, List.getElem?_map, List.getElem?_eq_getElem h]
  unfold at0
  rw [List.getD_eq_getElem?_getD, List.getElem?_eq_getElem h]; rfl
def row (ws : Ws) (j : Nat) : List Nat := ws.getD j []
theorem row_mem {ws : Ws} {j : Nat} (h : j < ws.length) : row ws j ∈ ws := by
  unfold row
  rw [List.getD_eq_getElem?_getD, List.getElem?_eq_getElem h]
  exact List.getElem_mem h
theorem ix_row (ws : Ws) {j : Nat} (h : j < ws.length) : ixD (wD ws) (.int (j : Nat)) = some (rD (row ws j)) := by
  rw [ixD_tn, List.getElem?_map, List.getElem?_eq_getElem h]
  unfold row
  rw [List.getD_eq_getElem?_getD, List.getElem?_eq_getElem h]; rfl
theorem ix_row0 (ws : Ws) (h : 0 < ws.length) : ixD (wD ws) (.int 0) = some (rD (row ws 0)) := ix_row ws h
theorem Wt.row {ws : Ws} {n m : Nat} (W : Wt ws n m) {j : Nat} (h : j < n) : (row ws j).length = m ∧ ∀ x ∈ row ws j, x < 1000 := W.rows _ (row_mem (by rw [W.hn]; exact h))
theorem Wt.sm {ws : Ws} {n m : Nat} (W : Wt ws n m) {j k : Nat} (h : j < n) (hk : k < m) : wv ws j k < 1000 := by
  obtain ⟨a, b⟩ := W.row h
  show (Lw.row ws j).getD k 0 < 1000
  have hk : k < (Lw.row ws j).length := by omega
  rw [List.getD_eq_getElem?_getD, List.getElem?_eq_getElem hk]
  exact b _ (List.getElem_mem hk)
theorem wv_at0 (ws : Ws) (j k : Nat) : wv ws j k = at0 (row ws j) k := rfl
theorem check_division_eq {ws : Ws} {n m : Nat} (W : Wt ws n m) (s : DS) : m_check_division [wD ws] s = some (.non, s) := by
  refine def_eq (fun s => ?_) s
  refine wp_def rfl ?_
  have h1 := W.h1
  have h4 := W.h4
  have hn := W.hn
  have h7 := W.h7
  have h0 := ix_row0 ws (by omega)
  have r0 := (W.row (show 0 < n by omega)).1
  simp [g_check_division, List.replicate, c_MOST_HANDS, c_MOST_THINGS, hn]
  refine ⟨by omega, by omega, ?_⟩
  refine wp_rest EnQ.e (fun rest ρ s' => s' = s ∧ (∀ r ∈ rest, r ∈ ws) ∧ ∃ x1, ρ = [.sh (wD ws), x1]) ws (fun r rest ρ s' hJ => ?_) (fun ρ s' hJ => ?_) ⟨rfl, fun r h => h, _, rfl⟩
  · obtain ⟨rfl, hm, x1, rfl⟩ := hJ
    obtain ⟨rl, _⟩ := W.rows r (hm r (by simp))
    refine ⟨_, rfl, ?_⟩
    have hmin : r ≠ [] → ∃ z : Nat, minD [rD r] = some (.int (z : Nat)) := fun h => by
      cases r with
      | nil => exact absurd rfl h
      | cons z zs => exact ⟨_, min_seq (α := Nat) (by decide) rfl⟩
    have hr : ∀ x ∈ rest, x ∈ ws := fun x hx => hm x (by simp [hx])
    by_cases he : r = []
    · subst he
      have hm0 : m = 0 := by simpa using rl.symm
      subst hm0
      simp [e_L, h0, r0, -ixD_tn]
      exact hr
    · obtain ⟨z, hz⟩ := hmin he
      have hne : (List.map EnQ.e r : List D).isEmpty = false := by cases r <;> simp at he ⊢
      simp [e_L, h0, r0, rl, hz, he, -ixD_tn]
      refine ⟨by omega, ?_⟩
      exact hr
  · obtain ⟨rfl, hm, x1, rfl⟩ := hJ
    simp
theorem check_dealt_eq {ws : Ws} {n m : Nat} (W : Wt ws n m) {d : List Nat} (Q : Dl n m d) (s : DS) : m_check_dealt [wD ws, rD d] s = some (.non, s) := by
  refine def_eq (fun s => ?_) s
  refine wp_def rfl ?_
  have h1 := W.h1
  have hn := W.hn
  have h0 := ix_row0 ws (by omega)
  have r0 := (W.row (show 0 < n by omega)).1
  have ql := Q.len
  simp [g_check_dealt, List.replicate, wp_eq (check_division_eq W), h0, r0, ql, hn, wipeR, -ixD_tn]
  refine wp_compT (f := fun _ : Nat => .bl true) _ (fun x hx => ⟨_, rfl, fun s => ?_⟩) ?_
  · have := Q.lt x hx
    simp [e_N, hn]
    omega
  · simp
theorem pile_eq (d : List Nat) (j : Nat) (s : DS) : m_pile_of [rD d, .int (j : Nat)] s = some (rD (pile d j), s) := by
  refine def_eq (fun s => ?_) s
  refine wp_def rfl ?_
  have e : (d.zipIdx.map fun p => D.tup [.int (p.2 : Nat), EnQ.e p.1]) = (List.range d.length).map fun k => D.tup [.int (k : Nat), .int (at0 d k : Nat)] := by
    refine List.ext_getElem (by simp) fun i h1 h2 => ?_
    have h : i < d.length := by simpa using h1
    simp [at0, h, e_N]
  simp [g_pile_of, List.replicate, enD, enL_map, e, wipeR]
  refine wp_compF (p := fun k : Nat => decide (at0 d k = j)) (f := fun k : Nat => D.int (k : Nat)) _ (fun k hk => ⟨_, rfl, fun s => ⟨?_, fun _ => ?_⟩⟩) ?_
  · simp; omega
  · simp
  · simp [pile, e_N]
theorem worth_eq {ws : Ws} {n m : Nat} (W : Wt ws n m) {h : Nat} (hh : h < n) {p : List Nat} (hp : ∀ k ∈ p, k < m) (s : DS) :
    m_worth_of [wD ws, .int (h : Nat), rD p] s = some (.int ((p.map (wv ws h)).sum : Nat), s) := by
  refine def_eq (fun s => ?_) s
  refine wp_def rfl ?_
  have e1 := ix_row ws (j := h) (by rw [W.hn]; exact hh)
  have rl := (W.row hh).1
  simp [g_worth_of, List.replicate, wipeR]
  refine wp_compT (f := fun k : Nat => D.int (wv ws h k : Nat)) _ (fun k hk => ⟨_, rfl, fun s => ?_⟩) ?_
  · have e2 := ix_nat (Lw.row ws h) (k := k) (by rw [rl]; exact hp k hk)
    simp only [e_N]
    simp [e1, e2, -ixD_tn, wv_at0]
  · have e3 : sumD [.lst (p.map fun k : Nat => D.int (wv ws h k : Nat))] = some (.int ((p.map (wv ws h)).sum : Nat)) := by
      rw [sumL_f (fun k : Nat => ((wv ws h k : Nat) : Int))]
      congr 2
      induction p with
      | nil => rfl
      | cons a l ih => simp [ih (fun k hk => hp k (by simp [hk]))]
    simp [e3]
theorem pile_lt {n m : Nat} {d : List Nat} (Q : Dl n m d) (j : Nat) : ∀ k ∈ pile d j, k < m := fun k hk => by rw [← Q.len]; exact (mem_pile.mp hk).1
/-- what a hand's pile is worth to it -/
theorem val_eq {ws : Ws} {n m : Nat} (W : Wt ws n m) {d : List Nat} (Q : Dl n m d) {h : Nat} (hh : h < n) (j : Nat) (s : DS) : m_worth_of [wD ws, .int (h : Nat), rD (pile d j)] s = some (.int (Vl (wv ws h) d j : Nat), s) :=
  worth_eq W hh (pile_lt Q j) s
theorem own_eq {ws : Ws} {n m : Nat} (W : Wt ws n m) {d : List Nat} (Q : Dl n m d) {h : Nat} (hh : h < n) (s : DS) : m__law_own [wD ws, rD d, .int (h : Nat)] s = some (.int (Vl (wv ws h) d h : Nat), s) := by
  refine def_eq (fun s => ?_) s
  refine wp_def rfl ?_
  have h7 := W.h7
  have ql := Q.len
  have hr : rng1D [.int (d.length : Nat)] = some ((List.range d.length).map EnQ.e) := rng1_n (by omega)
  have e1 := ix_row ws (j := h) (by rw [W.hn]; exact hh)
  have rl := (W.row hh).1
  simp [g__law_own, List.replicate, wipeR, hr]
  refine wp_compF (p := fun k : Nat => decide (at0 d k = h)) (f := fun k : Nat => D.int (wv ws h k : Nat)) _ (fun k hk => ?_) ?_
  · have hk := List.mem_range.mp hk
    have e2 := ix_nat (Lw.row ws h) (k := k) (by omega)
    have e4 := ix_nat d hk
    refine ⟨_, rfl, fun s => ⟨?_, fun _ => ?_⟩⟩
    · simp only [e_N]
      simp [e4, -ixD_tn]
      omega
    · simp only [e_N]
      simp [e1, e2, -ixD_tn, wv_at0]
  · have e3 : ∀ p : List Nat, sumD [.lst (p.map fun k : Nat => D.int (wv ws h k : Nat))] = some (.int ((p.map (wv ws h)).sum : Nat)) := fun p => by
      rw [sumL_f (fun k : Nat => ((wv ws h k : Nat) : Int))]
      congr 2
      induction p with
      | nil => rfl
      | cons a l ih => simp [ih]
    have := e3 (pile d h)
    unfold pile at this
    simp [this]
    rfl
end Lw
set_option maxHeartbeats 1000000
namespace Lw
open PySem PySem.Spec PyProof.Rows L2 Pu
def vals (ws : Ws) (n : Nat) (d : List Nat) : List Nat := (List.range n).map fun h => Vl (wv ws h) d h
theorem vals_len (ws : Ws) (n : Nat) (d : List Nat) : (vals ws n d).length = n := by simp [vals]
theorem vals_at (ws : Ws) {n : Nat} (d : List Nat) {h : Nat} (hh : h < n) : at0 (vals ws n d) h = Vl (wv ws h) d h := by
  unfold at0 vals
  rw [List.getD_eq_getElem?_getD, List.getElem?_map, List.getElem?_range hh]; rfl
theorem worths_of_eq {ws : Ws} {n m : Nat} (W : Wt ws n m) {d : List Nat} (Q : Dl n m d) (s : DS) : m_worths_of [wD ws, rD d] s = some (.lst ((vals ws n d).map EnQ.e), s) := by
  refine def_eq (fun s => ?_) s
  refine wp_def rfl ?_
  have h4 := W.h4
  have hr : rng1D [.int (n : Nat)] = some ((List.range n).map EnQ.e) := rng1_n (by omega)
  simp [g_worths_of, List.replicate, W.hn, hr, wipeR]
  refine wp_compT (f := fun h : Nat => D.int (Vl (wv ws h) d h : Nat)) _ (fun h hh => ⟨_, rfl, fun s => ?_⟩) ?_
  · simp only [e_N]
    simp [wp_eq (pile_eq d h), wp_eq (val_eq W Q (List.mem_range.mp hh) h)]
  · unfold vals
    rw [List.map_map]
    simp
    intro a _; rfl
/-! ### the product -/
def prF (a x : Nat) : Nat := a * max 1 x
def prK (l : List Nat) : Nat × Nat := ((l.filter fun x => decide (0 < x)).length, l.foldl prF 1)
theorem product_eq {l : List Nat} (hl : l.length ≤ 4) (hx : ∀ x ∈ l, x < 8000) (s : DS) : m_product_of [.lst (l.map EnQ.e)] s = some (EnQ.e (prK l), s) := by
  refine def_eq (fun s => ?_) s
  refine wp_def rfl ?_
  simp [g_product_of, List.replicate]
  refine wp_rest EnQ.e (fun rest ρ s' => s' = s ∧ (∀ x ∈ rest, x ∈ l) ∧ ∃ (a : Nat) (x2 : Slot), a * 8000 ^ rest.length ≤ 8000 ^ 4 ∧ rest.foldl prF a = l.foldl prF 1 ∧ ρ = [.sh (.lst (l.map EnQ.e)), .sh (.int (a : Nat)), x2]) l
    (fun x xs ρ s' hJ => ?_) (fun ρ s' hJ => ?_) ⟨rfl, fun x h => h, 1, .un, by rw [Nat.one_mul]; exact Nat.pow_le_pow_right (by decide) hl, rfl, rfl⟩
  · obtain ⟨rfl, hm, a, x2, hb, hf, rfl⟩ := hJ
    refine ⟨_, rfl, ?_⟩
    have hx' := hx x (hm x (by simp))
    have hp : 0 < 8000 ^ xs.length := Nat.pow_pos (by decide)
    have hb : a * 8000 * 8000 ^ xs.length ≤ 8000 ^ 4 := by
      rw [Nat.mul_assoc, ← Nat.pow_succ']; exact hb
    have ha : a * 8000 ≤ 8000 ^ 4 := Nat.le_trans (Nat.le_mul_of_pos_right _ hp) hb
    have ha2 : a < 2 ^ 64 := by omega
    have e1 : mulD (.int (a : Nat)) (.int (max 1 (x : Nat))) = some (.int (prF a x : Nat)) := by
      rw [mulD_sm 64 (by simpa using ha2) (by omega)]
      unfold prF
      congr 2
      rw [Int.natCast_mul]; congr 1; omega
    simp [e_N, e1]
    refine ⟨fun y hy => hm y (by simp [hy]), prF a x, ?_, hf, rfl⟩
    exact Nat.le_trans (Nat.mul_le_mul_right _ (Nat.mul_le_mul_left a (by omega))) hb
  · obtain ⟨rfl, hm, a, x2, hb, hf, rfl⟩ := hJ
    have hf : a = l.foldl prF 1 := hf
    subst hf
    simp [wipeR]
    refine wp_compF (p := fun x : Nat => decide (0 < x)) (f := EnQ.e) _ (fun x hx => ⟨_, rfl, fun s => ⟨?_, fun _ => ?_⟩⟩) ?_
    · simp [e_N]; omega
    · simp
    · simp [SZ_eq]
      rfl
/-! ### all dealings -/
def dl (n : Nat) : Nat → List (List Nat)
  | 0 => [[]]
  | m + 1 => (dl n m).flatMap fun r => (List.range n).map fun h => r ++ [h]
theorem mem_dl (n : Nat) : ∀ (m : Nat) (d : List Nat), d ∈ dl n m ↔ Dl n m d
  | 0, d => by
    constructor
    · intro h; rw [List.mem_singleton.mp h]; exact ⟨rfl, by simp⟩
    · intro h; rw [List.length_eq_zero_iff.mp h.len]; exact List.mem_singleton.mpr rfl
  | m + 1, d => by
    unfold dl
    rw [List.mem_flatMap]
    constructor
    · rintro ⟨r, hr, hd⟩
      obtain ⟨h, hh, rfl⟩ := List.mem_map.mp hd
      have := (mem_dl n m r).mp hr
      refine ⟨by simp [this.len], fun x hx => ?_⟩
      rcases List.mem_append.mp hx with h' | h'
      · exact this.lt x h'
      · rw [List.mem_singleton.mp h']; exact List.mem_range.mp hh
    · intro h
      have hne : d ≠ [] := fun z => by have := h.len; rw [z] at this; simp at this
      refine ⟨d.dropLast, (mem_dl n m _).mpr ⟨by rw [List.length_dropLast, h.len]; omega, fun x hx => h.lt x ((List.dropLast_sublist d).subset hx)⟩, List.mem_map.mpr ⟨d.getLast hne, List.mem_range.mpr (h.lt _ (List.getLast_mem hne)), List.dropLast_concat_getLast hne⟩⟩
theorem dl_len (n : Nat) : ∀ m, (dl n m).length = n ^ m
  | 0 => rfl
  | m + 1 => by
    unfold dl
    rw [List.length_flatMap]
    have : ∀ l : List (List Nat), (l.map fun r => ((List.range n).map fun h => r ++ [h]).length).sum = l.length * n := fun l => by
      induction l with
      | nil => simp
      | cons a l ih => rw [List.map_cons, List.sum_cons, ih]; simp [Nat.add_mul]; omega
    rw [this, dl_len n m, Nat.pow_succ]
theorem pow_small {n m : Nat} (hn : n ≤ 4) (hm : m ≤ 7) : n ^ m ≤ 16384 := by
  have h1 : n ^ m ≤ 4 ^ m := Nat.pow_le_pow_left hn m
  have h2 : 4 ^ m ≤ 4 ^ 7 := Nat.pow_le_pow_right (by decide) hm
  have : (4 : Nat) ^ 7 = 16384 := by decide
  omega
theorem row_items (r : List Nat) (n : Nat) : (List.range n).map (fun k : Nat => (EnQ.e (r ++ [k]) : D)) = ((List.range n).map fun k => r ++ [k]).map EnQ.e := by rw [List.map_map]; rfl
theorem all_deals_eq {ws : Ws} {n m : Nat} (W : Wt ws n m) (s : DS) : m_all_deals [wD ws] s = some (.lst ((dl n m).map EnQ.e), s) := by
  refine def_eq (fun s => ?_) s
  refine wp_def rfl ?_
  have h1 := W.h1
  have h4 := W.h4
  have h7 := W.h7
  have h0 := ix_row0 ws (by rw [W.hn]; omega)
  have r0 := (W.row (show 0 < n by omega)).1
  have hr : rng1D [.int (n : Nat)] = some ((List.range n).map EnQ.e) := rng1_n (by omega)
  simp [g_all_deals, List.replicate, h0, SZ_eq, -ixD_tn]
  refine wp_rest EnQ.e (fun rest ρ s' => s' = s ∧ ∃ (k : Nat) (x2 x3 x4 x5 : Slot), k + rest.length = m ∧ ρ = [.sh (wD ws), .sh (.lst ((dl n k).map EnQ.e)), x2, x3, x4, x5]) (row ws 0)
    (fun x xs ρ s' hJ => ?_) (fun ρ s' hJ => ?_) ⟨rfl, 0, .un, .un, .un, .un, by omega, rfl⟩
  · obtain ⟨rfl, k, x2, x3, x4, x5, hk, rfl⟩ := hJ
    rw [List.length_cons] at hk
    refine ⟨_, rfl, ?_⟩
    simp [SZ_eq]
    have hpl := pow_small (n := n) (m := k + 1) h4 (by omega)
    refine wp_rest EnQ.e (fun rest ρ s'' => s'' = s' ∧ (∀ r ∈ rest, r ∈ dl n k) ∧ ∃ (longer : List (List Nat)) (x4 x5 : Slot), longer ++ (rest.flatMap fun r => (List.range n).map fun h => r ++ [h]) = dl n (k + 1) ∧ ρ = [.sh (wD ws), .sh (.lst ((dl n k).map EnQ.e)), .sh (EnQ.e x), .ow (longer.map EnQ.e), x4, x5]) (dl n k)
      (fun r rs ρ s'' hJ => ?_) (fun ρ s'' hJ => ?_) ⟨rfl, fun r h => h, [], x4, x5, rfl, rfl⟩
    · obtain ⟨rfl, hm2, longer, x4, x5, hl, rfl⟩ := hJ
      have hlen := congrArg List.length hl
      rw [dl_len, List.length_append, List.flatMap_cons, List.length_append, List.length_map, List.length_range] at hlen
      have hrw := ((mem_dl n k r).mp (hm2 r (by simp))).len
      refine ⟨_, rfl, ?_⟩
      simp [e_L, W.hn, hr, wipeR]
      refine wp_compT (f := fun h : Nat => EnQ.e (r ++ [h])) _ (fun h hh => ⟨_, rfl, fun s => ?_⟩) ?_
      · have e1 : addD (.tup (r.map EnQ.e)) (.tup [.int (h : Nat)]) = some (.tup (r.map EnQ.e ++ [.int (h : Nat)])) := addD_tt (by simp; omega)
        simp [e_N, e_L, SZ_eq, e1]
      · rw [row_items]
        refine ⟨_, extU_eq (by simp; omega), rfl, fun r' hr' => hm2 r' (by simp [hr']), longer ++ (List.range n).map (fun h => r ++ [h]), ?_, by rw [List.map_append]⟩
        rw [← hl, List.flatMap_cons, List.append_assoc]
    · obtain ⟨rfl, _, longer, x4, x5, hl, rfl⟩ := hJ
      have hl : longer = dl n (k + 1) := by simpa using hl
      subst hl
      simp
      exact ⟨k + 1, by omega, rfl⟩
  · obtain ⟨rfl, k, x2, x3, x4, x5, hk, rfl⟩ := hJ
    have hk : k = m := by simpa using hk
    subst hk
    simp
end Lw
set_option maxHeartbeats 1000000
namespace Lw
open PySem PySem.Spec PyProof.Rows L2 Pu
/-! ### envy -/
def en1 (ws : Ws) (n : Nat) (d : List Nat) (i : Nat) : List (Nat × Nat) := ((List.range n).filter fun j => decide (Vl (wv ws i) d i < Vl (wv ws i) d j)).map fun j => (i, j)
def env (ws : Ws) (n : Nat) (d : List Nat) : List (Nat × Nat) := (List.range n).flatMap (en1 ws n d)
theorem mem_env {ws : Ws} {n : Nat} {d : List Nat} {p : Nat × Nat} : p ∈ env ws n d ↔ p.1 < n ∧ p.2 < n ∧ Vl (wv ws p.1) d p.1 < Vl (wv ws p.1) d p.2 := by
  unfold env en1
  rw [List.mem_flatMap]
  constructor
  · rintro ⟨i, hi, h⟩
    obtain ⟨j, hj, rfl⟩ := List.mem_map.mp h
    obtain ⟨h1, h2⟩ := List.mem_filter.mp hj
    exact ⟨List.mem_range.mp hi, List.mem_range.mp h1, of_decide_eq_true h2⟩
  · rintro ⟨h1, h2, h3⟩
    exact ⟨p.1, List.mem_range.mpr h1, List.mem_map.mpr ⟨p.2, List.mem_filter.mpr ⟨List.mem_range.mpr h2, decide_eq_true h3⟩, rfl⟩⟩
theorem en1_len (ws : Ws) (n : Nat) (d : List Nat) (i : Nat) : (en1 ws n d i).length ≤ n := by
  unfold en1
  rw [List.length_map]
  have := List.length_filter_le (fun j => decide (Vl (wv ws i) d i < Vl (wv ws i) d j)) (List.range n)
  simpa using this
theorem env_len (ws : Ws) (n : Nat) (d : List Nat) (h : n ≤ 4) : (env ws n d).length ≤ 16 := by
  unfold env
  rw [List.length_flatMap]
  have : ∀ l : List Nat, (l.map fun i => (en1 ws n d i).length).sum ≤ l.length * n := fun l => by
    induction l with
    | nil => simp
    | cons a l ih => rw [List.map_cons, List.sum_cons, List.length_cons, Nat.add_mul]; have := en1_len ws n d a; omega
  have := this (List.range n)
  rw [List.length_range] at this
  have h2 : n * n ≤ 4 * 4 := Nat.mul_le_mul h h
  omega
theorem envies_eq {ws : Ws} {n m : Nat} (W : Wt ws n m) {d : List Nat} (Q : Dl n m d) (s : DS) : m_envies [wD ws, rD d] s = some (.tup ((env ws n d).map EnQ.e), s) := by
  refine def_eq (fun s => ?_) s
  refine wp_def rfl ?_
  have h1 := W.h1
  have h4 := W.h4
  have hr : rng1D [.int (n : Nat)] = some ((List.range n).map EnQ.e) := rng1_n (by omega)
  have hl16 := env_len ws n d h4
  simp [g_envies, List.replicate, wp_eq (check_dealt_eq W Q), W.hn, hr]
  refine wp_rest EnQ.e (fun rest ρ s' => s' = s ∧ (∀ i ∈ rest, i < n) ∧ ∃ (found : List (Nat × Nat)) (x3 x4 x5 : Slot), found ++ rest.flatMap (en1 ws n d) = env ws n d ∧ ρ = [.sh (wD ws), .sh (rD d), .ow (found.map EnQ.e), x3, x4, x5]) (List.range n)
    (fun i is ρ s' hJ => ?_) (fun ρ s' hJ => ?_) ⟨rfl, fun i hi => List.mem_range.mp hi, [], .un, .un, .un, rfl, rfl⟩
  · obtain ⟨rfl, hm, found, x3, x4, x5, hf, rfl⟩ := hJ
    have hi := hm i (by simp)
    refine ⟨_, rfl, ?_⟩
    simp only [e_N]
    simp [wp_eq (pile_eq d i), wp_eq (val_eq W Q hi i), W.hn, hr]
    refine wp_rest EnQ.e (fun rest ρ s'' => s'' = s' ∧ (∀ j ∈ rest, j < n) ∧ ∃ (fd : List (Nat × Nat)) (x5 : Slot), fd ++ (((rest.filter fun j => decide (Vl (wv ws i) d i < Vl (wv ws i) d j)).map fun j => (i, j)) ++ is.flatMap (en1 ws n d)) = env ws n d ∧ ρ = [.sh (wD ws), .sh (rD d), .ow (fd.map EnQ.e), .sh (.int (i : Nat)), .sh (.int (Vl (wv ws i) d i : Nat)), x5]) (List.range n)
      (fun j js ρ s'' hJ => ?_) (fun ρ s'' hJ => ?_) ⟨rfl, fun j hj => List.mem_range.mp hj, found, x5, by rw [← hf, List.flatMap_cons]; rfl, rfl⟩
    · obtain ⟨rfl, hm2, fd, x5, hfd, rfl⟩ := hJ
      have hj := hm2 j (by simp)
      refine ⟨_, rfl, ?_⟩
      simp only [e_N]
      have hjs : ∀ y ∈ js, y < n := fun y hy => hm2 y (by simp [hy])
      by_cases hl : Vl (wv ws i) d i < Vl (wv ws i) d j
      · have hl' : ((Vl (wv ws i) d i : Nat) : Int) < (Vl (wv ws i) d j : Nat) := by omega
        rw [List.filter_cons_of_pos (by simpa using hl)] at hfd
        have hlen := congrArg List.length hfd
        simp only [List.length_append, List.length_map, List.length_cons] at hlen
        simp [wp_eq (pile_eq d j), wp_eq (val_eq W Q hi j), hl, hl']
        refine ⟨by rw [SZ_eq]; omega, _, appU_eq (by simp; omega), hjs, fd ++ [(i, j)], ?_, by rw [List.map_append]; rfl⟩
        rw [← hfd]; simp
      · have hl' : ¬ ((Vl (wv ws i) d i : Nat) : Int) < (Vl (wv ws i) d j : Nat) := by omega
        rw [List.filter_cons_of_neg (by simpa using hl)] at hfd
        simp [wp_eq (pile_eq d j), wp_eq (val_eq W Q hi j), hl, hl']
        exact ⟨hjs, fd, hfd, rfl⟩
    · obtain ⟨rfl, _, fd, x5, hfd, rfl⟩ := hJ
      exact ⟨rfl, fun y hy => hm y (by simp [hy]), fd, (by simpa using hfd), _, _, _, rfl⟩
  · obtain ⟨rfl, _, found, x3, x4, x5, hf, rfl⟩ := hJ
    have hf : found = env ws n d := by simpa using hf
    subst hf
    simp
/-- what a stronger envy wants -/
def EFx (b : Bool) (ws : Ws) (n : Nat) (d : List Nat) : Prop := ∀ i j, i < n → j < n → Vl (wv ws i) d i < Vl (wv ws i) d j →
  if b = true then ∀ k ∈ pile d j, Vl (wv ws i) d j ≤ Vl (wv ws i) d i + wv ws i k else ∃ k ∈ pile d j, Vl (wv ws i) d j ≤ Vl (wv ws i) d i + wv ws i k
theorem strongest_eq {ws : Ws} {n m : Nat} (W : Wt ws n m) {d : List Nat} (Q : Dl n m d) (b : Bool) (H : EFx b ws n d) (s : DS) : m_strongest_envy [wD ws, rD d, .bl b] s = some (.non, s) := by
  refine def_eq (fun s => ?_) s
  refine wp_def rfl ?_
  simp [g_strongest_envy, List.replicate, wp_eq (check_dealt_eq W Q), wp_eq (envies_eq W Q)]
  refine wp_rest EnQ.e (fun rest ρ s' => s' = s ∧ (∀ p ∈ rest, p ∈ env ws n d) ∧ ∃ (x3 x4 x5 x6 x7 x8 : Slot), ρ = [.sh (wD ws), .sh (rD d), .sh (.bl b), x3, x4, x5, x6, x7, x8]) (env ws n d)
    (fun p ps ρ s' hJ => ?_) (fun ρ s' hJ => ?_) ⟨rfl, fun p h => h, _, _, _, _, _, _, rfl⟩
  · obtain ⟨rfl, hm, x3, x4, x5, x6, x7, x8, rfl⟩ := hJ
    have hps : ∀ q ∈ ps, q ∈ env ws n d := fun q hq => hm q (by simp [hq])
    obtain ⟨i, j⟩ := p
    obtain ⟨hi, hj, hlt⟩ := mem_env.mp (hm (i, j) (by simp))
    have hi : i < n := hi
    have hj : j < n := hj
    have hlt : Vl (wv ws i) d i < Vl (wv ws i) d j := hlt
    have HH := H i j hi hj hlt
    have e1 := ix_row ws (j := i) (by rw [W.hn]; exact hi)
    have rl := (W.row hi).1
    simp only [e_P, e_N]
    refine ⟨_, rfl, ?_⟩
    simp [wp_eq (pile_eq d i), wp_eq (val_eq W Q hi i), wp_eq (pile_eq d j), wipeR]
    refine wp_compT (f := fun k : Nat => D.int (wv ws i k : Nat)) _ (fun k hk => ⟨_, rfl, fun s => ?_⟩) ?_
    · have e2 := ix_nat (Lw.row ws i) (k := k) (by rw [rl]; exact pile_lt Q j k hk)
      simp only [e_N]
      simp [e1, e2, -ixD_tn, wv_at0]
    · have hne : (pile d j).map (wv ws i) ≠ [] := fun z => by
        have : Vl (wv ws i) d j = 0 := by unfold Vl; rw [z]; rfl
        omega
      obtain ⟨x, xs, hx⟩ := List.exists_cons_of_ne_nil hne
      have e3 : ((pile d j).map fun k : Nat => D.int (wv ws i k : Nat)) = (x :: xs).map EnQ.e := by rw [← hx, List.map_map]; rfl
      rw [e3]
      have hmin : minD [.lst ((x :: xs).map EnQ.e)] = some (.int (mnE x xs : Nat)) := min_seq (α := Nat) (by decide) rfl
      have hmax : maxD [.lst ((x :: xs).map EnQ.e)] = some (.int (mxE x xs : Nat)) := max_seq (α := Nat) (by decide) rfl
      have hmn := mnE_mem x xs
      have hmx := mxE_le x xs
      rw [← hx] at hmn hmx
      simp only [List.map_cons] at hmin hmax
      cases b with
      | true =>
        have HH : ∀ k ∈ pile d j, Vl (wv ws i) d j ≤ Vl (wv ws i) d i + wv ws i k := HH
        obtain ⟨k, hk, ek⟩ := List.mem_map.mp hmn
        have := HH k hk
        rw [ek] at this
        have c : ¬ ((Vl (wv ws i) d i : Nat) : Int) < (Vl (wv ws i) d j : Nat) - (mnE x xs : Nat) := by omega
        simp [hmin, wp_eq (val_eq W Q hi j), c]
        exact fun a b h => hps (a, b) h
      | false =>
        obtain ⟨k, hk, hle⟩ : ∃ k ∈ pile d j, Vl (wv ws i) d j ≤ Vl (wv ws i) d i + wv ws i k := by simpa using HH
        have h5 : decide (mxE x xs < wv ws i k) = false := hmx _ (List.mem_map.mpr ⟨k, hk, rfl⟩)
        simp at h5
        have c : ¬ ((Vl (wv ws i) d i : Nat) : Int) < (Vl (wv ws i) d j : Nat) - (mxE x xs : Nat) := by omega
        simp [hmax, wp_eq (val_eq W Q hi j), c]
        exact fun a b h => hps (a, b) h
  · obtain ⟨rfl, _, x3, x4, x5, x6, x7, x8, rfl⟩ := hJ
    simp
/-- nothing is better for all -/
def NoB (ws : Ws) (n m : Nat) (d : List Nat) : Prop := ∀ d', Dl n m d' → (∀ j, j < n → Vl (wv ws j) d j ≤ Vl (wv ws j) d' j) → ∀ j, j < n → Vl (wv ws j) d' j = Vl (wv ws j) d j
theorem better_eq {ws : Ws} {n m : Nat} (W : Wt ws n m) {d : List Nat} (Q : Dl n m d) (H : NoB ws n m d) (s : DS) : m_better_for_all [wD ws, rD d] s = some (.non, s) := by
  refine def_eq (fun s => ?_) s
  refine wp_def rfl ?_
  have h4 := W.h4
  have hr : rng1D [.int (n : Nat)] = some ((List.range n).map EnQ.e) := rng1_n (by omega)
  have vl := vals_len ws n d
  simp [g_better_for_all, List.replicate, wp_eq (check_dealt_eq W Q), wp_eq (worths_of_eq W Q), wp_eq (all_deals_eq W)]
  refine wp_rest EnQ.e (fun rest ρ s' => s' = s ∧ (∀ p ∈ rest, p ∈ dl n m) ∧ ∃ (x3 x4 x5 : Slot), ρ = [.sh (wD ws), .sh (rD d), .sh (.lst ((vals ws n d).map EnQ.e)), x3, x4, x5]) (dl n m)
    (fun p ps ρ s' hJ => ?_) (fun ρ s' hJ => ?_) ⟨rfl, fun p h => h, _, _, _, rfl⟩
  · obtain ⟨rfl, hm, x3, x4, x5, rfl⟩ := hJ
    have hps : ∀ q ∈ ps, q ∈ dl n m := fun q hq => hm q (by simp [hq])
    have Qp := (mem_dl n m p).mp (hm p (by simp))
    have hne : neD (.lst ((vals ws n p).map EnQ.e)) (.lst ((vals ws n d).map EnQ.e)) = some (.bl (!decide (vals ws n p = vals ws n d))) := neL_en (by decide) _ _
    refine ⟨_, rfl, ?_⟩
    simp [e_L, wp_eq (worths_of_eq W Qp), hne]
    by_cases he : vals ws n p = vals ws n d
    · simp [he]
      exact hps
    · simp [he, vl, hr, wipeR]
      refine wp_compT (f := fun j : Nat => D.bl (decide (at0 (vals ws n d) j ≤ at0 (vals ws n p) j))) _ (fun j hj => ⟨_, rfl, fun s => ?_⟩) ?_
      · have hj := List.mem_range.mp hj
        have e1 := ixL_nat (vals ws n p) (k := j) (by rw [vals_len]; exact hj)
        have e2 := ixL_nat (vals ws n d) (k := j) (by rw [vals_len]; exact hj)
        simp only [e_N]
        simp [e1, e2, -ixD_ln]
      · have hall : ((List.range n).all fun j => decide (at0 (vals ws n d) j ≤ at0 (vals ws n p) j)) = false := by
          rw [List.all_eq_false]
          refine Classical.byContradiction fun c => he ?_
          have h1 : ∀ j, j < n → Vl (wv ws j) d j ≤ Vl (wv ws j) p j := fun j hj => by
            refine Nat.le_of_not_lt fun z => c ⟨j, List.mem_range.mpr hj, ?_⟩
            rw [vals_at _ _ hj, vals_at _ _ hj]; simp; omega
          have h2 := H p Qp h1
          exact List.map_congr_left fun j hj => h2 j (List.mem_range.mp hj)
        rw [allD_f, hall]
        simp
        exact hps
  · obtain ⟨rfl, _, x3, x4, x5, rfl⟩ := hJ
    simp
end Lw
set_option maxHeartbeats 1000000
namespace Lw
open PySem PySem.Spec PyProof.Rows L2 Pu
theorem gt_en {α : Type} [En α] (h : EnQ.k α ≤ 60) (a b : α) : gtA (EnQ.e b) (EnQ.e a) = some (.bl (En.lt a b)) := by unfold gtA; rw [if_pos (ordOk_en h b a), En.ltv]
/-! ### the first of the greatest -/
def amS {A K : Type} [En K] (f : A → K) (st : Option (K × A)) (a : A) : Option (K × A) := match st with
  | none => some (f a, a)
  | some p => if En.lt p.1 (f a) = true then some (f a, a) else some p
/-- a is the first of l whose f is the greatest -/
def FM {A K : Type} [En K] (f : A → K) (l : List A) (a : A) : Prop := ∃ l1 l2, l = l1 ++ a :: l2 ∧ (∀ b ∈ l1, En.lt (f b) (f a) = true) ∧ ∀ b ∈ l2, En.lt (f a) (f b) = false
theorem am_ok {A K : Type} [En K] (f : A → K) : ∀ (r : List A) (done : List A) (a : A), FM f done a → ∃ b, r.foldl (amS f) (some (f a, a)) = some (f b, b) ∧ FM f (done ++ r) b
  | [], done, a, h => ⟨a, rfl, by simpa using h⟩
  | x :: r, done, a, h => by
    obtain ⟨l1, l2, e, h1, h2⟩ := h
    rw [List.foldl_cons]
    by_cases hl : En.lt (f a) (f x) = true
    · have : amS f (some (f a, a)) x = some (f x, x) := if_pos hl
      rw [this]
      have hx : FM f (done ++ [x]) x := ⟨done, [], rfl, fun b hb => by
        rw [e] at hb
        rcases List.mem_append.mp hb with hb | hb
        · exact En.trans _ _ _ (h1 b hb) hl
        · rcases List.mem_cons.mp hb with rfl | hb
          · exact hl
          · cases h3 : En.lt (f b) (f a) with
            | true => exact En.trans _ _ _ h3 hl
            | false => rw [En.tot _ _ h3 (h2 b hb)]; exact hl, by simp⟩
      obtain ⟨b, e1, e2⟩ := am_ok f r (done ++ [x]) x hx
      exact ⟨b, e1, by simpa using e2⟩
    · have : amS f (some (f a, a)) x = some (f a, a) := if_neg hl
      rw [this]
      have hx : FM f (done ++ [x]) a := ⟨l1, l2 ++ [x], by rw [e]; simp, h1, fun b hb => by
        rcases List.mem_append.mp hb with hb | hb
        · exact h2 b hb
        · rw [List.mem_singleton.mp hb]; simpa using hl⟩
      obtain ⟨b, e1, e2⟩ := am_ok f r (done ++ [x]) a hx
      exact ⟨b, e1, by simpa using e2⟩
theorem am_all {A K : Type} [En K] (f : A → K) {l : List A} (h : l ≠ []) : ∃ b, l.foldl (amS f) none = some (f b, b) ∧ FM f l b := by
  obtain ⟨x, r, rfl⟩ := List.exists_cons_of_ne_nil h
  obtain ⟨b, e1, e2⟩ := am_ok f r [x] x ⟨[], [], rfl, by simp, by simp⟩
  exact ⟨b, e1, e2⟩
theorem FM.mem {A K : Type} [En K] {f : A → K} {l : List A} {a : A} (h : FM f l a) : a ∈ l := by obtain ⟨l1, l2, rfl, _, _⟩ := h; simp
theorem FM.max {A K : Type} [En K] {f : A → K} {l : List A} {a : A} (h : FM f l a) : ∀ b ∈ l, En.lt (f a) (f b) = false := fun b hb => by
  obtain ⟨l1, l2, rfl, h1, h2⟩ := h
  rcases List.mem_append.mp hb with hb | hb
  · exact lt_asym (h1 b hb)
  · rcases List.mem_cons.mp hb with rfl | hb
    · exact En.irr _
    · exact h2 b hb
theorem FM.uniq {A K K' : Type} [En K] [En K'] {f : A → K} {g : A → K'} {l : List A} {a b : A} (ha : FM f l a) (hb : FM g l b) (h : ∀ x ∈ l, x ≠ a → (En.lt (f x) (f a) = true → En.lt (g x) (g a) = true) ∧ (En.lt (f a) (f x) = false → En.lt (g a) (g x) = false)) : a = b := by
  obtain ⟨l1, l2, e, h1, h2⟩ := ha
  have hbm := hb.mem
  have hamem : a ∈ l := by rw [e]; simp
  have hmax := hb.max a hamem
  refine Classical.byContradiction fun hne => ?_
  have hne' : b ≠ a := fun z => hne z.symm
  have hbl := hbm
  rw [e] at hbl
  have key1 : ∀ x ∈ l1, En.lt (g x) (g a) = true := fun x hx => by
    by_cases hxa : x = a
    · subst hxa; have := h1 x hx; rw [En.irr] at this; cases this
    · exact (h x (by rw [e]; simp [hx]) hxa).1 (h1 x hx)
  rcases List.mem_append.mp hbl with hb1 | hb1
  · rw [key1 b hb1] at hmax; cases hmax
  · rcases List.mem_cons.mp hb1 with hb1 | hb1
    · exact hne' hb1
    · -- b behind a: a is no less than b and earlier
      have hge : En.lt (g a) (g b) = false := (h b hbm hne').2 (h2 b hb1)
      have hab : g b = g a := En.tot _ _ hmax hge
      obtain ⟨m1, m2, e', k1, k2⟩ := hb
      by_cases hm : a ∈ m1
      · have := k1 a hm
        rw [hab, En.irr] at this; cases this
      · -- then b is the first: m1 is a part of l1 without a
        have hb1' : b ∈ l1 := by
          rw [e] at e'
          have hpre : ∀ (p q : List A) (u v : List A), p ++ a :: u = q ++ b :: v → a ∉ q → b ≠ a → b ∈ p := by
            intro p
            induction p with
            | nil =>
              intro q u v hh hq hba
              cases q with
              | nil => simp at hh; exact absurd hh.1.symm hba
              | cons y q => simp at hh; exact absurd (by rw [hh.1]; simp) hq
            | cons y p ih =>
              intro q u v hh hq hba
              cases q with
              | nil => simp at hh; rw [hh.1]; simp
              | cons z q =>
                simp at hh
                simp at hq
                exact List.mem_cons_of_mem _ (ih q u v hh.2 hq.2 hba)
          exact hpre l1 m1 l2 m2 e' hm hne'
        rw [key1 b hb1'] at hmax; cases hmax
def srt {α : Type} [En α] (l : List α) : List α := l.mergeSort fun x y => !En.lt y x
theorem sortO_en {α : Type} [En α] (h : EnQ.k α ≤ 60) (l : List α) (ht : ((l.map (EnQ.e (α := α))).all isTupN || (l.map (EnQ.e (α := α))).all notTup) = true) : sortO [.lst (l.map (EnQ.e (α := α)))] = some ((srt l).map EnQ.e) := by
  have a : sortB (l.map (EnQ.e (α := α))) = true := by unfold sortB; rw [allCmp_en h l, ht]; rfl
  show (if sortB (l.map EnQ.e) = true then some (sortL (l.map EnQ.e)) else none) = _
  rw [if_pos a]
  unfold sortL srt
  rw [List.map_mergeSort (s := fun x y => !PySem.W.dataLt (toP y) (toP x))]
  intro a _ b _
  rw [En.ltv]
theorem srt_perm {α : Type} [En α] (l : List α) : (srt l).Perm l := List.mergeSort_perm _ _
theorem srt_pair {α : Type} [En α] (l : List α) : (srt l).Pairwise fun x y => En.lt y x = false := by
  have := List.pairwise_mergeSort (le := fun x y : α => !En.lt y x) (fun a b c h1 h2 => by
    simp only [Bool.not_eq_true'] at *
    cases h : En.lt c a with
    | false => rfl
    | true =>
      cases h3 : En.lt a b with
      | true => have := En.trans c a b h h3; rw [this] at h2; cases h2
      | false =>
        have := En.tot a b h3 h1
        subst this
        rw [h] at h2; cases h2) (fun a b => by
    cases h : En.lt a b with
    | false => simp
    | true => simp [lt_asym h]) l
  exact this.imp fun h => by simpa using h
theorem srt_id {α : Type} [En α] {l : List α} (h : l.Pairwise fun x y => En.lt y x = false) : srt l = l := List.mergeSort_of_pairwise (h.imp fun z => by simp [z])
theorem sort_nats (l : List Nat) : sortO [.lst (l.map EnQ.e)] = some ((srt l).map EnQ.e) := sortO_en (by decide) l (by
  have : (l.map (EnQ.e (α := Nat))).all notTup = true := by simp [notTup, e_N]
  rw [this]; simp)
def best (ws : Ws) (n m : Nat) : List Nat → Prop := FM (fun d => prK (vals ws n d)) (dl n m)
def flat (ws : Ws) (n m : Nat) : List Nat → Prop := FM (fun d => srt (vals ws n d)) (dl n m)
theorem dl_ne {n m : Nat} (h : 1 ≤ n) : dl n m ≠ [] := fun z => by
  have := dl_len n m
  rw [z] at this
  have : 0 < n ^ m := Nat.pow_pos h
  simp at *
  omega
theorem vals_small {ws : Ws} {n m : Nat} (W : Wt ws n m) {d : List Nat} (Q : Dl n m d) : ∀ x ∈ vals ws n d, x < 8000 := fun x hx => by
  obtain ⟨j, hj, rfl⟩ := List.mem_map.mp hx
  exact Vl_small (by rw [Q.len]; exact W.h7) fun k hk => W.sm (List.mem_range.mp hj) (by rw [← Q.len]; exact hk)
theorem best_eq {ws : Ws} {n m : Nat} (W : Wt ws n m) : ∃ b, best ws n m b ∧ ∀ s, m_best_product [wD ws] s = some (.tup [rD b, EnQ.e (prK (vals ws n b))], s) := by
  obtain ⟨b, e, hb⟩ := am_all (fun d => prK (vals ws n d)) (dl_ne (m := m) W.h1)
  refine ⟨b, hb, fun s => ?_⟩
  refine def_eq (fun s => ?_) s
  refine wp_def rfl ?_
  have h4 := W.h4
  simp [g_best_product, List.replicate, wp_eq (check_division_eq W), wp_eq (all_deals_eq W)]
  refine wp_rest EnQ.e (fun rest ρ s' => s' = s ∧ (∀ p ∈ rest, p ∈ dl n m) ∧ ∃ (st : Option ((Nat × Nat) × List Nat)) (x2 x3 : Slot), rest.foldl (amS fun d => prK (vals ws n d)) st = (dl n m).foldl (amS fun d => prK (vals ws n d)) none ∧ ρ = [.sh (wD ws), .sh (EnQ.e st), x2, x3]) (dl n m)
    (fun p ps ρ s' hJ => ?_) (fun ρ s' hJ => ?_) ⟨rfl, fun p h => h, none, _, _, rfl, rfl⟩
  · obtain ⟨rfl, hm, st, x2, x3, hf, rfl⟩ := hJ
    have hps : ∀ q ∈ ps, q ∈ dl n m := fun q hq => hm q (by simp [hq])
    have Qp := (mem_dl n m p).mp (hm p (by simp))
    have epr := product_eq (l := vals ws n p) (by rw [vals_len]; exact h4) (vals_small W Qp)
    refine ⟨_, rfl, ?_⟩
    simp [e_L, wp_eq (worths_of_eq W Qp), wp_eq epr]
    cases st with
    | none =>
      have nn : isNonD (EnQ.e (none : Option ((Nat × Nat) × List Nat))) = true := rfl
      simp [nn, SZ_eq]
      refine ⟨hps, some (prK (vals ws n p), p), hf, rfl⟩
    | some st =>
      have nn : isNonD (EnQ.e (some st)) = false := rfl
      have i0 : ixD (EnQ.e (some st)) (.int 0) = some (EnQ.e st.1) := rfl
      have lt : gtA (EnQ.e (prK (vals ws n p))) (EnQ.e st.1) = some (.bl (En.lt st.1 (prK (vals ws n p)))) := gt_en (α := Nat × Nat) (by decide) _ _
      by_cases hl : En.lt st.1 (prK (vals ws n p)) = true
      · have st' : amS (fun d => prK (vals ws n d)) (some st) p = some (prK (vals ws n p), p) := if_pos hl
        rw [List.foldl_cons, st'] at hf
        simp [nn, i0, lt, hl, SZ_eq]
        refine ⟨hps, some (prK (vals ws n p), p), hf, rfl⟩
      · have st' : amS (fun d => prK (vals ws n d)) (some st) p = some st := if_neg hl
        rw [List.foldl_cons, st'] at hf
        simp [nn, i0, lt, hl, SZ_eq]
        refine ⟨hps, some st, hf, rfl⟩
  · obtain ⟨rfl, hm, st, x2, x3, hf, rfl⟩ := hJ
    have hf : st = some (prK (vals ws n b), b) := by rw [← e]; exact hf
    subst hf
    have i0 : ixD (EnQ.e (some (prK (vals ws n b), b))) (.int 0) = some (EnQ.e (prK (vals ws n b))) := rfl
    have i1 : ixD (EnQ.e (some (prK (vals ws n b), b))) (.int 1) = some (rD b) := rfl
    simp [i0, i1, SZ_eq]
theorem level_eq {ws : Ws} {n m : Nat} (W : Wt ws n m) : ∃ b, flat ws n m b ∧ ∀ s, m_most_level [wD ws] s = some (.tup [rD b, rD (srt (vals ws n b))], s) := by
  obtain ⟨b, e, hb⟩ := am_all (fun d => srt (vals ws n d)) (dl_ne (m := m) W.h1)
  refine ⟨b, hb, fun s => ?_⟩
  refine def_eq (fun s => ?_) s
  refine wp_def rfl ?_
  have h4 := W.h4
  simp [g_most_level, List.replicate, wp_eq (check_division_eq W), wp_eq (all_deals_eq W)]
  refine wp_rest EnQ.e (fun rest ρ s' => s' = s ∧ (∀ p ∈ rest, p ∈ dl n m) ∧ ∃ (st : Option (List Nat × List Nat)) (x2 x3 : Slot), rest.foldl (amS fun d => srt (vals ws n d)) st = (dl n m).foldl (amS fun d => srt (vals ws n d)) none ∧ ρ = [.sh (wD ws), .sh (EnQ.e st), x2, x3]) (dl n m)
    (fun p ps ρ s' hJ => ?_) (fun ρ s' hJ => ?_) ⟨rfl, fun p h => h, none, _, _, rfl, rfl⟩
  · obtain ⟨rfl, hm, st, x2, x3, hf, rfl⟩ := hJ
    have hps : ∀ q ∈ ps, q ∈ dl n m := fun q hq => hm q (by simp [hq])
    have Qp := (mem_dl n m p).mp (hm p (by simp))
    have es := sort_nats (vals ws n p)
    refine ⟨_, rfl, ?_⟩
    simp [e_L, wp_eq (worths_of_eq W Qp), es]
    cases st with
    | none =>
      have nn : isNonD (EnQ.e (none : Option (List Nat × List Nat))) = true := rfl
      simp [nn, SZ_eq]
      refine ⟨hps, some (srt (vals ws n p), p), hf, rfl⟩
    | some st =>
      have nn : isNonD (EnQ.e (some st)) = false := rfl
      have i0 : ixD (EnQ.e (some st)) (.int 0) = some (EnQ.e st.1) := rfl
      have lt : gtA (rD (srt (vals ws n p))) (EnQ.e st.1) = some (.bl (En.lt st.1 (srt (vals ws n p)))) := gt_en (α := List Nat) (by decide) _ _
      by_cases hl : En.lt st.1 (srt (vals ws n p)) = true
      · have st' : amS (fun d => srt (vals ws n d)) (some st) p = some (srt (vals ws n p), p) := if_pos hl
        rw [List.foldl_cons, st'] at hf
        simp [nn, i0, lt, hl, SZ_eq]
        refine ⟨hps, some (srt (vals ws n p), p), hf, rfl⟩
      · have st' : amS (fun d => srt (vals ws n d)) (some st) p = some st := if_neg hl
        rw [List.foldl_cons, st'] at hf
        simp [nn, i0, lt, hl, SZ_eq]
        refine ⟨hps, some st, hf, rfl⟩
  · obtain ⟨rfl, hm, st, x2, x3, hf, rfl⟩ := hJ
    have hf : st = some (srt (vals ws n b), b) := by rw [← e]; exact hf
    subst hf
    have i0 : ixD (EnQ.e (some (srt (vals ws n b), b))) (.int 0) = some (rD (srt (vals ws n b))) := rfl
    have i1 : ixD (EnQ.e (some (srt (vals ws n b), b))) (.int 1) = some (rD b) := rfl
    simp [i0, i1, SZ_eq]
end Lw
set_option maxHeartbeats 1000000
namespace Lw
open PySem PySem.Spec PyProof.Rows L2 Pu
def minL : List Nat → Nat
  | [] => 0
  | x :: xs => mnE x xs
theorem minL_eq {l : List Nat} (h : l ≠ []) : minD [.lst (l.map EnQ.e)] = some (.int (minL l : Nat)) := by
  obtain ⟨x, xs, rfl⟩ := List.exists_cons_of_ne_nil h
  exact min_seq (α := Nat) (by decide) rfl
theorem minL_mem {l : List Nat} (h : l ≠ []) : minL l ∈ l := by
  obtain ⟨x, xs, rfl⟩ := List.exists_cons_of_ne_nil h
  exact mnE_mem x xs
theorem minL_le {l : List Nat} : ∀ y ∈ l, minL l ≤ y := fun y hy => by
  obtain ⟨x, xs, rfl⟩ := List.exists_cons_of_ne_nil (List.ne_nil_of_mem hy)
  have h : decide (y < mnE x xs) = false := mnE_le x xs y hy
  simp at h
  exact h
/-- what a hand can be sure of -/
def SP (f : Nat → Nat) (n m b : Nat) : Prop := (∃ d, Dl n m d ∧ ∀ j, j < n → b ≤ Vl f d j) ∧ ∀ d, Dl n m d → ∃ j, j < n ∧ Vl f d j ≤ b
theorem SP.uniq {f : Nat → Nat} {n m a b : Nat} (ha : SP f n m a) (hb : SP f n m b) : a = b := by
  obtain ⟨⟨d, D, h1⟩, h2⟩ := ha
  obtain ⟨⟨e, E, k1⟩, k2⟩ := hb
  obtain ⟨j, hj, l1⟩ := h2 e E
  obtain ⟨i, hi, l2⟩ := k2 d D
  have := k1 j hj
  have := h1 i hi
  omega
theorem zero_dl {n m : Nat} (h : 1 ≤ n) : Dl n m (List.replicate m 0) := ⟨by simp, fun x hx => by rw [List.eq_of_mem_replicate hx]; exact h⟩
theorem sure_eq {ws : Ws} {n m : Nat} (W : Wt ws n m) {h : Nat} (hh : h < n) : ∃ b : Nat, SP (wv ws h) n m b ∧ ∀ s, m_sure_part [wD ws, .int (h : Nat)] s = some (.int (b : Nat), s) := by
  have h1 := W.h1
  have h4 := W.h4
  let mv : List Nat → Nat := fun d => minL ((List.range n).map (Vl (wv ws h) d))
  have hne : ∀ d, (List.range n).map (Vl (wv ws h) d) ≠ [] := fun d z => by have := congrArg List.length z; simp at this; omega
  have fold_ok : ∀ (l : List (List Nat)) (b : Nat), (∀ d ∈ l, Dl n m d) → (∃ d, Dl n m d ∧ ∀ j, j < n → b ≤ Vl (wv ws h) d j) →
      (∃ d, Dl n m d ∧ ∀ j, j < n → l.foldl (fun b d => max b (mv d)) b ≤ Vl (wv ws h) d j) ∧ b ≤ l.foldl (fun b d => max b (mv d)) b ∧ ∀ d ∈ l, mv d ≤ l.foldl (fun b d => max b (mv d)) b := by
    intro l
    induction l with
    | nil => intro b _ hb; exact ⟨hb, Nat.le_refl _, by simp⟩
    | cons d l ih =>
      intro b hl hb
      rw [List.foldl_cons]
      have hD := hl d (by simp)
      obtain ⟨a1, a2, a3⟩ := ih (max b (mv d)) (fun x hx => hl x (by simp [hx])) (by
        by_cases hc : b ≤ mv d
        · refine ⟨d, hD, fun j hj => ?_⟩
          rw [Nat.max_eq_right hc]
          exact minL_le _ (List.mem_map.mpr ⟨j, List.mem_range.mpr hj, rfl⟩)
        · rw [Nat.max_eq_left (by omega)]; exact hb)
      refine ⟨a1, by omega, fun x hx => ?_⟩
      rcases List.mem_cons.mp hx with rfl | hx
      · omega
      · exact a3 x hx
  obtain ⟨f1, f2, f3⟩ := fold_ok (dl n m) 0 (fun d hd => (mem_dl n m d).mp hd) ⟨_, zero_dl h1, fun j hj => by omega⟩
  refine ⟨(dl n m).foldl (fun b d => max b (mv d)) 0, ⟨f1, fun d hd => ?_⟩, fun s => ?_⟩
  · obtain ⟨j, hj, e⟩ := List.mem_map.mp (minL_mem (hne d))
    exact ⟨j, List.mem_range.mp hj, by rw [e]; exact f3 d ((mem_dl n m d).mpr hd)⟩
  refine def_eq (fun s => ?_) s
  refine wp_def rfl ?_
  have hr : rng1D [.int (n : Nat)] = some ((List.range n).map EnQ.e) := rng1_n (by omega)
  simp [g_sure_part, List.replicate, wp_eq (check_division_eq W), wp_eq (all_deals_eq W), W.hn, hh]
  refine wp_rest EnQ.e (fun rest ρ s' => s' = s ∧ (∀ p ∈ rest, p ∈ dl n m) ∧ ∃ (b : Nat) (x3 x4 : Slot), rest.foldl (fun b d => max b (mv d)) b = (dl n m).foldl (fun b d => max b (mv d)) 0 ∧ ρ = [.sh (wD ws), .sh (.int (h : Nat)), .sh (.int (b : Nat)), x3, x4]) (dl n m)
    (fun p ps ρ s' hJ => ?_) (fun ρ s' hJ => ?_) ⟨rfl, fun p h => h, 0, _, _, rfl, rfl⟩
  · obtain ⟨rfl, hm, b, x3, x4, hf, rfl⟩ := hJ
    have hps : ∀ q ∈ ps, q ∈ dl n m := fun q hq => hm q (by simp [hq])
    have Qp := (mem_dl n m p).mp (hm p (by simp))
    refine ⟨_, rfl, ?_⟩
    simp [e_L, W.hn, hr, wipeR]
    refine wp_compT (f := fun j : Nat => D.int (Vl (wv ws h) p j : Nat)) _ (fun j hj => ⟨_, rfl, fun s => ?_⟩) ?_
    · simp only [e_N]
      simp [wp_eq (pile_eq p j), wp_eq (val_eq W Qp hh j)]
    · have e3 : ((List.range n).map fun j : Nat => D.int (Vl (wv ws h) p j : Nat)) = ((List.range n).map (Vl (wv ws h) p)).map EnQ.e := by rw [List.map_map]; rfl
      have hmx : max2D [.int (b : Nat), .int (mv p : Nat)] = some (.int (max b (mv p) : Nat)) := by rw [max2D_ii]; congr 2; omega
      rw [e3, minL_eq (hne p)]
      simp [hmx]
      exact ⟨hps, max b (mv p), hf, by show max (b : Int) (mv p : Nat) = _; omega⟩
  · obtain ⟨rfl, hm, b, x3, x4, hf, rfl⟩ := hJ
    have hf : b = (dl n m).foldl (fun b d => max b (mv d)) 0 := hf
    subst hf
    simp
end Lw
set_option maxHeartbeats 1000000
namespace Lw
open PySem PySem.Spec PyProof.Rows L2 Pu
/-! ### in turns -/
def og (l : List (Option Nat)) (k : Nat) : Option Nat := l.getD k none
theorem og_set {l : List (Option Nat)} {x : Nat} (hx : x < l.length) (v : Option Nat) (k : Nat) : og (l.set x v) k = if k = x then v else og l k := by
  unfold og
  rw [List.getD_eq_getElem?_getD, List.getD_eq_getElem?_getD, List.getElem?_set]
  by_cases h : x = k
  · subst h; simp [hx]
  · rw [if_neg h, if_neg (fun z => h z.symm)]
theorem ix_og (l : List (Option Nat)) {k : Nat} (h : k < l.length) : ixD (.lst (l.map EnQ.e)) (.int (k : Nat)) = some (EnQ.e (og l k)) := by
  rw [ixD_ln, List.getElem?_map, List.getElem?_eq_getElem h]
  unfold og
  rw [List.getD_eq_getElem?_getD, List.getElem?_eq_getElem h]; rfl
theorem isN_og (o : Option Nat) : isNonD (EnQ.e o) = decide (o = none) := by cases o <;> rfl
/-- whose turn it is -/
def ho (n : Nat) (order : List Nat) (t : Nat) : Nat := at0 order (t % n)
structure Tr (ws : Ws) (n m : Nat) (order d : List Nat) (g : Nat → Nat) : Prop where
  dl : Dl n m d
  lt : ∀ t, t < m → g t < m
  hand : ∀ t, t < m → at0 d (g t) = ho n order t
  sum : ∀ f j, Vl f d j = S m fun t => if ho n order t = j then f (g t) else 0
  first : ∀ t t', t < t' → t' < m → wv ws (ho n order t) (g t') ≤ wv ws (ho n order t) (g t)
/-- when t turns are over -/
structure Tn (ws : Ws) (n m : Nat) (order : List Nat) (t : Nat) (l : List (Option Nat)) (g : Nat → Nat) : Prop where
  len : l.length = m
  lt : ∀ i, i < t → g i < m
  hand : ∀ i, i < t → og l (g i) = some (ho n order i)
  sum : ∀ (f : Nat → Nat) (j : Nat), S m (fun k => if og l k = some j then f k else 0) = S t fun i => if ho n order i = j then f (g i) else 0
  free : (l.filter fun o => decide (o = none)).length + t = m
  past : ∀ i k, i < t → k < m → og l k = none → wv ws (ho n order i) k ≤ wv ws (ho n order i) (g i)
  first : ∀ i i', i < i' → i' < t → wv ws (ho n order i) (g i') ≤ wv ws (ho n order i) (g i)
theorem filter_set {α : Type} (p : α → Bool) {v : α} (hv : p v = false) : ∀ {l : List α} {x : Nat} {a : α}, l[x]? = some a → p a = true → ((l.set x v).filter p).length + 1 = (l.filter p).length
  | [], _, _, h, _ => by simp at h
  | b :: l, 0, a, h, ha => by
    have : b = a := by simpa using h
    subst this
    rw [List.set_cons_zero, List.filter_cons_of_neg (by simp [hv]), List.filter_cons_of_pos ha, List.length_cons]
  | b :: l, x + 1, a, h, ha => by
    have h : l[x]? = some a := by simpa using h
    have ih := filter_set p hv h ha
    rw [List.set_cons_succ]
    by_cases hb : p b = true
    · rw [List.filter_cons_of_pos hb, List.filter_cons_of_pos hb, List.length_cons, List.length_cons]; omega
    · rw [List.filter_cons_of_neg hb, List.filter_cons_of_neg hb]; exact ih
theorem Tn.step {ws : Ws} {n m : Nat} {order : List Nat} {t : Nat} {l : List (Option Nat)} {g : Nat → Nat} (T : Tn ws n m order t l g) {x : Nat} (hx : x < m) (hn : og l x = none)
    (hm : ∀ k, k < m → og l k = none → wv ws (ho n order t) k ≤ wv ws (ho n order t) x) : Tn ws n m order (t + 1) (l.set x (some (ho n order t))) (fun i => if i = t then x else g i) := by
  have hl : x < l.length := by rw [T.len]; exact hx
  have hgi : ∀ i, i < t → g i ≠ x := fun i hi z => by have := T.hand i hi; rw [z, hn] at this; cases this
  refine ⟨by simp [T.len], fun i hi => ?_, fun i hi => ?_, fun f j => ?_, ?_, fun i k hi hk hnk => ?_, fun i i' hi hi' => ?_⟩
  · by_cases h : i = t
    · simp [h, hx]
    · simp [h]; exact T.lt i (by omega)
  · rw [og_set hl]
    by_cases h : i = t
    · simp [h]
    · simp only [if_neg h, if_neg (hgi i (by omega))]
      exact T.hand i (by omega)
  · show _ = S t _ + _
    rw [S_congr (n := t) (g := fun i => if ho n order i = j then f (g i) else 0) (fun i hi => by rw [if_neg (show ¬ i = t by omega)]), ← T.sum f j]
    show _ = S m _ + (if ho n order t = j then f (if t = t then x else g t) else 0)
    rw [if_pos (rfl : t = t)]
    rw [S_split hx, S_split (f := fun k => if og l k = some j then f k else 0) hx]
    have e : S m (fun k => if k = x then 0 else if og (l.set x (some (ho n order t))) k = some j then f k else 0) = S m (fun k => if k = x then 0 else if og l k = some j then f k else 0) := S_congr fun k _ => by
      by_cases h : k = x
      · rw [if_pos h, if_pos h]
      · rw [if_neg h, if_neg h, og_set hl, if_neg h]
    rw [e, og_set hl, if_pos rfl, hn, if_neg (show ¬ (none : Option Nat) = some j by simp)]
    by_cases h : ho n order t = j
    · rw [if_pos h, if_pos (by rw [h])]; omega
    · rw [if_neg h, if_neg (by simpa using h)]
  · have hge : l[x]? = some none := by
      have : og l x = l[x] := by unfold og; rw [List.getD_eq_getElem?_getD, List.getElem?_eq_getElem hl]; rfl
      rw [List.getElem?_eq_getElem hl, ← this, hn]
    have := filter_set (fun o : Option Nat => decide (o = none)) (v := some (ho n order t)) (by simp) hge (by simp)
    have := T.free
    omega
  · have hkx : k ≠ x := fun z => by rw [z, og_set hl, if_pos rfl] at hnk; cases hnk
    rw [og_set hl, if_neg hkx] at hnk
    by_cases h : i = t
    · subst h; simp; exact hm k hk hnk
    · simp only [if_neg h]; exact T.past i k (by omega) hk hnk
  · by_cases h : i' = t
    · subst h
      simp only [if_pos, if_neg (show ¬ i = i' by omega)]
      exact T.past i x hi hx hn
    · simp only [if_neg h, if_neg (show ¬ i = t by omega)]
      exact T.first i i' hi (by omega)
theorem Tn.fin {ws : Ws} {n m : Nat} {order : List Nat} {l : List (Option Nat)} {g : Nat → Nat} (ho_lt : ∀ t, ho n order t < n) (T : Tn ws n m order m l g) : ∃ d : List Nat, l = d.map some ∧ Tr ws n m order d g := by
  have h0 : ∀ o ∈ l, o ≠ none := fun o hol z => by
    have hm : o ∈ l.filter fun o => decide (o = none) := List.mem_filter.mpr ⟨hol, by simp [z]⟩
    have := List.length_pos_of_mem hm
    have := T.free
    omega
  have hex : ∃ d : List Nat, l = d.map some := by
    clear T
    induction l with
    | nil => exact ⟨[], rfl⟩
    | cons o l ih =>
      obtain ⟨d, hd⟩ := ih fun o ho => h0 o (by simp [ho])
      cases o with
      | none => exact absurd rfl (h0 none (by simp))
      | some a => exact ⟨a :: d, by rw [hd]; rfl⟩
  obtain ⟨d, rfl⟩ := hex
  have hog : ∀ k, k < m → og (d.map some) k = some (at0 d k) := fun k hk => by
    have hk : k < d.length := by have := T.len; simp at this; omega
    unfold og at0
    rw [List.getD_eq_getElem?_getD, List.getD_eq_getElem?_getD, List.getElem?_map, List.getElem?_eq_getElem hk]; rfl
  have hlen : d.length = m := by simpa using T.len
  have hsum : ∀ f j, Vl f d j = S m fun t => if ho n order t = j then f (g t) else 0 := fun f j => by
    rw [← T.sum f j, Vl_S, hlen]
    exact S_congr fun k hk => by rw [hog k hk]; simp
  refine ⟨d, rfl, ⟨hlen, fun x hx => ?_⟩, T.lt, fun t ht => ?_, hsum, T.first⟩
  · -- x is some hand's, so its pile holds something
    obtain ⟨k, hk, e⟩ := List.getElem_of_mem hx
    have hxk : at0 d k = x := by unfold at0; rw [List.getD_eq_getElem?_getD, List.getElem?_eq_getElem hk]; exact e
    have h1 := hsum (fun _ => 1) x
    have h2 := Vl_ge (f := fun _ => 1) (mem_pile.mpr ⟨hk, hxk⟩)
    have h3 : S m (fun _ => 0) < S m (fun t => if ho n order t = x then 1 else 0) := by rw [S_zero, ← h1]; exact h2
    obtain ⟨t, ht, hl⟩ := S_ex h3
    by_cases hc : ho n order t = x
    · rw [← hc]; exact ho_lt t
    · simp [hc] at hl
  · have := T.hand t ht
    rw [hog _ (T.lt t ht)] at this
    exact Option.some.inj this
theorem srt_range {n : Nat} {order : List Nat} (h : order.Perm (List.range n)) : srt order = List.range n := by
  refine ((srt_perm order).trans h).eq_of_pairwise (le := fun a b : Nat => a ≤ b) (fun a b _ _ h1 h2 => by omega) ?_ ?_
  · refine (srt_pair _).imp fun {a b} h => ?_
    have h : decide (b < a) = false := h
    simp at h; exact h
  · exact List.pairwise_lt_range.imp fun h => Nat.le_of_lt h
theorem ho_lt {n : Nat} {order : List Nat} (h1 : 1 ≤ n) (h : order.Perm (List.range n)) (t : Nat) : ho n order t < n := by
  have hl : order.length = n := by simpa using h.length_eq
  have ht : t % n < order.length := by rw [hl]; exact Nat.mod_lt _ h1
  unfold ho at0
  rw [List.getD_eq_getElem?_getD, List.getElem?_eq_getElem ht]
  exact List.mem_range.mp (h.mem_iff.mp (List.getElem_mem ht))
theorem turns_eq {ws : Ws} {n m : Nat} (W : Wt ws n m) {order : List Nat} (hp : order.Perm (List.range n)) (s : DS) :
    wp (m_in_turns [wD ws, rD order]) s fun v s' => s' = s ∧ ∃ d g, v = rD d ∧ Tr ws n m order d g := by
  have h1 := W.h1
  have h4 := W.h4
  have h7 := W.h7
  refine wp_def rfl ?_
  have hol : order.length = n := by simpa using hp.length_eq
  have h0 := ix_row0 ws (by rw [W.hn]; omega)
  have r0 := (W.row (show 0 < n by omega)).1
  have hsx : sortX [rD order] = some ((List.range n).map EnQ.e) := by
    have := sort_nats order
    rw [srt_range hp] at this
    exact this
  have hrg : rgo1 (.int (n : Nat)) = some ((List.range n).map EnQ.e) := by
    show (if _ then some (rangeL 0 ((n : Int)).toNat) else none) = _
    rw [if_pos (by omega)]
    unfold rangeL
    congr 1
    simp
    intro a _; rfl
  have hne : neD (.lst ((List.range n).map EnQ.e)) (.lst ((List.range n).map EnQ.e)) = some (.bl false) := by rw [neL_en (α := Nat) (by decide)]; simp
  have hrep : repO (.lst [.non]) (.int (m : Nat)) = some (List.replicate m .non) := repO_1 _ (by omega)
  have hrm : rng1D [.int (m : Nat)] = some ((List.range m).map EnQ.e) := rng1_n (by omega)
  simp [g_in_turns, List.replicate, wp_eq (check_division_eq W), hsx, W.hn, hrg, hne, h0, r0, hrep, hrm, SZ_eq, -ixD_tn]
  have e0 : List.replicate m D.non = (List.replicate m (none : Option Nat)).map EnQ.e := by rw [List.map_replicate]; rfl
  rw [e0]
  have T0 : Tn ws n m order 0 (List.replicate m none) (fun _ => 0) := by
    have hog : ∀ k, og (List.replicate m none) k = none := fun k => by
      unfold og; rw [List.getD_eq_getElem?_getD, List.getElem?_replicate]; split <;> rfl
    refine ⟨by simp, fun i hi => by omega, fun i hi => by omega, fun f j => ?_, by simp, fun i k hi => by omega, fun i i' h h' => by omega⟩
    rw [S_congr (g := fun _ => 0) (fun k _ => by rw [hog]; simp), S_zero]; rfl
  have hfold : ∀ (a b : Nat), (List.range' a b).map (fun t => (EnQ.e t : D)) = (List.range' a b).map EnQ.e := fun _ _ => rfl
  rw [List.range_eq_range']
  refine wp_rest EnQ.e (fun rest ρ s' => s' = s ∧ ∃ (t : Nat) (l : List (Option Nat)) (g : Nat → Nat) (x3 x4 x5 x6 : Slot), rest = List.range' t (m - t) ∧ t ≤ m ∧ Tn ws n m order t l g ∧ ρ = [.sh (wD ws), .sh (rD order), .ow (l.map EnQ.e), x3, x4, x5, x6]) (List.range' 0 m)
    (fun t0 ts ρ s' hJ => ?_) (fun ρ s' hJ => ?_) ⟨rfl, 0, _, _, _, _, _, _, rfl, Nat.zero_le _, T0, rfl⟩
  · obtain ⟨rfl, t, l, g, x3, x4, x5, x6, hrest, htm, T, rfl⟩ := hJ
    have htl : t < m := by
      refine Nat.lt_of_le_of_ne htm fun z => ?_
      rw [z, Nat.sub_self] at hrest; simp at hrest
    obtain ⟨q, hq⟩ : ∃ q, m - t = q + 1 := ⟨m - t - 1, by omega⟩
    rw [hq, List.range'_succ] at hrest
    obtain ⟨rfl, rfl⟩ := List.cons.inj hrest
    have ll := T.len
    have hrl : rng1D [.int (l.length : Nat)] = some ((List.range l.length).map EnQ.e) := rng1_n (by omega)
    have hmod : modD (.int (t0 : Nat)) (.int (n : Nat)) = some (.int (t0 % n : Nat)) := by rw [modD_ii _ (by omega)]; simp
    have hix := ix_nat order (k := t0 % n) (by rw [hol]; exact Nat.mod_lt _ h1)
    have hh := ho_lt h1 hp t0
    have e1 := ix_row ws (j := ho n order t0) (by rw [W.hn]; exact hh)
    have rl := (W.row hh).1
    refine ⟨_, rfl, ?_⟩
    simp only [e_N]
    simp [hol, hmod, hix, ll, hrm, wipeR, -ixD_tn, -Int.natCast_emod]
    refine wp_compF (p := fun k : Nat => decide (og l k = none)) (f := fun k : Nat => EnQ.e ((-(wv ws (ho n order t0) k : Nat) : Int), k)) _ (fun k hk => ?_) ?_
    · have hk := List.mem_range.mp hk
      have hkl : k < l.length := by omega
      have i1 := ix_og l hkl
      have i2 := ix_nat (Lw.row ws (ho n order t0)) (k := k) (by rw [rl]; exact hk)
      refine ⟨_, rfl, fun s => ⟨?_, fun _ => ?_⟩⟩
      · simp only [e_N]
        simp [i1, isN_og, -ixD_ln]
        exact (Classical.em _).symm
      · have e1' : ixD (wD ws) (.int (at0 order (t0 % n) : Nat)) = some (rD (Lw.row ws (ho n order t0))) := e1
        simp only [e_N, e_P, e_I]
        simp [e1', i2, SZ_eq, -ixD_tn, wv_at0]
    · -- somebody is free
      have hfree : (List.range m).filter (fun k => decide (og l k = none)) ≠ [] := fun z => by
        have h2 := T.free
        have hpos : 0 < (l.filter fun o => decide (o = none)).length := by omega
        obtain ⟨o, ho'⟩ := List.exists_mem_of_length_pos hpos
        obtain ⟨hm1, hm2⟩ := List.mem_filter.mp ho'
        obtain ⟨k, hk, e⟩ := List.getElem_of_mem hm1
        have : k ∈ (List.range m).filter (fun k => decide (og l k = none)) := List.mem_filter.mpr ⟨List.mem_range.mpr (by omega), by
          unfold og; rw [List.getD_eq_getElem?_getD, List.getElem?_eq_getElem hk, e]; exact hm2⟩
        rw [z] at this; cases this
      obtain ⟨c, cs, hc⟩ := List.exists_cons_of_ne_nil hfree
      have e3 : ((List.range m).filter (fun k => decide (og l k = none))).map (fun k : Nat => (EnQ.e ((-(wv ws (ho n order t0) k : Nat) : Int), k) : D)) = (((-(wv ws (ho n order t0) c : Nat) : Int), c) :: cs.map fun k => ((-(wv ws (ho n order t0) k : Nat) : Int), k)).map EnQ.e := by
        rw [hc, List.map_cons, List.map_cons, List.map_map]; rfl
      rw [e3]
      have hmin : minD [.lst ((((-(wv ws (ho n order t0) c : Nat) : Int), c) :: cs.map fun k => ((-(wv ws (ho n order t0) k : Nat) : Int), k)).map EnQ.e)] = some (EnQ.e (mnE ((-(wv ws (ho n order t0) c : Nat) : Int), c) (cs.map fun k => ((-(wv ws (ho n order t0) k : Nat) : Int), k)))) := min_seq (α := Int × Nat) (by decide) rfl
      generalize ((((-(wv ws (ho n order t0) c : Nat) : Int), c) :: cs.map fun k => ((-(wv ws (ho n order t0) k : Nat) : Int), k)).map EnQ.e : List D) = Ld at hmin ⊢
      have hmem := mnE_mem ((-(wv ws (ho n order t0) c : Nat) : Int), c) (cs.map fun k => ((-(wv ws (ho n order t0) k : Nat) : Int), k))
      have hle := mnE_le ((-(wv ws (ho n order t0) c : Nat) : Int), c) (cs.map fun k => ((-(wv ws (ho n order t0) k : Nat) : Int), k))
      have e4 : (((-(wv ws (ho n order t0) c : Nat) : Int), c) :: cs.map fun k => ((-(wv ws (ho n order t0) k : Nat) : Int), k)) = (c :: cs).map fun k => ((-(wv ws (ho n order t0) k : Nat) : Int), k) := rfl
      rw [e4, ← hc] at hmem hle
      generalize mnE ((-(wv ws (ho n order t0) c : Nat) : Int), c) (cs.map fun k => ((-(wv ws (ho n order t0) k : Nat) : Int), k)) = mn at hmin hmem hle
      obtain ⟨x, hx, rfl⟩ := List.mem_map.mp hmem
      obtain ⟨hx1, hx2⟩ := List.mem_filter.mp hx
      have hx1 := List.mem_range.mp hx1
      have hx2 := of_decide_eq_true hx2
      have i1 : ixD (EnQ.e ((-(wv ws (ho n order t0) x : Nat) : Int), x)) (.int 1) = some (.int (x : Nat)) := rfl
      have hst := T.step hx1 hx2 fun k hk hn => by
        have := hle _ (List.mem_map.mpr ⟨k, List.mem_filter.mpr ⟨List.mem_range.mpr hk, decide_eq_true hn⟩, rfl⟩)
        have this : (decide (-(wv ws (ho n order t0) k : Int) < -(wv ws (ho n order t0) x : Int)) || (!decide (-(wv ws (ho n order t0) x : Int) < -(wv ws (ho n order t0) k : Int)) && decide (k < x))) = false := this
        simp at this
        omega
      simp [hmin, i1, ixN_nat (n := l.length) (k := x) (by omega), ll, ixN_nat hx1]
      exact ⟨t0 + 1, ⟨by omega, .inr rfl⟩, by omega, l.set x (some (ho n order t0)), ⟨_, hst⟩, by rw [List.map_set]; rfl⟩
  · obtain ⟨rfl, t, l, g, x3, x4, x5, x6, hrest, htm, T, rfl⟩ := hJ
    have : t = m := by
      have := congrArg List.length hrest
      simp at this
      omega
    subst this
    obtain ⟨d, rfl, hT⟩ := T.fin (ho_lt h1 hp)
    have e5 : ((d.map some).map EnQ.e : List D) = d.map EnQ.e := by rw [List.map_map]; rfl
    rw [e5]
    simp
    exact ⟨d, rfl, g, hT⟩
end Lw
set_option maxHeartbeats 1000000
namespace Lw
open PySem PySem.Spec PyProof.Rows L2 Pu
/-! ### products -/
def P : Nat → (Nat → Nat) → Nat
  | 0, _ => 1
  | n + 1, v => P n v * max 1 (v n)
def C (n : Nat) (v : Nat → Nat) : Nat := S n fun j => if 0 < v j then 1 else 0
theorem prK_eq (v : Nat → Nat) : ∀ n, prK ((List.range n).map v) = (C n v, P n v)
  | 0 => rfl
  | n + 1 => by
    have ih := prK_eq v n
    unfold prK at ih ⊢
    rw [List.range_succ, List.map_append, List.filter_append, List.length_append, List.foldl_append]
    have h1 := congrArg Prod.fst ih
    have h2 := congrArg Prod.snd ih
    simp only at h1 h2
    rw [h1, h2]
    by_cases h : 0 < v n
    · simp [h, C, S, P, prF]
    · simp [h, C, S, P, prF]
theorem P_pos (v : Nat → Nat) : ∀ n, 0 < P n v
  | 0 => Nat.one_pos
  | n + 1 => Nat.mul_pos (P_pos v n) (by omega)
theorem P_le {v v' : Nat → Nat} : ∀ {n}, (∀ j, j < n → v j ≤ v' j) → P n v ≤ P n v'
  | 0, _ => Nat.le_refl _
  | n + 1, h => Nat.mul_le_mul (P_le fun j hj => h j (by omega)) (by have := h n (by omega); omega)
theorem P_congr {v v' : Nat → Nat} : ∀ {n}, (∀ j, j < n → v j = v' j) → P n v = P n v'
  | 0, _ => rfl
  | n + 1, h => by
    show P n v * _ = P n v' * _
    rw [P_congr fun j hj => h j (by omega), h n (by omega)]
/-- one hand's factor taken out -/
theorem P_one {v : Nat → Nat} {i : Nat} : ∀ {n}, i < n → P n v = P n (fun j => if j = i then 1 else v j) * max 1 (v i)
  | n + 1, h => by
    show P n v * max 1 (v n) = P n (fun j => if j = i then 1 else v j) * max 1 (if n = i then 1 else v n) * max 1 (v i)
    by_cases e : n = i
    · subst e
      rw [if_pos rfl, P_congr (v := v) (v' := fun j => if j = n then 1 else v j) (fun j hj => by rw [if_neg (by omega)])]
      simp
    · rw [if_neg e, P_one (show i < n by omega), Nat.mul_right_comm]
theorem P_lt {v v' : Nat → Nat} {n i : Nat} (h : ∀ j, j < n → v j ≤ v' j) (hi : i < n) (h0 : 0 < v i) (hl : v i < v' i) : P n v < P n v' := by
  rw [P_one hi, P_one (v := v') hi]
  have h1 : P n (fun j => if j = i then 1 else v j) ≤ P n (fun j => if j = i then 1 else v' j) := P_le fun j hj => by
    by_cases e : j = i
    · simp [e]
    · simp only [if_neg e]; exact h j hj
  have h2 := P_pos (fun j => if j = i then 1 else v j) n
  have h3 : P n (fun j => if j = i then 1 else v j) * max 1 (v i) < P n (fun j => if j = i then 1 else v j) * max 1 (v' i) := Nat.mul_lt_mul_of_pos_left (by omega) h2
  exact Nat.lt_of_lt_of_le h3 (Nat.mul_le_mul_right _ h1)
/-- two hands' factors taken out -/
theorem P_two {v v' : Nat → Nat} {n i j : Nat} (hi : i < n) (hj : j < n) (hij : i ≠ j) (h : ∀ k, k < n → k ≠ i → k ≠ j → v k = v' k) :
    ∃ R, 0 < R ∧ P n v = R * max 1 (v j) * max 1 (v i) ∧ P n v' = R * max 1 (v' j) * max 1 (v' i) := by
  refine ⟨P n (fun k => if k = j then 1 else if k = i then 1 else v k), P_pos _ n, ?_, ?_⟩
  · rw [P_one hi, P_one (v := fun k => if k = i then 1 else v k) hj]
    simp only [if_neg (show ¬ j = i from fun z => hij z.symm)]
  · rw [P_one hi, P_one (v := fun k => if k = i then 1 else v' k) hj]
    simp only [if_neg (show ¬ j = i from fun z => hij z.symm)]
    rw [P_congr (v := fun k => if k = j then 1 else if k = i then 1 else v' k) (v' := fun k => if k = j then 1 else if k = i then 1 else v k) (fun k hk => by
      by_cases e1 : k = j
      · rw [if_pos e1, if_pos e1]
      · rw [if_neg e1, if_neg e1]
        by_cases e2 : k = i
        · rw [if_pos e2, if_pos e2]
        · rw [if_neg e2, if_neg e2, h k hk e2 e1])]
def ltK (a b : Nat × Nat) : Prop := a.1 < b.1 ∨ (a.1 = b.1 ∧ a.2 < b.2)
theorem lt_K (a b : Nat × Nat) : En.lt a b = true ↔ ltK a b := by
  show (decide (a.1 < b.1) || (!decide (b.1 < a.1) && decide (a.2 < b.2))) = true ↔ _
  unfold ltK
  simp
  omega
/-- better for all: a greater key -/
theorem key_pareto {v v' : Nat → Nat} {n : Nat} (h : ∀ j, j < n → v j ≤ v' j) {i : Nat} (hi : i < n) (hl : v i < v' i) : ltK (C n v, P n v) (C n v', P n v') := by
  by_cases h0 : 0 < v i
  · have hc : C n v ≤ C n v' := S_le fun j hj => by
      have := h j hj
      by_cases a : 0 < v j
      · rw [if_pos a, if_pos (by omega)]; exact Nat.le_refl _
      · rw [if_neg a]; exact Nat.zero_le _
    rcases Nat.lt_or_eq_of_le hc with hc | hc
    · exact .inl hc
    · exact .inr ⟨hc, P_lt h hi h0 hl⟩
  · refine .inl (S_lt (fun j hj => ?_) hi ?_)
    · have := h j hj
      by_cases a : 0 < v j
      · rw [if_pos a, if_pos (by omega)]; exact Nat.le_refl _
      · rw [if_neg a]; exact Nat.zero_le _
    · rw [if_neg h0, if_pos (by omega)]; exact Nat.one_pos
/-- somebody with nothing gets something, and nobody loses all -/
theorem key_some {v v' : Nat → Nat} {n i j : Nat} (hi : i < n) (h : ∀ k, k < n → k ≠ i → k ≠ j → v k = v' k) (h0 : v i = 0) (h1 : 0 < v' i) (h2 : 0 < v j → 0 < v' j) : ltK (C n v, P n v) (C n v', P n v') := by
  refine .inl (S_lt (fun k hk => ?_) hi ?_)
  · by_cases a : 0 < v k
    · rw [if_pos a]
      by_cases e : k = i
      · subst e; omega
      · by_cases e2 : k = j
        · subst e2; rw [if_pos (h2 a)]; exact Nat.le_refl _
        · rw [← h k hk e e2, if_pos a]; exact Nat.le_refl _
    · rw [if_neg a]; exact Nat.zero_le _
  · rw [if_neg (by omega), if_pos h1]; exact Nat.one_pos
/-- a greater product of two -/
theorem key_prod {v v' : Nat → Nat} {n i j : Nat} (hi : i < n) (hj : j < n) (hij : i ≠ j) (h : ∀ k, k < n → k ≠ i → k ≠ j → v k = v' k) (a1 : 0 < v i) (a2 : 0 < v j) (hp : v i * v j < v' i * v' j) : ltK (C n v, P n v) (C n v', P n v') := by
  have b1 : 0 < v' i := Nat.pos_of_ne_zero fun z => by rw [z, Nat.zero_mul] at hp; omega
  have b2 : 0 < v' j := Nat.pos_of_ne_zero fun z => by rw [z, Nat.mul_zero] at hp; omega
  have hc : C n v = C n v' := S_congr fun k hk => by
    by_cases e : k = i
    · subst e; rw [if_pos a1, if_pos b1]
    · by_cases e2 : k = j
      · subst e2; rw [if_pos a2, if_pos b2]
      · rw [h k hk e e2]
  refine .inr ⟨hc, ?_⟩
  obtain ⟨R, hR, e1, e2⟩ := P_two hi hj hij h
  show P n v < P n v'
  rw [e1, e2, Nat.max_eq_right a1, Nat.max_eq_right a2, Nat.max_eq_right b1, Nat.max_eq_right b2, Nat.mul_assoc, Nat.mul_assoc]
  exact Nat.mul_lt_mul_of_pos_left (by rw [Nat.mul_comm (v j), Nat.mul_comm (v' j)]; exact hp) hR
/-! ### the dealing with the best product -/
def vf (ws : Ws) (d : List Nat) : Nat → Nat := fun h => Vl (wv ws h) d h
theorem best_max {ws : Ws} {n m : Nat} {b : List Nat} (hb : best ws n m b) : Dl n m b ∧ ∀ d, Dl n m d → ¬ ltK (C n (vf ws b), P n (vf ws b)) (C n (vf ws d), P n (vf ws d)) := by
  refine ⟨(mem_dl n m b).mp (FM.mem hb), fun d hd hl => ?_⟩
  have := FM.max hb d ((mem_dl n m d).mpr hd)
  have e : ∀ d, prK (vals ws n d) = (C n (vf ws d), P n (vf ws d)) := fun d => prK_eq (vf ws d) n
  simp only [e] at this
  rw [(lt_K _ _).mpr hl] at this
  cases this
theorem best_NoB {ws : Ws} {n m : Nat} {b : List Nat} (hb : best ws n m b) : NoB ws n m b := fun d' hd hle j hj => by
  refine Classical.byContradiction fun hne => (best_max hb).2 d' hd ?_
  exact key_pareto (v := vf ws b) (v' := vf ws d') hle hj (by have := hle j hj; show Vl _ _ _ < Vl _ _ _; omega)
theorem Vl_drop {d : List Nat} {j g : Nat} (h : g ∈ pile d j) (f : Nat → Nat) : Vl f d j = Vl (fun k => if k = g then 0 else f k) d j + f g := by
  obtain ⟨h1, h2⟩ := mem_pile.mp h
  rw [Vl_S, Vl_S, S_split h1, if_pos h2]
  congr 1
  exact S_congr fun k _ => by by_cases a : k = g <;> by_cases b : at0 d k = j <;> simp [a, b]
/-- a thing of j's goes over to i: what all have then -/
theorem give {ws : Ws} {n m : Nat} {d : List Nat} (D : Dl n m d) {i j g : Nat} (hi : i < n) (hij : i ≠ j) (hg : g ∈ pile d j) :
    Dl n m (d.set g i) ∧ vf ws (d.set g i) i = vf ws d i + wv ws i g ∧ vf ws (d.set g i) j + wv ws j g = vf ws d j ∧ ∀ k, k ≠ i → k ≠ j → vf ws d k = vf ws (d.set g i) k := by
  obtain ⟨h1, h2⟩ := mem_pile.mp hg
  have hne : at0 d g ≠ i := by rw [h2]; exact fun z => hij z.symm
  refine ⟨set_Dl D g hi, ?_, ?_, fun k hk hk2 => ?_⟩
  · have := Vl_set h1 (wv ws i) hne i
    rw [h2, if_neg hij, if_pos rfl] at this
    exact this
  · have := Vl_set h1 (wv ws j) hne j
    rw [h2, if_pos rfl, if_neg (fun z => hij z.symm)] at this
    exact this
  · have := Vl_set h1 (wv ws k) hne k
    rw [h2, if_neg hk2, if_neg hk] at this
    exact this.symm
theorem best_EF {ws : Ws} {n m : Nat} {d : List Nat} (hb : best ws n m d) : EFx false ws n d := fun i j hi hj hlt => by
  obtain ⟨D, hmax⟩ := best_max hb
  have hij : i ≠ j := fun z => by subst z; omega
  show ∃ k ∈ pile d j, Vl (wv ws i) d j ≤ Vl (wv ws i) d i + wv ws i k
  refine Classical.byContradiction fun c => ?_
  have hc : ∀ k ∈ pile d j, Vl (wv ws i) d i + wv ws i k < Vl (wv ws i) d j := fun k hk => Nat.lt_of_not_le fun z => c ⟨k, hk, z⟩
  have hA : 0 < Vl (wv ws i) d j := by omega
  by_cases ha : vf ws d i = 0
  · -- i has nothing
    have key : ∀ g ∈ pile d j, 0 < wv ws i g → (0 < vf ws d j → wv ws j g < vf ws d j) → False := fun g hg h1 h2 => by
      obtain ⟨G1, G2, G3, G4⟩ := give (ws := ws) D hi hij hg
      exact hmax _ G1 (key_some hi (fun k _ h1 h2 => G4 k h1 h2) ha (by omega) (fun h => by have := h2 h; omega))
    obtain ⟨g, hg, hgp⟩ := Vl_pos hA
    refine key g hg hgp fun hp => Nat.lt_of_not_le fun hz => ?_
    -- then another of j's things is worth nothing to j
    have e1 := Vl_drop hg (wv ws i)
    have e2 : vf ws d j = _ := Vl_drop hg (wv ws j)
    have hc' := hc g hg
    obtain ⟨g', hg', hgp'⟩ := Vl_pos (f := fun k => if k = g then 0 else wv ws i k) (d := d) (j := j) (by omega)
    have hgg : ¬ g' = g := fun z => by simp [z] at hgp'
    simp only [if_neg hgg] at hgp'
    have e3 := Vl_ge (f := fun k => if k = g then 0 else wv ws j k) hg'
    simp only [if_neg hgg] at e3
    refine key g' hg' hgp' fun _ => ?_
    omega
  · have ha : 0 < vf ws d i := by omega
    by_cases hb0 : vf ws d j = 0
    · obtain ⟨g, hg, hgp⟩ := Vl_pos hA
      obtain ⟨G1, G2, G3, G4⟩ := give (ws := ws) D hi hij hg
      refine hmax _ G1 (key_pareto (i := i) (fun k hk => ?_) hi (by omega))
      by_cases e : k = i
      · subst e; omega
      · by_cases e2 : k = j
        · subst e2; omega
        · exact Nat.le_of_eq (G4 k e e2)
    · have hb0 : 0 < vf ws d j := by omega
      -- a thing worth more to i, for its part, than to j
      obtain ⟨g, hg, hgp, hgb⟩ : ∃ g ∈ pile d j, 0 < wv ws i g ∧ wv ws j g * Vl (wv ws i) d j ≤ wv ws i g * vf ws d j := by
        refine Classical.byContradiction fun c2 => ?_
        obtain ⟨g, hg, hgp⟩ := Vl_pos hA
        have e1 : Vl (fun k => vf ws d j * wv ws i k) d j < Vl (fun k => Vl (wv ws i) d j * wv ws j k) d j := by
          rw [Vl_S, Vl_S]
          refine S_lt (j := g) (fun k hk => ?_) (mem_pile.mp hg).1 ?_
          · by_cases e : at0 d k = j
            · rw [if_pos e, if_pos e]
              by_cases e2 : 0 < wv ws i k
              · refine Nat.le_of_not_lt fun z => c2 ⟨k, mem_pile.mpr ⟨hk, e⟩, e2, ?_⟩
                rw [Nat.mul_comm (wv ws j k), Nat.mul_comm (wv ws i k)]; omega
              · rw [show wv ws i k = 0 by omega, Nat.mul_zero]; exact Nat.zero_le _
            · rw [if_neg e, if_neg e]; exact Nat.le_refl _
          · rw [if_pos (mem_pile.mp hg).2, if_pos (mem_pile.mp hg).2]
            refine Nat.lt_of_not_le fun z => c2 ⟨g, hg, hgp, ?_⟩
            rw [Nat.mul_comm (wv ws j g), Nat.mul_comm (wv ws i g)]; exact z
        rw [Vl_mul, Vl_mul] at e1
        have : vf ws d j = Vl (wv ws j) d j := rfl
        rw [← this, Nat.mul_comm] at e1
        omega
      obtain ⟨G1, G2, G3, G4⟩ := give (ws := ws) D hi hij hg
      refine hmax _ G1 (key_prod hi hj hij (fun k _ h1 h2 => G4 k h1 h2) ha hb0 ?_)
      have hc' : vf ws d i + wv ws i g < Vl (wv ws i) d j := hc g hg
      generalize vf ws (d.set g i) i = v1 at *
      generalize vf ws (d.set g i) j = v2 at *
      generalize hvi : vf ws d i = a at *
      generalize hvj : vf ws d j = b at *
      generalize Vl (wv ws i) d j = A at *
      generalize wv ws i g = x at *
      generalize wv ws j g = y at *
      subst G2
      rw [← G3]
      -- a * (v2 + y) < (a + x) * v2
      have h1 : (a + x) * y < x * b := by
        by_cases hy : y = 0
        · subst hy; rw [Nat.mul_zero]; exact Nat.mul_pos hgp hb0
        · have : (a + x) * y < A * y := Nat.mul_lt_mul_of_pos_right hc' (by omega)
          rw [Nat.mul_comm A] at this
          omega
      rw [← G3] at h1
      rw [Nat.mul_add, Nat.add_mul]
      rw [Nat.add_mul, Nat.mul_add] at h1
      omega
theorem alike_EF {f : Nat → Nat} {ws : Ws} {n m : Nat} {d : List Nat} (hw : ∀ j, j < n → ∀ k, k < m → wv ws j k = f k) (hf : ∀ k, k < m → 0 < f k) (hb : best ws n m d) : EFx true ws n d := fun i j hi hj hlt => by
  obtain ⟨D, hmax⟩ := best_max hb
  have hij : i ≠ j := fun z => by subst z; omega
  show ∀ k ∈ pile d j, Vl (wv ws i) d j ≤ Vl (wv ws i) d i + wv ws i k
  intro g hg
  refine Nat.le_of_not_lt fun hl => ?_
  have hgm := pile_lt D j g hg
  have e1 : ∀ a, a < n → ∀ b, Vl (wv ws a) d b = Vl f d b := fun a ha b => Vl_congr (fun k hk => hw a ha k (by rw [← D.len]; exact hk)) b
  obtain ⟨G1, G2, G3, G4⟩ := give (ws := ws) D hi hij hg
  have v1 : vf ws d i = Vl f d i := e1 i hi i
  have v2 : vf ws d j = Vl f d j := e1 j hj j
  rw [hw i hi g hgm] at G2 hl
  rw [hw j hj g hgm] at G3
  rw [e1 i hi, e1 i hi] at hl
  have hfg := hf g hgm
  by_cases h0 : vf ws d i = 0
  · exact hmax _ G1 (key_some hi (fun k _ h1 h2 => G4 k h1 h2) h0 (by omega) (fun h => by omega))
  · refine hmax _ G1 (key_prod hi hj hij (fun k _ h1 h2 => G4 k h1 h2) (by omega) (by omega) ?_)
    generalize vf ws (d.set g i) i = a1 at *
    generalize vf ws (d.set g i) j = a2 at *
    rw [v1] at G2 ⊢
    rw [v2] at G3 ⊢
    generalize Vl f d i = a at *
    generalize Vl f d j = b at *
    generalize f g = x at *
    subst G2
    rw [← G3, Nat.mul_add, Nat.add_mul]
    have : a * x < x * a2 := by rw [Nat.mul_comm]; exact Nat.mul_lt_mul_of_pos_left (by omega) hfg
    omega
end Lw
set_option maxHeartbeats 1000000
namespace Lw
open PySem PySem.Spec PyProof.Rows L2 Pu
/-! ### levels: sorted lists one behind the other -/
def Srt (l : List Nat) : Prop := l.Pairwise (· ≤ ·)
theorem srt_Srt (l : List Nat) : Srt (srt l) := (srt_pair l).imp fun {a b} h => by
  have h : decide (b < a) = false := h
  simp at h; exact h
theorem lx_cons (a b : Nat) (l m : List Nat) : En.lt (a :: l) (b :: m) = true ↔ a < b ∨ (a = b ∧ En.lt l m = true) := by
  show (decide (a < b) || (!decide (b < a) && lxL En.lt l m)) = true ↔ a < b ∨ (a = b ∧ lxL En.lt l m = true)
  simp
  constructor
  · rintro (h | ⟨h1, h2⟩)
    · exact .inl h
    · rcases Nat.lt_or_eq_of_le h1 with h | h
      · exact .inl h
      · exact .inr ⟨h, h2⟩
  · rintro (h | ⟨h1, h2⟩)
    · exact .inl h
    · exact .inr ⟨by omega, h2⟩
theorem lx_of {t : Nat} : ∀ {a b : List Nat}, Srt a → Srt b → a.length = b.length → (∀ s, s < t → a.count s = b.count s) → b.count t < a.count t → En.lt a b = true
  | [], b, _, _, _, _, h => by simp at h
  | x :: a, [], _, _, h, _, _ => by simp at h
  | x :: a, y :: b, ha, hb, hl, hs, ht => by
    rw [lx_cons]
    obtain ⟨ha1, ha2⟩ := List.pairwise_cons.mp ha
    obtain ⟨hb1, hb2⟩ := List.pairwise_cons.mp hb
    rcases Nat.lt_trichotomy x y with h | h | h
    · exact .inl h
    · subst h
      refine .inr ⟨rfl, lx_of (t := t) ha2 hb2 (by simpa using hl) (fun s h => ?_) ?_⟩
      · have := hs s h
        rw [List.count_cons, List.count_cons] at this
        omega
      · rw [List.count_cons, List.count_cons] at ht
        omega
    · exfalso
      have hy : ∀ s, s ≤ y → (x :: a).count s = 0 := fun s hsy => List.count_eq_zero.mpr fun hm => by
        rcases List.mem_cons.mp hm with e | hm
        · omega
        · have := ha1 s hm; omega
      have hp : 0 < (y :: b).count y := List.count_pos_iff.mpr (by simp)
      rcases Nat.lt_trichotomy y t with h2 | h2 | h2
      · have := hs y h2
        rw [hy y (Nat.le_refl _)] at this; omega
      · subst h2
        rw [hy y (Nat.le_refl _)] at ht; omega
      · rw [hy t (by omega)] at ht; omega
theorem count_S (v : Nat → Nat) (s : Nat) : ∀ n, ((List.range n).map v).count s = S n fun j => if v j = s then 1 else 0
  | 0 => rfl
  | n + 1 => by
    rw [List.range_succ, List.map_append, List.count_append, count_S v s n]
    show _ + [v n].count s = _ + _
    rw [List.count_singleton]
    by_cases h : v n = s <;> simp [h]
theorem srt_lt {v v' : Nat → Nat} {n t i : Nat} (h1 : ∀ s, s < t → ∀ j, j < n → (v j = s ↔ v' j = s)) (h2 : ∀ j, j < n → v' j = t → v j = t) (hi : i < n) (h3 : v i = t) (h4 : v' i ≠ t) :
    En.lt (srt ((List.range n).map v)) (srt ((List.range n).map v')) = true := by
  have hc : ∀ (v : Nat → Nat) s, (srt ((List.range n).map v)).count s = S n fun j => if v j = s then 1 else 0 := fun v s => by rw [(srt_perm _).count_eq, count_S]
  refine lx_of (t := t) (srt_Srt _) (srt_Srt _) (by rw [(srt_perm _).length_eq, (srt_perm _).length_eq]; simp) (fun s hs => ?_) ?_
  · rw [hc, hc]
    exact S_congr fun j hj => by
      by_cases e : v j = s
      · rw [if_pos e, if_pos ((h1 s hs j hj).mp e)]
      · rw [if_neg e, if_neg fun z => e ((h1 s hs j hj).mpr z)]
  · rw [hc, hc]
    refine S_lt (fun j hj => ?_) hi ?_
    · by_cases e : v' j = t
      · rw [if_pos e, if_pos (h2 j hj e)]; exact Nat.le_refl _
      · rw [if_neg e]; exact Nat.zero_le _
    · rw [if_neg h4, if_pos h3]; exact Nat.one_pos
theorem least {n : Nat} (p : Nat → Prop) [DecidablePred p] (v : Nat → Nat) : ∀ {n : Nat}, (∃ i, i < n ∧ p i) → ∃ i, i < n ∧ p i ∧ ∀ j, j < n → p j → v i ≤ v j
  | 0, h => by obtain ⟨i, hi, _⟩ := h; omega
  | n + 1, h => by
    by_cases c : ∃ i, i < n ∧ p i
    · obtain ⟨i, hi, hp, hm⟩ := least (n := n) p v c
      by_cases q : p n ∧ v n < v i
      · refine ⟨n, by omega, q.1, fun j hj hpj => ?_⟩
        by_cases e : j = n
        · subst e; exact Nat.le_refl _
        · have := hm j (by omega) hpj; omega
      · refine ⟨i, by omega, hp, fun j hj hpj => ?_⟩
        by_cases e : j = n
        · subst e
          exact Nat.le_of_not_lt fun z => q ⟨hpj, z⟩
        · exact hm j (by omega) hpj
    · obtain ⟨i, hi, hp⟩ := h
      have : i = n := Nat.le_antisymm (by omega) (Nat.le_of_not_lt fun z => c ⟨i, z, hp⟩)
      subst this
      refine ⟨i, hi, hp, fun j hj hpj => ?_⟩
      by_cases e : j = i
      · subst e; exact Nat.le_refl _
      · exact absurd ⟨j, by omega, hpj⟩ c
theorem level_pareto {v v' : Nat → Nat} {n : Nat} (h : ∀ j, j < n → v j ≤ v' j) {i : Nat} (hi : i < n) (hl : v i < v' i) : En.lt (srt ((List.range n).map v)) (srt ((List.range n).map v')) = true := by
  obtain ⟨k, hk, hp, hm⟩ := least (n := n) (fun j => v j < v' j) v ⟨i, hi, hl⟩
  refine srt_lt (t := v k) (i := k) (fun s hs j hj => ?_) (fun j hj e => ?_) hk rfl (by omega)
  · have h1 := h j hj
    constructor
    · intro e
      by_cases c : v j < v' j
      · have := hm j hj c; omega
      · omega
    · intro e
      by_cases c : v j < v' j
      · have := hm j hj c; omega
      · omega
  · have h1 := h j hj
    by_cases c : v j < v' j
    · have := hm j hj c; omega
    · omega
theorem level_give {v v' : Nat → Nat} {n i j : Nat} (hi : i < n) (hmin : ∀ k, k < n → v i ≤ v k) (h : ∀ k, k ≠ i → k ≠ j → v k = v' k) (h1 : v i < v' i) (h2 : v i < v' j) : En.lt (srt ((List.range n).map v)) (srt ((List.range n).map v')) = true := by
  have hv' : ∀ k, k < n → v i ≤ v' k := fun k hk => by
    by_cases e : k = i
    · subst e; omega
    · by_cases e2 : k = j
      · subst e2; omega
      · rw [← h k e e2]; exact hmin k hk
  refine srt_lt (t := v i) (i := i) (fun s hs k hk => ?_) (fun k hk e => ?_) hi rfl (by omega)
  · have a1 := hmin k hk
    have a2 := hv' k hk
    constructor <;> intro e <;> omega
  · by_cases e1 : k = i
    · rw [e1]
    · by_cases e2 : k = j
      · subst e2; omega
      · rw [h k e1 e2]; exact e
/-- the least of a level is its first -/
theorem srt_head {n : Nat} (hn : 1 ≤ n) (v : Nat → Nat) : ∃ i, i < n ∧ at0 (srt ((List.range n).map v)) 0 = v i ∧ ∀ k, k < n → v i ≤ v k := by
  have hl : (srt ((List.range n).map v)).length = n := by rw [(srt_perm _).length_eq]; simp
  have hs := srt_Srt ((List.range n).map v)
  have hm : ∀ x, x ∈ srt ((List.range n).map v) ↔ x ∈ (List.range n).map v := fun x => (srt_perm _).mem_iff
  cases hc : srt ((List.range n).map v) with
  | nil => rw [hc] at hl; simp at hl; omega
  | cons x xs =>
    rw [hc] at hs hm
    obtain ⟨i, hi, e⟩ := List.mem_map.mp ((hm x).mp (by simp))
    refine ⟨i, List.mem_range.mp hi, e.symm, fun k hk => ?_⟩
    have := (hm (v k)).mpr (List.mem_map.mpr ⟨k, List.mem_range.mpr hk, rfl⟩)
    rw [e]
    rcases List.mem_cons.mp this with e' | h
    · omega
    · exact (List.pairwise_cons.mp hs).1 _ h
theorem srt_last {n : Nat} (hn : 1 ≤ n) (v : Nat → Nat) : ∃ i, i < n ∧ at0 (srt ((List.range n).map v)) (n - 1) = v i ∧ ∀ k, k < n → v k ≤ v i := by
  have hl : (srt ((List.range n).map v)).length = n := by rw [(srt_perm _).length_eq]; simp
  have hs := srt_Srt ((List.range n).map v)
  have hm : ∀ x, x ∈ srt ((List.range n).map v) ↔ x ∈ (List.range n).map v := fun x => (srt_perm _).mem_iff
  generalize srt ((List.range n).map v) = l at *
  have hlt : n - 1 < l.length := by omega
  have e0 : at0 l (n - 1) = l[n - 1] := by unfold at0; rw [List.getD_eq_getElem?_getD, List.getElem?_eq_getElem hlt]; rfl
  obtain ⟨i, hi, e⟩ := List.mem_map.mp ((hm l[n - 1]).mp (List.getElem_mem hlt))
  refine ⟨i, List.mem_range.mp hi, by rw [e0, e], fun k hk => ?_⟩
  have := (hm (v k)).mpr (List.mem_map.mpr ⟨k, List.mem_range.mpr hk, rfl⟩)
  obtain ⟨p, hp, ep⟩ := List.getElem_of_mem this
  rw [e, ← ep]
  by_cases c : p = n - 1
  · subst c; exact Nat.le_refl _
  · exact List.pairwise_iff_getElem.mp hs p (n - 1) hp hlt (by omega)
theorem flat_max {ws : Ws} {n m : Nat} {b : List Nat} (hb : flat ws n m b) : Dl n m b ∧ ∀ d, Dl n m d → En.lt (srt (vals ws n b)) (srt (vals ws n d)) = false := ⟨(mem_dl n m b).mp (FM.mem hb), fun d hd => FM.max hb d ((mem_dl n m d).mpr hd)⟩
theorem flat_NoB {ws : Ws} {n m : Nat} {b : List Nat} (hb : flat ws n m b) : NoB ws n m b := fun d' hd hle j hj => by
  refine Classical.byContradiction fun hne => ?_
  have := (flat_max hb).2 d' hd
  have h2 : En.lt (srt (vals ws n b)) (srt (vals ws n d')) = true := level_pareto (v := vf ws b) (v' := vf ws d') hle hj (by have := hle j hj; show Vl _ _ _ < Vl _ _ _; omega)
  rw [h2] at this; cases this
/-- no dealing's least is more than the most level one's -/
theorem flat_least {ws : Ws} {n m : Nat} (hn : 1 ≤ n) {b : List Nat} (hb : flat ws n m b) {d : List Nat} (D : Dl n m d) : ∃ j, j < n ∧ vf ws d j ≤ at0 (srt (vals ws n b)) 0 := by
  have hmax := (flat_max hb).2 d D
  obtain ⟨i, hi, e1, h1⟩ := srt_head hn (vf ws b)
  obtain ⟨j, hj, e2, h2⟩ := srt_head hn (vf ws d)
  refine ⟨j, hj, ?_⟩
  show vf ws d j ≤ at0 (srt ((List.range n).map (vf ws b))) 0
  rw [← e2]
  refine Nat.le_of_not_lt fun hl => ?_
  have hl' : (srt ((List.range n).map (vf ws b))).length = n := by rw [(srt_perm _).length_eq]; simp
  have hl2 : (srt ((List.range n).map (vf ws d))).length = n := by rw [(srt_perm _).length_eq]; simp
  have hmax : En.lt (srt ((List.range n).map (vf ws b))) (srt ((List.range n).map (vf ws d))) = false := hmax
  cases ha : srt ((List.range n).map (vf ws b)) with
  | nil => rw [ha] at hl'; simp at hl'; omega
  | cons x xs =>
    cases hc : srt ((List.range n).map (vf ws d)) with
    | nil => rw [hc] at hl2; simp at hl2; omega
    | cons y ys =>
      rw [ha, hc] at hl hmax
      have : En.lt (x :: xs) (y :: ys) = true := (lx_cons _ _ _ _).mpr (.inl hl)
      rw [this] at hmax; cases hmax
theorem sum_vals (ws : Ws) (n : Nat) (d : List Nat) : (vals ws n d).sum = S n (vf ws d) := by
  have := filt_S (fun _ => true) (vf ws d) n
  rw [List.filter_eq_self.mpr (by simp)] at this
  simp only [if_true] at this
  exact this
/-- hands alike: the spread is at most the best thing -/
theorem flat_spread {f : Nat → Nat} {ws : Ws} {n m : Nat} (hn : 1 ≤ n) {b : List Nat} (hw : ∀ j, j < n → ∀ k, k < m → wv ws j k = f k) (hb : flat ws n m b) {M : Nat} (hM : ∀ k, k < m → f k ≤ M) :
    at0 (srt (vals ws n b)) (n - 1) ≤ at0 (srt (vals ws n b)) 0 + M := by
  obtain ⟨D, hmax⟩ := flat_max hb
  obtain ⟨i, hi, e1, h1⟩ := srt_head hn (vf ws b)
  obtain ⟨j, hj, e2, h2⟩ := srt_last hn (vf ws b)
  show at0 (srt ((List.range n).map (vf ws b))) (n - 1) ≤ at0 (srt ((List.range n).map (vf ws b))) 0 + M
  rw [e1, e2]
  refine Nat.le_of_not_lt fun hl => ?_
  have hij : i ≠ j := fun z => by subst z; omega
  obtain ⟨g, hg, hgp⟩ := Vl_pos (f := wv ws j) (d := b) (j := j) (by have : vf ws b j = Vl (wv ws j) b j := rfl; omega)
  have hgm := pile_lt D j g hg
  obtain ⟨G1, G2, G3, G4⟩ := give (ws := ws) D hi hij hg
  rw [hw i hi g hgm] at G2
  rw [hw j hj g hgm] at G3 hgp
  have := hM g hgm
  have hlt : En.lt (srt ((List.range n).map (vf ws b))) (srt ((List.range n).map (vf ws (b.set g i)))) = true := level_give (i := i) (j := j) hi h1 G4 (by omega) (by omega)
  have := hmax _ G1
  rw [show vals ws n b = (List.range n).map (vf ws b) from rfl, show vals ws n (b.set g i) = (List.range n).map (vf ws (b.set g i)) from rfl, hlt] at this
  cases this
theorem flat_SP {f : Nat → Nat} {ws : Ws} {n m : Nat} (hn : 1 ≤ n) {b : List Nat} (hw : ∀ j, j < n → ∀ k, k < m → wv ws j k = f k) (hb : flat ws n m b) : SP f n m (at0 (srt (vals ws n b)) 0) := by
  obtain ⟨D, hmax⟩ := flat_max hb
  have e1 : ∀ d, Dl n m d → ∀ a, a < n → vf ws d a = Vl f d a := fun d D a ha => Vl_congr (fun k hk => hw a ha k (by rw [← D.len]; exact hk)) a
  refine ⟨⟨b, D, fun j hj => ?_⟩, fun d hd => ?_⟩
  · obtain ⟨i, hi, e2, h2⟩ := srt_head hn (vf ws b)
    have := h2 j hj
    rw [← e1 b D j hj]
    show at0 (srt ((List.range n).map (vf ws b))) 0 ≤ _
    rw [e2]; exact this
  · obtain ⟨j, hj, h⟩ := flat_least hn hb hd
    exact ⟨j, hj, by rw [← e1 d hd j hj]; exact h⟩
/-- a balanced level of the same sum is the most level one -/
theorem lx_sum {c : Nat} : ∀ {a b : List Nat}, a.length = b.length → Srt b → (∀ x ∈ a, c ≤ x ∧ x ≤ c + 1) → En.lt a b = true → a.sum < b.sum
  | [], [], _, _, _, h => by cases h
  | [], y :: b, h, _, _, _ => by simp at h
  | x :: a, [], h, _, _, _ => by simp at h
  | x :: a, y :: b, hl, hb, ha, h => by
    obtain ⟨hb1, hb2⟩ := List.pairwise_cons.mp hb
    rw [List.sum_cons, List.sum_cons]
    rcases (lx_cons _ _ _ _).mp h with h | ⟨rfl, h'⟩
    · have hx := ha x (by simp)
      have : a.sum ≤ b.sum := by
        have key : ∀ {a b : List Nat}, a.length = b.length → (∀ u ∈ a, u ≤ c + 1) → (∀ u ∈ b, c + 1 ≤ u) → a.sum ≤ b.sum := by
          intro a
          induction a with
          | nil => intro b _ _ _; simp
          | cons u a ih =>
            intro b hl h1 h2
            cases b with
            | nil => simp at hl
            | cons w b =>
              rw [List.sum_cons, List.sum_cons]
              have := ih (by simpa using hl) (fun u hu => h1 u (by simp [hu])) (fun u hu => h2 u (by simp [hu]))
              have := h1 u (by simp)
              have := h2 w (by simp)
              omega
        refine key (by simpa using hl) (fun u hu => (ha u (by simp [hu])).2) fun u hu => ?_
        have := hb1 u hu
        omega
      omega
    · have := lx_sum (c := c) (by simpa using hl) hb2 (fun u hu => ha u (by simp [hu])) h'
      omega
theorem level_bal {ws : Ws} {n m : Nat} (hn : 1 ≤ n) {b d : List Nat} {f : Nat → Nat} (hw : ∀ j, j < n → ∀ k, k < m → wv ws j k = f k) (hb : flat ws n m b) (D : Dl n m d) (hsp : ∀ i j, i < n → j < n → vf ws d j ≤ vf ws d i + 1) : srt (vals ws n d) = srt (vals ws n b) := by
  obtain ⟨B, hmax⟩ := flat_max hb
  have e1 : ∀ d, Dl n m d → ∀ a, a < n → vf ws d a = Vl f d a := fun d D a ha => Vl_congr (fun k hk => hw a ha k (by rw [← D.len]; exact hk)) a
  have hsum : ∀ d, Dl n m d → (srt (vals ws n d)).sum = S m f := fun d D => by
    rw [(srt_perm _).sum_nat, sum_vals, S_congr (e1 d D), Vl_all D]
  obtain ⟨i, hi, e2, h2⟩ := srt_head hn (vf ws d)
  have hlt : En.lt (srt (vals ws n d)) (srt (vals ws n b)) = false := by
    cases hc : En.lt (srt (vals ws n d)) (srt (vals ws n b)) with
    | false => rfl
    | true =>
      have := lx_sum (c := vf ws d i) (by rw [(srt_perm _).length_eq, (srt_perm _).length_eq, vals_len, vals_len]) (srt_Srt _) (fun x hx => by
        obtain ⟨j, hj, rfl⟩ := List.mem_map.mp ((srt_perm _).mem_iff.mp hx)
        have hj := List.mem_range.mp hj
        exact ⟨h2 j hj, hsp i j hi hj⟩) hc
      rw [hsum d D, hsum b B] at this
      omega
  exact En.tot _ _ hlt (hmax d D)
end Lw
set_option maxHeartbeats 1000000
namespace Lw
open PySem PySem.Spec PyProof.Rows L2 Pu
/-! ### worths times a number -/
theorem P_times {v v' : Nat → Nat} {c h : Nat} (hc : 0 < c) : ∀ {n}, (∀ j, j < n → 0 < v j) → (∀ j, j < n → v' j = if j = h then c * v j else v j) → P n v' = (if h < n then c else 1) * P n v
  | 0, _, _ => by simp [P]
  | n + 1, hp, hv => by
    show P n v' * max 1 (v' n) = _ * (P n v * max 1 (v n))
    rw [P_times hc (fun j hj => hp j (by omega)) (fun j hj => hv j (by omega)), hv n (by omega)]
    have h0 := hp n (by omega)
    by_cases e : n = h
    · subst e
      have : 0 < c * v n := Nat.mul_pos hc h0
      rw [if_pos rfl, if_neg (by omega), if_pos (by omega), Nat.max_eq_right (show 1 ≤ v n from h0), Nat.max_eq_right (show 1 ≤ c * v n from this), Nat.one_mul, Nat.mul_left_comm]
    · rw [if_neg e]
      by_cases e2 : h < n
      · rw [if_pos e2, if_pos (by omega), Nat.mul_assoc]
      · rw [if_neg e2, if_neg (by omega), Nat.mul_assoc]
theorem C_le (v : Nat → Nat) (n : Nat) : C n v ≤ n := by
  have := S_le (n := n) (f := fun j => if 0 < v j then 1 else 0) (g := fun _ => 1) (fun j _ => by by_cases h : 0 < v j <;> simp [h])
  rw [S_const] at this
  unfold C; omega
theorem C_all {v : Nat → Nat} {n : Nat} (h : C n v = n) : ∀ j, j < n → 0 < v j := fun j hj => by
  refine Nat.pos_of_ne_zero fun z => ?_
  have := S_lt (n := n) (f := fun j => if 0 < v j then 1 else 0) (g := fun _ => 1) (fun j _ => by by_cases h : 0 < v j <;> simp [h]) hj (by simp [z])
  rw [S_const] at this
  unfold C at h; omega
def grown (ws : Ws) (h c : Nat) : Ws := ws.set h ((row ws h).map fun x => c * x)
theorem grown_wv {ws : Ws} {n m : Nat} (W : Wt ws n m) {h c : Nat} (hh : h < n) {j k : Nat} (hj : j < n) (hk : k < m) : wv (grown ws h c) j k = if j = h then c * wv ws j k else wv ws j k := by
  have hn := W.hn
  unfold grown wv
  rw [List.getD_eq_getElem?_getD (l := ws.set h _), List.getElem?_set]
  by_cases e : h = j
  · subst e
    have rl := (W.row hh).1
    rw [if_pos rfl, if_pos (by omega), if_pos rfl]
    show ((row ws h).map fun x => c * x).getD k 0 = c * (row ws h).getD k 0
    rw [List.getD_eq_getElem?_getD, List.getD_eq_getElem?_getD, List.getElem?_map, List.getElem?_eq_getElem (by omega)]; rfl
  · rw [if_neg e, if_neg fun z => e z.symm, ← List.getD_eq_getElem?_getD]
theorem grown_vf {ws : Ws} {n m : Nat} (W : Wt ws n m) {h c : Nat} (hh : h < n) {d : List Nat} (D : Dl n m d) {j : Nat} (hj : j < n) : vf (grown ws h c) d j = if j = h then c * vf ws d j else vf ws d j := by
  unfold vf
  by_cases e : j = h
  · rw [if_pos e, ← Vl_mul]
    exact Vl_congr (fun k hk => by rw [grown_wv W hh hj (by rw [← D.len]; exact hk), if_pos e]) j
  · rw [if_neg e]
    exact Vl_congr (fun k hk => by rw [grown_wv W hh hj (by rw [← D.len]; exact hk), if_neg e]) j
theorem best_grown {ws : Ws} {n m : Nat} (W : Wt ws n m) {h c : Nat} (hh : h < n) (hc : 0 < c) {a b : List Nat} (ha : best ws n m a) (hb : best (grown ws h c) n m b) (hall : C n (vf ws a) = n) : a = b := by
  have A := (mem_dl n m a).mp (FM.mem ha)
  have eK : ∀ (ws : Ws) d, prK (vals ws n d) = (C n (vf ws d), P n (vf ws d)) := fun ws d => prK_eq (vf ws d) n
  have cC : ∀ x, Dl n m x → C n (vf (grown ws h c) x) = C n (vf ws x) := fun x X => S_congr fun j hj => by
    rw [grown_vf W hh X hj]
    by_cases e : j = h
    · rw [if_pos e]
      by_cases p : 0 < vf ws x j
      · rw [if_pos p, if_pos (Nat.mul_pos hc p)]
      · rw [if_neg p, if_neg (by rw [show vf ws x j = 0 by omega]; simp)]
    · rw [if_neg e]
  have cP : ∀ x, Dl n m x → C n (vf ws x) = n → P n (vf (grown ws h c) x) = c * P n (vf ws x) := fun x X hx => by
    rw [P_times (v := vf ws x) (h := h) hc (C_all hx) (fun j hj => grown_vf W hh X hj), if_pos hh]
  refine FM.uniq ha hb fun x hx hne => ?_
  have X := (mem_dl n m x).mp hx
  have cl := C_le (vf ws x) n
  rw [eK, eK, eK, eK, lt_K, lt_K, ← Bool.not_eq_true, ← Bool.not_eq_true, lt_K, lt_K]
  unfold ltK
  simp only
  rw [cC x X, cC a A, hall]
  by_cases hx1 : C n (vf ws x) = n
  · rw [cP x X hx1, cP a A hall, hx1]
    constructor
    · rintro (h | ⟨_, h⟩)
      · omega
      · exact .inr ⟨rfl, Nat.mul_lt_mul_of_pos_left h hc⟩
    · intro h1 h2
      rcases h2 with h2 | ⟨_, h2⟩
      · omega
      · exact h1 (.inr ⟨rfl, Nat.lt_of_mul_lt_mul_left h2⟩)
  · constructor
    · rintro (h | ⟨h, _⟩) <;> omega
    · intro _ h2
      rcases h2 with h2 | ⟨h2, _⟩ <;> omega
theorem SP_mul {f g : Nat → Nat} {n m b c : Nat} (hg : ∀ k, k < m → g k = c * f k) (h : SP f n m b) : SP g n m (c * b) := by
  have e : ∀ d, Dl n m d → ∀ j, Vl g d j = c * Vl f d j := fun d D j => by
    rw [← Vl_mul]; exact Vl_congr (fun k hk => hg k (by rw [← D.len]; exact hk)) j
  obtain ⟨⟨d, D, h1⟩, h2⟩ := h
  refine ⟨⟨d, D, fun j hj => ?_⟩, fun d D => ?_⟩
  · rw [e d D]; exact Nat.mul_le_mul_left c (h1 j hj)
  · obtain ⟨j, hj, h⟩ := h2 d D
    exact ⟨j, hj, by rw [e d D]; exact Nat.mul_le_mul_left c h⟩
theorem SP_congr {f g : Nat → Nat} {n m b : Nat} (hg : ∀ k, k < m → g k = f k) (h : SP f n m b) : SP g n m b := by
  have := SP_mul (c := 1) (g := g) (fun k hk => by rw [Nat.one_mul]; exact hg k hk) h
  rwa [Nat.one_mul] at this
/-! ### means -/
theorem SP_mean {f : Nat → Nat} {n m b : Nat} (h : SP f n m b) : n * b ≤ S m f := by
  obtain ⟨⟨d, D, h1⟩, _⟩ := h
  rw [← Vl_all D f, ← S_const]
  exact S_le h1
theorem fair_mean {f : Nat → Nat} {n m : Nat} {d : List Nat} (D : Dl n m d) {i : Nat} (h : ∀ j, j < n → Vl f d j ≤ Vl f d i) : S m f ≤ n * Vl f d i := by
  rw [← Vl_all D f, ← S_const]
  exact S_le h
/-! ### turns -/
theorem turn_before {F : Nat → Nat} {n p q : Nat} (hpq : p < q) (hq : q < n) {M : Nat} (hF : ∀ t, t < M → t % n = q → F t ≤ F (t - (q - p))) : ∀ m, m ≤ M → S m (fun t => if t % n = q then F t else 0) ≤ S (m - (q - p)) fun t => if t % n = p then F t else 0
  | 0, _ => by simp [S]
  | m + 1, hM => by
    have ih := turn_before hpq hq hF m (by omega)
    show S m _ + (if m % n = q then F m else 0) ≤ _
    by_cases h : m % n = q
    · have hm : q ≤ m := by rw [← h]; exact Nat.mod_le _ _
      have e : m + 1 - (q - p) = (m - (q - p)) + 1 := by omega
      have hmod : (m - (q - p)) % n = p := by
        have h1 := Nat.div_add_mod m n
        rw [h] at h1
        have : m - (q - p) = n * (m / n) + p := by omega
        rw [this, Nat.mul_add_mod, Nat.mod_eq_of_lt (by omega)]
      rw [if_pos h, e]
      show _ ≤ S (m - (q - p)) _ + (if (m - (q - p)) % n = p then F (m - (q - p)) else 0)
      rw [if_pos hmod]
      have := hF m (by omega) h
      omega
    · rw [if_neg h]
      by_cases h2 : q - p ≤ m
      · have e : m + 1 - (q - p) = (m - (q - p)) + 1 := by omega
        rw [e]
        show _ ≤ S (m - (q - p)) _ + _
        omega
      · have e : m + 1 - (q - p) = m - (q - p) := by omega
        rw [e]; exact ih
theorem turn_after {F : Nat → Nat} {n p q : Nat} (hpq : q < p) (hp : p < n) {M : Nat} (hF : ∀ t, t < M → t % n = q → n ≤ t → F t ≤ F (t - (n - p + q))) : ∀ m, m ≤ M → S m (fun t => if t % n = q then F t else 0) ≤ F q + S (m - (n - p + q)) fun t => if t % n = p then F t else 0
  | 0, _ => by simp [S]
  | m + 1, hM => by
    have ih := turn_after hpq hp hF m (by omega)
    show S m _ + (if m % n = q then F m else 0) ≤ _
    by_cases h : m % n = q
    · rw [if_pos h]
      have h1 := Nat.div_add_mod m n
      rw [h] at h1
      by_cases hz : m / n = 0
      · have hm : m = q := by rw [hz] at h1; omega
        subst hm
        have : S m (fun t => if t % n = m then F t else 0) = 0 := by
          rw [S_congr (g := fun _ => 0) (fun t ht => by rw [if_neg (by rw [Nat.mod_eq_of_lt (by omega)]; omega)]), S_zero]
        omega
      · obtain ⟨r, hr⟩ : ∃ r, m / n = r + 1 := ⟨m / n - 1, (Nat.sub_add_cancel (Nat.pos_of_ne_zero hz)).symm⟩
        rw [hr, Nat.mul_add, Nat.mul_one] at h1
        have e : m + 1 - (n - p + q) = (m - (n - p + q)) + 1 := by omega
        have hmod : (m - (n - p + q)) % n = p := by
          have : m - (n - p + q) = n * r + p := by omega
          rw [this, Nat.mul_add_mod, Nat.mod_eq_of_lt hp]
        rw [e]
        show _ ≤ F q + (S (m - (n - p + q)) _ + (if (m - (n - p + q)) % n = p then F (m - (n - p + q)) else 0))
        rw [if_pos hmod]
        have := hF m (by omega) h (by omega)
        omega
    · rw [if_neg h]
      by_cases h2 : n - p + q ≤ m
      · have e : m + 1 - (n - p + q) = (m - (n - p + q)) + 1 := by omega
        rw [e]
        show _ ≤ F q + (S (m - (n - p + q)) _ + _)
        omega
      · have e : m + 1 - (n - p + q) = m - (n - p + q) := by omega
        rw [e]; exact ih
theorem S_mono {f : Nat → Nat} {a b : Nat} (h : a ≤ b) : S a f ≤ S b f := by
  induction b with
  | zero => have : a = 0 := by omega
            subst this; exact Nat.le_refl _
  | succ b ih =>
    by_cases e : a = b + 1
    · subst e; exact Nat.le_refl _
    · have := ih (by omega)
      show _ ≤ S b f + f b
      omega
/-- who stands where in an order -/
structure Pos (n : Nat) (order : List Nat) (p i : Nat) : Prop where
  lt : p < n
  is : ∀ t, ho n order t = i ↔ t % n = p
theorem pos_of {n : Nat} {order : List Nat} (hn : 1 ≤ n) (hp : order.Perm (List.range n)) {i : Nat} (hi : i < n) : ∃ p, Pos n order p i ∧ order.findIdx? (fun z => decide (z = i)) = some p := by
  have hl : order.length = n := by simpa using hp.length_eq
  have hm : i ∈ order := hp.mem_iff.mpr (List.mem_range.mpr hi)
  have hnd : order.Nodup := hp.nodup_iff.mpr List.nodup_range
  cases hf : order.findIdx? (fun z => decide (z = i)) with
  | none =>
    rw [List.findIdx?_eq_none_iff] at hf
    have := hf i hm
    simp at this
  | some p =>
    obtain ⟨h1, h2, _⟩ := List.findIdx?_eq_some_iff_getElem.mp hf
    have h2 := of_decide_eq_true h2
    refine ⟨p, ⟨by omega, fun t => ?_⟩, rfl⟩
    have ht : t % n < order.length := by rw [hl]; exact Nat.mod_lt _ hn
    have e : ho n order t = order[t % n] := by unfold ho at0; rw [List.getD_eq_getElem?_getD, List.getElem?_eq_getElem ht]; rfl
    rw [e, ← h2]
    constructor
    · intro h
      rcases Nat.lt_trichotomy (t % n) p with c | c | c
      · exact absurd h (List.pairwise_iff_getElem.mp hnd (t % n) p ht h1 c)
      · exact c
      · exact absurd h.symm (List.pairwise_iff_getElem.mp hnd p (t % n) h1 ht c)
    · intro h; simp only [h]
theorem turn_val {ws : Ws} {n m : Nat} {order d : List Nat} {g : Nat → Nat} (T : Tr ws n m order d g) {q j : Nat} (Q : Pos n order q j) (f : Nat → Nat) : Vl f d j = S m fun t => if t % n = q then f (g t) else 0 := by
  rw [T.sum]
  exact S_congr fun t _ => by
    by_cases h : ho n order t = j
    · rw [if_pos h, if_pos ((Q.is t).mp h)]
    · rw [if_neg h, if_neg fun z => h ((Q.is t).mpr z)]
theorem turn_ge {ws : Ws} {n m : Nat} {order d : List Nat} {g : Nat → Nat} (T : Tr ws n m order d g) {p i : Nat} (Q : Pos n order p i) {t t' : Nat} (h : t ≤ t') (hm : t' < m) (ht : t % n = p) : wv ws i (g t') ≤ wv ws i (g t) := by
  have e := (Q.is t).mpr ht
  by_cases c : t = t'
  · subst c; exact Nat.le_refl _
  · have := T.first t t' (by omega) hm
    rwa [e] at this
/-- who takes earlier, does not envy -/
theorem turn_early {ws : Ws} {n m : Nat} {order d : List Nat} {g : Nat → Nat} (T : Tr ws n m order d g) {p i q j : Nat} (hp : Pos n order p i) (hq : Pos n order q j) (hpq : p < q) : Vl (wv ws i) d j ≤ Vl (wv ws i) d i := by
  rw [turn_val T hq, turn_val T hp]
  have key := turn_before (F := fun t => wv ws i (g t)) (M := m) hpq hq.lt (fun t ht hm => by
    have hqt : q ≤ t := by rw [← hm]; exact Nat.mod_le _ _
    have h1 := Nat.div_add_mod t n
    rw [hm] at h1
    have hmod : (t - (q - p)) % n = p := by
      have : t - (q - p) = n * (t / n) + p := by omega
      rw [this, Nat.mul_add_mod, Nat.mod_eq_of_lt hp.lt]
    exact turn_ge T hp (by omega) ht hmod) m (Nat.le_refl _)
  exact Nat.le_trans key (S_mono (by omega))
theorem turn_late {ws : Ws} {n m : Nat} {order d : List Nat} {g : Nat → Nat} (T : Tr ws n m order d g) {p i q j : Nat} (hp : Pos n order p i) (hq : Pos n order q j) (hpq : q < p) : Vl (wv ws i) d j ≤ Vl (wv ws i) d i + wv ws i (g q) := by
  rw [turn_val T hq, turn_val T hp]
  have key := turn_after (F := fun t => wv ws i (g t)) (M := m) hpq hp.lt (fun t ht hm hnt => by
    have h1 := Nat.div_add_mod t n
    rw [hm] at h1
    obtain ⟨r, hr⟩ : ∃ r, t / n = r + 1 := ⟨t / n - 1, (Nat.sub_add_cancel (Nat.div_pos hnt (by have := hp.lt; omega))).symm⟩
    rw [hr, Nat.mul_add, Nat.mul_one] at h1
    have := hp.lt
    have hmod : (t - (n - p + q)) % n = p := by
      have : t - (n - p + q) = n * r + p := by omega
      rw [this, Nat.mul_add_mod, Nat.mod_eq_of_lt hp.lt]
    exact turn_ge T hp (by omega) ht hmod) m (Nat.le_refl _)
  have := S_mono (f := fun t => if t % n = p then wv ws i (g t) else 0) (show m - (n - p + q) ≤ m by omega)
  omega
theorem turn_EF {ws : Ws} {n m : Nat} {order d : List Nat} {g : Nat → Nat} (hn : 1 ≤ n) (hperm : order.Perm (List.range n)) (T : Tr ws n m order d g) : EFx false ws n d := fun i j hi hj hlt => by
  show ∃ k ∈ pile d j, Vl (wv ws i) d j ≤ Vl (wv ws i) d i + wv ws i k
  obtain ⟨p, hp, _⟩ := pos_of hn hperm hi
  obtain ⟨q, hq, _⟩ := pos_of hn hperm hj
  have hqp : q < p := by
    refine Nat.lt_of_le_of_ne (Nat.le_of_not_lt fun c => ?_) fun c => ?_
    · have := turn_early T hp hq c; omega
    · subst c
      have h1 : ho n order q = i := (hp.is q).mpr (Nat.mod_eq_of_lt hp.lt)
      have h2 : ho n order q = j := (hq.is q).mpr (Nat.mod_eq_of_lt hq.lt)
      rw [h1] at h2; subst h2; omega
  have hqm : q < m := by
    have hpos : 0 < Vl (wv ws i) d j := by omega
    rw [turn_val T hq] at hpos
    have h3 : S m (fun _ => 0) < S m (fun t => if t % n = q then wv ws i (g t) else 0) := by rw [S_zero]; exact hpos
    obtain ⟨t, ht, hl⟩ := S_ex h3
    by_cases hc : t % n = q
    · have := Nat.mod_le t n; omega
    · simp [hc] at hl
  refine ⟨g q, mem_pile.mpr ⟨by rw [T.dl.len]; exact T.lt q hqm, ?_⟩, turn_late T hp hq hqp⟩
  rw [T.hand q hqm]
  exact (hq.is q).mpr (Nat.mod_eq_of_lt hq.lt)
end Lw
namespace Lw
open PySem PySem.Spec PyProof.Rows L2 Pu
def gl26 : SF := sRet (xAnd (x2 leA (x2 subD (x2 ixD (xNm 16) (x1 negD (xC (.int 1)))) (x2 ixD (xNm 16) (xC (.int 0)))) (xC (.int 1))) (x2 eqD (x2 ixD (xCall m_most_level (aC (xSh 15) (aN))) (xC (.int 1))) (xL tupD (aC (xNm 16) (aN)))))
def gl25 : SF := sSeq (sSet 16 (xOf (oL sortO (aC (xOf (oComp (iRg rng1D (aC (xSh 2) (aN))) (gNm 8) (tYes') (xCall m__law_own (aC (xSh 15) (aC (x2 ixD (xCall m_best_product (aC (xSh 15) (aN))) (xC (.int 0))) (aC (xSh 8) (aN))))) [8])) (aN))))) gl26
def gl24 : SF := sSeq (sSet 15 (xL tupD (aC (xOf (o2 repO (xOf (oLst (aC (x2 repT (xTup (aC (xC (.int 1)) (aN))) (xNm 3)) (aN)))) (xNm 2))) (aN)))) gl25
def gl23 : SF := sSeq (sIf (tAnd (tV (x2 isNotD (xCall m_strongest_envy (aC (xSh 12) (aC (x2 ixD (xNm 14) (xC (.int 0))) (aC (xC (.bl true)) (aN))))) (xC .non))) (tV (x2 gtA (xL minD (aC (xOf (o2 catO (xOf (oComp (iSq (x2 ixD (xNm 4) (xC (.int 0)))) (gNm 24) (tYes') (xSh 24) [24])) (xOf (oLst (aC (xC (.int 1)) (aN)))))) (aN))) (xC (.int 0))))) (sRet (xC (.bl false))) (sNext)) gl24
def gl22 : SF := sSeq (sSet 14 (xCall m_best_product (aC (xSh 12) (aN)))) gl23
def gl21 : SF := sSeq (sIf (tAnd (tV (x2 gtA (xNm 3) (xC (.int 0)))) (tV (x2 gtA (x2 subD (x2 ixD (xNm 13) (x1 negD (xC (.int 1)))) (x2 ixD (xNm 13) (xC (.int 0)))) (xL maxD (aC (x2 ixD (xNm 4) (xC (.int 0))) (aN)))))) (sRet (xC (.bl false))) (sNext)) gl22
def gl20 : SF := sSeq (sIf (tOr (tV (x2 neD (x2 ixD (xNm 13) (xC (.int 0))) (xCall m_sure_part (aC (xSh 12) (aC (xC (.int 0)) (aN)))))) (tV (x2 neD (xL sumD (aC (xNm 13) (aN))) (xL sumD (aC (x2 ixD (xNm 4) (xC (.int 0))) (aN)))))) (sRet (xC (.bl false))) (sNext)) gl21
def gl19 : SF := sSeq (sSet 13 (x2 ixD (xCall m_most_level (aC (xSh 12) (aN))) (xC (.int 1)))) gl20
def gl18 : SF := sSeq (sSet 12 (x2 repT (xTup (aC (x2 ixD (xNm 4) (xC (.int 0))) (aN))) (xNm 2))) gl19
def gl17 : SF := sSeq (sIf (tV (x2 eqD (xNm 2) (xC (.int 2)))) (sSeq (sSet 21 (xCall m_in_turns (aC (xSh 4) (aC (xTup (aC (xC (.int 0)) (aC (xC (.int 1)) (aN)))) (aN))))) (sIf (tV (x2 ltA (x2 mulD (xCall m__law_own (aC (xSh 4) (aC (xSh 21) (aC (xC (.int 0)) (aN))))) (xC (.int 2))) (xL sumD (aC (x2 ixD (xNm 4) (xC (.int 0))) (aN))))) (sRet (xC (.bl false))) (sNext))) (sNext)) gl18
def gl16 : SF := sSeq (sIf (tOr (tV (x2 isNotD (xCall m_strongest_envy (aC (xSh 4) (aC (xSh 11) (aC (xC (.bl false)) (aN))))) (xC .non))) (tV (x2 gtA (xL lenD (aC (xOf (oComp (iSq (xCall m_envies (aC (xSh 4) (aC (xSh 11) (aN))))) (gTp [gNm 8, gNm 25]) (tV (x2 ltA (x2 indexD (xNm 10) (xNm 8)) (x2 indexD (xNm 10) (xNm 25)))) (xC (.int 1)) [8, 25])) (aN))) (xC (.int 0))))) (sRet (xC (.bl false))) (sNext)) gl17
def gl15 : SF := sSeq (sSet 11 (xCall m_in_turns (aC (xSh 4) (aC (xL tupD (aC (xNm 10) (aN))) (aN))))) gl16
def gl14 : SF := sSeq (sWhile (tV (x2 gtA (xL lenD (aC (xNm 9) (aN))) (xC (.int 0)))) (sAppPop 10 9 (xCall m__law_take (aC (xSh 1) (aC (xL lenD (aC (xNm 9) (aN))) (aN)))))) gl15
def gl13 : SF := sSeq (sOwn 10 (oLst (aN))) gl14
def gl12 : SF := sSeq (sOwn 9 (o1 rgo1 (xSh 2))) gl13
def gl11 : SF := sSeq (sFor (iRg rng1D (aC (xSh 2) (aN))) (gNm 8) (sSeq (sIf (tV (x2 gtA (x2 mulD (xNm 2) (xCall m_sure_part (aC (xSh 4) (aC (xSh 8) (aN))))) (xL sumD (aC (x2 ixD (xNm 4) (xNm 8)) (aN))))) (sRet (xC (.bl false))) (sNext)) (sIf (tAnd (tV (x2 eqD (xCall m_envies (aC (xSh 4) (aC (xSh 17) (aN)))) (xTup (aN)))) (tV (x2 ltA (x2 mulD (xNm 2) (xCall m__law_own (aC (xSh 4) (aC (xSh 17) (aC (xSh 8) (aN)))))) (xL sumD (aC (x2 ixD (xNm 4) (xNm 8)) (aN)))))) (sRet (xC (.bl false))) (sNext)))) gl12
def gl10 : SF := sSeq (sIf (tOr (tAnd (tV (x2 eqD (x2 ixD (xNm 18) (xC (.int 0))) (xNm 2))) (tV (x2 neD (x2 ixD (xCall m_best_product (aC (xSh 7) (aN))) (xC (.int 0))) (xNm 17)))) (tV (x2 neD (xCall m_sure_part (aC (xSh 7) (aC (xSh 6) (aN)))) (x2 mulD (xNm 5) (xCall m_sure_part (aC (xSh 4) (aC (xSh 6) (aN)))))))) (sRet (xC (.bl false))) (sNext)) gl11
def gl9 : SF := sSeq (sSet 7 (x2 addD (x2 addD (xSl slD (xNm 4) none (some (xSh 6))) (xTup (aC (xL tupD (aC (xOf (oComp (iSq (x2 ixD (xNm 4) (xNm 6))) (gNm 24) (tYes') (x2 mulD (xNm 5) (xNm 24)) [24])) (aN))) (aN)))) (xSl slD (xNm 4) (some (x2 addD (xNm 6) (xC (.int 1)))) none))) gl10
def gl8 : SF := sSeq (sSet 6 (xCall m__law_take (aC (xSh 1) (aC (xSh 2) (aN))))) gl9
def gl7 : SF := sSeq (sSet 5 (x2 addD (xC (.int 1)) (xCall m__law_take (aC (xSh 1) (aC (xC (.int 5)) (aN)))))) gl8
def gl6 : SF := sSeq (sIf (tOr (tV (x2 isNotD (xCall m_better_for_all (aC (xSh 4) (aC (xSh 19) (aN)))) (xC .non))) (tOr (tV (x2 neD (xNm 20) (xL tupD (aC (xOf (oL sortO (aC (xOf (oComp (iRg rng1D (aC (xSh 2) (aN))) (gNm 6) (tYes') (xCall m__law_own (aC (xSh 4) (aC (xSh 19) (aC (xSh 6) (aN))))) [6])) (aN)))) (aN))))) (tV (x2 ltA (x2 ixD (xNm 20) (xC (.int 0))) (xL minD (aC (xOf (oComp (iRg rng1D (aC (xSh 2) (aN))) (gNm 6) (tYes') (xCall m__law_own (aC (xSh 4) (aC (xSh 17) (aC (xSh 6) (aN))))) [6])) (aN))))))) (sRet (xC (.bl false))) (sNext)) gl7
def gl5 : SF := sSeq (sTo (gTp [gNm 19, gNm 20]) (xCall m_most_level (aC (xSh 4) (aN)))) gl6
def gl4 : SF := sSeq (sIf (tOr (tV (x2 isNotD (xCall m_strongest_envy (aC (xSh 4) (aC (xSh 17) (aC (xC (.bl false)) (aN))))) (xC .non))) (tOr (tV (x2 isNotD (xCall m_better_for_all (aC (xSh 4) (aC (xSh 17) (aN)))) (xC .non))) (tV (x2 neD (x2 ixD (xNm 18) (xC (.int 0))) (xL lenD (aC (xOf (oComp (iRg rng1D (aC (xSh 2) (aN))) (gNm 6) (tV (x2 gtA (xCall m__law_own (aC (xSh 4) (aC (xSh 17) (aC (xSh 6) (aN))))) (xC (.int 0)))) (xSh 6) [6])) (aN))))))) (sRet (xC (.bl false))) (sNext)) gl5
def gl3 : SF := sSeq (sTo (gTp [gNm 17, gNm 18]) (xCall m_best_product (aC (xSh 4) (aN)))) gl4
def gl2 : SF := sSeq (sSet 4 (xL tupD (aC (xOf (oComp (iRg rng1D (aC (xSh 2) (aN))) (gNm 22) (tYes') (xL tupD (aC (xOf (oComp (iRg rng1D (aC (xSh 3) (aN))) (gNm 23) (tYes') (xCall m__law_take (aC (xSh 1) (aC (xC (.int 8)) (aN)))) [23])) (aN))) [22])) (aN)))) gl3
def gl1 : SF := sSeq (sSet 3 (xCall m__law_take (aC (xSh 1) (aC (xC (.int 6)) (aN))))) gl2
def gl0 : SF := sSeq (sSet 2 (x2 addD (xC (.int 1)) (xCall m__law_take (aC (xSh 1) (aC (xC (.int 3)) (aN)))))) gl1
theorem gl_eq : g_law = gl0 := rfl
end Lw
set_option maxHeartbeats 1000000
namespace Lw
open PySem PySem.Spec PyProof.Rows L2 Pu
def RT (r : Res × Rho) (s : DS) : Prop := r.1 = .rt (.bl true)
theorem ixD_last (xs : List D) (d : D) {n : Nat} (h : xs.length = n) (h1 : 1 ≤ n) : ixD (.lst xs) (.int (-1)) = xs[n - 1]? ∧ ixD (.tup xs) (.int (-1)) = xs[n - 1]? := by
  have e : atI xs (-1) = xs[n - 1]? := by
    unfold atI ixN
    rw [if_neg (by omega), if_pos (by omega), h]
    show xs[((-1 : Int) + (n : Nat)).toNat]? = _
    congr 1; omega
  exact ⟨e, e⟩
theorem last_nat (l : List Nat) {n : Nat} (h : l.length = n) (h1 : 1 ≤ n) : ixD (.lst (l.map EnQ.e)) (.int (-1)) = some (.int (at0 l (n - 1) : Nat)) ∧ ixD (rD l) (.int (-1)) = some (.int (at0 l (n - 1) : Nat)) := by
  have e := ixD_last (l.map EnQ.e) .non (n := n) (by simpa using h) h1
  have e2 : (l.map (EnQ.e (α := Nat)))[n - 1]? = some (.int (at0 l (n - 1) : Nat)) := by
    have hl : n - 1 < l.length := by omega
    rw [List.getElem?_map, List.getElem?_eq_getElem hl]
    unfold at0
    rw [List.getD_eq_getElem?_getD, List.getElem?_eq_getElem hl]; rfl
  rw [e.1, e.2, e2]; exact ⟨rfl, rfl⟩
theorem first_nat (l : List Nat) (h : 1 ≤ l.length) : ixD (.lst (l.map EnQ.e)) (.int 0) = some (.int (at0 l 0 : Nat)) ∧ ixD (rD l) (.int 0) = some (.int (at0 l 0 : Nat)) :=
  ⟨ixL_nat l (k := 0) h, ix_nat l (k := 0) h⟩
theorem sumR (l : List Nat) : sumD [rD l] = some (.int (l.sum : Nat)) := by
  have := sumT_f (fun x : Nat => (x : Int)) l
  rw [show (l.map fun x : Nat => D.int (x : Int)) = l.map EnQ.e from rfl] at this
  rw [this]
  congr 2
  induction l with
  | nil => rfl
  | cons a l ih => simp [ih (by exact sumT_f (fun x : Nat => (x : Int)) l)]
/-! ### worths alike -/
theorem alW {r : List Nat} {n m : Nat} (h1 : 1 ≤ n) (h4 : n ≤ 4) (h7 : m ≤ 7) (hl : r.length = m) (hs : ∀ x ∈ r, x < 1000) : Wt (List.replicate n r) n m := ⟨by simp, h1, h4, h7, fun q hq => by rw [List.eq_of_mem_replicate hq]; exact ⟨hl, hs⟩⟩
theorem al_wv {r : List Nat} {n : Nat} {j : Nat} (hj : j < n) (k : Nat) : wv (List.replicate n r) j k = at0 r k := by
  unfold wv at0
  rw [List.getD_eq_getElem?_getD (l := List.replicate n r), List.getElem?_replicate, if_pos hj]; rfl
def on1 (n m : Nat) : Ws := List.replicate n (List.replicate m 1)
theorem on1W {n m : Nat} (h1 : 1 ≤ n) (h4 : n ≤ 4) (h7 : m ≤ 7) : Wt (on1 n m) n m := alW h1 h4 h7 (by simp) fun x hx => by rw [List.eq_of_mem_replicate hx]; decide
theorem on1_wv {n m : Nat} : ∀ j, j < n → ∀ k, k < m → wv (on1 n m) j k = 1 := fun j hj k hk => by
  unfold on1
  rw [al_wv hj]
  unfold at0
  rw [List.getD_eq_getElem?_getD, List.getElem?_replicate, if_pos hk]; rfl
theorem on1_best {n m : Nat} {b : List Nat} (hb : best (on1 n m) n m b) : ∀ i j, i < n → j < n → vf (on1 n m) b j ≤ vf (on1 n m) b i + 1 := fun i j hi hj => by
  have D := (best_max hb).1
  have e1 : ∀ a, a < n → ∀ c, Vl (wv (on1 n m) a) b c = Vl (fun _ => 1) b c := fun a ha c => Vl_congr (fun k hk => on1_wv a ha k (by rw [← D.len]; exact hk)) c
  have hE := alike_EF (f := fun _ => 1) on1_wv (fun _ _ => Nat.one_pos) hb i j hi hj
  have a1 : vf (on1 n m) b i = Vl (fun _ => 1) b i := e1 i hi i
  have a2 : vf (on1 n m) b j = Vl (fun _ => 1) b j := e1 j hj j
  rw [e1 i hi, e1 i hi] at hE
  rw [a1, a2]
  refine Nat.le_of_not_lt fun hl => ?_
  obtain ⟨k, hk, _⟩ := Vl_pos (f := fun _ => 1) (d := b) (j := j) (by omega)
  have h := hE (by omega)
  have h : ∀ k ∈ pile b j, Vl (fun _ => 1) b j ≤ Vl (fun _ => 1) b i + wv (on1 n m) i k := h
  have := h k hk
  rw [on1_wv i hi k (pile_lt D j k hk)] at this
  omega
theorem gl24_ok {n m : Nat} (h1 : 1 ≤ n) (h4 : n ≤ 4) (h7 : m ≤ 7) (x0 x4 x5 x6 x7 x8 x9 x10 x11 x12 x13 x14 x15 x16 x17 x18 x19 x20 x21 x22 x23 x24 x25 : Slot) (s : DS) :
    wp (gl24 [x0, .sh .rng, .sh (.int (n : Nat)), .sh (.int (m : Nat)), x4, x5, x6, x7, x8, x9, x10, x11, x12, x13, x14, x15, x16, x17, x18, x19, x20, x21, x22, x23, x24, x25]) s RT := by
  have W := on1W h1 h4 h7
  have hr : rng1D [.int (n : Nat)] = some ((List.range n).map EnQ.e) := rng1_n (by omega)
  have e1 : repT (.tup [.int 1]) (.int (m : Nat)) = some (rD (List.replicate m 1)) := by
    rw [repT_1 _ (by omega)]; simp [e_N]
  have e2 : repO (.lst [rD (List.replicate m 1)]) (.int (n : Nat)) = some ((on1 n m).map EnQ.e) := by
    rw [repO_1 _ (by omega)]; unfold on1; rw [List.map_replicate]; rfl
  obtain ⟨b, hb, eb⟩ := best_eq W
  obtain ⟨fl, hf, ef⟩ := level_eq W
  have Qb := (best_max hb).1
  have es := sort_nats (vals (on1 n m) n b)
  have hlen : (srt (vals (on1 n m) n b)).length = n := by rw [(srt_perm _).length_eq, vals_len]
  have i1 := (last_nat _ hlen h1).1
  have i0 := (first_nat (srt (vals (on1 n m) n b)) (by omega)).1
  have heq := level_bal h1 on1_wv hf Qb (on1_best hb)
  have hsp : at0 (srt (vals (on1 n m) n b)) (n - 1) ≤ at0 (srt (vals (on1 n m) n b)) 0 + 1 := by
    obtain ⟨i, hi, a1, _⟩ := srt_head h1 (vf (on1 n m) b)
    obtain ⟨j, hj, a2, _⟩ := srt_last h1 (vf (on1 n m) b)
    show at0 (srt ((List.range n).map (vf (on1 n m) b))) (n - 1) ≤ at0 (srt ((List.range n).map (vf (on1 n m) b))) 0 + 1
    rw [a1, a2]; exact on1_best hb i j hi hj
  have hsp' : ((at0 (srt (vals (on1 n m) n b)) (n - 1) : Nat) : Int) - (at0 (srt (vals (on1 n m) n b)) 0 : Nat) ≤ 1 := by omega
  have heqD : eqD (rD (srt (vals (on1 n m) n b))) (rD (srt (vals (on1 n m) n b))) = some (.bl true) := by
    have := eq_en (α := List Nat) (by decide) (srt (vals (on1 n m) n b)) (srt (vals (on1 n m) n b))
    exact (show eqD (.tup _) (.tup _) = _ from this).trans (by simp)
  have ev : ((List.range n).map fun h : Nat => D.int (Vl (wv (on1 n m) h) b h : Nat)) = (vals (on1 n m) n b).map EnQ.e := by unfold vals; rw [List.map_map]; rfl
  have own := fun {h : Nat} (hh : h < n) => own_eq W Qb hh
  simp [gl24, gl25, gl26, e1, e2, SZ_eq, hr, wipeR]
  refine wp_compT (f := fun h : Nat => D.int (Vl (wv (on1 n m) h) b h : Nat)) _ (fun h hh => ⟨_, rfl, fun s => ?_⟩) ?_
  · simp only [e_N]
    simp [wp_eq eb, ixD_t0, wp_eq (own (List.mem_range.mp hh))]
  · rw [ev]
    simp [es, i0, i1, hsp', wp_eq ef, ixD_t1, ← heq, heqD, RT]
theorem strongest_any {ws : Ws} {n m : Nat} (W : Wt ws n m) {d : List Nat} (Q : Dl n m d) (b : Bool) (s : DS) : wp (m_strongest_envy [wD ws, rD d, .bl b]) s fun v s' => s' = s ∧ (v = .non ∨ ∃ i j : Nat, v = .tup [.int i, .int j]) := by
  refine wp_def rfl ?_
  simp [g_strongest_envy, List.replicate, wp_eq (check_dealt_eq W Q), wp_eq (envies_eq W Q)]
  refine wp_rest EnQ.e (fun rest ρ s' => s' = s ∧ (∀ p ∈ rest, p ∈ env ws n d) ∧ ∃ (x3 x4 x5 x6 x7 x8 : Slot), ρ = [.sh (wD ws), .sh (rD d), .sh (.bl b), x3, x4, x5, x6, x7, x8]) (env ws n d)
    (fun p ps ρ s' hJ => ?_) (fun ρ s' hJ => ?_) ⟨rfl, fun p h => h, _, _, _, _, _, _, rfl⟩
  · obtain ⟨rfl, hm, x3, x4, x5, x6, x7, x8, rfl⟩ := hJ
    have hps : ∀ a c, (a, c) ∈ ps → (a, c) ∈ env ws n d := fun a c hq => hm (a, c) (by simp [hq])
    obtain ⟨i, j⟩ := p
    obtain ⟨hi, hj, hlt⟩ := mem_env.mp (hm (i, j) (by simp))
    have hi : i < n := hi
    have hj : j < n := hj
    have hlt : Vl (wv ws i) d i < Vl (wv ws i) d j := hlt
    have e1 := ix_row ws (j := i) (by rw [W.hn]; exact hi)
    have rl := (W.row hi).1
    simp only [e_P, e_N]
    refine ⟨_, rfl, ?_⟩
    simp [wp_eq (pile_eq d i), wp_eq (val_eq W Q hi i), wp_eq (pile_eq d j), wipeR]
    refine wp_compT (f := fun k : Nat => D.int (wv ws i k : Nat)) _ (fun k hk => ⟨_, rfl, fun s => ?_⟩) ?_
    · have e2 := ix_nat (Lw.row ws i) (k := k) (by rw [rl]; exact pile_lt Q j k hk)
      simp only [e_N]
      simp [e1, e2, -ixD_tn, wv_at0]
    · have hne : (pile d j).map (wv ws i) ≠ [] := fun z => by
        have : Vl (wv ws i) d j = 0 := by unfold Vl; rw [z]; rfl
        omega
      obtain ⟨x, xs, hx⟩ := List.exists_cons_of_ne_nil hne
      have e3 : ((pile d j).map fun k : Nat => D.int (wv ws i k : Nat)) = (x :: xs).map EnQ.e := by rw [← hx, List.map_map]; rfl
      rw [e3]
      have hmin : minD [.lst ((x :: xs).map EnQ.e)] = some (.int (mnE x xs : Nat)) := min_seq (α := Nat) (by decide) rfl
      have hmax : maxD [.lst ((x :: xs).map EnQ.e)] = some (.int (mxE x xs : Nat)) := max_seq (α := Nat) (by decide) rfl
      generalize (List.map EnQ.e (x :: xs) : List D) = L at *
      have fin : ∀ (k : Bool) (ρ : Rho) (z : Nat), True := fun _ _ _ => trivial
      cases b with
      | true =>
        simp [hmin, wp_eq (val_eq W Q hi j), SZ_eq]
        by_cases c : ((Vl (wv ws i) d i : Nat) : Int) < (Vl (wv ws i) d j : Nat) - (mnE x xs : Nat)
        · simp [c]; exact .inr ⟨⟨i, rfl⟩, ⟨j, rfl⟩⟩
        · simp [c]; exact ⟨by omega, hps⟩
      | false =>
        simp [hmax, wp_eq (val_eq W Q hi j), SZ_eq]
        by_cases c : ((Vl (wv ws i) d i : Nat) : Int) < (Vl (wv ws i) d j : Nat) - (mxE x xs : Nat)
        · simp [c]; exact .inr ⟨⟨i, rfl⟩, ⟨j, rfl⟩⟩
        · simp [c]; exact ⟨by omega, hps⟩
  · obtain ⟨rfl, _, x3, x4, x5, x6, x7, x8, rfl⟩ := hJ
    simp
end Lw
set_option maxHeartbeats 1000000
namespace Lw
open PySem PySem.Spec PyProof.Rows L2 Pu
def maxL : List Nat → Nat
  | [] => 0
  | x :: xs => mxE x xs
theorem maxL_eq {l : List Nat} (h : l ≠ []) : maxD [rD l] = some (.int (maxL l : Nat)) := by
  obtain ⟨x, xs, rfl⟩ := List.exists_cons_of_ne_nil h
  exact max_seq (α := Nat) (by decide) rfl
theorem maxL_le {l : List Nat} : ∀ y ∈ l, y ≤ maxL l := fun y hy => by
  obtain ⟨x, xs, rfl⟩ := List.exists_cons_of_ne_nil (List.ne_nil_of_mem hy)
  have h : decide (mxE x xs < y) = false := mxE_le x xs y hy
  simp at h
  exact h
theorem at0_mem {l : List Nat} {k : Nat} (h : k < l.length) : at0 l k ∈ l := by
  unfold at0
  rw [List.getD_eq_getElem?_getD, List.getElem?_eq_getElem h]
  exact List.getElem_mem h
def alk (ws : Ws) (n : Nat) : Ws := List.replicate n (row ws 0)
theorem alkW {ws : Ws} {n m : Nat} (W : Wt ws n m) : Wt (alk ws n) n m := alW W.h1 W.h4 W.h7 (W.row W.h1).1 (W.row W.h1).2
theorem alk_wv {ws : Ws} {n : Nat} (m : Nat) : ∀ j, j < n → ∀ k, k < m → wv (alk ws n) j k = at0 (row ws 0) k := fun j hj k _ => al_wv hj k
theorem sum_row {l : List Nat} {m : Nat} (h : l.length = m) : l.sum = S m (at0 l) := by
  subst h; exact sum_S l
theorem gl22_ok {ws : Ws} {n m : Nat} (W : Wt ws n m) (x0 x5 x6 x7 x8 x9 x10 x11 x13 x14 x15 x16 x17 x18 x19 x20 x21 x22 x23 x24 x25 : Slot) (s : DS) :
    wp (gl22 [x0, .sh .rng, .sh (.int (n : Nat)), .sh (.int (m : Nat)), .sh (wD ws), x5, x6, x7, x8, x9, x10, x11, .sh (wD (alk ws n)), x13, x14, x15, x16, x17, x18, x19, x20, x21, x22, x23, x24, x25]) s RT := by
  have h1 := W.h1
  have A := alkW W
  obtain ⟨b, hb, eb⟩ := best_eq A
  have Qb := (best_max hb).1
  have h0 := ix_row0 ws (by rw [W.hn]; omega)
  have rl := (W.row h1).1
  have K := fun (a4 a5 a6 a7 a8 a9 a10 a11 a12 a13 a14 a15 a16 a17 a18 a19 a20 a21 a22 a23 a24 a25 : Slot) (s : DS) => gl24_ok h1 W.h4 W.h7 x0 a4 a5 a6 a7 a8 a9 a10 a11 a12 a13 a14 a15 a16 a17 a18 a19 a20 a21 a22 a23 a24 a25 s
  have nn : isNonD D.non = true := rfl
  have j0 : ixD (.tup [rD b, EnQ.e (prK (vals (alk ws n) n b))]) (.int 0) = some (rD b) := rfl
  simp [gl22, gl23, wp_eq eb, j0, h0, -ixD_tn]
  by_cases hpos : ∀ k, k < m → 0 < at0 (row ws 0) k
  · have es := strongest_eq A Qb true (alike_EF (alk_wv m) hpos hb)
    simp [wp_eq es, nn]
    exact K _ _ _ _ _ _ _ _ _ _ _ _ _ _ _ _ _ _ _ _ _ _ _
  · refine wp_mono (strongest_any A Qb true s) fun v s' hv => ?_
    obtain ⟨rfl, hv⟩ := hv
    rcases hv with rfl | ⟨i, j, rfl⟩
    · simp [nn]
      exact K _ _ _ _ _ _ _ _ _ _ _ _ _ _ _ _ _ _ _ _ _ _ _
    · have nn2 : isNonD (D.tup [.int (i : Nat), .int (j : Nat)]) = false := rfl
      have hz : ∃ k, k < m ∧ at0 (row ws 0) k = 0 := Classical.byContradiction fun c => hpos fun k hk => Nat.pos_of_ne_zero fun z => c ⟨k, hk, z⟩
      obtain ⟨k, hk, ek⟩ := hz
      have hmin : minD [.lst ((row ws 0 ++ [1]).map EnQ.e)] = some (.int 0) := by
        rw [minL_eq (by simp)]
        have h0m : 0 ∈ row ws 0 := by have := at0_mem (l := row ws 0) (k := k) (by omega); rwa [ek] at this
        have := minL_le (l := row ws 0 ++ [1]) 0 (List.mem_append.mpr (.inl h0m))
        rw [show minL (row ws 0 ++ [1]) = 0 by omega]; rfl
      have hcat : catO (.lst ((row ws 0).map EnQ.e)) (.lst [.int 1]) = some ((row ws 0 ++ [1]).map EnQ.e) := by
        rw [catO_ll (by have := W.h7; simp; omega)]; simp [e_N]
      simp [nn2, h0, wipeR, -ixD_tn]
      refine wp_compT (f := fun x : Nat => EnQ.e x) _ (fun x hx => ⟨_, rfl, fun s => ?_⟩) ?_
      · simp
      · simp only [List.map_append, List.map_cons, List.map_nil] at hmin hcat
        simp [SZ_eq, hcat, hmin]
        exact K _ _ _ _ _ _ _ _ _ _ _ _ _ _ _ _ _ _ _ _ _ _ _
theorem gl18_ok {ws : Ws} {n m : Nat} (W : Wt ws n m) (x0 x5 x6 x7 x8 x9 x10 x11 x12 x13 x14 x15 x16 x17 x18 x19 x20 x21 x22 x23 x24 x25 : Slot) (s : DS) :
    wp (gl18 [x0, .sh .rng, .sh (.int (n : Nat)), .sh (.int (m : Nat)), .sh (wD ws), x5, x6, x7, x8, x9, x10, x11, x12, x13, x14, x15, x16, x17, x18, x19, x20, x21, x22, x23, x24, x25]) s RT := by
  have h1 := W.h1
  have h7 := W.h7
  have hn := W.hn
  have A := alkW W
  obtain ⟨fl, hf, ef⟩ := level_eq A
  have h0 := ix_row0 ws (by omega)
  have rl := (W.row h1).1
  have e1 : repT (.tup [rD (row ws 0)]) (.int (n : Nat)) = some (wD (alk ws n)) := by
    rw [repT_1 _ (by have := W.h4; omega)]; unfold alk wD; rw [List.map_replicate]; rfl
  obtain ⟨b, hsp, eb⟩ := sure_eq A (h := 0) h1
  have hb : at0 (srt (vals (alk ws n) n fl)) 0 = b := SP.uniq (flat_SP h1 (alk_wv m) hf) (SP_congr (fun k hk => (alk_wv m 0 h1 k hk).symm) hsp)
  have hsum : (srt (vals (alk ws n) n fl)).sum = (row ws 0).sum := by
    have Qf := (flat_max hf).1
    rw [(srt_perm _).sum_nat, sum_vals, sum_row rl, ← Vl_all Qf (at0 (row ws 0))]
    exact S_congr fun j hj => Vl_congr (fun k hk => alk_wv m j hj k (by rw [← Qf.len]; exact hk)) j
  have hlen : (srt (vals (alk ws n) n fl)).length = n := by rw [(srt_perm _).length_eq, vals_len]
  have i1 := (last_nat _ hlen h1).2
  have i0 := (first_nat (srt (vals (alk ws n) n fl)) (by omega)).2
  have K := fun (a5 a6 a7 a8 a9 a10 a11 a13 a14 a15 a16 a17 a18 a19 a20 a21 a22 a23 a24 a25 : Slot) (s : DS) => gl22_ok W x0 a5 a6 a7 a8 a9 a10 a11 a13 a14 a15 a16 a17 a18 a19 a20 a21 a22 a23 a24 a25 s
  have eb' : ∀ s, m_sure_part [wD (alk ws n), .int 0] s = some (.int (b : Nat), s) := eb
  by_cases hm : m = 0
  · have hm' : ¬ 0 < m := by omega
    simp [gl18, gl19, gl20, gl21, h0, e1, SZ_eq, wp_eq ef, ixD_t1, i0, hb, wp_eq eb', sumR, hsum, hm, -ixD_tn]
    subst hm
    exact K _ _ _ _ _ _ _ _ _ _ _ _ _ _ _ _ _ _ _ _ _
  · have hmp : 0 < m := by omega
    have hmp' : (0 : Int) < (m : Nat) := by omega
    have hmx : maxD [rD (row ws 0)] = some (.int (maxL (row ws 0) : Nat)) := maxL_eq fun z => by rw [z] at rl; simp at rl; omega
    have hspr := flat_spread h1 (alk_wv m) hf (M := maxL (row ws 0)) fun k hk => maxL_le _ (at0_mem (by omega))
    rw [hb] at hspr
    have c : ¬ ((maxL (row ws 0) : Nat) : Int) < ((at0 (srt (vals (alk ws n) n fl)) (n - 1) : Nat) : Int) - (b : Nat) := by omega
    simp [gl18, gl19, gl20, gl21, h0, e1, SZ_eq, wp_eq ef, ixD_t1, i0, i1, hb, wp_eq eb', sumR, hsum, hmp, hmp', hmx, c, -ixD_tn]
    exact K _ _ _ _ _ _ _ _ _ _ _ _ _ _ _ _ _ _ _ _ _
end Lw
set_option maxHeartbeats 1000000
namespace Lw
open PySem PySem.Spec PyProof.Rows L2 Pu
theorem erase_perm {α : Type} : ∀ {l : List α} {i : Nat} (h : i < l.length), ([l[i]] ++ l.eraseIdx i).Perm l
  | a :: l, 0, _ => List.Perm.refl _
  | a :: l, i + 1, h => by
    have h : i < l.length := by simpa using h
    have ih := erase_perm h
    show (l[i] :: a :: l.eraseIdx i).Perm (a :: l)
    exact (List.Perm.swap a l[i] _).trans (ih.cons a)
theorem erase_map {α β : Type} (f : α → β) : ∀ (l : List α) (i : Nat), (l.map f).eraseIdx i = (l.eraseIdx i).map f
  | [], _ => rfl
  | _ :: _, 0 => rfl
  | a :: l, i + 1 => by
    show f a :: (l.map f).eraseIdx i = f a :: (l.eraseIdx i).map f
    rw [erase_map f l i]
theorem pos01 : Pos 2 [0, 1] 0 0 ∧ Pos 2 [0, 1] 1 1 := by
  have h : ∀ t, ho 2 [0, 1] t = t % 2 := fun t => by
    unfold ho at0
    rcases Nat.mod_two_eq_zero_or_one t with e | e <;> rw [e] <;> rfl
  exact ⟨⟨by decide, fun t => by rw [h]⟩, ⟨by decide, fun t => by rw [h]⟩⟩
theorem index_nat {order : List Nat} {i p : Nat} (h : order.findIdx? (fun z => decide (z = i)) = some p) : indexD (.lst (order.map EnQ.e)) (.int (i : Nat)) = some (.int (p : Nat)) := by
  have := index_en (α := Nat) (by decide) i order
  rw [h] at this
  exact this
theorem sum_wv {ws : Ws} {n m : Nat} (W : Wt ws n m) {j : Nat} (hj : j < n) : (row ws j).sum = S m (wv ws j) := sum_row (W.row hj).1
theorem row_small {ws : Ws} {n m : Nat} (W : Wt ws n m) {j : Nat} (hj : j < n) {d : List Nat} (Q : Dl n m d) (i : Nat) : Vl (wv ws j) d i < 8000 := Vl_small (by rw [Q.len]; exact W.h7) fun k hk => W.sm hj (by rw [← Q.len]; exact hk)
theorem gl17_ok {ws : Ws} {n m : Nat} (W : Wt ws n m) (x0 x5 x6 x7 x8 x9 x10 x11 x12 x13 x14 x15 x16 x17 x18 x19 x20 x21 x22 x23 x24 x25 : Slot) (s : DS) :
    wp (gl17 [x0, .sh .rng, .sh (.int (n : Nat)), .sh (.int (m : Nat)), .sh (wD ws), x5, x6, x7, x8, x9, x10, x11, x12, x13, x14, x15, x16, x17, x18, x19, x20, x21, x22, x23, x24, x25]) s RT := by
  have h1 := W.h1
  have h0 := ix_row0 ws (by rw [W.hn]; omega)
  by_cases hn2 : n = 2
  · subst hn2
    have hp : ([0, 1] : List Nat).Perm (List.range 2) := List.Perm.refl _
    simp [gl17, SZ_eq]
    refine wp_mono (turns_eq W hp s) fun v s' h => ?_
    obtain ⟨rfl, d, g, rfl, T⟩ := h
    have eo := own_eq W T.dl (h := 0) (by decide)
    have eo' : ∀ s, m__law_own [wD ws, rD d, .int 0] s = some (.int (Vl (wv ws 0) d 0 : Nat), s) := eo
    have hsm := row_small W (j := 0) (by decide) T.dl 0
    have hmul : mulD (.int (Vl (wv ws 0) d 0 : Nat)) (.int 2) = some (.int (Vl (wv ws 0) d 0 * 2 : Nat)) := by
      rw [mulD_sm 64 (by simp; omega) (by decide)]; simp
    have hf := fair_mean T.dl (f := wv ws 0) (i := 0) fun j hj => by
      rcases (show j = 0 ∨ j = 1 by omega) with rfl | rfl
      · exact Nat.le_refl _
      · exact turn_early T pos01.1 pos01.2 (by decide)
    have hsum := sum_wv W (j := 0) (by decide)
    have c : ¬ ((Vl (wv ws 0) d 0 * 2 : Nat) : Int) < ((row ws 0).sum : Nat) := by omega
    simp [wp_eq eo', hmul, h0, sumR, c, -ixD_tn, -Int.natCast_mul]
    exact gl18_ok W _ _ _ _ _ _ _ _ _ _ _ _ _ _ _ _ _ _ _ _ _ _ _
  · have hn2' : ¬ (n : Int) = 2 := by omega
    simp [gl17, hn2', hn2]
    exact gl18_ok W _ _ _ _ _ _ _ _ _ _ _ _ _ _ _ _ _ _ _ _ _ _ _
theorem gl16_ok {ws : Ws} {n m : Nat} (W : Wt ws n m) {order d : List Nat} {g : Nat → Nat} (hp : order.Perm (List.range n)) (T : Tr ws n m order d g) (x0 x5 x6 x7 x8 x9 x12 x13 x14 x15 x16 x17 x18 x19 x20 x21 x22 x23 x24 x25 : Slot) (s : DS) :
    wp (gl16 [x0, .sh .rng, .sh (.int (n : Nat)), .sh (.int (m : Nat)), .sh (wD ws), x5, x6, x7, x8, x9, .ow (order.map EnQ.e), .sh (rD d), x12, x13, x14, x15, x16, x17, x18, x19, x20, x21, x22, x23, x24, x25]) s RT := by
  have h1 := W.h1
  have es := strongest_eq W T.dl false (turn_EF h1 hp T)
  have nn : isNonD D.non = true := rfl
  simp [gl16, wp_eq es, nn, wp_eq (envies_eq W T.dl), wipeR]
  refine wp_compF (p := fun _ : Nat × Nat => false) (f := fun _ => D.int 1) _ (fun x hx => ?_) ?_
  · obtain ⟨i, j⟩ := x
    obtain ⟨hi, hj, hlt⟩ := mem_env.mp hx
    have hi : i < n := hi
    have hj : j < n := hj
    have hlt : Vl (wv ws i) d i < Vl (wv ws i) d j := hlt
    obtain ⟨p, hpp, ep⟩ := pos_of h1 hp hi
    obtain ⟨q, hq, eq⟩ := pos_of h1 hp hj
    have hpq : ¬ (p : Int) < (q : Int) := fun c => by
      have := turn_early T hpp hq (by omega)
      omega
    simp only [e_P, e_N]
    refine ⟨_, rfl, fun s => ⟨?_, fun h => by cases h⟩⟩
    simp [index_nat ep, index_nat eq, hpq]
  · simp
    exact gl17_ok W _ _ _ _ _ _ _ _ _ _ _ _ _ _ _ _ _ _ _ _ _ _ _
theorem gl12_ok {ws : Ws} {n m : Nat} (W : Wt ws n m) (x0 x5 x6 x7 x8 x9 x10 x11 x12 x13 x14 x15 x16 x17 x18 x19 x20 x21 x22 x23 x24 x25 : Slot) (s : DS) (ok : s.ok) :
    wp (gl12 [x0, .sh .rng, .sh (.int (n : Nat)), .sh (.int (m : Nat)), .sh (wD ws), x5, x6, x7, x8, x9, x10, x11, x12, x13, x14, x15, x16, x17, x18, x19, x20, x21, x22, x23, x24, x25]) s RT := by
  have h1 := W.h1
  have h4 := W.h4
  have hrg : rgo1 (.int (n : Nat)) = some ((List.range n).map EnQ.e) := by
    show (if _ then some (rangeL 0 ((n : Int)).toNat) else none) = _
    rw [if_pos (by omega)]
    unfold rangeL
    congr 1
    simp
    intro a _; rfl
  simp [gl12, gl13, gl14, hrg, SZ_eq]
  refine wp_whl (J := ()) (fun k ρ s' => s'.ok ∧ ∃ l o : List Nat, l.length = k ∧ (o ++ l).Perm (List.range n) ∧ ρ = [x0, .sh .rng, .sh (.int (n : Nat)), .sh (.int (m : Nat)), .sh (wD ws), x5, x6, x7, x8, .ow (l.map EnQ.e), .ow (o.map EnQ.e), x11, x12, x13, x14, x15, x16, x17, x18, x19, x20, x21, x22, x23, x24, x25]) (fun k ρ s' hJ => ?_) n (by show n < FUEL; unfold FUEL; omega) ⟨ok, List.range n, [], by simp, by simp, rfl⟩
  obtain ⟨ok, l, o, hk, hperm, rfl⟩ := hJ
  have hlen := hperm.length_eq
  simp at hlen
  by_cases hl : 0 < l.length
  · have hl' : (0 : Int) < (l.length : Nat) := by omega
    have hl2 : 0 < (l.length : Int) := by omega
    simp [hl', hl2, hl, take_eq]
    refine wp_take hl (by omega) ok fun r s2 hr ok2 => ?_
    refine ⟨r, rfl, r, ixN_nat hr, EnQ.e l[r], ⟨l[r], List.getElem?_eq_getElem hr, rfl⟩, (o ++ [l[r]]).map EnQ.e, ?_, l.length - 1, by omega, ok2, l.eraseIdx r, by rw [List.length_eraseIdx_of_lt hr], o ++ [l[r]], ?_, ?_, rfl⟩
    · rw [appU_eq (by simp; omega), List.map_append]; rfl
    · refine List.Perm.trans ?_ hperm
      rw [List.append_assoc]
      exact List.Perm.append_left o (erase_perm hr)
    · rw [erase_map]
  · have hl0 : l = [] := List.length_eq_zero_iff.mp (by omega)
    subst hl0
    rw [List.append_nil] at hperm
    simp [gl15]
    refine wp_mono (turns_eq W hperm s') fun v s2 h => ?_
    obtain ⟨rfl, d, g, rfl, T⟩ := h
    exact gl16_ok W hperm T _ _ _ _ _ _ _ _ _ _ _ _ _ _ _ _ _ _ _ _ _
theorem gl11_ok {ws : Ws} {n m : Nat} (W : Wt ws n m) {b : List Nat} (Qb : Dl n m b) (x0 x5 x6 x7 x8 x9 x10 x11 x12 x13 x14 x15 x16 x18 x19 x20 x21 x22 x23 x24 x25 : Slot) (s : DS) (ok : s.ok) :
    wp (gl11 [x0, .sh .rng, .sh (.int (n : Nat)), .sh (.int (m : Nat)), .sh (wD ws), x5, x6, x7, x8, x9, x10, x11, x12, x13, x14, x15, x16, .sh (rD b), x18, x19, x20, x21, x22, x23, x24, x25]) s RT := by
  have h1 := W.h1
  have h4 := W.h4
  have hr : rng1D [.int (n : Nat)] = some ((List.range n).map EnQ.e) := rng1_n (by omega)
  have K := fun (a5 a6 a7 a8 a9 a10 a11 a12 a13 a14 a15 a16 a18 a19 a20 a21 a22 a23 a24 a25 : Slot) (s : DS) (ok : s.ok) => gl12_ok W x0 a5 a6 a7 a8 a9 a10 a11 a12 a13 a14 a15 a16 (.sh (rD b)) a18 a19 a20 a21 a22 a23 a24 a25 s ok
  simp [gl11, hr]
  refine wp_each EnQ.e (fun ρ s' => s'.ok ∧ ∃ x8, ρ = [x0, .sh .rng, .sh (.int (n : Nat)), .sh (.int (m : Nat)), .sh (wD ws), x5, x6, x7, x8, x9, x10, x11, x12, x13, x14, x15, x16, .sh (rD b), x18, x19, x20, x21, x22, x23, x24, x25]) (List.range n) (fun i hi ρ s' hJ => ?_) (fun ρ s' hJ => ?_) ⟨ok, _, rfl⟩
  · obtain ⟨ok, x8, rfl⟩ := hJ
    have hi := List.mem_range.mp hi
    obtain ⟨sp, hsp, es⟩ := sure_eq W hi
    have e1 := ix_row ws (j := i) (by rw [W.hn]; exact hi)
    have hm := SP_mean hsp
    have hsum := sum_wv W hi
    have hS : S m (wv ws i) < 8000 := by
      have := S_le (n := m) (f := wv ws i) (g := fun _ => 1000) fun k hk => Nat.le_of_lt (W.sm hi hk)
      rw [S_const] at this
      have := W.h7
      omega
    have hsp2 : sp < 8000 := by
      have : 1 * sp ≤ n * sp := Nat.mul_le_mul_right _ h1
      omega
    have m1 : mulD (.int (n : Nat)) (.int (sp : Nat)) = some (.int (n * sp : Nat)) := by
      rw [mulD_sm 64 (by simp; omega) (by simp; omega)]; simp
    have c1 : ¬ (((row ws i).sum : Nat) : Int) < (n * sp : Nat) := by omega
    have ee : eqD (.tup ((env ws n b).map EnQ.e)) (.tup []) = some (.bl (decide (env ws n b = []))) := eq_en (α := List (Nat × Nat)) (by decide) (env ws n b) []
    have hv := row_small W hi Qb i
    have m2 : mulD (.int (n : Nat)) (.int (Vl (wv ws i) b i : Nat)) = some (.int (n * Vl (wv ws i) b i : Nat)) := by
      rw [mulD_sm 64 (by simp; omega) (by simp; omega)]; simp
    refine ⟨_, rfl, ?_⟩
    simp only [e_N]
    by_cases he : env ws n b = []
    · have hf := fair_mean Qb (f := wv ws i) (i := i) fun j hj => Nat.le_of_not_lt fun z => by
        have : (i, j) ∈ env ws n b := mem_env.mpr ⟨hi, hj, z⟩
        rw [he] at this; cases this
      have ee0 : eqD (.tup []) (.tup []) = some (.bl true) := eq_en (α := List (Nat × Nat)) (by decide) [] []
      have c2 : ¬ ((n * Vl (wv ws i) b i : Nat) : Int) < ((row ws i).sum : Nat) := by omega
      simp [wp_eq es, m1, e1, sumR, c1, wp_eq (envies_eq W Qb), ee0, he, wp_eq (own_eq W Qb hi), m2, c2, ok, -ixD_tn, -Int.natCast_mul]
    · simp [wp_eq es, m1, e1, sumR, c1, wp_eq (envies_eq W Qb), ee, he, ok, -ixD_tn, -Int.natCast_mul]
  · obtain ⟨ok, x8, rfl⟩ := hJ
    exact K _ _ _ _ _ _ _ _ _ _ _ _ _ _ _ _ _ _ _ _ _ ok
end Lw
set_option maxHeartbeats 1000000
namespace Lw
open PySem PySem.Spec PyProof.Rows L2 Pu
theorem neR0 (l : List Nat) : neD (rD l) (rD l) = some (.bl false) := by
  have := ne_en (α := List Nat) (by decide) l l
  exact (show neD (.tup _) (.tup _) = _ from this).trans (by simp)
theorem C_len (v : Nat → Nat) : ∀ n, ((List.range n).filter fun h => decide (0 < v h)).length = C n v
  | 0 => rfl
  | n + 1 => by
    rw [List.range_succ, List.filter_append, List.length_append, C_len v n]
    show _ + ([n].filter _).length = C n v + _
    by_cases h : 0 < v n <;> simp [h]
theorem grownW {ws : Ws} {n m : Nat} (W : Wt ws n m) (hs : ∀ r ∈ ws, ∀ x ∈ r, x < 100) {h c : Nat} (hh : h < n) (hc : c ≤ 5) : Wt (grown ws h c) n m := ⟨by unfold grown; rw [List.length_set]; exact W.hn, W.h1, W.h4, W.h7, fun r hr => by
  unfold grown at hr
  rcases List.mem_or_eq_of_mem_set hr with h' | rfl
  · exact W.rows r h'
  · have rm := row_mem (ws := ws) (j := h) (by rw [W.hn]; exact hh)
    refine ⟨by rw [List.length_map]; exact (W.row hh).1, fun x hx => ?_⟩
    obtain ⟨y, hy, rfl⟩ := List.mem_map.mp hx
    have := hs _ rm y hy
    have : c * y ≤ 5 * 100 := Nat.mul_le_mul hc (by omega)
    omega⟩
theorem gl10_ok {ws : Ws} {n m : Nat} (W : Wt ws n m) (hs : ∀ r ∈ ws, ∀ x ∈ r, x < 100) {b : List Nat} (hb : best ws n m b) {h c : Nat} (hh : h < n) (hc0 : 0 < c) (hc5 : c ≤ 5) (x0 x8 x9 x10 x11 x12 x13 x14 x15 x16 x19 x20 x21 x22 x23 x24 x25 : Slot) (s : DS) (ok : s.ok) :
    wp (gl10 [x0, .sh .rng, .sh (.int (n : Nat)), .sh (.int (m : Nat)), .sh (wD ws), .sh (.int (c : Nat)), .sh (.int (h : Nat)), .sh (wD (grown ws h c)), x8, x9, x10, x11, x12, x13, x14, x15, x16, .sh (rD b), .sh (EnQ.e (prK (vals ws n b))), x19, x20, x21, x22, x23, x24, x25]) s RT := by
  have h1 := W.h1
  have Wg := grownW W hs hh hc5
  obtain ⟨b', hb', eb'⟩ := best_eq Wg
  obtain ⟨sp, hsp, es⟩ := sure_eq W hh
  obtain ⟨sp', hsp', es'⟩ := sure_eq Wg hh
  have e : sp' = c * sp := SP.uniq hsp' (SP_mul (fun k hk => by rw [grown_wv W hh hh hk, if_pos rfl]) hsp)
  have Qb := (best_max hb).1
  have hsp2 : sp < 8000 := by
    have hS : S m (wv ws h) < 8000 := by
      have := S_le (n := m) (f := wv ws h) (g := fun _ => 1000) fun k hk => Nat.le_of_lt (W.sm hh hk)
      rw [S_const] at this
      have := W.h7
      omega
    have hm := SP_mean hsp
    have : 1 * sp ≤ n * sp := Nat.mul_le_mul_right _ h1
    omega
  have m1 : mulD (.int (c : Nat)) (.int (sp : Nat)) = some (.int (sp' : Nat)) := by
    rw [mulD_sm 64 (by simp; omega) (by simp; omega), e]; simp
  have k0 : ixD (EnQ.e (prK (vals ws n b))) (.int 0) = some (.int (C n (vf ws b) : Nat)) := by
    rw [show vals ws n b = (List.range n).map (vf ws b) from rfl, prK_eq]; rfl
  have j0 : ∀ z : D, ixD (.tup [rD b', z]) (.int 0) = some (rD b') := fun _ => rfl
  have K := fun (a5 a6 a7 a8 a9 a10 a11 a12 a13 a14 a15 a16 a18 a19 a20 a21 a22 a23 a24 a25 : Slot) (s : DS) (ok : s.ok) => gl11_ok W Qb x0 a5 a6 a7 a8 a9 a10 a11 a12 a13 a14 a15 a16 a18 a19 a20 a21 a22 a23 a24 a25 s ok
  by_cases hC : C n (vf ws b) = n
  · have : b = b' := best_grown W hh hc0 hb hb' hC
    subst this
    simp [gl10, k0, hC, wp_eq eb', j0, neR0, wp_eq es', wp_eq es, m1, -ixD_tn]
    exact K _ _ _ _ _ _ _ _ _ _ _ _ _ _ _ _ _ _ _ _ _ ok
  · have hC' : ¬ ((C n (vf ws b) : Nat) : Int) = (n : Nat) := by omega
    simp [gl10, k0, hC, hC', wp_eq es', wp_eq es, m1, -ixD_tn]
    exact K _ _ _ _ _ _ _ _ _ _ _ _ _ _ _ _ _ _ _ _ _ ok
theorem gl7_ok {ws : Ws} {n m : Nat} (W : Wt ws n m) (hs : ∀ r ∈ ws, ∀ x ∈ r, x < 100) {b : List Nat} (hb : best ws n m b) (x0 x5 x6 x7 x8 x9 x10 x11 x12 x13 x14 x15 x16 x19 x20 x21 x22 x23 x24 x25 : Slot) (s : DS) (ok : s.ok) :
    wp (gl7 [x0, .sh .rng, .sh (.int (n : Nat)), .sh (.int (m : Nat)), .sh (wD ws), x5, x6, x7, x8, x9, x10, x11, x12, x13, x14, x15, x16, .sh (rD b), .sh (EnQ.e (prK (vals ws n b))), x19, x20, x21, x22, x23, x24, x25]) s RT := by
  have h1 := W.h1
  have h4 := W.h4
  have hn := W.hn
  simp [gl7, gl8, take_eq]
  refine wp_take (m := 5) (by decide) (by decide) ok fun r s2 hr ok2 => ?_
  obtain ⟨c, hc, hc0, hc5⟩ : ∃ c : Nat, (1 + (r : Int)) = c ∧ 0 < c ∧ c ≤ 5 := ⟨1 + r, by omega, by omega, by omega⟩
  simp [hc]
  refine wp_take (m := n) (by omega) (by omega) ok2 fun h s3 hh ok3 => ?_
  have sl1 : slD (wD ws) none (some (h : Int)) = some (.tup ((ws.map EnQ.e).take h)) := sl_take _ h
  have sl2 : slD (wD ws) (some ((h : Int) + 1)) none = some (.tup ((ws.map EnQ.e).drop (h + 1))) := sl_drop _ (h + 1)
  have e1 := ix_row ws (j := h) (by omega)
  simp [gl9, sl1, sl2, e1, wipeR, -ixD_tn]
  refine wp_compT (f := fun x : Nat => D.int ((c : Int) * (x : Nat))) _ (fun x hx => ⟨_, rfl, fun s => ?_⟩) ?_
  · have h2 := (W.row hh).2 x hx
    have m1 : mulD (.int (c : Nat)) (.int (x : Nat)) = some (.int ((c : Int) * (x : Nat))) := mulD_sm 64 (by simp; omega) (by simp; omega)
    simp only [e_N]
    simp [m1, -Int.natCast_mul]
  · have er : ((row ws h).map fun x : Nat => D.int ((c : Int) * (x : Nat))) = ((row ws h).map fun x => c * x).map EnQ.e := by
      rw [List.map_map]
      exact List.map_congr_left fun x _ => by show _ = D.int ((c * x : Nat) : Int); simp
    rw [er]
    obtain ⟨rr, hrr⟩ : ∃ rr : List D, rr = ((row ws h).map fun x => c * x).map EnQ.e := ⟨_, rfl⟩
    rw [← hrr]
    have e2 : addD (.tup ((ws.map EnQ.e).take h)) (.tup [.tup rr]) = some (.tup ((ws.map EnQ.e).take h ++ [.tup rr])) := addD_tt (by simp; omega)
    have e3 : addD (.tup ((ws.map EnQ.e).take h ++ [.tup rr])) (.tup ((ws.map EnQ.e).drop (h + 1))) = some (wD (grown ws h c)) := by
      rw [addD_tt (by simp; omega)]
      congr 2
      unfold grown
      rw [List.map_set, List.set_eq_take_append_cons_drop, if_pos (by simp; omega), hrr]
      simp
      rw [e_L, List.map_map]
    simp [SZ_eq, e2, e3]
    exact gl10_ok W hs hb hh hc0 hc5 _ _ _ _ _ _ _ _ _ _ _ _ _ _ _ _ _ _ ok3
theorem gl6_ok {ws : Ws} {n m : Nat} (W : Wt ws n m) (hs : ∀ r ∈ ws, ∀ x ∈ r, x < 100) {b : List Nat} (hb : best ws n m b) {fl : List Nat} (hf : flat ws n m fl) (x0 x5 x6 x7 x8 x9 x10 x11 x12 x13 x14 x15 x16 x21 x22 x23 x24 x25 : Slot) (s : DS) (ok : s.ok) :
    wp (gl6 [x0, .sh .rng, .sh (.int (n : Nat)), .sh (.int (m : Nat)), .sh (wD ws), x5, x6, x7, x8, x9, x10, x11, x12, x13, x14, x15, x16, .sh (rD b), .sh (EnQ.e (prK (vals ws n b))), .sh (rD fl), .sh (rD (srt (vals ws n fl))), x21, x22, x23, x24, x25]) s RT := by
  have h1 := W.h1
  have h4 := W.h4
  have Qb := (best_max hb).1
  have Qf := (flat_max hf).1
  have hr : rng1D [.int (n : Nat)] = some ((List.range n).map EnQ.e) := rng1_n (by omega)
  have eb := better_eq W Qf (flat_NoB hf)
  have nn : isNonD D.non = true := rfl
  have hlen : (srt (vals ws n fl)).length = n := by rw [(srt_perm _).length_eq, vals_len]
  have i0 := (first_nat (srt (vals ws n fl)) (by omega)).2
  have ev : ∀ d, ((List.range n).map fun h : Nat => D.int (Vl (wv ws h) d h : Nat)) = (vals ws n d).map EnQ.e := fun d => by unfold vals; rw [List.map_map]; rfl
  have es := sort_nats (vals ws n fl)
  have hvne : vals ws n b ≠ [] := fun z => by have := vals_len ws n b; rw [z] at this; simp at this; omega
  have hmin := minL_eq hvne
  obtain ⟨j, hj, hle⟩ := flat_least h1 hf Qb
  have hml := minL_le (l := vals ws n b) (vf ws b j) (List.mem_map.mpr ⟨j, List.mem_range.mpr hj, rfl⟩)
  have c : ¬ ((at0 (srt (vals ws n fl)) 0 : Nat) : Int) < (minL (vals ws n b) : Nat) := by omega
  simp [gl6, wp_eq eb, nn, hr, wipeR]
  refine wp_compT (f := fun h : Nat => D.int (Vl (wv ws h) fl h : Nat)) _ (fun h hh => ⟨_, rfl, fun s => ?_⟩) ?_
  · simp only [e_N]
    simp [wp_eq (own_eq W Qf (List.mem_range.mp hh))]
  · rw [ev]
    simp [es, neR0, i0, hr, wipeR, -ixD_tn]
    refine wp_compT (f := fun h : Nat => D.int (Vl (wv ws h) b h : Nat)) _ (fun h hh => ⟨_, rfl, fun s => ?_⟩) ?_
    · simp only [e_N]
      simp [wp_eq (own_eq W Qb (List.mem_range.mp hh))]
    · rw [ev]
      simp [hmin, c]
      exact gl7_ok W hs hb _ _ _ _ _ _ _ _ _ _ _ _ _ _ _ _ _ _ _ _ _ ok
theorem gl4_ok {ws : Ws} {n m : Nat} (W : Wt ws n m) (hs : ∀ r ∈ ws, ∀ x ∈ r, x < 100) {b : List Nat} (hb : best ws n m b) (x0 x5 x6 x7 x8 x9 x10 x11 x12 x13 x14 x15 x16 x19 x20 x21 x22 x23 x24 x25 : Slot) (s : DS) (ok : s.ok) :
    wp (gl4 [x0, .sh .rng, .sh (.int (n : Nat)), .sh (.int (m : Nat)), .sh (wD ws), x5, x6, x7, x8, x9, x10, x11, x12, x13, x14, x15, x16, .sh (rD b), .sh (EnQ.e (prK (vals ws n b))), x19, x20, x21, x22, x23, x24, x25]) s RT := by
  have h1 := W.h1
  have h4 := W.h4
  have Qb := (best_max hb).1
  have hr : rng1D [.int (n : Nat)] = some ((List.range n).map EnQ.e) := rng1_n (by omega)
  have es := strongest_eq W Qb false (best_EF hb)
  have eb := better_eq W Qb (best_NoB hb)
  have nn : isNonD D.non = true := rfl
  have k0 : ixD (EnQ.e (prK (vals ws n b))) (.int 0) = some (.int (C n (vf ws b) : Nat)) := by
    rw [show vals ws n b = (List.range n).map (vf ws b) from rfl, prK_eq]; rfl
  obtain ⟨fl, hf, ef⟩ := level_eq W
  simp [gl4, wp_eq es, wp_eq eb, nn, k0, hr, wipeR, -ixD_tn]
  refine wp_compF (p := fun h : Nat => decide (0 < vf ws b h)) (f := EnQ.e) _ (fun h hh => ⟨_, rfl, fun s => ⟨?_, fun _ => ?_⟩⟩) ?_
  · have e0 : vf ws b h = Vl (wv ws h) b h := rfl
    simp only [e_N]
    simp [wp_eq (own_eq W Qb (List.mem_range.mp hh)), e0]
    omega
  · simp
  · simp [C_len, gl5, wp_eq ef]
    exact gl6_ok W hs hb hf _ _ _ _ _ _ _ _ _ _ _ _ _ _ _ _ _ _ _ ok
theorem main_wp (ns : List Int) (hl : ns.length ≤ 63) (seed : Int) (h0 : 0 ≤ seed) (h1 : seed < 2147483647) : wp (g_law (rho0 26)) ⟨ns, 0, 0, seed⟩ fun r _ => r.1 = .rt (.bl true) := by
  have ok0 : (DS.mk ns 0 0 seed).ok := ⟨Int.le_refl _, Int.le_refl _, h0, h1, hl⟩
  rw [gl_eq]
  unfold gl0 rho0
  generalize (DS.mk ns 0 0 seed) = s at ok0
  simp only [List.replicate, take_eq]
  simp
  refine wp_take (m := 3) (by decide) (by decide) ok0 fun r s hr ok => ?_
  obtain ⟨n, hn, hn1, hn3⟩ : ∃ n : Nat, (1 + (r : Int)) = n ∧ 1 ≤ n ∧ n ≤ 3 := ⟨1 + r, by omega, by omega, by omega⟩
  simp [hn, gl1, take_eq]
  refine wp_take (m := 6) (by decide) (by decide) ok fun m s hm ok => ?_
  simp [gl2, rng1_n (n := n) (by omega), wipeR]
  refine wp_compS (fun (_ : Nat) y => ∃ r : List Nat, y = EnQ.e r ∧ (r.length = m ∧ ∀ x ∈ r, x < 8)) (List.range n) (fun i hi s ok => ⟨_, rfl, ?_⟩) ok fun ys s ok hlen hys => ?_
  · simp [rng1_n (n := m) (by omega), wipeR, take_eq]
    refine wp_compS (fun (_ : Nat) y => ∃ x : Nat, y = EnQ.e x ∧ x < 8) (List.range m) (fun i hi s ok => ⟨_, rfl, ?_⟩) ok fun ys s ok hlen hys => ?_
    · simp
      exact wp_take (m := 8) (by decide) (by decide) ok fun r s hr ok => ⟨ok, r, rfl, hr⟩
    · obtain ⟨r, e1, e2⟩ := choose_all (P := fun x : Nat => x < 8) (f := EnQ.e) (ds := ys) fun d hd => by
        obtain ⟨_, _, x, hx, hs⟩ := hys d hd; exact ⟨x, hx, hs⟩
      subst e1
      simp at hlen
      exact ⟨ok, r, rfl, hlen, e2⟩
  · obtain ⟨ws, e1, e2⟩ := choose_all (P := fun r : List Nat => r.length = m ∧ ∀ x ∈ r, x < 8) (f := EnQ.e) (ds := ys) fun d hd => by
      obtain ⟨_, _, x, hx, hs⟩ := hys d hd; exact ⟨x, hx, hs⟩
    subst e1
    simp at hlen
    have W : Wt ws n m := ⟨hlen, hn1, by omega, by omega, fun r hr => ⟨(e2 r hr).1, fun x hx => by have := (e2 r hr).2 x hx; omega⟩⟩
    obtain ⟨b, hb, eb⟩ := best_eq W
    simp [gl3, wp_eq eb]
    exact gl4_ok W (fun r hr x hx => by have := (e2 r hr).2 x hx; omega) hb _ _ _ _ _ _ _ _ _ _ _ _ _ _ _ _ _ _ _ _ _ ok
theorem main (ns : List Int) (hl : ns.length ≤ 63) (seed : Int) (h0 : 0 ≤ seed) (h1 : seed < 2147483647) : ∃ ρ' s', g_law (rho0 26) ⟨ns, 0, 0, seed⟩ = some ((.rt (.bl true), ρ'), s') := by
  obtain ⟨⟨r, ρ'⟩, s', e, q⟩ := main_wp ns hl seed h0 h1
  have q : r = .rt (.bl true) := q
  subst q
  exact ⟨ρ', s', e⟩
end Lw
set_option maxHeartbeats 0
namespace Lw
open PySem PySem.Spec PyProof.Rows L2 Pu
def q__law_take : He.DefD := ⟨("_law_take", none), "_law_take", "_law_take", defArgs s__law_take, defBody s__law_take, defScope s__law_take, [], []⟩
def q_check_division : He.DefD := ⟨("check_division", none), "check_division", "check_division", defArgs s_check_division, defBody s_check_division, defScope s_check_division, [], []⟩
def q_all_deals : He.DefD := ⟨("all_deals", none), "all_deals", "all_deals", defArgs s_all_deals, defBody s_all_deals, defScope s_all_deals, [], []⟩
def q_product_of : He.DefD := ⟨("product_of", none), "product_of", "product_of", defArgs s_product_of, defBody s_product_of, defScope s_product_of, [], []⟩
def q_worth_of : He.DefD := ⟨("worth_of", none), "worth_of", "worth_of", defArgs s_worth_of, defBody s_worth_of, defScope s_worth_of, [], []⟩
def q_pile_of : He.DefD := ⟨("pile_of", none), "pile_of", "pile_of", defArgs s_pile_of, defBody s_pile_of, defScope s_pile_of, [], []⟩
def q_worths_of : He.DefD := ⟨("worths_of", none), "worths_of", "worths_of", defArgs s_worths_of, defBody s_worths_of, defScope s_worths_of, [], []⟩
def q_best_product : He.DefD := ⟨("best_product", none), "best_product", "best_product", defArgs s_best_product, defBody s_best_product, defScope s_best_product, [], []⟩
def q_most_level : He.DefD := ⟨("most_level", none), "most_level", "most_level", defArgs s_most_level, defBody s_most_level, defScope s_most_level, [], []⟩
def q_in_turns : He.DefD := ⟨("in_turns", none), "in_turns", "in_turns", defArgs s_in_turns, defBody s_in_turns, defScope s_in_turns, [], []⟩
def q_check_dealt : He.DefD := ⟨("check_dealt", none), "check_dealt", "check_dealt", defArgs s_check_dealt, defBody s_check_dealt, defScope s_check_dealt, [], []⟩
def q_envies : He.DefD := ⟨("envies", none), "envies", "envies", defArgs s_envies, defBody s_envies, defScope s_envies, [], []⟩
def q_strongest_envy : He.DefD := ⟨("strongest_envy", none), "strongest_envy", "strongest_envy", defArgs s_strongest_envy, defBody s_strongest_envy, defScope s_strongest_envy, [], []⟩
def q_better_for_all : He.DefD := ⟨("better_for_all", none), "better_for_all", "better_for_all", defArgs s_better_for_all, defBody s_better_for_all, defScope s_better_for_all, [], []⟩
def q_sure_part : He.DefD := ⟨("sure_part", none), "sure_part", "sure_part", defArgs s_sure_part, defBody s_sure_part, defScope s_sure_part, [], []⟩
def q__law_own : He.DefD := ⟨("_law_own", none), "_law_own", "_law_own", defArgs s__law_own, defBody s__law_own, defScope s__law_own, [], []⟩
def q__law_begin : He.DefD := ⟨("_law_begin", none), "_law_begin", "_law_begin", defArgs s__law_begin, defBody s__law_begin, defScope s__law_begin, [], []⟩
def q_law : He.DefD := ⟨("law", none), "law", "law", defArgs s_law, defBody s_law, defScope s_law, [], []⟩
def fn : List He.DefD := q__law_take :: q_check_division :: q_all_deals :: q_product_of :: q_worth_of :: q_pile_of :: q_worths_of :: q_best_product :: q_most_level :: q_in_turns :: q_check_dealt :: q_envies :: q_strongest_envy :: q_better_for_all :: q_sure_part :: q__law_own :: q__law_begin :: q_law :: []
def fa : List He.Fa := .glo "_law_take" :: .glo "check_division" :: .glo "all_deals" :: .glo "product_of" :: .glo "worth_of" :: .glo "pile_of" :: .glo "worths_of" :: .glo "best_product" :: .glo "most_level" :: .glo "in_turns" :: .glo "check_dealt" :: .glo "envies" :: .glo "strongest_envy" :: .glo "better_for_all" :: .glo "sure_part" :: .glo "_law_own" :: .glo "_law_begin" :: .glo "law" :: .free "len" :: .free "sum" :: .free "min" :: .free "max" :: .free "all" :: .free "any" :: .free "abs" :: .free "int" :: .free "sorted" :: .free "tuple" :: .free "list" :: .free "range" :: .free "enumerate" :: .free "zip" :: .int "MOST_HANDS" 4 :: .int "MOST_THINGS" 7 :: []
abbrev R : PySem.W.OpenRow := PySem.W.OpenLaw.row PySem.Challenge.rw_marketguild_k73_whole_fair_dealings
abbrev hk : PySem.W.Hook := He.hookD 4 fa fn
def ob (s : PySem.W.SharedT) : He.AlD := He.obsDG 4 fa fn (HandSHeadRun.getT s)
theorem ob_eq (s : PySem.W.SharedT) : ob s = hk.obs s.abs := He.obsDG_eq (HandSHeadRun.getT_eq s)
def nms0 : List PySem.Str := ["MarketplaceError", "GuildError", "MOST_HANDS", "MOST_THINGS", "check_division", "check_dealt", "pile_of", "worth_of", "envies", "strongest_envy", "in_turns", "all_deals", "worths_of", "product_of", "best_product", "most_level", "sure_part", "better_for_all", "_law_begin", "_law_take", "_law_own"]
def nms : List PySem.Str := nms0
theorem run (w : World) : HandSHeadRun.RunEq R (PySem.W.view R.prog [24]) hk ob 4000 nms w := by
  intro os
  kernel_rfl
theorem facts {P : Program} {w : World} {K : PySem.W.Frag} {h : Heap} {mg : Str → Option Value} {f : Addr} (X : K.In h) (G : h.Ns mainGlobals mg) (hfa : mg ("law" : Str) = some (.ref f)) (c : He.SaysD fa fn K) :
    ∃ fd : FuncData, (∀ (s : Shared) (v : Value), BindsTo s fd ⟨[v], []⟩ [("script", v)]) ∧ ∀ base : Heap, K.In base → base.Ns mainGlobals mg → FnOk P w K mg base CX0 5 f fd ["script"] (spLaw K 26 g_law) := by
  have B : Bi mg := ⟨He.free_ok X G (c.fact 18 (f := .free "len") rfl), He.free_ok X G (c.fact 19 (f := .free "sum") rfl), He.free_ok X G (c.fact 20 (f := .free "min") rfl), He.free_ok X G (c.fact 21 (f := .free "max") rfl), He.free_ok X G (c.fact 22 (f := .free "all") rfl), He.free_ok X G (c.fact 23 (f := .free "any") rfl), He.free_ok X G (c.fact 24 (f := .free "abs") rfl), He.free_ok X G (c.fact 25 (f := .free "int") rfl), He.free_ok X G (c.fact 26 (f := .free "sorted") rfl), He.free_ok X G (c.fact 27 (f := .free "tuple") rfl), He.free_ok X G (c.fact 28 (f := .free "list") rfl), He.free_ok X G (c.fact 29 (f := .free "range") rfl), He.free_ok X G (c.fact 30 (f := .free "enumerate") rfl), He.free_ok X G (c.fact 31 (f := .free "zip") rfl)⟩
  obtain ⟨t_MOST_HANDS, e_MOST_HANDS⟩ := He.int_ok X G (c.fact 32 (f := .int "MOST_HANDS" 4) rfl)
  have k_MOST_HANDS : CstOk mg "MOST_HANDS" c_MOST_HANDS K := CstOk.int e_MOST_HANDS
  obtain ⟨t_MOST_THINGS, e_MOST_THINGS⟩ := He.int_ok X G (c.fact 33 (f := .int "MOST_THINGS" 7) rfl)
  have k_MOST_THINGS : CstOk mg "MOST_THINGS" c_MOST_THINGS K := CstOk.int e_MOST_THINGS
  obtain ⟨fd__law_take, F__law_take⟩ := c.def_ 0 (d := q__law_take) rfl
  obtain ⟨fd_check_division, F_check_division⟩ := c.def_ 1 (d := q_check_division) rfl
  obtain ⟨fd_all_deals, F_all_deals⟩ := c.def_ 2 (d := q_all_deals) rfl
  obtain ⟨fd_product_of, F_product_of⟩ := c.def_ 3 (d := q_product_of) rfl
  obtain ⟨fd_worth_of, F_worth_of⟩ := c.def_ 4 (d := q_worth_of) rfl
  obtain ⟨fd_pile_of, F_pile_of⟩ := c.def_ 5 (d := q_pile_of) rfl
  obtain ⟨fd_worths_of, F_worths_of⟩ := c.def_ 6 (d := q_worths_of) rfl
  obtain ⟨fd_best_product, F_best_product⟩ := c.def_ 7 (d := q_best_product) rfl
  obtain ⟨fd_most_level, F_most_level⟩ := c.def_ 8 (d := q_most_level) rfl
  obtain ⟨fd_in_turns, F_in_turns⟩ := c.def_ 9 (d := q_in_turns) rfl
  obtain ⟨fd_check_dealt, F_check_dealt⟩ := c.def_ 10 (d := q_check_dealt) rfl
  obtain ⟨fd_envies, F_envies⟩ := c.def_ 11 (d := q_envies) rfl
  obtain ⟨fd_strongest_envy, F_strongest_envy⟩ := c.def_ 12 (d := q_strongest_envy) rfl
  obtain ⟨fd_better_for_all, F_better_for_all⟩ := c.def_ 13 (d := q_better_for_all) rfl
  obtain ⟨fd_sure_part, F_sure_part⟩ := c.def_ 14 (d := q_sure_part) rfl
  obtain ⟨fd__law_own, F__law_own⟩ := c.def_ 15 (d := q__law_own) rfl
  obtain ⟨fd__law_begin, F__law_begin⟩ := c.def_ 16 (d := q__law_begin) rfl
  obtain ⟨fd_law, F_law⟩ := c.def_ 17 (d := q_law) rfl
  have e := hfa.symm.trans (He.glo_ok X G (c.fact 17 (f := .glo "law") rfl))
  cases e
  have b__law_take : Binds K fd__law_take ["d", "many"] [] := FunD.bindsN F__law_take fun _ _ _ _ _ _ us hl => match us, hl with | [_, _], _ => rfl
  have b_check_division : Binds K fd_check_division ["worths"] [] := FunD.bindsN F_check_division fun _ _ _ _ _ _ us hl => match us, hl with | [_], _ => rfl
  have b_all_deals : Binds K fd_all_deals ["worths"] [] := FunD.bindsN F_all_deals fun _ _ _ _ _ _ us hl => match us, hl with | [_], _ => rfl
  have b_product_of : Binds K fd_product_of ["numbers"] [] := FunD.bindsN F_product_of fun _ _ _ _ _ _ us hl => match us, hl with | [_], _ => rfl
  have b_worth_of : Binds K fd_worth_of ["worths", "hand", "pile"] [] := FunD.bindsN F_worth_of fun _ _ _ _ _ _ us hl => match us, hl with | [_, _, _], _ => rfl
  have b_pile_of : Binds K fd_pile_of ["dealt", "hand"] [] := FunD.bindsN F_pile_of fun _ _ _ _ _ _ us hl => match us, hl with | [_, _], _ => rfl
  have b_worths_of : Binds K fd_worths_of ["worths", "dealt"] [] := FunD.bindsN F_worths_of fun _ _ _ _ _ _ us hl => match us, hl with | [_, _], _ => rfl
  have b_best_product : Binds K fd_best_product ["worths"] [] := FunD.bindsN F_best_product fun _ _ _ _ _ _ us hl => match us, hl with | [_], _ => rfl
  have b_most_level : Binds K fd_most_level ["worths"] [] := FunD.bindsN F_most_level fun _ _ _ _ _ _ us hl => match us, hl with | [_], _ => rfl
  have b_in_turns : Binds K fd_in_turns ["worths", "order"] [] := FunD.bindsN F_in_turns fun _ _ _ _ _ _ us hl => match us, hl with | [_, _], _ => rfl
  have b_check_dealt : Binds K fd_check_dealt ["worths", "dealt"] [] := FunD.bindsN F_check_dealt fun _ _ _ _ _ _ us hl => match us, hl with | [_, _], _ => rfl
  have b_envies : Binds K fd_envies ["worths", "dealt"] [] := FunD.bindsN F_envies fun _ _ _ _ _ _ us hl => match us, hl with | [_, _], _ => rfl
  have b_strongest_envy : Binds K fd_strongest_envy ["worths", "dealt", "is_any"] [] := FunD.bindsN F_strongest_envy fun _ _ _ _ _ _ us hl => match us, hl with | [_, _, _], _ => rfl
  have b_better_for_all : Binds K fd_better_for_all ["worths", "dealt"] [] := FunD.bindsN F_better_for_all fun _ _ _ _ _ _ us hl => match us, hl with | [_, _], _ => rfl
  have b_sure_part : Binds K fd_sure_part ["worths", "hand"] [] := FunD.bindsN F_sure_part fun _ _ _ _ _ _ us hl => match us, hl with | [_, _], _ => rfl
  have b__law_own : Binds K fd__law_own ["worths", "dealt", "hand"] [] := FunD.bindsN F__law_own fun _ _ _ _ _ _ us hl => match us, hl with | [_, _, _], _ => rfl
  have b__law_begin : Binds K fd__law_begin ["script"] [] := FunD.bindsN F__law_begin fun _ _ _ _ _ _ us hl => match us, hl with | [_], _ => rfl
  have b := FunD.bindsA (ps := ["script"]) F_law fun _ _ _ _ _ _ us hl => match us, hl with | [_], _ => rfl
  refine ⟨fd_law, fun s v => b s [v] rfl, fun base _ _ => ?_⟩
  have d__law_take : DefOk P w K mg base "_law_take" 1 ["d", "many"] m__law_take := ok__law_take B F__law_take (He.glo_ok X G (c.fact 0 (f := .glo "_law_take") rfl)) b__law_take
  have d_check_division : DefOk P w K mg base "check_division" 1 ["worths"] m_check_division := ok_check_division B k_MOST_HANDS k_MOST_THINGS F_check_division (He.glo_ok X G (c.fact 1 (f := .glo "check_division") rfl)) b_check_division
  have d_all_deals : DefOk P w K mg base "all_deals" 1 ["worths"] m_all_deals := ok_all_deals B F_all_deals (He.glo_ok X G (c.fact 2 (f := .glo "all_deals") rfl)) b_all_deals
  have d_product_of : DefOk P w K mg base "product_of" 1 ["numbers"] m_product_of := ok_product_of B F_product_of (He.glo_ok X G (c.fact 3 (f := .glo "product_of") rfl)) b_product_of
  have d_worth_of : DefOk P w K mg base "worth_of" 1 ["worths", "hand", "pile"] m_worth_of := ok_worth_of B F_worth_of (He.glo_ok X G (c.fact 4 (f := .glo "worth_of") rfl)) b_worth_of
  have d_pile_of : DefOk P w K mg base "pile_of" 1 ["dealt", "hand"] m_pile_of := ok_pile_of B F_pile_of (He.glo_ok X G (c.fact 5 (f := .glo "pile_of") rfl)) b_pile_of
  have d_worths_of : DefOk P w K mg base "worths_of" 2 ["worths", "dealt"] m_worths_of := ok_worths_of B d_worth_of d_pile_of F_worths_of (He.glo_ok X G (c.fact 6 (f := .glo "worths_of") rfl)) b_worths_of
  have d_best_product : DefOk P w K mg base "best_product" 3 ["worths"] m_best_product := ok_best_product B d_check_division d_all_deals d_product_of d_worths_of F_best_product (He.glo_ok X G (c.fact 7 (f := .glo "best_product") rfl)) b_best_product
  have d_most_level : DefOk P w K mg base "most_level" 3 ["worths"] m_most_level := ok_most_level B d_check_division d_all_deals d_worths_of F_most_level (He.glo_ok X G (c.fact 8 (f := .glo "most_level") rfl)) b_most_level
  have d_in_turns : DefOk P w K mg base "in_turns" 2 ["worths", "order"] m_in_turns := ok_in_turns B d_check_division F_in_turns (He.glo_ok X G (c.fact 9 (f := .glo "in_turns") rfl)) b_in_turns
  have d_check_dealt : DefOk P w K mg base "check_dealt" 2 ["worths", "dealt"] m_check_dealt := ok_check_dealt B d_check_division F_check_dealt (He.glo_ok X G (c.fact 10 (f := .glo "check_dealt") rfl)) b_check_dealt
  have d_envies : DefOk P w K mg base "envies" 3 ["worths", "dealt"] m_envies := ok_envies B d_check_dealt d_worth_of d_pile_of F_envies (He.glo_ok X G (c.fact 11 (f := .glo "envies") rfl)) b_envies
  have d_strongest_envy : DefOk P w K mg base "strongest_envy" 4 ["worths", "dealt", "is_any"] m_strongest_envy := ok_strongest_envy B d_check_dealt d_envies d_worth_of d_pile_of F_strongest_envy (He.glo_ok X G (c.fact 12 (f := .glo "strongest_envy") rfl)) b_strongest_envy
  have d_better_for_all : DefOk P w K mg base "better_for_all" 3 ["worths", "dealt"] m_better_for_all := ok_better_for_all B d_check_dealt d_worths_of d_all_deals F_better_for_all (He.glo_ok X G (c.fact 13 (f := .glo "better_for_all") rfl)) b_better_for_all
  have d_sure_part : DefOk P w K mg base "sure_part" 2 ["worths", "hand"] m_sure_part := ok_sure_part B d_check_division d_all_deals d_worth_of d_pile_of F_sure_part (He.glo_ok X G (c.fact 14 (f := .glo "sure_part") rfl)) b_sure_part
  have d__law_own : DefOk P w K mg base "_law_own" 1 ["worths", "dealt", "hand"] m__law_own := ok__law_own B F__law_own (He.glo_ok X G (c.fact 15 (f := .glo "_law_own") rfl)) b__law_own
  exact ok_law B d__law_take d_best_product d_most_level d_in_turns d_strongest_envy d_better_for_all d_sure_part d__law_own d_envies F_law (ok_begin B F__law_begin) b__law_begin (He.glo_ok X G (c.fact 16 (f := .glo "_law_begin") rfl)) F__law_begin.kp
end Lw
open PySem PySem.W PySem.Calls PyProof.Rows
theorem PySem.Challenge.cw_marketguild_k73_whole_fair_dealings_holds : PySem.Challenge.rw_marketguild_k73_whole_fair_dealings.Holds := by
  w_on; o_law
  refine HandSHeadRun.head_any (r := OpenLaw.row PySem.Challenge.rw_marketguild_k73_whole_fair_dealings) (q := view (OpenLaw.row PySem.Challenge.rw_marketguild_k73_whole_fair_dealings).prog [24]) (H := Lw.hk) (ob := Lw.ob) (M := 4000) (loose := Lw.nms) (d := HandSHeadRun.topDef (OpenLaw.row PySem.Challenge.rw_marketguild_k73_whole_fair_dealings).prog 24) (kwd := []) Lw.ob_eq
    (by kernel_rfl) (fun s => by kernel_rfl) Lw.run (by kernel_rfl) (by kernel_rfl) (by kernel_rfl) (by rfl) (by first | assumption | decide +kernel) (by decide +kernel) ⟨rfl, rfl, rfl, rfl, rfl, by decide +kernel⟩ ?hw ?hc
  case hw => w_witness2
  case hc =>
    refine L2.walk_ofE (l := PySem.Challenge.rw_marketguild_k73_whole_fair_dealings) (n := 63) (k := 5) (x := "script") (CX := L2.CX0) rfl (by decide) (by kernel_rfl) ⟨rfl, by decide, by decide⟩ ?F (fun _ _ _ _ z => z)
    intro w mg fa h Y G hmg0
    obtain ⟨K, KX, c⟩ := Y
    have hmg : mg ("law" : PySem.Str) = some (.ref fa) := by
      have e : (HandSHeadRun.topDef (OpenLaw.row PySem.Challenge.rw_marketguild_k73_whole_fair_dealings).prog 24).name = ("law" : PySem.Str) := by kernel_rfl
      rw [← e]
      exact hmg0
    obtain ⟨fd, hb, hF⟩ := Lw.facts (P := (PySem.Challenge.rw_marketguild_k73_whole_fair_dealings).prog) (w := w) KX G hmg c
    exact ⟨K, fd, Pu.spLaw K 26 Lw.g_law, KX, hb, fun H a ns hl _ hS => ⟨a, ns, rfl, hS, hl, fun seed h0 h1 => Lw.main ns hl seed h0 h1, fun _ => rfl⟩, hF⟩
