import PyProof.Rows.All
import Wide.All
import OpenK.AllK
import Wide.FinOn
import HandS.ForMost
import HandS.Wide
import HandS.TupLe
import HandS.TupAny
import HandS.TupMul
import HandS.Deep
import HandS.Zip
import HandS.Conv
import HandS.Style
import HandS.SortKw
import HandS.Gcd
import HandS.Walk
import HandS.Defaults
import HandS.WordsExc
import KE.GoesMore
import KE.GoesEnum
import KE.GoesZip
import KE.DataCmp
import KE.DataMinMax
import KE.KTupSum
import HandS.HeadHook4
import KE.SortData
import KE.KStateDown
import HandS.Head0
import HandS.Head1
import HandS.Head2
import HandS.Head3
import HandS.Dict
import HandS.More
import PySem.Challenge.RW_marketguild_k70_whole_claims_together
import HandS.Base
import HandS.Call
import HandS.Ends
import HandS.Words
import HandS.HeadEnd
import HandS.HeadHook1
import HandS.HeadHook2
set_option Elab.async false
set_option linter.all false
set_option maxRecDepth 100000
/-! Pu: a pure layer over HandS. Python data as plain trees, defs as functions in a small monad. -/
namespace Pu
open PySem PySem.Spec PyProof.Rows L2

abbrev SZ : Nat := sizeLine
/-- pure data; rng stands for the law's own draw object -/
inductive D where
  | non | bl (b : Bool) | int (i : Int) | str (x : Str) | tup (xs : List D) | lst (xs : List D) | rng | dic (ks : List Key) (ds : List D)

/-- the state of the law's draw object -/
structure DS where
  ns : List Int
  pos : Int
  acc : Int
  seed : Int
structure DS.ok (d : DS) : Prop where
  p0 : 0 ≤ d.pos
  a0 : 0 ≤ d.acc
  s0 : 0 ≤ d.seed
  s1 : d.seed < 2147483647
  nl : d.ns.length ≤ 63
/-- computations -/
abbrev M (α : Type) := DS → Option (α × DS)
def Mp {α : Type} (a : α) : M α := fun s => some (a, s)
def Mf {α : Type} : M α := fun _ => none
def Mb {α β : Type} (x : M α) (f : α → M β) : M β := fun s => match x s with
  | none => none
  | some (a, s') => f a s'
def Mo {α : Type} : Option α → M α
  | none => Mf
  | some a => Mp a
section
variable {α β γ : Type}
theorem Mb_eq {x : M α} {f : α → M β} {s s' : DS} {b : β} (h : Mb x f s = some (b, s')) : ∃ a s1, x s = some (a, s1) ∧ f a s1 = some (b, s') := by
  unfold Mb at h
  cases e : x s with
  | none => rw [e] at h; cases h
  | some p => obtain ⟨a, s1⟩ := p; rw [e] at h; exact ⟨a, s1, rfl, h⟩
theorem Mp_eq {a b : α} {s s' : DS} (h : Mp a s = some (b, s')) : a = b ∧ s = s' := by
  unfold Mp at h
  have := Option.some.inj h
  exact ⟨congrArg Prod.fst this, congrArg Prod.snd this⟩
theorem Mo_eq {o : Option α} {b : α} {s s' : DS} (h : Mo o s = some (b, s')) : o = some b ∧ s = s' := by
  cases o with
  | none => cases h
  | some a => obtain ⟨e1, e2⟩ := Mp_eq h; exact ⟨by rw [e1], e2⟩
theorem Mf_eq {b : α} {s s' : DS} (h : (Mf : M α) s = some (b, s')) : False := by cases h
@[simp] theorem Mb_Mp (a : α) (f : α → M β) : Mb (Mp a) f = f a := rfl
@[simp] theorem Mb_Mf (f : α → M β) : Mb (Mf : M α) f = Mf := rfl
@[simp] theorem Mb_id (x : M α) : Mb x Mp = x := by
  funext s; unfold Mb; cases h : x s with
  | none => rfl
  | some p => rfl
@[simp] theorem Mb_assoc (x : M α) (f : α → M β) (g : β → M γ) : Mb (Mb x f) g = Mb x fun a => Mb (f a) g := by
  funext s; unfold Mb; cases h : x s with
  | none => rfl
  | some p => rfl
@[simp] theorem Mo_some (a : α) : Mo (some a) = Mp a := rfl
@[simp] theorem Mo_none : Mo (none : Option α) = Mf := rfl
end

/-- where the law's draw object lies, and the script's copy -/
structure PD where
  p : Addr
  q : Addr
@[simp] def pp : Option PD → Option Addr
  | none => none
  | some x => some x.p
/-! ### how data lie in the abstract heap -/
section
variable (K : PySem.W.Frag) (pd : Option PD) (F : Hp)
mutual
def Rep : D → V → Prop
  | .non, v => v = .non
  | .bl b, v => v = .bl b
  | .int i, v => v = .int i
  | .str x, v => v = .str x
  | .tup ds, v => ∃ a xs, v = .ref a ∧ SqT K F a xs ∧ ds.length ≤ SZ ∧ RepL ds xs
  | .lst ds, v => ∃ a xs, v = .ref a ∧ F a = some (.lst xs) ∧ ds.length ≤ SZ ∧ RepL ds xs
  | .rng, v => ∃ a, v = .ref a ∧ pp pd = some a
  | .dic ks ds, v => ∃ a xs, v = .ref a ∧ F a = some (.dK xs) ∧ xs.map Prod.fst = ks ∧ ds.length ≤ SZ ∧ RepL ds (xs.map Prod.snd)
def RepL : List D → List V → Prop
  | [], xs => xs = []
  | d :: ds, xs => ∃ y ys, xs = y :: ys ∧ Rep d y ∧ RepL ds ys
end
end
section
variable {K : PySem.W.Frag} {pd : Option PD} {F F' H H' : Hp}
theorem RepL.length : ∀ {ds : List D} {xs : List V}, RepL K pd F ds xs → xs.length = ds.length
  | [], xs, h => by simp only [RepL] at h; rw [h]; rfl
  | d :: ds, xs, h => by
    simp only [RepL] at h
    obtain ⟨y, ys, rfl, _, h⟩ := h
    simp [RepL.length h]
theorem RepL.get : ∀ {ds : List D} {xs : List V} {i : Nat} {d : D}, RepL K pd F ds xs → ds[i]? = some d → ∃ x, xs[i]? = some x ∧ Rep K pd F d x
  | [], _, _, _, _, e => by simp at e
  | d :: ds, xs, 0, _, h, e => by
    simp only [RepL] at h
    obtain ⟨y, ys, rfl, h1, _⟩ := h
    simp at e; subst e
    exact ⟨y, rfl, h1⟩
  | d :: ds, xs, i + 1, _, h, e => by
    simp only [RepL] at h
    obtain ⟨y, ys, rfl, _, h⟩ := h
    obtain ⟨x, e1, r⟩ := RepL.get (i := i) h (by simpa using e)
    exact ⟨x, by simpa using e1, r⟩
theorem RepL.getV : ∀ {ds : List D} {xs : List V} {i : Nat} {x : V}, RepL K pd F ds xs → xs[i]? = some x → ∃ d, ds[i]? = some d ∧ Rep K pd F d x
  | [], xs, _, _, h, e => by simp only [RepL] at h; subst h; simp at e
  | d :: ds, xs, 0, _, h, e => by
    simp only [RepL] at h
    obtain ⟨y, ys, rfl, h1, _⟩ := h
    simp at e; subst e
    exact ⟨d, rfl, h1⟩
  | d :: ds, xs, i + 1, _, h, e => by
    simp only [RepL] at h
    obtain ⟨y, ys, rfl, _, h⟩ := h
    obtain ⟨x, e1, r⟩ := RepL.getV (i := i) h (by simpa using e)
    exact ⟨x, by simpa using e1, r⟩
theorem RepL.nil : RepL K pd F [] [] := by simp [RepL]
theorem RepL.cons {d : D} {ds : List D} {x : V} {xs : List V} (h : Rep K pd F d x) (t : RepL K pd F ds xs) : RepL K pd F (d :: ds) (x :: xs) := by
  simp only [RepL]; exact ⟨x, xs, rfl, h, t⟩
theorem RepL.cases {d : D} {ds : List D} {xs : List V} (h : RepL K pd F (d :: ds) xs) : ∃ y ys, xs = y :: ys ∧ Rep K pd F d y ∧ RepL K pd F ds ys := by
  simpa only [RepL] using h
theorem RepL.cases0 {xs : List V} (h : RepL K pd F [] xs) : xs = [] := by simpa only [RepL] using h
theorem RepL.append : ∀ {ds es : List D} {xs ys : List V}, RepL K pd F ds xs → RepL K pd F es ys → RepL K pd F (ds ++ es) (xs ++ ys)
  | [], _, _, _, h, h' => by have := h.cases0; subst this; exact h'
  | d :: ds, _, _, _, h, h' => by
    obtain ⟨y, ys, rfl, h1, h2⟩ := h.cases
    exact .cons h1 (RepL.append h2 h')
theorem RepL.take : ∀ {ds : List D} {xs : List V} (n : Nat), RepL K pd F ds xs → RepL K pd F (ds.take n) (xs.take n)
  | _, _, 0, _ => by simp; exact .nil
  | [], _, n + 1, h => by have := h.cases0; subst this; exact .nil
  | d :: ds, _, n + 1, h => by
    obtain ⟨y, ys, rfl, h1, h2⟩ := h.cases
    exact .cons h1 (RepL.take n h2)
theorem RepL.drop : ∀ {ds : List D} {xs : List V} (n : Nat), RepL K pd F ds xs → RepL K pd F (ds.drop n) (xs.drop n)
  | _, _, 0, h => h
  | [], _, n + 1, h => by have := h.cases0; subst this; exact .nil
  | d :: ds, _, n + 1, h => by
    obtain ⟨y, ys, rfl, h1, h2⟩ := h.cases
    exact RepL.drop n h2
theorem RepL.set : ∀ {ds : List D} {xs : List V} (n : Nat) {d : D} {x : V}, RepL K pd F ds xs → Rep K pd F d x → RepL K pd F (ds.set n d) (xs.set n x)
  | [], _, _, _, _, h, _ => by have := h.cases0; subst this; exact .nil
  | e :: ds, _, 0, d, x, h, r => by
    obtain ⟨y, ys, rfl, h1, h2⟩ := h.cases
    exact .cons r h2
  | e :: ds, _, n + 1, d, x, h, r => by
    obtain ⟨y, ys, rfl, h1, h2⟩ := h.cases
    exact .cons h1 (RepL.set n h2 r)
theorem RepL.reverse : ∀ {ds : List D} {xs : List V}, RepL K pd F ds xs → RepL K pd F ds.reverse xs.reverse
  | [], _, h => by have := h.cases0; subst this; exact .nil
  | d :: ds, _, h => by
    obtain ⟨y, ys, rfl, h1, h2⟩ := h.cases
    rw [List.reverse_cons, List.reverse_cons]
    exact (RepL.reverse h2).append (.cons h1 .nil)
theorem RepL.eraseIdx : ∀ {ds : List D} {xs : List V} (n : Nat), RepL K pd F ds xs → RepL K pd F (ds.eraseIdx n) (xs.eraseIdx n)
  | [], _, _, h => by have := h.cases0; subst this; exact .nil
  | e :: ds, _, 0, h => by
    obtain ⟨y, ys, rfl, h1, h2⟩ := h.cases
    exact h2
  | e :: ds, _, n + 1, h => by
    obtain ⟨y, ys, rfl, h1, h2⟩ := h.cases
    exact .cons h1 (RepL.eraseIdx n h2)
theorem RepL.dropLast : ∀ {ds : List D} {xs : List V}, RepL K pd F ds xs → RepL K pd F ds.dropLast xs.dropLast := fun {ds xs} h => by
  rw [List.dropLast_eq_take, List.dropLast_eq_take, h.length]
  exact h.take _
theorem RepL.rep {ds : List D} {xs : List V} (h : RepL K pd F ds xs) : ∀ n : Nat, RepL K pd F (List.replicate n ds).flatten (List.replicate n xs).flatten
  | 0 => .nil
  | n + 1 => by
    rw [List.replicate_succ, List.replicate_succ, List.flatten_cons, List.flatten_cons]
    exact h.append (RepL.rep h n)
theorem RepL.ints : ∀ {ns : List Int} {xs : List V}, RepL K pd F (ns.map D.int) xs → xs = ns.map V.int
  | [], _, h => h.cases0
  | n :: ns, _, h => by
    obtain ⟨y, ys, rfl, h1, h2⟩ := h.cases
    simp only [Rep] at h1
    rw [h1, RepL.ints h2]; rfl
theorem RepL.ofInts : ∀ (ns : List Int), RepL K pd F (ns.map D.int) (ns.map V.int)
  | [] => .nil
  | n :: ns => .cons (by simp [Rep]) (RepL.ofInts ns)
theorem RepL.bls : ∀ {ns : List Bool} {xs : List V}, RepL K pd F (ns.map D.bl) xs → xs = ns.map V.bl
  | [], _, h => h.cases0
  | n :: ns, _, h => by
    obtain ⟨y, ys, rfl, h1, h2⟩ := h.cases
    simp only [Rep] at h1
    rw [h1, RepL.bls h2]; rfl
theorem sqT_mono {a : Addr} {xs : List V} (e : Same F F') (h : SqT K F a xs) : SqT K F' a xs := by
  rcases h with (h | ⟨o, h⟩) | h
  · exact .inl (.inl (e _ _ h))
  · exact .inl (.inr ⟨o, e _ _ h⟩)
  · exact .inr h
mutual
theorem Rep.mono (e : Same F F') : ∀ {d : D} {v : V}, Rep K pd F d v → Rep K pd F' d v
  | .non, _, h => by simpa only [Rep] using h
  | .bl _, _, h => by simpa only [Rep] using h
  | .int _, _, h => by simpa only [Rep] using h
  | .str _, _, h => by simpa only [Rep] using h
  | .rng, _, h => by simpa only [Rep] using h
  | .tup ds, _, h => by
    simp only [Rep] at h ⊢
    obtain ⟨a, xs, r, s, hl, q⟩ := h
    exact ⟨a, xs, r, sqT_mono e s, hl, RepL.mono e q⟩
  | .lst ds, _, h => by
    simp only [Rep] at h ⊢
    obtain ⟨a, xs, r, s, hl, q⟩ := h
    exact ⟨a, xs, r, e _ _ s, hl, RepL.mono e q⟩
  | .dic ks ds, _, h => by
    simp only [Rep] at h ⊢
    obtain ⟨a, xs, r, s, hk, hl, q⟩ := h
    exact ⟨a, xs, r, e _ _ s, hk, hl, RepL.mono e q⟩
theorem RepL.mono (e : Same F F') : ∀ {ds : List D} {xs : List V}, RepL K pd F ds xs → RepL K pd F' ds xs
  | [], _, h => by simpa only [RepL] using h
  | d :: ds, _, h => by
    simp only [RepL] at h ⊢
    obtain ⟨y, ys, r, h1, h2⟩ := h
    exact ⟨y, ys, r, Rep.mono e h1, RepL.mono e h2⟩
end
theorem same_upd {p : Addr} {o : HO} (h : H p = none) : Same H (upd H p o) := fun b x e => by
  rw [upd_ne (ne_of_none e h)]
  exact e
end

/-! ### evolution -/
structure Ext (pd : Option PD) (F H F' H' : Hp) : Prop where
  ff : Same F F'
  hh : ∀ a o, H a = some o → some a ≠ pp pd → H' a = some o
  hd : ∀ a, H a ≠ none → H' a ≠ none
  nw : ∀ a o, F' a = some o → F a = some o ∨ H a = none
  fh : Same F' H'
section
variable {K : PySem.W.Frag} {pd : Option PD} {F H F' H' F'' H'' : Hp}
theorem Ext.refl (h : Same F H) : Ext pd F H F H := ⟨Same.refl _, fun _ _ e _ => e, fun _ e => e, fun _ _ e => .inl e, h⟩
theorem Ext.trans (a : Ext pd F H F' H') (b : Ext pd F' H' F'' H'') : Ext pd F H F'' H'' :=
  ⟨a.ff.trans b.ff, fun x o e n => b.hh x o (a.hh x o e n) n, fun x e => b.hd x (a.hd x e), fun x o e => by
    rcases b.nw x o e with z | z
    · exact a.nw x o z
    · refine .inr ?_
      cases q : H x with
      | none => rfl
      | some u => exact absurd z (a.hd x (by rw [q]; simp)), b.fh⟩
theorem Ext.lift (a : Ext none F H F' H') : Ext pd F H F' H' := ⟨a.ff, fun x o e _ => a.hh x o e (by simp), a.hd, a.nw, a.fh⟩
theorem Ext.same (a : Ext none F H F' H') : Same H H' := fun x o e => a.hh x o e (by simp)
/-- a new object that is known -/
theorem Ext.new {p : Addr} {o : HO} (h : Same F H) (n : H p = none) : Ext none F H (upd F p o) (upd H p o) := by
  have nF : F p = none := by
    cases q : F p with
    | none => rfl
    | some u => have := h _ _ q; rw [n] at this; cases this
  refine ⟨same_upd nF, fun x u e _ => same_upd n _ _ e, fun x e => ?_, fun x u e => ?_, fun x u e => ?_⟩
  · by_cases hx : x = p
    · subst hx; rw [upd_same]; simp
    · rw [upd_ne hx]; exact e
  · by_cases hx : x = p
    · subst hx; exact .inr n
    · rw [upd_ne hx] at e; exact .inl e
  · by_cases hx : x = p
    · subst hx; rw [upd_same] at e ⊢; exact e
    · rw [upd_ne hx] at e ⊢; exact h _ _ e
/-- a new object that is a def's own -/
theorem Ext.own {p : Addr} {o : HO} (h : Same F H) (n : H p = none) : Ext none F H F (upd H p o) :=
  ⟨Same.refl _, fun x u e _ => same_upd n _ _ e, fun x e => by
    by_cases hx : x = p
    · subst hx; rw [upd_same]; simp
    · rw [upd_ne hx]; exact e, fun _ _ e => .inl e, fun x u e => same_upd n _ _ (h _ _ e)⟩
theorem Ext.Fnone {p : Addr} (e : Ext pd F H F' H') (h : F p = none) (t : H p ≠ none) : F' p = none := by
  cases q : F' p with
  | none => rfl
  | some u =>
    rcases e.nw p u q with z | z
    · rw [h] at z; cases z
    · exact absurd z t

def DOk (K : PySem.W.Frag) (pd : Option PD) (F H : Hp) (ds : DS) : Prop := match pd with
  | none => True
  | some x => F x.p = none ∧ ds.ok ∧ H x.p = some (.lst [.ref x.q, .int ds.pos, .int ds.acc, .int ds.seed]) ∧ F x.q = some (.lst (ds.ns.map V.int))
theorem DOk.grow {ds : DS} (e : Ext none F H F' H') (h : DOk K pd F H ds) : DOk K pd F' H' ds := by
  cases pd with
  | none => trivial
  | some p =>
    obtain ⟨h1, h2, h3, h4⟩ := h
    exact ⟨e.Fnone h1 (by rw [h3]; simp), h2, e.same _ _ h3, e.ff _ _ h4⟩

/-- data at a value; at the top it may be a def's own list -/
def RepB (K : PySem.W.Frag) (pd : Option PD) (F H : Hp) (d : D) (v : V) : Prop :=
  Rep K pd F d v ∨ ∃ p ds xs, d = .lst ds ∧ v = .ref p ∧ H p = some (.lst xs) ∧ some p ≠ pp pd ∧ F p = none ∧ ds.length ≤ SZ ∧ RepL K pd F ds xs
theorem RepB.mono {d : D} {v : V} (e : Ext pd F H F' H') (h : RepB K pd F H d v) : RepB K pd F' H' d v := by
  rcases h with h | ⟨p, ds, xs, h1, h2, h3, h4, h5, h7, h6⟩
  · exact .inl (h.mono e.ff)
  · exact .inr ⟨p, ds, xs, h1, h2, e.hh _ _ h3 h4, h4, e.Fnone h5 (by rw [h3]; simp), h7, h6.mono e.ff⟩
theorem RepB.lst {ds : List D} {v : V} (fh : Same F H) (h : RepB K pd F H (.lst ds) v) : ∃ p xs, v = .ref p ∧ H p = some (.lst xs) ∧ ds.length ≤ SZ ∧ RepL K pd F ds xs := by
  rcases h with h | ⟨p, es, xs, h1, h2, h3, h4, h5, h7, h6⟩
  · simp only [Rep] at h
    obtain ⟨a, xs, r, s, hl, q⟩ := h
    exact ⟨a, xs, r, fh _ _ s, hl, q⟩
  · cases h1
    exact ⟨p, xs, h2, h3, h7, h6⟩
theorem RepB.tup {ds : List D} {v : V} (fh : Same F H) (h : RepB K pd F H (.tup ds) v) : ∃ p xs, v = .ref p ∧ SqT K H p xs ∧ SqT K F p xs ∧ ds.length ≤ SZ ∧ RepL K pd F ds xs := by
  rcases h with h | ⟨p, es, xs, h1, _⟩
  · simp only [Rep] at h
    obtain ⟨a, xs, r, s, hl, q⟩ := h
    exact ⟨a, xs, r, sqT_mono fh s, s, hl, q⟩
  · cases h1
theorem RepB.int {i : Int} {v : V} (h : RepB K pd F H (.int i) v) : v = .int i := by
  rcases h with h | ⟨p, es, xs, h1, _⟩
  · simpa only [Rep] using h
  · cases h1
theorem RepB.bl {i : Bool} {v : V} (h : RepB K pd F H (.bl i) v) : v = .bl i := by
  rcases h with h | ⟨p, es, xs, h1, _⟩
  · simpa only [Rep] using h
  · cases h1
theorem RepB.str {i : Str} {v : V} (h : RepB K pd F H (.str i) v) : v = .str i := by
  rcases h with h | ⟨p, es, xs, h1, _⟩
  · simpa only [Rep] using h
  · cases h1
theorem RepB.non {v : V} (h : RepB K pd F H .non v) : v = .non := by
  rcases h with h | ⟨p, es, xs, h1, _⟩
  · simpa only [Rep] using h
  · cases h1
/-- a list of such -/
inductive RepBL (K : PySem.W.Frag) (pd : Option PD) (F H : Hp) : List D → List V → Prop
  | nil : RepBL K pd F H [] []
  | cons {d ds v vs} : RepB K pd F H d v → RepBL K pd F H ds vs → RepBL K pd F H (d :: ds) (v :: vs)
theorem RepBL.mono (e : Ext pd F H F' H') : ∀ {ds : List D} {vs : List V}, RepBL K pd F H ds vs → RepBL K pd F' H' ds vs
  | _, _, .nil => .nil
  | _, _, .cons h t => .cons (h.mono e) (RepBL.mono e t)
end

/-! ### the slots of a def -/
inductive Slot where
  | un | sh (d : D) | ow (ds : List D)
abbrev Rho := List Slot
section
variable (K : PySem.W.Frag) (pd : Option PD) (F H H0 : Hp)
def SlotR : Slot → Option V → Prop
  | .un, _ => True
  | .sh d, o => ∃ x, o = some x ∧ Rep K pd F d x
  | .ow ds, o => ∃ p xs, o = some (.ref p) ∧ F p = none ∧ H0 p = none ∧ some p ≠ pp pd ∧ H p = some (.lst xs) ∧ ds.length ≤ SZ ∧ RepL K pd F ds xs
structure ERel (ρ : Rho) (σ : L2.St) : Prop where
  len : ρ.length = σ.length
  at' : ∀ (i : Nat) (s : Slot), ρ[i]? = some s → ∃ o, σ[i]? = some o ∧ SlotR K pd F H H0 s o
  ap : ∀ (i j : Nat) (ds es : List D) (p : Addr), i ≠ j → ρ[i]? = some (.ow ds) → ρ[j]? = some (.ow es) → σ[i]? = some (some (.ref p)) → σ[j]? ≠ some (some (.ref p))
end
structure Ok (K : PySem.W.Frag) (pd : Option PD) (F0 H0 F H : Hp) (ρ : Rho) (σ : L2.St) (ds : DS) : Prop where
  ext : Ext pd F0 H0 F H
  env : ERel K pd F H H0 ρ σ
  dok : DOk K pd F H ds
section
variable {K : PySem.W.Frag} {pd : Option PD} {F0 H0 F H F' H' : Hp} {ρ : Rho} {σ : L2.St} {ds ds' : DS}
theorem SlotR.mono {s : Slot} {o : Option V} (e : Ext pd F H F' H') (h : SlotR K pd F H H0 s o) : SlotR K pd F' H' H0 s o := by
  cases s with
  | un => trivial
  | sh d => obtain ⟨x, h1, h2⟩ := h; exact ⟨x, h1, h2.mono e.ff⟩
  | ow es =>
    obtain ⟨p, xs, h1, h2, h3, h4, h5, h7, h6⟩ := h
    exact ⟨p, xs, h1, e.Fnone h2 (by rw [h5]; simp), h3, h4, e.hh _ _ h5 h4, h7, h6.mono e.ff⟩
theorem Ok.step (o : Ok K pd F0 H0 F H ρ σ ds) (e : Ext pd F H F' H') (d : DOk K pd F' H' ds') : Ok K pd F0 H0 F' H' ρ σ ds' :=
  ⟨o.ext.trans e, ⟨o.env.len, fun i s h => let ⟨x, h1, h2⟩ := o.env.at' i s h; ⟨x, h1, h2.mono e⟩, o.env.ap⟩, d⟩
theorem Ok.fh (o : Ok K pd F0 H0 F H ρ σ ds) : Same F H := o.ext.fh
theorem Ok.sh {i : Nat} {d : D} (o : Ok K pd F0 H0 F H ρ σ ds) (h : ρ[i]? = some (.sh d)) : ∃ x, σ[i]? = some (some x) ∧ Rep K pd F d x := by
  obtain ⟨q, h1, x, rfl, h2⟩ := o.env.at' i _ h
  exact ⟨x, h1, h2⟩
/-- a slot is stored -/
theorem Ok.set {i : Nat} {d : D} {x : V} (o : Ok K pd F0 H0 F H ρ σ ds) (r : Rep K pd F d x) : Ok K pd F0 H0 F H (ρ.set i (.sh d)) (σ.set i (some x)) ds := by
  refine ⟨o.ext, ⟨by simp [o.env.len], fun j s h => ?_, fun j k es fs p hjk h1 h2 h3 => ?_⟩, o.dok⟩
  · by_cases hj : i = j
    · subst hj
      have hl : i < ρ.length := by
        have := (List.getElem?_eq_some_iff.mp h).1
        simpa using this
      rw [List.getElem?_set_self hl] at h
      cases h
      exact ⟨some x, by rw [List.getElem?_set_self (by rw [← o.env.len]; exact hl)], x, rfl, r⟩
    · rw [List.getElem?_set_ne hj] at h
      obtain ⟨q, h1, h2⟩ := o.env.at' j s h
      exact ⟨q, by rw [List.getElem?_set_ne hj]; exact h1, h2⟩
  · have a1 : i ≠ j := by
      rintro rfl
      have hl : i < ρ.length := by have := (List.getElem?_eq_some_iff.mp h1).1; simpa using this
      rw [List.getElem?_set_self hl] at h1; cases h1
    have a2 : i ≠ k := by
      rintro rfl
      have hl : i < ρ.length := by have := (List.getElem?_eq_some_iff.mp h2).1; simpa using this
      rw [List.getElem?_set_self hl] at h2; cases h2
    rw [List.getElem?_set_ne a1] at h1 h3
    rw [List.getElem?_set_ne a2] at h2 ⊢
    exact o.env.ap j k es fs p hjk h1 h2 h3
/-- a slot becomes the owner of a new list -/
theorem Ok.setOw {i : Nat} {es : List D} {p : Addr} {xs : List V} (o : Ok K pd F0 H0 F H ρ σ ds) (h1 : F p = none) (h2 : H0 p = none) (h3 : some p ≠ pp pd) (h4 : H p = some (.lst xs)) (hl : es.length ≤ SZ) (r : RepL K pd F es xs)
    (ap : ∀ j fs, i ≠ j → ρ[j]? = some (.ow fs) → σ[j]? ≠ some (some (.ref p))) : Ok K pd F0 H0 F H (ρ.set i (.ow es)) (σ.set i (some (.ref p))) ds := by
  refine ⟨o.ext, ⟨by simp [o.env.len], fun j s h => ?_, fun j k as bs q hjk a1 a2 a3 => ?_⟩, o.dok⟩
  · by_cases hj : i = j
    · subst hj
      have hl' : i < ρ.length := by
        have := (List.getElem?_eq_some_iff.mp h).1
        simpa using this
      rw [List.getElem?_set_self hl'] at h
      cases h
      exact ⟨_, by rw [List.getElem?_set_self (by rw [← o.env.len]; exact hl')], p, xs, rfl, h1, h2, h3, h4, hl, r⟩
    · rw [List.getElem?_set_ne hj] at h
      obtain ⟨q, h1, h2⟩ := o.env.at' j s h
      exact ⟨q, by rw [List.getElem?_set_ne hj]; exact h1, h2⟩
  · by_cases hj : i = j
    · subst hj
      have hk : i ≠ k := hjk
      have hl' : i < ρ.length := by have := (List.getElem?_eq_some_iff.mp a1).1; simpa using this
      rw [List.getElem?_set_self (by rw [← o.env.len]; exact hl')] at a3
      cases a3
      rw [List.getElem?_set_ne hk] at a2 ⊢
      exact ap k bs hk a2
    · rw [List.getElem?_set_ne hj] at a1 a3
      by_cases hk : i = k
      · subst hk
        have hl' : i < ρ.length := by have := (List.getElem?_eq_some_iff.mp a2).1; simpa using this
        rw [List.getElem?_set_self (by rw [← o.env.len]; exact hl')]
        intro z
        have z' : p = q := by simpa using z
        subst z'
        exact ap j as hj a1 a3
      · rw [List.getElem?_set_ne hk] at a2 ⊢
        exact o.env.ap j k as bs q hjk a1 a2 a3
/-- a slot is forgotten -/
theorem Ok.forget {i : Nat} {x : Option V} (o : Ok K pd F0 H0 F H ρ σ ds) : Ok K pd F0 H0 F H (ρ.set i .un) (σ.set i x) ds := by
  refine ⟨o.ext, ⟨by simp [o.env.len], fun j s h => ?_, fun j k es fs p hjk h1 h2 h3 => ?_⟩, o.dok⟩
  · by_cases hj : i = j
    · subst hj
      have hl : i < ρ.length := by
        have := (List.getElem?_eq_some_iff.mp h).1
        simpa using this
      rw [List.getElem?_set_self hl] at h
      cases h
      exact ⟨x, by rw [List.getElem?_set_self (by rw [← o.env.len]; exact hl)], trivial⟩
    · rw [List.getElem?_set_ne hj] at h
      obtain ⟨q, h1, h2⟩ := o.env.at' j s h
      exact ⟨q, by rw [List.getElem?_set_ne hj]; exact h1, h2⟩
  · have a1 : i ≠ j := by
      rintro rfl
      have hl : i < ρ.length := by have := (List.getElem?_eq_some_iff.mp h1).1; simpa using this
      rw [List.getElem?_set_self hl] at h1; cases h1
    have a2 : i ≠ k := by
      rintro rfl
      have hl : i < ρ.length := by have := (List.getElem?_eq_some_iff.mp h2).1; simpa using this
      rw [List.getElem?_set_self hl] at h2; cases h2
    rw [List.getElem?_set_ne a1] at h1 h3
    rw [List.getElem?_set_ne a2] at h2 ⊢
    exact o.env.ap j k es fs p hjk h1 h2 h3
end
end Pu
namespace Pu
open PySem PySem.Spec PyProof.Rows L2

/-! ### what a reading means in data -/
abbrev EF := Rho → M D
abbrev TF := Rho → M Bool
abbrev AF := Rho → M (List D)
section
variable (K : PySem.W.Frag)
def SemE (t : TE) (f : EF) : Prop := ∀ (pd : Option PD) (F0 H0 F H : Hp) (ρ : Rho) (σ : L2.St) (s : DS) (d : D) (s' : DS), Ok K pd F0 H0 F H ρ σ s → f ρ s = some (d, s') →
  ∀ Q : VK, (∀ v F' H', Ext pd F H F' H' → DOk K pd F' H' s' → Rep K pd F' d v → Q v H') → t σ H Q
def SemB (t : TE) (f : EF) : Prop := ∀ (pd : Option PD) (F0 H0 F H : Hp) (ρ : Rho) (σ : L2.St) (s : DS) (d : D) (s' : DS), Ok K pd F0 H0 F H ρ σ s → f ρ s = some (d, s') →
  ∀ Q : VK, (∀ v F' H', Ext pd F H F' H' → DOk K pd F' H' s' → RepB K pd F' H' d v → Q v H') → t σ H Q
/-- a new list, nobody's yet -/
def SemO (t : TE) (f : AF) : Prop := ∀ (pd : Option PD) (F0 H0 F H : Hp) (ρ : Rho) (σ : L2.St) (s : DS) (ds : List D) (s' : DS), Ok K pd F0 H0 F H ρ σ s → f ρ s = some (ds, s') →
  ∀ Q : VK, (∀ p xs F' H', Ext pd F H F' H' → DOk K pd F' H' s' → H p = none → F' p = none → H' p = some (.lst xs) → ds.length ≤ SZ → RepL K pd F' ds xs → Q (.ref p) H') → t σ H Q
def SemT (t : TT) (f : TF) : Prop := ∀ (pd : Option PD) (F0 H0 F H : Hp) (ρ : Rho) (σ : L2.St) (s : DS) (b : Bool) (s' : DS), Ok K pd F0 H0 F H ρ σ s → f ρ s = some (b, s') →
  ∀ Q : Bool → Hp → Prop, (∀ F' H', Ext pd F H F' H' → DOk K pd F' H' s' → Q b H') → t σ H Q
def SemA (t : TA) (f : AF) : Prop := ∀ (pd : Option PD) (F0 H0 F H : Hp) (ρ : Rho) (σ : L2.St) (s : DS) (ds : List D) (s' : DS), Ok K pd F0 H0 F H ρ σ s → f ρ s = some (ds, s') →
  ∀ Q : List V → Hp → Prop, (∀ vs F' H', Ext pd F H F' H' → DOk K pd F' H' s' → RepL K pd F' ds vs → Q vs H') → t σ H Q
def SemAB (t : TA) (f : AF) : Prop := ∀ (pd : Option PD) (F0 H0 F H : Hp) (ρ : Rho) (σ : L2.St) (s : DS) (ds : List D) (s' : DS), Ok K pd F0 H0 F H ρ σ s → f ρ s = some (ds, s') →
  ∀ Q : List V → Hp → Prop, (∀ vs F' H', Ext pd F H F' H' → DOk K pd F' H' s' → RepBL K pd F' H' ds vs → Q vs H') → t σ H Q
/-- operations by values -/
def V1 (r : V → Hp → VK → Prop) (g : D → Option D) : Prop := ∀ (pd : Option PD) (F H : Hp) (x d : D) (v : V), Same F H → RepB K pd F H x v → g x = some d →
  ∀ Q : VK, (∀ u F' H', Ext none F H F' H' → Rep K pd F' d u → Q u H') → r v H Q
def V2 (r : R2) (g : D → D → Option D) : Prop := ∀ (pd : Option PD) (F H : Hp) (x y d : D) (v w : V), Same F H → RepB K pd F H x v → RepB K pd F H y w → g x y = some d →
  ∀ Q : VK, (∀ u F' H', Ext none F H F' H' → Rep K pd F' d u → Q u H') → r v w H Q
def VL (r : List V → Hp → VK → Prop) (g : List D → Option D) : Prop := ∀ (pd : Option PD) (F H : Hp) (xs : List D) (d : D) (vs : List V), Same F H → RepBL K pd F H xs vs → g xs = some d →
  ∀ Q : VK, (∀ u F' H', Ext none F H F' H' → Rep K pd F' d u → Q u H') → r vs H Q
def V2O (r : R2) (g : D → D → Option (List D)) : Prop := ∀ (pd : Option PD) (F H : Hp) (x y : D) (ds : List D) (v w : V), Same F H → RepB K pd F H x v → RepB K pd F H y w → g x y = some ds →
  ∀ Q : VK, (∀ p xs F' H', Ext none F H F' H' → H p = none → F' p = none → H' p = some (.lst xs) → ds.length ≤ SZ → RepL K pd F' ds xs → Q (.ref p) H') → r v w H Q
def VLO (r : List V → Hp → VK → Prop) (g : List D → Option (List D)) : Prop := ∀ (pd : Option PD) (F H : Hp) (xs : List D) (ds : List D) (vs : List V), Same F H → RepBL K pd F H xs vs → g xs = some ds →
  ∀ Q : VK, (∀ p xs F' H', Ext none F H F' H' → H p = none → F' p = none → H' p = some (.lst xs) → ds.length ≤ SZ → RepL K pd F' ds xs → Q (.ref p) H') → r vs H Q
end

/-! ### families of contexts -/
structure Fam {ι : Type} (X : ι → Cx) (P : Program) (w : World) (K : PySem.W.Frag) (mg : Str → Option Value) (base : Heap) (N : List Str) (lv : Nat) : Prop where
  p : ∀ i, (X i).prog = P
  w : ∀ i, (X i).w = w
  k : ∀ i, (X i).K = K
  m : ∀ i, (X i).mg = mg
  b : ∀ i, (X i).base = base
  n : ∀ i, (X i).N = N
  c : ∀ i, (X i).calm = true
  nd : N.Nodup
  r : ∀ i, Room lv (X i).A
section
variable {ι : Type}
def CE (X : ι → Cx) (K : PySem.W.Frag) (e : Expr) (f : EF) : Prop := ∃ t, (∀ i, PE (X i) e t) ∧ SemE K t f
def CB (X : ι → Cx) (K : PySem.W.Frag) (e : Expr) (f : EF) : Prop := ∃ t, (∀ i, PE (X i) e t) ∧ SemB K t f
def CO (X : ι → Cx) (K : PySem.W.Frag) (e : Expr) (f : AF) : Prop := ∃ t, (∀ i, PE (X i) e t) ∧ SemO K t f
def CT (X : ι → Cx) (K : PySem.W.Frag) (e : Expr) (f : TF) : Prop := ∃ t, (∀ i, PT (X i) e t) ∧ SemT K t f
def CW (X : ι → Cx) (K : PySem.W.Frag) (e : Expr) (f : TF) : Prop := ∃ t, (∀ i, PW (X i) e t) ∧ SemT K t f
def CA (X : ι → Cx) (K : PySem.W.Frag) (es : List Expr) (f : AF) : Prop := ∃ t, (∀ i, PA (X i) es t) ∧ SemA K t f
def CAB (X : ι → Cx) (K : PySem.W.Frag) (es : List Expr) (f : AF) : Prop := ∃ t, (∀ i, PA (X i) es t) ∧ SemAB K t f
end

/-! ### the pure words -/
def xSh (i : Nat) : EF := fun ρ => match ρ[i]? with
  | some (.sh d) => Mp d
  | _ => Mf
def xNm (i : Nat) : EF := fun ρ => match ρ[i]? with
  | some (.sh d) => Mp d
  | some (.ow ds) => Mp (.lst ds)
  | _ => Mf
def xC (d : D) : EF := fun _ => Mp d
def x1 (g : D → Option D) (a : EF) : EF := fun ρ => Mb (a ρ) fun x => Mo (g x)
def x2 (g : D → D → Option D) (a b : EF) : EF := fun ρ => Mb (a ρ) fun x => Mb (b ρ) fun y => Mo (g x y)
def xL (g : List D → Option D) (a : AF) : EF := fun ρ => Mb (a ρ) fun x => Mo (g x)
def o2 (g : D → D → Option (List D)) (a b : EF) : AF := fun ρ => Mb (a ρ) fun x => Mb (b ρ) fun y => Mo (g x y)
def oL (g : List D → Option (List D)) (a : AF) : AF := fun ρ => Mb (a ρ) fun x => Mo (g x)
def xOf (a : AF) : EF := fun ρ => Mb (a ρ) fun ds => Mp (.lst ds)
def aN : AF := fun _ => Mp []
def aC (a : EF) (r : AF) : AF := fun ρ => Mb (a ρ) fun x => Mb (r ρ) fun xs => Mp (x :: xs)
def asB : D → M Bool
  | .bl b => Mp b
  | _ => Mf
def xCh (g g' : D → D → Option D) (a b c : EF) : EF := fun ρ => Mb (a ρ) fun x => Mb (b ρ) fun y => Mb (Mo (g x y)) fun z => Mb (asB z) fun k => if k = true then Mb (c ρ) fun w => Mo (g' y w) else Mp (.bl false)
def xAnd (a b : EF) : EF := fun ρ => Mb (a ρ) fun x => Mb (asB x) fun k => if k = true then b ρ else Mp (.bl false)
def xOr (a b : EF) : EF := fun ρ => Mb (a ρ) fun x => Mb (asB x) fun k => if k = true then Mp (.bl true) else b ρ
def xNot (a : EF) : EF := fun ρ => Mb (a ρ) fun x => Mb (asB x) fun k => Mp (.bl (!k))
def xIf (t : TF) (a b : EF) : EF := fun ρ => Mb (t ρ) fun k => if k = true then a ρ else b ρ
def xTup (a : AF) : EF := fun ρ => Mb (a ρ) fun xs => if xs.length ≤ SZ then Mp (.tup xs) else Mf
def oLst (a : AF) : AF := fun ρ => Mb (a ρ) fun xs => if xs.length ≤ SZ then Mp xs else Mf
def tV (a : EF) : TF := fun ρ => Mb (a ρ) asB
def tAnd (a b : TF) : TF := fun ρ => Mb (a ρ) fun k => if k = true then b ρ else Mp false
def tOr (a b : TF) : TF := fun ρ => Mb (a ρ) fun k => if k = true then Mp true else b ρ
def tNot (a : TF) : TF := fun ρ => Mb (a ρ) fun k => Mp (!k)
def truD : D → Option Bool
  | .non => some false
  | .bl b => some b
  | .int i => some (i != 0)
  | .tup ds => some (!ds.isEmpty)
  | .lst ds => some (!ds.isEmpty)
  | _ => none
def tTr (a : EF) : TF := fun ρ => Mb (a ρ) fun x => Mo (truD x)

/-! ### the rules for expressions -/
section
variable {ι : Type} {X : ι → Cx} {P : Program} {w : World} {K : PySem.W.Frag} {mg : Str → Option Value} {base : Heap} {N : List Str} {lv : Nat} {pos : Pos} {a b c e : Expr} {es : List Expr} {f fa fb fc : EF} {g : AF}
theorem CE.brw (h : CE X K e f) : CB X K e f := by
  obtain ⟨t, h1, h2⟩ := h
  exact ⟨t, h1, fun pd F0 H0 F H ρ σ s d s' o e Q q => h2 pd F0 H0 F H ρ σ s d s' o e Q fun v F' H' x y z => q v F' H' x y (.inl z)⟩
theorem sem_of_O {t : TE} (h : SemO K t g) : SemE K t (xOf g) := fun pd F0 H0 F H ρ σ s d s' o e Q q => by
  obtain ⟨ds, s1, e1, e2⟩ := Mb_eq e
  obtain ⟨rfl, rfl⟩ := Mp_eq e2
  refine h pd F0 H0 F H ρ σ s ds s1 o e1 Q fun p xs F' H' x y n1 n2 l z r => ?_
  have eF : Same F' (upd F' p (.lst xs)) := same_upd n2
  refine q _ (upd F' p (.lst xs)) H' ⟨x.ff.trans eF, x.hh, x.hd, fun b u q => ?_, fun b u q => ?_⟩ ?_ ?_
  · by_cases hb : b = p
    · subst hb; exact .inr n1
    · rw [upd_ne hb] at q; exact x.nw b u q
  · by_cases hb : b = p
    · subst hb; rw [upd_same] at q; cases q; exact l
    · rw [upd_ne hb] at q; exact x.fh b u q
  · cases pd with
    | none => trivial
    | some a =>
      obtain ⟨h1, h2, h3, h4⟩ := y
      refine ⟨?_, h2, h3, eF _ _ h4⟩
      have : a.p ≠ p := by
        rintro rfl
        obtain ⟨_, _, h3', _⟩ := o.dok
        rw [n1] at h3'; cases h3'
      rw [upd_ne this]; exact h1
  · simp only [Rep]
    exact ⟨p, xs, rfl, upd_same, z, r.mono eF⟩
theorem CO.frz (h : CO X K e g) : CE X K e (xOf g) := let ⟨t, h1, h2⟩ := h; ⟨t, h1, sem_of_O h2⟩

theorem semE_var {i : Nat} : SemE K (tVar i) (xSh i) := fun pd F0 H0 F H ρ σ s d s' o e Q q => by
  unfold xSh at e
  cases h : ρ[i]? with
  | none => rw [h] at e; cases e
  | some sl =>
    rw [h] at e
    cases sl with
    | un => cases e
    | ow ds => cases e
    | sh d' =>
      obtain ⟨rfl, rfl⟩ := Mp_eq e
      obtain ⟨x, h1, h2⟩ := o.sh h
      exact ⟨x, h1, q x F H (.refl o.fh) o.dok h2⟩
theorem semB_var {i : Nat} : SemB K (tVar i) (xNm i) := fun pd F0 H0 F H ρ σ s d s' o e Q q => by
  unfold xNm at e
  cases h : ρ[i]? with
  | none => rw [h] at e; cases e
  | some sl =>
    rw [h] at e
    cases sl with
    | un => cases e
    | ow ds =>
      obtain ⟨rfl, rfl⟩ := Mp_eq e
      obtain ⟨x, h1, p, xs, rfl, h2, h3, h4, h5, h6, h7⟩ := o.env.at' i _ h
      exact ⟨_, h1, q _ F H (.refl o.fh) o.dok (.inr ⟨p, ds, xs, rfl, rfl, h5, h4, h2, h6, h7⟩)⟩
    | sh d' =>
      obtain ⟨rfl, rfl⟩ := Mp_eq e
      obtain ⟨x, h1, h2⟩ := o.sh h
      exact ⟨x, h1, q x F H (.refl o.fh) o.dok (.inl h2)⟩
theorem cSh (C : Fam X P w K mg base N lv) (i : Nat) {x : Str} (hN : N[i]? = some x := by rfl) (hv : ∀ j, Vis (X j).env.scope x := by intro _; first | exact Or.inl rfl | exact Or.inr (Or.inl rfl) | exact Or.inr (Or.inr rfl))
    (hd : (x == ("__debug__" : Str)) = false := by decide) (hcd : (x == ("__classdict__" : Str)) = false := by decide) : CE X K (.Name x pos) (xSh i) :=
  ⟨_, fun j => pe_var (by rw [C.n j]; exact hN) (hv j) hd hcd, semE_var⟩
theorem cNm (C : Fam X P w K mg base N lv) (i : Nat) {x : Str} (hN : N[i]? = some x := by rfl) (hv : ∀ j, Vis (X j).env.scope x := by intro _; first | exact Or.inl rfl | exact Or.inr (Or.inl rfl) | exact Or.inr (Or.inr rfl))
    (hd : (x == ("__debug__" : Str)) = false := by decide) (hcd : (x == ("__classdict__" : Str)) = false := by decide) : CB X K (.Name x pos) (xNm i) :=
  ⟨_, fun j => pe_var (by rw [C.n j]; exact hN) (hv j) hd hcd, semB_var⟩
theorem semE_c {v : V} {d : D} (h : ∀ pd F, Rep K pd F d v) : SemE K (tC v) (xC d) := fun pd F0 H0 F H ρ σ s d s' o e Q q => by
  obtain ⟨rfl, rfl⟩ := Mp_eq e
  exact q v F H (.refl o.fh) o.dok (h pd F)
theorem cInt {i : Int} {k} : CE X K (.Constant (.int i) k pos) (xC (.int i)) := ⟨_, fun _ => pe_int, semE_c fun _ _ => by simp [Rep]⟩
theorem cBl {i : Bool} {k} : CE X K (.Constant (.bool i) k pos) (xC (.bl i)) := ⟨_, fun _ => pe_bl, semE_c fun _ _ => by simp [Rep]⟩
theorem cNon {k} : CE X K (.Constant .none k pos) (xC .non) := ⟨_, fun _ => pe_non, semE_c fun _ _ => by simp [Rep]⟩
theorem cStr {i : Str} {k} : CE X K (.Constant (.str i) k pos) (xC (.str i)) := ⟨_, fun _ => pe_str, semE_c fun _ _ => by simp [Rep]⟩
/-- a module's constant -/
theorem cGlob (C : Fam X P w K mg base N lv) {x : Str} {v : V} {u : Value} {d : D} (hm : mg x = some u) (r : RelV v u) (h : ∀ pd F, Rep K pd F d v) (hg : ∀ j, Gl (X j) x := by intro _; rfl) (hd : (x == ("__debug__" : Str)) = false := by decide) :
    CE X K (.Name x pos) (xC d) := ⟨_, fun j => pe_glob (hg j) (by rw [C.m j]; exact hm) r hd, semE_c h⟩

/-! two operands -/
theorem semE_op2 {r : R2} {gg : D → D → Option D} {ta tb : TE} (hv : V2 K r gg) (ha : SemB K ta fa) (hb : SemB K tb fb) : SemE K (tOp r ta tb) (x2 gg fa fb) := fun pd F0 H0 F H ρ σ s d s' o e Q q => by
  obtain ⟨x, s1, e1, e⟩ := Mb_eq e
  obtain ⟨y, s2, e2, e⟩ := Mb_eq e
  obtain ⟨e3, rfl⟩ := Mo_eq e
  refine ha pd F0 H0 F H ρ σ s x s1 o e1 _ fun v F1 H1 x1 d1 r1 => ?_
  have o1 := o.step x1 d1
  refine hb pd F0 H0 F1 H1 ρ σ s1 y s2 o1 e2 _ fun u F2 H2 x2 d2 r2 => ?_
  have o2 := o1.step x2 d2
  exact hv pd F2 H2 x y d v u o2.fh (r1.mono x2) r2 e3 Q fun z F3 H3 x3 r3 => q z F3 H3 (x1.trans (x2.trans x3.lift)) (d2.grow x3) r3
theorem semO_op2 {r : R2} {gg : D → D → Option (List D)} {ta tb : TE} (hv : V2O K r gg) (ha : SemB K ta fa) (hb : SemB K tb fb) : SemO K (tOp r ta tb) (o2 gg fa fb) := fun pd F0 H0 F H ρ σ s d s' o e Q q => by
  obtain ⟨x, s1, e1, e⟩ := Mb_eq e
  obtain ⟨y, s2, e2, e⟩ := Mb_eq e
  obtain ⟨e3, rfl⟩ := Mo_eq e
  refine ha pd F0 H0 F H ρ σ s x s1 o e1 _ fun v F1 H1 x1 d1 r1 => ?_
  have o1 := o.step x1 d1
  refine hb pd F0 H0 F1 H1 ρ σ s1 y s2 o1 e2 _ fun u F2 H2 x2 d2 r2 => ?_
  have o2 := o1.step x2 d2
  refine hv pd F2 H2 x y d v u o2.fh (r1.mono x2) r2 e3 Q fun p xs F3 H3 x3 n1 n2 l z r3 => q p xs F3 H3 (x1.trans (x2.trans x3.lift)) (d2.grow x3) ?_ n2 l z r3
  cases hp : H p with
  | none => rfl
  | some o => exact absurd n1 ((x1.trans x2).hd p (by rw [hp]; simp))
theorem cBin {op : Operator} {r : R2} {gg : D → D → Option D} (ho : ∀ i, OpR (X i) (binaryOp op) r) (hv : V2 K r gg) (ha : CB X K a fa) (hb : CB X K b fb) : CE X K (.BinOp a op b pos) (x2 gg fa fb) :=
  let ⟨ta, a1, a2⟩ := ha; let ⟨tb, b1, b2⟩ := hb; ⟨_, fun i => pe_op (ho i) (a1 i) (b1 i), semE_op2 hv a2 b2⟩
theorem oBin {op : Operator} {r : R2} {gg : D → D → Option (List D)} (ho : ∀ i, OpR (X i) (binaryOp op) r) (hv : V2O K r gg) (ha : CB X K a fa) (hb : CB X K b fb) : CO X K (.BinOp a op b pos) (o2 gg fa fb) :=
  let ⟨ta, a1, a2⟩ := ha; let ⟨tb, b1, b2⟩ := hb; ⟨_, fun i => pe_op (ho i) (a1 i) (b1 i), semO_op2 hv a2 b2⟩
theorem cCmp {op : CmpOp} {r : R2} {gg : D → D → Option D} (ho : ∀ i, OpR (X i) (compareOp op) r) (hv : V2 K r gg) (ha : CB X K a fa) (hb : CB X K b fb) (hm : behindInMarks op b = false) : CE X K (.Compare a [op] [b] pos) (x2 gg fa fb) :=
  let ⟨ta, a1, a2⟩ := ha; let ⟨tb, b1, b2⟩ := hb; ⟨_, fun i => pe_cmpR (ho i) (a1 i) (b1 i) hm, semE_op2 hv a2 b2⟩
theorem semT_V {t : TE} (h : SemE K t f) : SemT K (tTest t) (tV f) := fun pd F0 H0 F H ρ σ s d s' o e Q q => by
  obtain ⟨x, s1, e1, e⟩ := Mb_eq e
  refine h pd F0 H0 F H ρ σ s x s1 o e1 _ fun v F1 H1 x1 d1 r1 => ?_
  cases x with
  | bl k =>
    obtain ⟨rfl, rfl⟩ := Mp_eq e
    simp only [Rep] at r1
    exact ⟨k, r1, q F1 H1 x1 d1⟩
  | _ => cases e
theorem tCmp {op : CmpOp} {r : R2} {gg : D → D → Option D} (ho : ∀ i, OpR (X i) (compareOp op) r) (hv : V2 K r gg) (ha : CB X K a fa) (hb : CB X K b fb) (hm : behindInMarks op b = false) : CT X K (.Compare a [op] [b] pos) (tV (x2 gg fa fb)) :=
  let ⟨ta, a1, a2⟩ := ha; let ⟨tb, b1, b2⟩ := hb; ⟨_, fun i => pt_cmpR (ho i) (a1 i) (b1 i) hm, semT_V (semE_op2 hv a2 b2)⟩
/-! chains -/
theorem semE_chain {r r' : R2} {gg gg' : D → D → Option D} {ta tb tc : TE} (hv : V2 K r gg) (hv' : V2 K r' gg') (ha : SemB K ta fa) (hb : SemB K tb fb) (hc : SemB K tc fc) : SemE K (tChain r r' ta tb tc) (xCh gg gg' fa fb fc) := fun pd F0 H0 F H ρ σ s d s' o e Q q => by
  obtain ⟨x, s1, e1, e⟩ := Mb_eq e
  obtain ⟨y, s2, e2, e⟩ := Mb_eq e
  obtain ⟨z, s3, e0, e⟩ := Mb_eq e
  obtain ⟨e3, rfl⟩ := Mo_eq e0
  obtain ⟨k, s4, e4, e⟩ := Mb_eq e
  refine ha pd F0 H0 F H ρ σ s x s1 o e1 _ fun v F1 H1 x1 d1 r1 => ?_
  have o1 := o.step x1 d1
  refine hb pd F0 H0 F1 H1 ρ σ s1 y _ o1 e2 _ fun u F2 H2 x2 d2 r2 => ?_
  have o2 := o1.step x2 d2
  refine hv pd F2 H2 x y z v u o2.fh (r1.mono x2) r2 e3 _ fun zv F3 H3 x3 r3 => ?_
  have o3 := o2.step (x3.lift (pd := pd)) (d2.grow x3)
  cases z with
  | bl k' =>
    obtain ⟨rfl, rfl⟩ := Mp_eq e4
    simp only [Rep] at r3
    refine ⟨k', r3, ?_⟩
    cases k' with
    | false =>
      obtain ⟨rfl, rfl⟩ := Mp_eq e
      exact iteF (q _ F3 H3 (x1.trans (x2.trans x3.lift)) o3.dok (by simp [Rep]))
    | true =>
      obtain ⟨w', s5, e5, e⟩ := Mb_eq (show Mb (fc ρ) (fun w => Mo (gg' y w)) _ = _ from e)
      obtain ⟨e6, rfl⟩ := Mo_eq e
      refine iteT (hc pd F0 H0 F3 H3 ρ σ _ w' _ o3 e5 _ fun wv F4 H4 x4 d4 r4 => ?_)
      exact hv' pd F4 H4 y w' d u wv (o3.step x4 d4).fh ((r2.mono x3.lift).mono x4) r4 e6 Q fun zz F5 H5 x5 r5 => q zz F5 H5 (x1.trans (x2.trans (x3.lift.trans (x4.trans x5.lift)))) (d4.grow x5) r5
  | _ => cases e4
theorem cChain {op op' : CmpOp} {r r' : R2} {gg gg' : D → D → Option D} (ho : ∀ i, OpR (X i) (compareOp op) r) (ho' : ∀ i, OpR (X i) (compareOp op') r') (hv : V2 K r gg) (hv' : V2 K r' gg') (ha : CB X K a fa) (hb : CB X K b fb) (hc : CB X K c fc)
    (hm : lastMarks [op, op'] [b, c] = false := by with_unfolding_all rfl) : CE X K (.Compare a [op, op'] [b, c] pos) (xCh gg gg' fa fb fc) :=
  let ⟨ta, a1, a2⟩ := ha; let ⟨tb, b1, b2⟩ := hb; let ⟨tc, c1, c2⟩ := hc; ⟨_, fun i => pe_chain (ho i) (ho' i) (a1 i) (b1 i) (c1 i) hm, semE_chain hv hv' a2 b2 c2⟩
theorem tChainR {op op' : CmpOp} {r r' : R2} {gg gg' : D → D → Option D} (ho : ∀ i, OpR (X i) (compareOp op) r) (ho' : ∀ i, OpR (X i) (compareOp op') r') (hv : V2 K r gg) (hv' : V2 K r' gg') (ha : CB X K a fa) (hb : CB X K b fb) (hc : CB X K c fc)
    (hm : lastMarks [op, op'] [b, c] = false := by with_unfolding_all rfl) : CT X K (.Compare a [op, op'] [b, c] pos) (tV (xCh gg gg' fa fb fc)) :=
  let ⟨ta, a1, a2⟩ := ha; let ⟨tb, b1, b2⟩ := hb; let ⟨tc, c1, c2⟩ := hc; ⟨_, fun i => pt_chain (ho i) (ho' i) (a1 i) (b1 i) (c1 i) hm, semT_V (semE_chain hv hv' a2 b2 c2)⟩
/-! truth, and, or, not -/
theorem tTruth (C : Fam X P w K mg base N lv) (ha : CB X K a fa) (he : ∀ i, ∀ whole, isTrue a (X i).env whole = (do let v ← whole; standAt a.pos; holding [v] (truthy v)) := by intro _ _; rfl) : CT X K a (tTr fa) := by
  obtain ⟨ta, a1, a2⟩ := ha
  refine ⟨fun σ H Q => ta σ H fun x H' => ∃ k, TruV K x H' k ∧ Q k H', fun i => by have := pt_truth (a1 i) (he i); rw [C.k i] at this; exact this, fun pd F0 H0 F H ρ σ s d s' o e Q q => ?_⟩
  obtain ⟨x, s1, e1, e⟩ := Mb_eq e
  obtain ⟨e2, rfl⟩ := Mo_eq e
  refine a2 pd F0 H0 F H ρ σ s x s1 o e1 _ fun v F1 H1 x1 d1 r1 => ⟨d, ?_, q F1 H1 x1 d1⟩
  have fh := (o.step x1 d1).fh
  cases x with
  | non => rw [r1.non]; exact (Option.some.inj e2).symm
  | bl k => rw [r1.bl]; exact (Option.some.inj e2).symm
  | int k => rw [r1.int]; exact (Option.some.inj e2).symm
  | tup ds =>
    obtain ⟨p, xs, rfl, h1, _, _, h2⟩ := r1.tup fh
    refine .inr (.inl ⟨xs, h1, ?_⟩)
    have e3 := (Option.some.inj e2).symm
    rw [e3]
    have := h2.length
    cases xs <;> cases ds <;> simp_all
  | lst ds =>
    obtain ⟨p, xs, rfl, h1, _, h2⟩ := r1.lst fh
    refine .inl ⟨xs, .of h1, ?_⟩
    have e3 := (Option.some.inj e2).symm
    rw [e3]
    have := h2.length
    cases xs <;> cases ds <;> simp_all
  | str _ => cases e2
  | rng => cases e2
  | dic _ _ => cases e2
theorem semT_and {ta tb : TT} {fa fb : TF} (ha : SemT K ta fa) (hb : SemT K tb fb) : SemT K (L2.tAnd ta tb) (tAnd fa fb) := fun pd F0 H0 F H ρ σ s d s' o e Q q => by
  obtain ⟨k, s1, e1, e⟩ := Mb_eq e
  refine ha pd F0 H0 F H ρ σ s k s1 o e1 _ fun F1 H1 x1 d1 => ?_
  cases k with
  | true => exact iteT (hb pd F0 H0 F1 H1 ρ σ s1 d s' (o.step x1 d1) e Q fun F2 H2 x2 d2 => q F2 H2 (x1.trans x2) d2)
  | false => obtain ⟨rfl, rfl⟩ := Mp_eq e; exact iteF (q F1 H1 x1 d1)
theorem semT_or {ta tb : TT} {fa fb : TF} (ha : SemT K ta fa) (hb : SemT K tb fb) : SemT K (L2.tOr ta tb) (tOr fa fb) := fun pd F0 H0 F H ρ σ s d s' o e Q q => by
  obtain ⟨k, s1, e1, e⟩ := Mb_eq e
  refine ha pd F0 H0 F H ρ σ s k s1 o e1 _ fun F1 H1 x1 d1 => ?_
  cases k with
  | false => exact iteF (hb pd F0 H0 F1 H1 ρ σ s1 d s' (o.step x1 d1) e Q fun F2 H2 x2 d2 => q F2 H2 (x1.trans x2) d2)
  | true => obtain ⟨rfl, rfl⟩ := Mp_eq e; exact iteT (q F1 H1 x1 d1)
theorem wAnd1 {fa : TF} (ha : CT X K a fa) : CW X K (.BoolOp .And [a] pos) fa := let ⟨t, h1, h2⟩ := ha; ⟨t, fun i => pw_and1 (h1 i), h2⟩
theorem wOr1 {fa : TF} (ha : CT X K a fa) : CW X K (.BoolOp .Or [a] pos) fa := let ⟨t, h1, h2⟩ := ha; ⟨t, fun i => pw_or1 (h1 i), h2⟩
theorem wAnd {fa fb : TF} (ha : CT X K a fa) (hb : CW X K (.BoolOp .And (b :: es) pos) fb) : CW X K (.BoolOp .And (a :: b :: es) pos) (tAnd fa fb) :=
  let ⟨t, h1, h2⟩ := ha; let ⟨u, b1, b2⟩ := hb; ⟨_, fun i => pw_and (h1 i) (b1 i), semT_and h2 b2⟩
theorem wOr {fa fb : TF} (ha : CT X K a fa) (hb : CW X K (.BoolOp .Or (b :: es) pos) fb) : CW X K (.BoolOp .Or (a :: b :: es) pos) (tOr fa fb) :=
  let ⟨t, h1, h2⟩ := ha; let ⟨u, b1, b2⟩ := hb; ⟨_, fun i => pw_or (h1 i) (b1 i), semT_or h2 b2⟩
theorem CW.t {fa : TF} (h : CW X K a fa) : CT X K a fa := let ⟨t, h1, h2⟩ := h; ⟨t, fun i => (h1 i).pt, h2⟩
theorem tNotR {fa : TF} (h : CT X K a fa) : CT X K (.UnaryOp .Not a pos) (tNot fa) := by
  obtain ⟨t, h1, h2⟩ := h
  refine ⟨_, fun i => pt_not (h1 i), fun pd F0 H0 F H ρ σ s d s' o e Q q => ?_⟩
  obtain ⟨k, s1, e1, e⟩ := Mb_eq e
  obtain ⟨rfl, rfl⟩ := Mp_eq e
  exact h2 pd F0 H0 F H ρ σ s k s1 o e1 _ fun F1 H1 x1 d1 => q F1 H1 x1 d1
theorem rep_bl {pd : Option PD} {F : Hp} {k : Bool} {v : V} (h : Rep K pd F (.bl k) v) : v = .bl k := by simpa only [Rep] using h
theorem cOne {op} (h : CE X K a f) : CE X K (.BoolOp op [a] pos) f := let ⟨t, h1, h2⟩ := h; ⟨t, fun i => pe_one (h1 i), h2⟩
theorem cAnd (ha : CE X K a fa) (hb : CE X K (.BoolOp .And (b :: es) pos) fb) : CE X K (.BoolOp .And (a :: b :: es) pos) (xAnd fa fb) := by
  obtain ⟨t, h1, h2⟩ := ha
  obtain ⟨u, b1, b2⟩ := hb
  refine ⟨_, fun i => pe_and (h1 i) (b1 i), fun pd F0 H0 F H ρ σ s d s' o e Q q => ?_⟩
  obtain ⟨x, s1, e1, e⟩ := Mb_eq e
  obtain ⟨k, s2, e2, e⟩ := Mb_eq e
  refine h2 pd F0 H0 F H ρ σ s x s1 o e1 _ fun v F1 H1 x1 d1 r1 => ?_
  cases x with
  | bl k' =>
    obtain ⟨rfl, rfl⟩ := Mp_eq e2
    refine ⟨k', rep_bl r1, ?_⟩
    cases k' with
    | true => exact iteT (b2 pd F0 H0 F1 H1 ρ σ _ d s' (o.step x1 d1) e Q fun v F2 H2 x2 d2 => q v F2 H2 (x1.trans x2) d2)
    | false => obtain ⟨rfl, rfl⟩ := Mp_eq e; exact iteF (q _ F1 H1 x1 d1 (by simp [Rep]))
  | _ => cases e2
theorem cOr (ha : CE X K a fa) (hb : CE X K (.BoolOp .Or (b :: es) pos) fb) : CE X K (.BoolOp .Or (a :: b :: es) pos) (xOr fa fb) := by
  obtain ⟨t, h1, h2⟩ := ha
  obtain ⟨u, b1, b2⟩ := hb
  refine ⟨_, fun i => pe_or (h1 i) (b1 i), fun pd F0 H0 F H ρ σ s d s' o e Q q => ?_⟩
  obtain ⟨x, s1, e1, e⟩ := Mb_eq e
  obtain ⟨k, s2, e2, e⟩ := Mb_eq e
  refine h2 pd F0 H0 F H ρ σ s x s1 o e1 _ fun v F1 H1 x1 d1 r1 => ?_
  cases x with
  | bl k' =>
    obtain ⟨rfl, rfl⟩ := Mp_eq e2
    refine ⟨k', rep_bl r1, ?_⟩
    cases k' with
    | false => exact iteF (b2 pd F0 H0 F1 H1 ρ σ _ d s' (o.step x1 d1) e Q fun v F2 H2 x2 d2 => q v F2 H2 (x1.trans x2) d2)
    | true => obtain ⟨rfl, rfl⟩ := Mp_eq e; exact iteT (q _ F1 H1 x1 d1 (by simp [Rep]))
  | _ => cases e2
theorem cNotV (ha : CE X K a fa) : CE X K (.UnaryOp .Not a pos) (xNot fa) := by
  obtain ⟨t, h1, h2⟩ := ha
  refine ⟨_, fun i => pe_not (h1 i), fun pd F0 H0 F H ρ σ s d s' o e Q q => ?_⟩
  obtain ⟨x, s1, e1, e⟩ := Mb_eq e
  obtain ⟨k, s2, e2, e⟩ := Mb_eq e
  obtain ⟨rfl, rfl⟩ := Mp_eq e
  refine h2 pd F0 H0 F H ρ σ s x s1 o e1 _ fun v F1 H1 x1 d1 r1 => ?_
  cases x with
  | bl k' =>
    obtain ⟨rfl, rfl⟩ := Mp_eq e2
    exact ⟨k', rep_bl r1, q _ F1 H1 x1 d1 (by simp [Rep])⟩
  | _ => cases e2
theorem cIf {ft : TF} (hc : CT X K c ft) (ha : CE X K a fa) (hb : CE X K b fb) : CE X K (.IfExp c a b pos) (xIf ft fa fb) := by
  obtain ⟨t, h1, h2⟩ := hc
  obtain ⟨ta, a1, a2⟩ := ha
  obtain ⟨tb, b1, b2⟩ := hb
  refine ⟨_, fun i => pe_ifExp (h1 i) (a1 i) (b1 i), fun pd F0 H0 F H ρ σ s d s' o e Q q => ?_⟩
  obtain ⟨k, s1, e1, e⟩ := Mb_eq e
  refine h2 pd F0 H0 F H ρ σ s k s1 o e1 _ fun F1 H1 x1 d1 => ?_
  cases k with
  | true => exact iteT (a2 pd F0 H0 F1 H1 ρ σ s1 d s' (o.step x1 d1) e Q fun v F2 H2 x2 d2 => q v F2 H2 (x1.trans x2) d2)
  | false => exact iteF (b2 pd F0 H0 F1 H1 ρ σ s1 d s' (o.step x1 d1) e Q fun v F2 H2 x2 d2 => q v F2 H2 (x1.trans x2) d2)
/-! one operand -/
theorem cUn {op : UnaryOp} {r : V → Hp → VK → Prop} {gg : D → Option D} (ho : ∀ i, UnR (X i) (unaryOp op) r) (hv : V1 K r gg) (ha : CB X K a fa) : CE X K (.UnaryOp op a pos) (x1 gg fa) := by
  obtain ⟨t, h1, h2⟩ := ha
  refine ⟨_, fun i => pe_un (ho i) (h1 i), fun pd F0 H0 F H ρ σ s d s' o e Q q => ?_⟩
  obtain ⟨x, s1, e1, e⟩ := Mb_eq e
  obtain ⟨e2, rfl⟩ := Mo_eq e
  refine h2 pd F0 H0 F H ρ σ s x s1 o e1 _ fun v F1 H1 x1 d1 r1 => ?_
  exact hv pd F1 H1 x d v (o.step x1 d1).fh r1 e2 Q fun z F3 H3 x3 r3 => q z F3 H3 (x1.trans x3.lift) (d1.grow x3) r3
/-! arguments -/
theorem caNil : CA X K [] aN := ⟨_, fun _ => pa_nil, fun pd F0 H0 F H ρ σ s d s' o e Q q => by obtain ⟨rfl, rfl⟩ := Mp_eq e; exact q _ F H (.refl o.fh) o.dok .nil⟩
theorem cbNil : CAB X K [] aN := ⟨_, fun _ => pa_nil, fun pd F0 H0 F H ρ σ s d s' o e Q q => by obtain ⟨rfl, rfl⟩ := Mp_eq e; exact q _ F H (.refl o.fh) o.dok .nil⟩
theorem caCons (ha : CE X K a fa) (hr : CA X K es g) (hs : ∀ i, starEach (a :: es) (X i).env = (false, eval a (X i).env) :: starEach es (X i).env := by intro _; rfl) : CA X K (a :: es) (aC fa g) := by
  obtain ⟨t, h1, h2⟩ := ha
  obtain ⟨u, b1, b2⟩ := hr
  refine ⟨_, fun i => pa_cons (h1 i) (b1 i) (hs i), fun pd F0 H0 F H ρ σ s d s' o e Q q => ?_⟩
  obtain ⟨x, s1, e1, e⟩ := Mb_eq e
  obtain ⟨xs, s2, e2, e⟩ := Mb_eq e
  obtain ⟨rfl, rfl⟩ := Mp_eq e
  refine h2 pd F0 H0 F H ρ σ s x s1 o e1 _ fun v F1 H1 x1 d1 r1 => ?_
  exact b2 pd F0 H0 F1 H1 ρ σ s1 xs s2 (o.step x1 d1) e2 _ fun vs F2 H2 x2 d2 r2 => q _ F2 H2 (x1.trans x2) d2 (.cons (r1.mono x2.ff) r2)
theorem cbCons (ha : CB X K a fa) (hr : CAB X K es g) (hs : ∀ i, starEach (a :: es) (X i).env = (false, eval a (X i).env) :: starEach es (X i).env := by intro _; rfl) : CAB X K (a :: es) (aC fa g) := by
  obtain ⟨t, h1, h2⟩ := ha
  obtain ⟨u, b1, b2⟩ := hr
  refine ⟨_, fun i => pa_cons (h1 i) (b1 i) (hs i), fun pd F0 H0 F H ρ σ s d s' o e Q q => ?_⟩
  obtain ⟨x, s1, e1, e⟩ := Mb_eq e
  obtain ⟨xs, s2, e2, e⟩ := Mb_eq e
  obtain ⟨rfl, rfl⟩ := Mp_eq e
  refine h2 pd F0 H0 F H ρ σ s x s1 o e1 _ fun v F1 H1 x1 d1 r1 => ?_
  exact b2 pd F0 H0 F1 H1 ρ σ s1 xs s2 (o.step x1 d1) e2 _ fun vs F2 H2 x2 d2 r2 => q _ F2 H2 (x1.trans x2) d2 (.cons (r1.mono x2) r2)
/-! displays -/
theorem cTup {k} (h : CA X K es g) : CE X K (.Tuple es k pos) (xTup g) := by
  obtain ⟨t, h1, h2⟩ := h
  refine ⟨_, fun i => pe_tup (h1 i), fun pd F0 H0 F H ρ σ s d s' o e Q q => ?_⟩
  obtain ⟨xs, s1, e1, e⟩ := Mb_eq e
  split at e
  · rename_i hl
    obtain ⟨rfl, rfl⟩ := Mp_eq e
    refine h2 pd F0 H0 F H ρ σ s xs s1 o e1 _ fun vs F1 H1 x1 d1 r1 => ⟨by rw [r1.length]; exact hl, fun p n => ?_⟩
    have o1 := o.step x1 d1
    have x2 := Ext.new (o := .tup vs) o1.fh n
    refine q _ _ _ (x1.trans x2.lift) (d1.grow x2) ?_
    simp only [Rep]
    exact ⟨p, vs, rfl, .of upd_same, hl, r1.mono x2.ff⟩
  · exact (Mf_eq e).elim
theorem oList (h : CA X K es g) : CO X K (.List es pos) (oLst g) := by
  obtain ⟨t, h1, h2⟩ := h
  refine ⟨_, fun i => pe_lst (h1 i), fun pd F0 H0 F H ρ σ s d s' o e Q q => ?_⟩
  obtain ⟨xs, s1, e1, e⟩ := Mb_eq e
  split at e
  · rename_i hl
    obtain ⟨rfl, rfl⟩ := Mp_eq e
    refine h2 pd F0 H0 F H ρ σ s xs s1 o e1 _ fun vs F1 H1 x1 d1 r1 => ⟨by rw [r1.length]; exact hl, fun p n => ?_⟩
    have o1 := o.step x1 d1
    have x2 := Ext.own (o := .lst vs) o1.fh n
    have nF : F1 p = none := by
      cases hF : F1 p with
      | none => rfl
      | some u => have := o1.fh _ _ hF; rw [n] at this; cases this
    have nH : H p = none := by
      cases hp : H p with
      | none => rfl
      | some u => exact absurd n (x1.hd p (by rw [hp]; simp))
    exact q p vs F1 _ (x1.trans x2.lift) (d1.grow x2) nH nF upd_same hl r1
  · exact (Mf_eq e).elim
/-! calls of built-ins -/
theorem semE_CB {r : List V → Hp → VK → Prop} {gg : List D → Option D} {t : TA} (hv : VL K r gg) (h : SemAB K t g) : SemE K (tCB r t) (xL gg g) := fun pd F0 H0 F H ρ σ s d s' o e Q q => by
  obtain ⟨xs, s1, e1, e⟩ := Mb_eq e
  obtain ⟨e2, rfl⟩ := Mo_eq e
  refine h pd F0 H0 F H ρ σ s xs s1 o e1 _ fun vs F1 H1 x1 d1 r1 => ?_
  exact hv pd F1 H1 xs d vs (o.step x1 d1).fh r1 e2 Q fun z F3 H3 x3 r3 => q z F3 H3 (x1.trans x3.lift) (d1.grow x3) r3
theorem semO_CB {r : List V → Hp → VK → Prop} {gg : List D → Option (List D)} {t : TA} (hv : VLO K r gg) (h : SemAB K t g) : SemO K (tCB r t) (oL gg g) := fun pd F0 H0 F H ρ σ s d s' o e Q q => by
  obtain ⟨xs, s1, e1, e⟩ := Mb_eq e
  obtain ⟨e2, rfl⟩ := Mo_eq e
  refine h pd F0 H0 F H ρ σ s xs s1 o e1 _ fun vs F1 H1 x1 d1 r1 => ?_
  refine hv pd F1 H1 xs d vs (o.step x1 d1).fh r1 e2 Q fun p ys F3 H3 x3 n1 n2 l z r3 => q p ys F3 H3 (x1.trans x3.lift) (d1.grow x3) ?_ n2 l z r3
  cases hp : H p with
  | none => rfl
  | some o => exact absurd n1 (x1.hd p (by rw [hp]; simp))
section
variable {x : Str} {p : Pos} {id T : String} {r : List V → Hp → VK → Prop}
theorem cCallB (C : Fam X P w K mg base N lv) {gg : List D → Option D} (hc : ∀ i, CallR (X i) (.builtin id) r) (hv' : VL K r gg) (hm : mg x = none) (hv : bootBuiltins x = some (.builtin id)) (ha : CAB X K (e :: es) g) (hg : ∀ i, Gl (X i) x := by intro _; rfl)
    (hn : x ≠ "__name__" := by decide) (hdb : (x == ("__debug__" : Str)) = false := by decide) (he : ∀ i, starEach (e :: es) (X i).env = (false, eval e (X i).env) :: starEach es (X i).env := by intro _; rfl)
    (hpl : ∀ i, (backTo pos (starEach es (X i).env)).any (·.1) = false := by intro _; rfl) : CE X K (.Call (.Name x p) (e :: es) [] pos) (xL gg g) :=
  let ⟨t, h1, h2⟩ := ha; ⟨_, fun i => pe_callB (hc i) (hg i) (by rw [C.m i]; exact hm) hv (h1 i) hn hdb (he i) (hpl i), semE_CB hv' h2⟩
theorem oCallB (C : Fam X P w K mg base N lv) {gg : List D → Option (List D)} (hc : ∀ i, CallR (X i) (.builtin id) r) (hv' : VLO K r gg) (hm : mg x = none) (hv : bootBuiltins x = some (.builtin id)) (ha : CAB X K (e :: es) g) (hg : ∀ i, Gl (X i) x := by intro _; rfl)
    (hn : x ≠ "__name__" := by decide) (hdb : (x == ("__debug__" : Str)) = false := by decide) (he : ∀ i, starEach (e :: es) (X i).env = (false, eval e (X i).env) :: starEach es (X i).env := by intro _; rfl)
    (hpl : ∀ i, (backTo pos (starEach es (X i).env)).any (·.1) = false := by intro _; rfl) : CO X K (.Call (.Name x p) (e :: es) [] pos) (oL gg g) :=
  let ⟨t, h1, h2⟩ := ha; ⟨_, fun i => pe_callB (hc i) (hg i) (by rw [C.m i]; exact hm) hv (h1 i) hn hdb (he i) (hpl i), semO_CB hv' h2⟩
theorem cCallT (C : Fam X P w K mg base N lv) {gg : List D → Option D} (hc : ∀ i, CallR (X i) (.type T) r) (hv' : VL K r gg) (hm : mg x = none) (hv : bootBuiltins x = some (.type T)) (ha : CAB X K (e :: es) g) (hg : ∀ i, Gl (X i) x := by intro _; rfl)
    (hn : x ≠ "__name__" := by decide) (hdb : (x == ("__debug__" : Str)) = false := by decide) (he : ∀ i, starEach (e :: es) (X i).env = (false, eval e (X i).env) :: starEach es (X i).env := by intro _; rfl)
    (hpl : ∀ i, (backTo pos (starEach es (X i).env)).any (·.1) = false := by intro _; rfl) : CE X K (.Call (.Name x p) (e :: es) [] pos) (xL gg g) :=
  let ⟨t, h1, h2⟩ := ha; ⟨_, fun i => pe_callTy (hc i) (hg i) (by rw [C.m i]; exact hm) hv (h1 i) hn hdb (he i) (hpl i), semE_CB hv' h2⟩
theorem oCallT (C : Fam X P w K mg base N lv) {gg : List D → Option (List D)} (hc : ∀ i, CallR (X i) (.type T) r) (hv' : VLO K r gg) (hm : mg x = none) (hv : bootBuiltins x = some (.type T)) (ha : CAB X K (e :: es) g) (hg : ∀ i, Gl (X i) x := by intro _; rfl)
    (hn : x ≠ "__name__" := by decide) (hdb : (x == ("__debug__" : Str)) = false := by decide) (he : ∀ i, starEach (e :: es) (X i).env = (false, eval e (X i).env) :: starEach es (X i).env := by intro _; rfl)
    (hpl : ∀ i, (backTo pos (starEach es (X i).env)).any (·.1) = false := by intro _; rfl) : CO X K (.Call (.Name x p) (e :: es) [] pos) (oL gg g) :=
  let ⟨t, h1, h2⟩ := ha; ⟨_, fun i => pe_callTy (hc i) (hg i) (by rw [C.m i]; exact hm) hv (h1 i) hn hdb (he i) (hpl i), semO_CB hv' h2⟩
end
end
end Pu
namespace Pu
open PySem PySem.Spec PyProof.Rows L2

/-! ### data as the library's data -/
mutual
def toP : D → PyData
  | .non => .none
  | .bl b => .bool b
  | .int i => .int i
  | .str x => .str x
  | .tup ds => .tuple (toPs ds)
  | .lst ds => .list (toPs ds)
  | .rng => .dict []
  | .dic _ _ => .dict []
def toPs : List D → List PyData
  | [] => []
  | d :: ds => toP d :: toPs ds
end
mutual
def clean : D → Bool
  | .rng => false
  | .dic _ _ => false
  | .tup ds => cleanL ds
  | .lst ds => cleanL ds
  | _ => true
def cleanL : List D → Bool
  | [] => true
  | d :: ds => clean d && cleanL ds
end
section
variable {K : PySem.W.Frag} {pd : Option PD} {F H : Hp}
mutual
theorem Rep.dp (fh : Same F H) : ∀ {d : D} {v : V}, clean d = true → Rep K pd F d v → Dp K H v (toP d)
  | .non, _, _, h => by simp only [Rep] at h; subst h; exact .non
  | .bl _, _, _, h => by simp only [Rep] at h; subst h; exact .bl _
  | .int _, _, _, h => by simp only [Rep] at h; subst h; exact .int _
  | .str _, _, _, h => by simp only [Rep] at h; subst h; exact .str _
  | .rng, _, c, _ => by simp [clean] at c
  | .dic _ _, _, c, _ => by simp [clean] at c
  | .tup ds, _, c, h => by
    simp only [Rep] at h
    obtain ⟨a, xs, rfl, s, hl, q⟩ := h
    exact .tup (sqT_mono fh s) (RepL.dp fh (by simpa only [clean] using c) q)
  | .lst ds, _, c, h => by
    simp only [Rep] at h
    obtain ⟨a, xs, rfl, s, hl, q⟩ := h
    exact .lst (.of (fh _ _ s)) (RepL.dp fh (by simpa only [clean] using c) q)
theorem RepL.dp (fh : Same F H) : ∀ {ds : List D} {xs : List V}, cleanL ds = true → RepL K pd F ds xs → DpAll K H xs (toPs ds)
  | [], _, _, h => by have := h.cases0; subst this; exact .nil
  | d :: ds, _, c, h => by
    obtain ⟨y, ys, rfl, h1, h2⟩ := h.cases
    simp only [cleanL, Bool.and_eq_true] at c
    exact .cons (Rep.dp fh c.1 h1) (RepL.dp fh c.2 h2)
end
theorem RepB.dp {d : D} {v : V} (fh : Same F H) (c : clean d = true) (h : RepB K pd F H d v) : Dp K H v (toP d) := by
  rcases h with h | ⟨p, ds, xs, rfl, rfl, h3, _, _, _, h6⟩
  · exact h.dp fh c
  · exact .lst (.of h3) (RepL.dp fh (by simpa only [clean] using c) h6)
theorem toPs_eq : ∀ ds : List D, toPs ds = ds.map toP
  | [] => rfl
  | d :: ds => by rw [toPs, toPs_eq ds]; rfl
end
/-- may be compared -/
def cmpOk (d : D) : Bool := clean d && SeqAt.shaped (toP d)
def eqD (x y : D) : Option D := if cmpOk x = true ∧ cmpOk y = true then some (.bl (PyData.eqv (toP x) (toP y))) else none
def neD (x y : D) : Option D := if cmpOk x = true ∧ cmpOk y = true then some (.bl (!PyData.eqv (toP x) (toP y))) else none
def isNonD : D → Bool
  | .non => true
  | _ => false
def isD (x y : D) : Option D := match y with
  | .non => some (.bl (isNonD x))
  | _ => none
def isNotD (x y : D) : Option D := match y with
  | .non => some (.bl (!isNonD x))
  | _ => none
def ltD : D → D → Option D
  | .int a, .int b => some (.bl (decide (a < b)))
  | _, _ => none
def leD : D → D → Option D
  | .int a, .int b => some (.bl (decide (a ≤ b)))
  | _, _ => none
def gtD : D → D → Option D
  | .int a, .int b => some (.bl (decide (b < a)))
  | _, _ => none
def geD : D → D → Option D
  | .int a, .int b => some (.bl (decide (b ≤ a)))
  | _, _ => none
def addD : D → D → Option D
  | .int a, .int b => some (.int (a + b))
  | .tup a, .tup b => if a.length + b.length ≤ SZ then some (.tup (a ++ b)) else none
  | .lst a, .lst b => if a.length + b.length ≤ SZ then some (.lst (a ++ b)) else none
  | _, _ => none
def catO : D → D → Option (List D)
  | .lst a, .lst b => if a.length + b.length ≤ SZ then some (a ++ b) else none
  | _, _ => none
def subD : D → D → Option D
  | .int a, .int b => some (.int (a - b))
  | _, _ => none
def mulD : D → D → Option D
  | .int a, .int b => if a.natAbs.log2 + b.natAbs.log2 < 1000000 then some (.int (a * b)) else none
  | _, _ => none
def divD : D → D → Option D
  | .int a, .int b => if 0 < b ∧ b.natAbs.log2 < 9000 then some (.int (a / b)) else none
  | _, _ => none
def modD : D → D → Option D
  | .int a, .int b => if 0 < b then some (.int (a % b)) else none
  | _, _ => none
def negD : D → Option D
  | .int a => some (.int (-a))
  | _ => none
def repO : D → D → Option (List D)
  | .lst a, .int k => if -(2 ^ 63) ≤ k ∧ k < 2 ^ 63 ∧ a.length * k.toNat ≤ SZ then some (List.replicate k.toNat a).flatten else none
  | _, _ => none
def ixD : D → D → Option D
  | .lst a, .int k => atI a k
  | .tup a, .int k => atI a k
  | _, _ => none
def lenD : List D → Option D
  | [.lst a] => some (.int a.length)
  | [.tup a] => some (.int a.length)
  | _ => none
def tupD : List D → Option D
  | [.lst a] => some (.tup a)
  | [.tup a] => some (.tup a)
  | _ => none
def listO : List D → Option (List D)
  | [.lst a] => some a
  | [.tup a] => some a
  | _ => none
def absD : List D → Option D
  | [.int a] => some (.int (if a < 0 then -a else a))
  | _ => none
def intD : List D → Option D
  | [.int a] => some (.int a)
  | [.bl b] => some (.int (if b then 1 else 0))
  | _ => none
def max2D : List D → Option D
  | [.int a, .int b] => some (.int (if b > a then b else a))
  | _ => none
def min2D : List D → Option D
  | [.int a, .int b] => some (.int (if b < a then b else a))
  | _ => none

section
variable {K : PySem.W.Frag} {X : Cx}
theorem v2I {g : Int → Int → D} {gv : Int → Int → V} {C : Int → Int → Prop} (h : ∀ pd F i j, Rep K pd F (g i j) (gv i j)) {gg : D → D → Option D}
    (hg : ∀ x y d, gg x y = some d → ∃ i j, x = .int i ∧ y = .int j ∧ C i j ∧ d = g i j) : V2 K (rI C gv) gg := fun pd F H x y d v w fh rx ry e Q q => by
  obtain ⟨i, j, rfl, rfl, c, rfl⟩ := hg x y d e
  exact ⟨i, j, rx.int, ry.int, c, q _ F H (.refl fh) (h pd F i j)⟩
theorem v2I0 {g : Int → Int → D} {gv : Int → Int → V} (h : ∀ pd F i j, Rep K pd F (g i j) (gv i j)) {gg : D → D → Option D}
    (hg : ∀ x y d, gg x y = some d → ∃ i j, x = .int i ∧ y = .int j ∧ d = g i j) : V2 K (rI0 gv) gg := fun pd F H x y d v w fh rx ry e Q q => by
  obtain ⟨i, j, rfl, rfl, rfl⟩ := hg x y d e
  exact ⟨i, j, rx.int, ry.int, q _ F H (.refl fh) (h pd F i j)⟩
theorem int2 {gg : D → D → Option D} {g : Int → Int → D} (h1 : ∀ i j, gg (.int i) (.int j) = some (g i j)) (h2 : ∀ x y, (∀ i j, x = .int i → y = .int j → False) → gg x y = none) (x y d : D) (e : gg x y = some d) :
    ∃ i j, x = .int i ∧ y = .int j ∧ d = g i j := by
  by_cases hx : ∃ i j, x = .int i ∧ y = .int j
  · obtain ⟨i, j, rfl, rfl⟩ := hx
    rw [h1] at e
    exact ⟨i, j, rfl, rfl, (Option.some.inj e).symm⟩
  · rw [h2 x y fun i j e1 e2 => hx ⟨i, j, e1, e2⟩] at e
    cases e
theorem v_lt : V2 K (rI0 fun i j => .bl (decide (i < j))) ltD := v2I0 (g := fun i j => .bl (decide (i < j))) (fun _ _ _ _ => by simp [Rep]) (int2 (fun _ _ => rfl) fun x y h => by cases x <;> cases y <;> first | rfl | exact (h _ _ rfl rfl).elim)
theorem v_le : V2 K (rI0 fun i j => .bl (decide (i ≤ j))) leD := v2I0 (g := fun i j => .bl (decide (i ≤ j))) (fun _ _ _ _ => by simp [Rep]) (int2 (fun _ _ => rfl) fun x y h => by cases x <;> cases y <;> first | rfl | exact (h _ _ rfl rfl).elim)
theorem v_gt : V2 K (rI0 fun i j => .bl (decide (j < i))) gtD := v2I0 (g := fun i j => .bl (decide (j < i))) (fun _ _ _ _ => by simp [Rep]) (int2 (fun _ _ => rfl) fun x y h => by cases x <;> cases y <;> first | rfl | exact (h _ _ rfl rfl).elim)
theorem v_ge : V2 K (rI0 fun i j => .bl (decide (j ≤ i))) geD := v2I0 (g := fun i j => .bl (decide (j ≤ i))) (fun _ _ _ _ => by simp [Rep]) (int2 (fun _ _ => rfl) fun x y h => by cases x <;> cases y <;> first | rfl | exact (h _ _ rfl rfl).elim)
theorem v_sub : V2 K (rI0 fun i j => .int (i - j)) subD := v2I0 (g := fun i j => .int (i - j)) (fun _ _ _ _ => by simp [Rep]) (int2 (fun _ _ => rfl) fun x y h => by cases x <;> cases y <;> first | rfl | exact (h _ _ rfl rfl).elim)
theorem v_mul : V2 K (rI CMulW fun i j => .int (i * j)) mulD := v2I (g := fun i j => .int (i * j)) (fun _ _ _ _ => by simp [Rep]) fun x y d e => by
  cases x <;> cases y <;> first | (cases e; done) | skip
  rename_i i j
  simp only [mulD] at e
  split at e
  · rename_i h; exact ⟨i, j, rfl, rfl, h, (Option.some.inj e).symm⟩
  · cases e
theorem v_div : V2 K (rI CDivW fun i j => .int (i / j)) divD := v2I (g := fun i j => .int (i / j)) (fun _ _ _ _ => by simp [Rep]) fun x y d e => by
  cases x <;> cases y <;> first | (cases e; done) | skip
  rename_i i j
  simp only [divD] at e
  split at e
  · rename_i h; exact ⟨i, j, rfl, rfl, h, (Option.some.inj e).symm⟩
  · cases e
theorem v_mod : V2 K (rI (fun _ j => 0 < j) fun i j => .int (i % j)) modD := v2I (g := fun i j => .int (i % j)) (fun _ _ _ _ => by simp [Rep]) fun x y d e => by
  cases x <;> cases y <;> first | (cases e; done) | skip
  rename_i i j
  simp only [modD] at e
  split at e
  · rename_i h; exact ⟨i, j, rfl, rfl, h, (Option.some.inj e).symm⟩
  · cases e
theorem v_neg : V1 K (rU fun i => .int (-i)) negD := fun pd F H x d v fh rx e Q q => by
  cases x <;> first | (cases e; done) | skip
  rename_i i
  cases e
  exact ⟨i, rx.int, q _ F H (.refl fh) (by simp [Rep])⟩
/-! sums of ints, tuples, lists -/
def rAddAll (K : PySem.W.Frag) : R2 := fun x y H Q => (rI0 fun i j => .int (i + j)) x y H Q ∨ rCatA K x y H Q ∨ rCat x y H Q
theorem op_addAll (h : X.K = K) : OpR X (binaryOp .Add) (rAddAll K) := by subst h; exact op_add.or (op_catA.or op_cat)
theorem v_add : V2 K (rAddAll K) addD := fun pd F H x y d v w fh rx ry e Q q => by
  cases x <;> cases y <;> first | (cases e; done) | skip
  · rename_i i j
    cases e
    exact .inl ⟨i, j, rx.int, ry.int, q _ F H (.refl fh) (by simp [Rep])⟩
  · rename_i as bs
    simp only [addD] at e
    split at e
    · rename_i hl
      cases e
      obtain ⟨a, xs, rfl, t1, t2, l1, r1⟩ := rx.tup fh
      obtain ⟨b, ys, rfl, u1, u2, l2, r2⟩ := ry.tup fh
      refine .inr (.inl ⟨a, b, xs, ys, rfl, rfl, t1, u1, by rw [r1.length, r2.length]; exact hl, fun z => ?_, fun _ z => ?_, fun _ _ p n => ?_⟩)
      · subst z
        have : as = [] := List.eq_nil_of_length_eq_zero r1.length.symm
        subst this
        exact q _ F H (.refl fh) (by simp only [Rep]; exact ⟨b, ys, rfl, u2, l2, r2⟩)
      · subst z
        have : bs = [] := List.eq_nil_of_length_eq_zero r2.length.symm
        subst this
        rw [List.append_nil] at q
        exact q _ F H (.refl fh) (by simp only [Rep]; exact ⟨a, xs, rfl, t2, l1, r1⟩)
      · have x2 := Ext.new (o := .tup (xs ++ ys)) fh n
        exact q _ _ _ x2 (by simp only [Rep]; exact ⟨p, _, rfl, .of upd_same, by rw [List.length_append]; exact hl, (r1.append r2).mono x2.ff⟩)
    · cases e
  · rename_i as bs
    simp only [addD] at e
    split at e
    · rename_i hl
      cases e
      obtain ⟨a, xs, rfl, t1, l1, r1⟩ := rx.lst fh
      obtain ⟨b, ys, rfl, u1, l2, r2⟩ := ry.lst fh
      refine .inr (.inr ⟨a, b, xs, ys, rfl, rfl, t1, u1, by rw [r1.length, r2.length]; exact hl, fun p n => ?_⟩)
      have x2 := Ext.new (o := .lst (xs ++ ys)) fh n
      exact q _ _ _ x2 (by simp only [Rep]; exact ⟨p, _, rfl, upd_same, by rw [List.length_append]; exact hl, (r1.append r2).mono x2.ff⟩)
    · cases e
theorem nF_of {F H : Hp} {p : Addr} (fh : Same F H) (n : H p = none) : F p = none := fh.free n
theorem v_catO : V2O K rCat catO := fun pd F H x y d v w fh rx ry e Q q => by
  cases x <;> cases y <;> first | (cases e; done) | skip
  rename_i as bs
  simp only [catO] at e
  split at e
  · rename_i hl
    cases e
    obtain ⟨a, xs, rfl, t1, l1, r1⟩ := rx.lst fh
    obtain ⟨b, ys, rfl, u1, l2, r2⟩ := ry.lst fh
    refine ⟨a, b, xs, ys, rfl, rfl, t1, u1, by rw [r1.length, r2.length]; exact hl, fun p n => ?_⟩
    exact q p _ F _ (Ext.own fh n) n (nF_of fh n) upd_same (by rw [List.length_append]; exact hl) (r1.append r2)
  · cases e
theorem v_repO : V2O K rRep repO := fun pd F H x y d v w fh rx ry e Q q => by
  cases x <;> cases y <;> first | (cases e; done) | skip
  rename_i as k
  simp only [repO] at e
  split at e
  · rename_i hl
    cases e
    obtain ⟨a, xs, rfl, t1, l1, r1⟩ := rx.lst fh
    refine ⟨a, k, xs, rfl, ry.int, t1, hl.1, hl.2.1, by rw [r1.length]; exact hl.2.2, fun p n => ?_⟩
    refine q p _ F _ (Ext.own fh n) n (nF_of fh n) upd_same ?_ (r1.rep _)
    have : (List.replicate k.toNat as).flatten.length = as.length * k.toNat := by
      rw [List.length_flatten, List.map_replicate, List.sum_replicate_nat, Nat.mul_comm]
    rw [this]; exact hl.2.2
  · cases e
/-! subscripts -/
theorem atI_rep {pd : Option PD} {F : Hp} {ds : List D} {xs : List V} {k : Int} {d : D} (r : RepL K pd F ds xs) (e : atI ds k = some d) : ∃ x, atI xs k = some x ∧ Rep K pd F d x := by
  unfold atI at e ⊢
  rw [r.length]
  cases h : ixN ds.length k with
  | none => rw [h] at e; cases e
  | some j =>
    rw [h] at e
    exact r.get e
def rIxS2 (K : PySem.W.Frag) : R2 := fun x y H Q => rIxL K x y H Q ∨ rIxT K x y H Q
theorem ix_both (h : X.K = K) : IxR X (rIxS2 K) := by subst h; exact ix_list.or ix_tup
theorem v_ix : V2 K (rIxS2 K) ixD := fun pd F H x y d v w fh rx ry e Q q => by
  cases x <;> cases y <;> first | (cases e; done) | skip
  · rename_i as k
    obtain ⟨a, xs, rfl, t1, t2, l1, r1⟩ := rx.tup fh
    obtain ⟨z, h1, h2⟩ := atI_rep r1 e
    exact .inr ⟨a, xs, k, z, rfl, ry.int, t1, h1, q _ F H (.refl fh) h2⟩
  · rename_i as k
    obtain ⟨a, xs, rfl, t1, l1, r1⟩ := rx.lst fh
    obtain ⟨z, h1, h2⟩ := atI_rep r1 e
    exact .inl ⟨a, xs, k, z, rfl, ry.int, .of t1, h1, q _ F H (.refl fh) h2⟩
/-! equality -/
theorem v_eq : V2 K (rEqD K) eqD := fun pd F H x y d v w fh rx ry e Q q => by
  unfold eqD at e
  split at e
  · rename_i h
    cases e
    obtain ⟨h1, h2⟩ := h
    unfold cmpOk at h1 h2
    rw [Bool.and_eq_true] at h1 h2
    exact ⟨_, _, rx.dp fh h1.1, ry.dp fh h2.1, h1.2, h2.2, q _ F H (.refl fh) (by simp [Rep])⟩
  · cases e
theorem v_ne : V2 K (rNeD K) neD := fun pd F H x y d v w fh rx ry e Q q => by
  unfold neD at e
  split at e
  · rename_i h
    cases e
    obtain ⟨h1, h2⟩ := h
    unfold cmpOk at h1 h2
    rw [Bool.and_eq_true] at h1 h2
    exact ⟨_, _, rx.dp fh h1.1, ry.dp fh h2.1, h1.2, h2.2, q _ F H (.refl fh) (by simp [Rep])⟩
  · cases e
theorem non_iff {pd : Option PD} {F H : Hp} {x : D} {v : V} (h : RepB K pd F H x v) : decide (v = .non) = isNonD x := by
  cases x with
  | non => rw [h.non]; rfl
  | bl b => rw [h.bl]; rfl
  | int b => rw [h.int]; rfl
  | str b => rw [h.str]; rfl
  | rng =>
    rcases h with h | ⟨p, ds, xs, h1, _⟩
    · simp only [Rep] at h; obtain ⟨a, rfl, _⟩ := h; rfl
    · cases h1
  | dic ks es =>
    rcases h with h | ⟨p, ds, xs, h1, _⟩
    · simp only [Rep] at h; obtain ⟨a, xs, rfl, _⟩ := h; rfl
    · cases h1
  | tup ds =>
    rcases h with h | ⟨p, ds, xs, h1, _⟩
    · simp only [Rep] at h; obtain ⟨a, xs, rfl, _⟩ := h; rfl
    · cases h1
  | lst ds =>
    rcases h with h | ⟨p, ds, xs, h1, h2, _⟩
    · simp only [Rep] at h; obtain ⟨a, xs, rfl, _⟩ := h; rfl
    · subst h2; rfl
theorem v_is : V2 K (fun x y H Q => y = .non ∧ Q (.bl (decide (x = .non))) H) isD := fun pd F H x y d v w fh rx ry e Q q => by
  cases y <;> first | (cases e; done) | skip
  cases e
  exact ⟨ry.non, by rw [non_iff rx]; exact q _ F H (.refl fh) (by simp [Rep])⟩
theorem v_isNot : V2 K (fun x y H Q => y = .non ∧ Q (.bl (!decide (x = .non))) H) isNotD := fun pd F H x y d v w fh rx ry e Q q => by
  cases y <;> first | (cases e; done) | skip
  cases e
  exact ⟨ry.non, by rw [non_iff rx]; exact q _ F H (.refl fh) (by simp [Rep])⟩
/-! calls -/
theorem RepBL.one {pd : Option PD} {F H : Hp} {d : D} {vs : List V} (h : RepBL K pd F H [d] vs) : ∃ v, vs = [v] ∧ RepB K pd F H d v := by
  cases h with
  | cons a b => cases b; exact ⟨_, rfl, a⟩
theorem RepBL.two {pd : Option PD} {F H : Hp} {d e : D} {vs : List V} (h : RepBL K pd F H [d, e] vs) : ∃ v w, vs = [v, w] ∧ RepB K pd F H d v ∧ RepB K pd F H e w := by
  cases h with
  | cons a b => obtain ⟨w, rfl, r⟩ := b.one; exact ⟨_, _, rfl, a, r⟩
def rLen (K : PySem.W.Frag) : List V → Hp → VK → Prop := fun xs H Q => ∃ p ys, xs = [.ref p] ∧ (SqL K H p ys ∨ SqT K H p ys) ∧ Q (.int ys.length) H
theorem c_len (h : X.K = K) : CallR X (.builtin "len") (rLen K) := by subst h; exact call_len_seq
theorem v_len : VL K (rLen K) lenD := fun pd F H xs d vs fh r e Q q => by
  match xs, e with
  | [.lst a], e =>
    cases e
    obtain ⟨v, rfl, rb⟩ := r.one
    obtain ⟨p, ys, rfl, t, l, rl⟩ := rb.lst fh
    exact ⟨p, ys, rfl, .inl (.of t), by rw [rl.length]; exact q _ F H (.refl fh) (by simp [Rep])⟩
  | [.tup a], e =>
    cases e
    obtain ⟨v, rfl, rb⟩ := r.one
    obtain ⟨p, ys, rfl, t, _, l, rl⟩ := rb.tup fh
    exact ⟨p, ys, rfl, .inr t, by rw [rl.length]; exact q _ F H (.refl fh) (by simp [Rep])⟩
def rTupOf (K : PySem.W.Frag) : List V → Hp → VK → Prop := fun xs H Q => ∃ p ys, xs = [.ref p] ∧ ((SqL K H p ys ∧ ∀ l, H l = none → Q (.ref l) (upd H l (.tup ys))) ∨ (SqT K H p ys ∧ Q (.ref p) H))
theorem c_tup (h : X.K = K) : CallR X (.type "tuple") (rTupOf K) := by subst h; exact call_tuple_of
theorem v_tup : VL K (rTupOf K) tupD := fun pd F H xs d vs fh r e Q q => by
  match xs, e with
  | [.lst a], e =>
    cases e
    obtain ⟨v, rfl, rb⟩ := r.one
    obtain ⟨p, ys, rfl, t, l, rl⟩ := rb.lst fh
    refine ⟨p, ys, rfl, .inl ⟨.of t, fun b n => ?_⟩⟩
    have x2 := Ext.new (o := .tup ys) fh n
    exact q _ _ _ x2 (by simp only [Rep]; exact ⟨b, _, rfl, .of upd_same, l, rl.mono x2.ff⟩)
  | [.tup a], e =>
    cases e
    obtain ⟨v, rfl, rb⟩ := r.one
    obtain ⟨p, ys, rfl, t, t2, l, rl⟩ := rb.tup fh
    exact ⟨p, ys, rfl, .inr ⟨t, q _ F H (.refl fh) (by simp only [Rep]; exact ⟨p, _, rfl, t2, l, rl⟩)⟩⟩
def rListOf (K : PySem.W.Frag) : List V → Hp → VK → Prop := fun xs H Q => ∃ p ys, xs = [.ref p] ∧ (SqL K H p ys ∨ SqT K H p ys) ∧ ∀ l, H l = none → Q (.ref l) (upd H l (.lst ys))
theorem c_list (h : X.K = K) : CallR X (.type "list") (rListOf K) := by subst h; exact call_list_of
theorem v_list : VLO K (rListOf K) listO := fun pd F H xs d vs fh r e Q q => by
  match xs, e with
  | [.lst a], e =>
    cases e
    obtain ⟨v, rfl, rb⟩ := r.one
    obtain ⟨p, ys, rfl, t, l, rl⟩ := rb.lst fh
    exact ⟨p, ys, rfl, .inl (.of t), fun b n => q b _ F _ (Ext.own fh n) n (nF_of fh n) upd_same l rl⟩
  | [.tup a], e =>
    cases e
    obtain ⟨v, rfl, rb⟩ := r.one
    obtain ⟨p, ys, rfl, t, t2, l, rl⟩ := rb.tup fh
    exact ⟨p, ys, rfl, .inr t, fun b n => q b _ F _ (Ext.own fh n) n (nF_of fh n) upd_same l rl⟩
theorem v_abs : VL K (fun xs H Q => ∃ i, xs = [.int i] ∧ Q (.int (if i < 0 then -i else i)) H) absD := fun pd F H xs d vs fh r e Q q => by
  match xs, e with
  | [.int a], e =>
    cases e
    obtain ⟨v, rfl, rb⟩ := r.one
    exact ⟨a, by rw [rb.int], q _ F H (.refl fh) (by simp [Rep])⟩
theorem v_int : VL K (fun xs H Q => (∃ i, xs = [.int i] ∧ Q (.int i) H) ∨ ∃ k, xs = [.bl k] ∧ Q (.int (if k then 1 else 0)) H) intD := fun pd F H xs d vs fh r e Q q => by
  match xs, e with
  | [.int a], e =>
    cases e
    obtain ⟨v, rfl, rb⟩ := r.one
    exact .inl ⟨a, by rw [rb.int], q _ F H (.refl fh) (by simp [Rep])⟩
  | [.bl a], e =>
    cases e
    obtain ⟨v, rfl, rb⟩ := r.one
    exact .inr ⟨a, by rw [rb.bl], q _ F H (.refl fh) (by simp [Rep])⟩
theorem v_max2 : VL K (fun xs H Q => ∃ i j, xs = [.int i, .int j] ∧ Q (.int (if j > i then j else i)) H) max2D := fun pd F H xs d vs fh r e Q q => by
  match xs, e with
  | [.int a, .int b], e =>
    cases e
    obtain ⟨v, w, rfl, r1, r2⟩ := r.two
    exact ⟨a, b, by rw [r1.int, r2.int], q _ F H (.refl fh) (by simp [Rep])⟩
theorem v_min2 : VL K (fun xs H Q => ∃ i j, xs = [.int i, .int j] ∧ Q (.int (if j < i then j else i)) H) min2D := fun pd F H xs d vs fh r e Q q => by
  match xs, e with
  | [.int a, .int b], e =>
    cases e
    obtain ⟨v, w, rfl, r1, r2⟩ := r.two
    exact ⟨a, b, by rw [r1.int, r2.int], q _ F H (.refl fh) (by simp [Rep])⟩
end

/-! ### subscripts and slices as rules -/
def xSl (g : D → Option Int → Option Int → Option D) (a : EF) (lo hi : Option EF) : EF := fun ρ => Mb (a ρ) fun x =>
  Mb (match lo with | none => Mp none | some f => Mb (f ρ) fun d => match d with | .int i => Mp (some i) | _ => Mf) fun l =>
  Mb (match hi with | none => Mp none | some f => Mb (f ρ) fun d => match d with | .int i => Mp (some i) | _ => Mf) fun u => Mo (g x l u)
def cutD {α : Type} (xs : List α) (lo hi : Option Int) : List α := (xs.drop (HT.sIx xs.length 0 lo)).take (HT.sIx xs.length xs.length hi - HT.sIx xs.length 0 lo)
def slD : D → Option Int → Option Int → Option D
  | .lst a, l, u => some (.lst (cutD a l u))
  | .tup a, l, u => some (.tup (cutD a l u))
  | _, _, _ => none
section
variable {ι : Type} {X : ι → Cx} {P : Program} {w : World} {K : PySem.W.Frag} {mg : Str → Option Value} {base : Heap} {N : List Str} {lv : Nat} {pos : Pos} {a b c e : Expr} {es : List Expr} {f fa fb fc : EF} {g : AF}
theorem cIx {r : R2} {gg : D → D → Option D} (hr : ∀ i, IxR (X i) r) (hv : V2 K r gg) (ha : CB X K a fa) (hb : CB X K b fb) (hs : PlainIx b) : CE X K (.Subscript a b pos) (x2 gg fa fb) :=
  let ⟨ta, a1, a2⟩ := ha; let ⟨tb, b1, b2⟩ := hb; ⟨_, fun i => pe_ix (hr i) (a1 i) (b1 i) hs, semE_op2 hv a2 b2⟩
def SemP (K : PySem.W.Frag) (t : TO) (f : Option EF) : Prop := ∀ (pd : Option PD) (F0 H0 F H : Hp) (ρ : Rho) (σ : L2.St) (s : DS) (o : Option Int) (s' : DS), Ok K pd F0 H0 F H ρ σ s →
  (match f with | none => (Mp none : M (Option Int)) | some f => Mb (f ρ) fun d => match d with | .int i => Mp (some i) | _ => Mf) s = some (o, s') →
  ∀ Q : Option Int → Hp → Prop, (∀ F' H', Ext pd F H F' H' → DOk K pd F' H' s' → Q o H') → t σ H Q
def CP (X : ι → Cx) (K : PySem.W.Frag) (e : Option Expr) (f : Option EF) : Prop := ∃ t, (∀ i, PO (X i) e t) ∧ SemP K t f
theorem cpNone : CP X K none none := ⟨_, fun _ => po_none, fun pd F0 H0 F H ρ σ s d s' o e Q q => by obtain ⟨rfl, rfl⟩ := Mp_eq e; exact q F H (.refl o.fh) o.dok⟩
theorem cpSome (h : CE X K e f) : CP X K (some e) (some f) := by
  obtain ⟨t, h1, h2⟩ := h
  refine ⟨_, fun i => po_some (h1 i), fun pd F0 H0 F H ρ σ s d s' o e Q q => ?_⟩
  obtain ⟨x, s1, e1, e⟩ := Mb_eq e
  refine h2 pd F0 H0 F H ρ σ s x s1 o e1 _ fun v F1 H1 x1 d1 r1 => ?_
  cases x with
  | int i =>
    obtain ⟨rfl, rfl⟩ := Mp_eq e
    simp only [Rep] at r1
    exact ⟨i, r1, q F1 H1 x1 d1⟩
  | _ => cases e
def V3 (K : PySem.W.Frag) (r : V → Option Int → Option Int → Hp → VK → Prop) (g : D → Option Int → Option Int → Option D) : Prop := ∀ (pd : Option PD) (F H : Hp) (x d : D) (l u : Option Int) (v : V), Same F H → RepB K pd F H x v → g x l u = some d →
  ∀ Q : VK, (∀ u F' H', Ext none F H F' H' → Rep K pd F' d u → Q u H') → r v l u H Q
theorem cSlice {r : V → Option Int → Option Int → Hp → VK → Prop} {gg : D → Option Int → Option Int → Option D} {lo hi : Option Expr} {fl fu : Option EF} {p2 : Pos} (hr : ∀ i, SlR (X i) r) (hv : V3 K r gg) (ha : CB X K a fa) (hl : CP X K lo fl) (hu : CP X K hi fu) :
    CE X K (.Subscript a (.Slice lo hi none p2) pos) (xSl gg fa fl fu) := by
  obtain ⟨ta, a1, a2⟩ := ha
  obtain ⟨tl, l1, l2⟩ := hl
  obtain ⟨tu, u1, u2⟩ := hu
  refine ⟨_, fun i => pe_slice (hr i) (a1 i) (l1 i) (u1 i), fun pd F0 H0 F H ρ σ s d s' o e Q q => ?_⟩
  obtain ⟨x, s1, e1, e⟩ := Mb_eq e
  obtain ⟨l, s2, e2, e⟩ := Mb_eq e
  obtain ⟨u, s3, e3, e⟩ := Mb_eq e
  obtain ⟨e4, rfl⟩ := Mo_eq e
  refine a2 pd F0 H0 F H ρ σ s x s1 o e1 _ fun v F1 H1 x1 d1 r1 => ?_
  have o1 := o.step x1 d1
  refine l2 pd F0 H0 F1 H1 ρ σ s1 l s2 o1 e2 _ fun F2 H2 x2 d2 => ?_
  have o2 := o1.step x2 d2
  refine u2 pd F0 H0 F2 H2 ρ σ s2 u _ o2 e3 _ fun F3 H3 x3 d3 => ?_
  exact hv pd F3 H3 x d l u v (o2.step x3 d3).fh ((r1.mono x2).mono x3) e4 Q fun z F4 H4 x4 r4 => q z F4 H4 (x1.trans (x2.trans (x3.trans x4.lift))) (d3.grow x4) r4
end
section
variable {K : PySem.W.Frag} {X : Cx}
def rSlAll (K : PySem.W.Frag) : V → Option Int → Option Int → Hp → VK → Prop := fun x l u H Q => rSlL K x l u H Q ∨ rSlA K x l u H Q
theorem sl_all (h : X.K = K) : SlR X (rSlAll K) := by subst h; exact sl_list.or sl_tupA
theorem cut_rep {pd : Option PD} {F : Hp} {ds : List D} {xs : List V} (r : RepL K pd F ds xs) (l u : Option Int) : RepL K pd F (cutD ds l u) (cutV xs l u) := by
  unfold cutD cutV
  rw [r.length]
  exact (r.drop _).take _
theorem cutD_le {α : Type} (ds : List α) (l u : Option Int) : (cutD ds l u).length ≤ ds.length := by
  unfold cutD
  rw [List.length_take, List.length_drop]
  omega
theorem v_sl : V3 K (rSlAll K) slD := fun pd F H x d l u v fh rx e Q q => by
  cases x <;> first | (cases e; done) | skip
  · rename_i as
    cases e
    obtain ⟨a, xs, rfl, t1, t2, l1, r1⟩ := rx.tup fh
    have hc := cutD_le as l u
    refine .inr ⟨a, xs, rfl, t1, fun w => ?_, fun w p n => ?_⟩
    · have : cutD as l u = as := by
        unfold cutD
        rw [← r1.length, w.1, w.2]
        simp [r1.length]
      rw [this] at q
      exact q _ F H (.refl fh) (by simp only [Rep]; exact ⟨a, xs, rfl, t2, l1, r1⟩)
    · have x2 := Ext.new (o := .tup (cutV xs l u)) fh n
      exact q _ _ _ x2 (by simp only [Rep]; exact ⟨p, _, rfl, .of upd_same, Nat.le_trans hc l1, (cut_rep r1 l u).mono x2.ff⟩)
  · rename_i as
    cases e
    obtain ⟨a, xs, rfl, t1, l1, r1⟩ := rx.lst fh
    have hc := cutD_le as l u
    refine .inl ⟨a, xs, rfl, .of t1, fun p n => ?_⟩
    have x2 := Ext.new (o := .lst (cutV xs l u)) fh n
    exact q _ _ _ x2 (by simp only [Rep]; exact ⟨p, _, rfl, upd_same, Nat.le_trans hc l1, (cut_rep r1 l u).mono x2.ff⟩)
end
end Pu
namespace Pu
open PySem PySem.Spec PyProof.Rows L2

/-! ### what is walked -/
def WalkS (K : PySem.W.Frag) (pd : Option PD) (J : It) (F : Hp) (ds : List D) : Prop := ds.length ≤ SZ ∧ ∀ (i : Nat) (F1 H1 : Hp), Same F F1 → Same F1 H1 →
  (∀ d, ds[i]? = some d → J.go i H1 ∧ ∀ x H2, J.yld i H1 x H2 → ∃ F2, Ext none F1 H1 F2 H2 ∧ Rep K pd F2 d x) ∧ (i = ds.length → J.stop i H1)
def WalkW (K : PySem.W.Frag) (pd : Option PD) (J : It) (F H : Hp) (ds : List D) : Prop := ds.length ≤ SZ ∧ ∀ (i : Nat) (F1 H1 : Hp), Ext pd F H F1 H1 →
  (∀ d, ds[i]? = some d → J.go i H1 ∧ ∀ x H2, J.yld i H1 x H2 → ∃ F2, Ext none F1 H1 F2 H2 ∧ Rep K pd F2 d x) ∧ (i = ds.length → J.stop i H1)
theorem WalkS.w {K : PySem.W.Frag} {pd : Option PD} {J : It} {F H : Hp} {ds : List D} (h : WalkS K pd J F ds) : WalkW K pd J F H ds := ⟨h.1, fun i F1 H1 x => h.2 i F1 H1 x.ff x.fh⟩
def SemI (K : PySem.W.Frag) (t : TI) (f : AF) : Prop := ∀ (pd : Option PD) (F0 H0 F H : Hp) (ρ : Rho) (σ : L2.St) (s : DS) (ds : List D) (s' : DS), Ok K pd F0 H0 F H ρ σ s → f ρ s = some (ds, s') →
  ∀ R : It → Hp → Prop, (∀ J F' H', Ext pd F H F' H' → DOk K pd F' H' s' → WalkS K pd J F' ds → R J H') → t σ H R
def SemIW (K : PySem.W.Frag) (t : TI) (f : AF) : Prop := ∀ (pd : Option PD) (F0 H0 F H : Hp) (ρ : Rho) (σ : L2.St) (s : DS) (ds : List D) (s' : DS), Ok K pd F0 H0 F H ρ σ s → f ρ s = some (ds, s') →
  ∀ R : It → Hp → Prop, (∀ J F' H', Ext pd F H F' H' → DOk K pd F' H' s' → WalkW K pd J F' H' ds → R J H') → t σ H R
section
variable {ι : Type}
def CI (X : ι → Cx) (K : PySem.W.Frag) (tg e : Expr) (f : AF) : Prop := ∃ t, (∀ i, PI (X i) tg e t) ∧ SemI K t f
def CIW (X : ι → Cx) (K : PySem.W.Frag) (tg e : Expr) (f : AF) : Prop := ∃ t, (∀ i, PI (X i) tg e t) ∧ SemIW K t f
theorem CI.w {X : ι → Cx} {K : PySem.W.Frag} {tg e : Expr} {f : AF} (h : CI X K tg e f) : CIW X K tg e f :=
  let ⟨t, h1, h2⟩ := h; ⟨t, h1, fun pd F0 H0 F H ρ σ s d s' o e R q => h2 pd F0 H0 F H ρ σ s d s' o e R fun J F' H' x y z => q J F' H' x y z.w⟩
end
def seqD : D → Option (List D)
  | .lst a => some a
  | .tup a => some a
  | _ => none
def iSq (f : EF) : AF := fun ρ => Mb (f ρ) fun d => Mo (seqD d)
def rangeL (lo : Int) (n : Nat) : List D := (List.range n).map fun i => .int (lo + (i : Nat))
def rng1D : List D → Option (List D)
  | [.int j] => if j ≤ 16777216 ∧ -(2 ^ 62) ≤ j then some (rangeL 0 j.toNat) else none
  | _ => none
def rng2D : List D → Option (List D)
  | [.int i, .int j] => if -(2 ^ 61) ≤ i ∧ i < 2 ^ 61 ∧ -(2 ^ 61) ≤ j ∧ j < 2 ^ 61 ∧ j - i ≤ 16777216 then some (rangeL i (j - i).toNat) else none
  | _ => none
def iRg (gg : List D → Option (List D)) (f : AF) : AF := fun ρ => Mb (f ρ) fun xs => Mo (gg xs)

section
variable {K : PySem.W.Frag} {pd : Option PD}
theorem walkS_list {F : Hp} {a : Addr} {xs : List V} {ds : List D} (h : F a = some (.lst xs)) (hl : ds.length ≤ SZ) (r : RepL K pd F ds xs) : WalkS K pd (Itl K a) F ds := by
  refine ⟨hl, fun i F1 H1 f1 f2 => ⟨fun d hd => ?_, fun e => ⟨xs, .of (f2 _ _ (f1 _ _ h)), by rw [r.length, e]; exact Nat.le_refl _⟩⟩⟩
  obtain ⟨x, hx, rx⟩ := r.get hd
  refine ⟨⟨xs, x, .of (f2 _ _ (f1 _ _ h)), hx⟩, fun y H2 ⟨e1, e2⟩ => ?_⟩
  subst e1
  have := e2 xs (.of (f2 _ _ (f1 _ _ h)))
  rw [hx] at this; cases this
  exact ⟨F1, .refl f2, rx.mono f1⟩
theorem walkS_tup {F : Hp} {a : Addr} {xs : List V} {ds : List D} (h : SqT K F a xs) (hl : ds.length ≤ SZ) (r : RepL K pd F ds xs) : WalkS K pd (Itt K a) F ds := by
  refine ⟨hl, fun i F1 H1 f1 f2 => ⟨fun d hd => ?_, fun e => ⟨xs, sqT_mono f2 (sqT_mono f1 h), by rw [r.length, e]; exact Nat.le_refl _⟩⟩⟩
  obtain ⟨x, hx, rx⟩ := r.get hd
  refine ⟨⟨xs, x, sqT_mono f2 (sqT_mono f1 h), hx⟩, fun y H2 ⟨e1, e2⟩ => ?_⟩
  subst e1
  have := e2 xs (sqT_mono f2 (sqT_mono f1 h))
  rw [hx] at this; cases this
  exact ⟨F1, .refl f2, rx.mono f1⟩
theorem walkW_own {F H : Hp} {a : Addr} {xs : List V} {ds : List D} (h : H a = some (.lst xs)) (hp : some a ≠ pp pd) (hl : ds.length ≤ SZ) (r : RepL K pd F ds xs) : WalkW K pd (Itl K a) F H ds := by
  refine ⟨hl, fun i F1 H1 x => ⟨fun d hd => ?_, fun e => ⟨xs, .of (x.hh _ _ h hp), by rw [r.length, e]; exact Nat.le_refl _⟩⟩⟩
  obtain ⟨y, hx, rx⟩ := r.get hd
  refine ⟨⟨xs, y, .of (x.hh _ _ h hp), hx⟩, fun z H2 ⟨e1, e2⟩ => ?_⟩
  subst e1
  have := e2 xs (.of (x.hh _ _ h hp))
  rw [hx] at this; cases this
  exact ⟨F1, .refl x.fh, rx.mono x.ff⟩
theorem walkS_range {F : Hp} {lo : Int} {n : Nat} (hn : n ≤ SZ) : WalkS K pd (Itr lo n) F (rangeL lo n) := by
  have hl : (rangeL lo n).length = n := by simp [rangeL]
  refine ⟨by rw [hl]; exact hn, fun i F1 H1 f1 f2 => ⟨fun d hd => ?_, fun e => by rw [hl] at e; exact Nat.le_of_eq e.symm⟩⟩
  have hi : i < n := by have := (List.getElem?_eq_some_iff.mp hd).1; rw [hl] at this; exact this
  refine ⟨hi, fun y H2 ⟨e1, e2⟩ => ?_⟩
  subst e1
  refine ⟨F1, .refl f2, ?_⟩
  have : d = .int (lo + (i : Nat)) := by
    unfold rangeL at hd
    rw [List.getElem?_map, List.getElem?_range hi] at hd
    exact (Option.some.inj hd).symm
  subst this
  simp only [Rep]; exact e2
end
/-- a list or a tuple, as it comes -/
def iSeq (K : PySem.W.Frag) (tl : TE) : TI := fun σ H R => tl σ H fun x H1 => ∃ a, x = .ref a ∧ (((∃ xs, SqL K H1 a xs) ∧ R (Itl K a) H1) ∨ ((∃ xs, SqT K H1 a xs) ∧ R (Itt K a) H1))
theorem pi_seq {X : Cx} {tg l : Expr} {tl : TE} (hl : PE X l tl) : PI X tg l (iSeq X.K tl) := by
  refine ⟨fun pins s σ H R I h => thn (hl.run pins s σ H _ I h) fun v s1 ⟨x, H1, I1, r1, a, e, q⟩ => ?_⟩
  subst e
  cases r1
  have fp : ∀ {b : Addr}, b ∈ [s1.heap.objs.size] → FpOk X pins H1 b := fun {b} hb => by
    have e : b = s1.heap.objs.size := by simpa using hb
    subst e
    exact I1.fpOk (Nat.le_refl _) (I1.hok.fresh (Nat.le_refl _))
  rcases q with ⟨⟨xs, hq⟩, q⟩ | ⟨⟨xs, hq⟩, q⟩
  · obtain ⟨its, rv, p, hz⟩ := I1.list hq
    exact wpAny_pyIter_list p.isList ⟨s1.heap.objs.size, [s1.heap.objs.size], _, _, H1, rfl, I1.kept (t' := s1.toks) fun b o e => Heap.get?_push_of_some _ e, turn_list a _, ⟨_, Heap.get?_push_size _ rfl, rfl, rfl⟩, fun b hb => fp hb, q⟩
  · obtain ⟨its, rv, p, hz⟩ := I1.tuple hq
    exact wpAny_pyIter_tuple (show s1.heap.IsTuple a its.toArray from p) ⟨s1.heap.objs.size, [s1.heap.objs.size], _, _, H1, rfl, I1.kept (t' := s1.toks) fun b o e => Heap.get?_push_of_some _ e, turn_tuple a _, ⟨_, Heap.get?_push_size _ rfl, rfl, rfl⟩, fun b hb => fp hb, q⟩
section
variable {ι : Type} {X : ι → Cx} {P : Program} {w : World} {K : PySem.W.Frag} {mg : Str → Option Value} {base : Heap} {N : List Str} {lv : Nat} {pos : Pos} {tg a b c e : Expr} {es : List Expr} {f fa fb fc : EF} {g : AF}
theorem iSeqE (C : Fam X P w K mg base N lv) (h : CE X K e f) : CI X K tg e (iSq f) := by
  obtain ⟨t, h1, h2⟩ := h
  refine ⟨_, fun i => by have := pi_seq (tg := tg) (h1 i); rw [C.k i] at this; exact this, fun pd F0 H0 F H ρ σ s d s' o e R q => ?_⟩
  obtain ⟨x, s1, e1, e⟩ := Mb_eq e
  obtain ⟨e2, rfl⟩ := Mo_eq e
  refine h2 pd F0 H0 F H ρ σ s x s1 o e1 _ fun v F1 H1 x1 d1 r1 => ?_
  have fh := (o.step x1 d1).fh
  cases x <;> first | (cases e2; done) | skip
  · cases e2
    simp only [Rep] at r1
    obtain ⟨a, xs, rfl, t1, hl, r⟩ := r1
    exact ⟨a, rfl, .inr ⟨⟨xs, sqT_mono fh t1⟩, q _ F1 H1 x1 d1 (walkS_tup t1 hl r)⟩⟩
  · cases e2
    simp only [Rep] at r1
    obtain ⟨a, xs, rfl, t1, hl, r⟩ := r1
    exact ⟨a, rfl, .inl ⟨⟨xs, .of (fh _ _ t1)⟩, q _ F1 H1 x1 d1 (walkS_list t1 hl r)⟩⟩
theorem iSeqB (C : Fam X P w K mg base N lv) (h : CB X K e f) : CIW X K tg e (iSq f) := by
  obtain ⟨t, h1, h2⟩ := h
  refine ⟨_, fun i => by have := pi_seq (tg := tg) (h1 i); rw [C.k i] at this; exact this, fun pd F0 H0 F H ρ σ s d s' o e R q => ?_⟩
  obtain ⟨x, s1, e1, e⟩ := Mb_eq e
  obtain ⟨e2, rfl⟩ := Mo_eq e
  refine h2 pd F0 H0 F H ρ σ s x s1 o e1 _ fun v F1 H1 x1 d1 r1 => ?_
  have fh := (o.step x1 d1).fh
  rcases r1 with r1 | ⟨p, es, xs, h1, h2, h3, h4, h5, h7, h6⟩
  · cases x <;> first | (cases e2; done) | skip
    · cases e2
      simp only [Rep] at r1
      obtain ⟨a, xs, rfl, t1, hl, r⟩ := r1
      exact ⟨a, rfl, .inr ⟨⟨xs, sqT_mono fh t1⟩, q _ F1 H1 x1 d1 (walkS_tup t1 hl r).w⟩⟩
    · cases e2
      simp only [Rep] at r1
      obtain ⟨a, xs, rfl, t1, hl, r⟩ := r1
      exact ⟨a, rfl, .inl ⟨⟨xs, .of (fh _ _ t1)⟩, q _ F1 H1 x1 d1 (walkS_list t1 hl r).w⟩⟩
  · subst h1; subst h2
    cases e2
    exact ⟨p, rfl, .inl ⟨⟨xs, .of h3⟩, q _ F1 H1 x1 d1 (walkW_own h3 h4 h7 h6)⟩⟩
theorem iRng1E (C : Fam X P w K mg base N lv) {p : Pos} (hm : mg "range" = none) (h : CA X K [a] g) (hg : ∀ i, Gl (X i) "range" := by intro _; rfl) (hs : ∀ i, starEach [a] (X i).env = [(false, eval a (X i).env)] := by intro _; rfl) :
    CI X K tg (.Call (.Name "range" p) [a] [] pos) (iRg rng1D g) := by
  obtain ⟨t, h1, h2⟩ := h
  refine ⟨_, fun i => pi_range1 (hg i) (by rw [C.m i]; exact hm) (h1 i) (hs i), fun pd F0 H0 F H ρ σ s d s' o e R q => ?_⟩
  obtain ⟨xs, s1, e1, e⟩ := Mb_eq e
  obtain ⟨e2, rfl⟩ := Mo_eq e
  refine h2 pd F0 H0 F H ρ σ s xs s1 o e1 _ fun vs F1 H1 x1 d1 r1 => ?_
  unfold rng1D at e2
  split at e2
  · rename_i j
    split at e2
    · rename_i hj
      cases e2
      obtain ⟨y, ys, rfl, h3, h4⟩ := r1.cases
      have := h4.cases0; subst this
      simp only [Rep] at h3
      subst h3
      refine ⟨j, rfl, hj.2, ?_, q _ F1 H1 x1 d1 (walkS_range ?_)⟩
      · have := hj.1; omega
      · show j.toNat ≤ 2 ^ 24
        have := hj.1; omega
    · cases e2
  · cases e2
theorem iRng2E (C : Fam X P w K mg base N lv) {p : Pos} (hm : mg "range" = none) (h : CA X K [a, b] g) (hg : ∀ i, Gl (X i) "range" := by intro _; rfl)
    (hs : ∀ i, starEach [a, b] (X i).env = [(false, eval a (X i).env), (false, eval b (X i).env)] := by intro _; rfl) (hs2 : ∀ i, starEach [b] (X i).env = [(false, eval b (X i).env)] := by intro _; rfl) :
    CI X K tg (.Call (.Name "range" p) [a, b] [] pos) (iRg rng2D g) := by
  obtain ⟨t, h1, h2⟩ := h
  refine ⟨_, fun i => pi_range2 (hg i) (by rw [C.m i]; exact hm) (h1 i) (hs i) (hs2 i), fun pd F0 H0 F H ρ σ s d s' o e R q => ?_⟩
  obtain ⟨xs, s1, e1, e⟩ := Mb_eq e
  obtain ⟨e2, rfl⟩ := Mo_eq e
  refine h2 pd F0 H0 F H ρ σ s xs s1 o e1 _ fun vs F1 H1 x1 d1 r1 => ?_
  unfold rng2D at e2
  split at e2
  · rename_i i j
    split at e2
    · rename_i hj
      cases e2
      obtain ⟨y, ys, rfl, h3, h4⟩ := r1.cases
      obtain ⟨z, zs, rfl, h5, h6⟩ := h4.cases
      have := h6.cases0; subst this
      simp only [Rep] at h3 h5
      subst h3; subst h5
      refine ⟨i, j, rfl, ⟨by omega, by omega, by omega, by omega⟩, q _ F1 H1 x1 d1 (walkS_range ?_)⟩
      show (j - i).toNat ≤ 2 ^ 24
      omega
    · cases e2
  · cases e2
end

/-! ### targets -/
abbrev TGt := D → Rho → Option Rho
def gNm (i : Nat) : TGt := fun d ρ => some (ρ.set i (.sh d))
def gTs : List TGt → List D → Rho → Option Rho
  | [], [], ρ => some ρ
  | g :: gs, d :: ds, ρ => match g d ρ with
    | some ρ' => gTs gs ds ρ'
    | none => none
  | _, _, _ => none
def gTp (gs : List TGt) : TGt := fun d ρ => match d with
  | .tup ds => gTs gs ds ρ
  | _ => none
def SemG (K : PySem.W.Frag) (t : TG) (js : List Nat) (g : TGt) : Prop := ∀ (pd : Option PD) (F0 H0 F H : Hp) (ρ ρ' : Rho) (σ : L2.St) (s : DS) (d : D) (v : V), Ok K pd F0 H0 F H ρ σ s → Rep K pd F d v → g d ρ = some ρ' →
  ∀ Q : L2.St → Hp → Prop, (∀ σ', Ok K pd F0 H0 F H ρ' σ' s → (∀ j, j ∉ js → σ'[j]? = σ[j]?) → σ'.length = σ.length → Q σ' H) → t v σ H Q
def SemGs (K : PySem.W.Frag) (t : TGs) (js : List Nat) (g : List TGt) : Prop := ∀ (pd : Option PD) (F0 H0 F H : Hp) (ρ ρ' : Rho) (σ : L2.St) (s : DS) (ds : List D) (vs : List V), Ok K pd F0 H0 F H ρ σ s → RepL K pd F ds vs → gTs g ds ρ = some ρ' →
  ∀ Q : L2.St → Hp → Prop, (∀ σ', Ok K pd F0 H0 F H ρ' σ' s → (∀ j, j ∉ js → σ'[j]? = σ[j]?) → σ'.length = σ.length → Q σ' H) → t vs σ H Q
section
variable {ι : Type}
def CG (X : ι → Cx) (K : PySem.W.Frag) (tg : Expr) (js : List Nat) (g : TGt) : Prop := ∃ t, (∀ i, PG (X i) tg t) ∧ SemG K t js g
def CGs (X : ι → Cx) (K : PySem.W.Frag) (tg : List Expr) (js : List Nat) (n : Nat) (g : List TGt) : Prop := ∃ t, (∀ i, PGs (X i) tg t) ∧ SemGs K t js g ∧ g.length = n
variable {X : ι → Cx} {P : Program} {w : World} {K : PySem.W.Frag} {mg : Str → Option Value} {base : Heap} {N : List Str} {lv : Nat} {pos : Pos}
theorem gName' (C : Fam X P w K mg base N lv) (i : Nat) {x : Str} (hi : N[i]? = some x := by rfl) (hx : ∀ j, Loc (X j).env.scope x := by intro _; first | exact Or.inl rfl | exact Or.inr rfl)
    (hf : ∀ j, (X j).fn x = true ∨ (X j).env.scope.names.lookup x = some .local := by intro _; first | exact Or.inl rfl | exact Or.inr rfl) : CG X K (.Name x pos) [i] (gNm i) := by
  refine ⟨gName i, fun j => pg_name (by rw [C.n j]; exact C.nd) (by rw [C.n j]; exact hi) (hx j) (hf j), fun pd F0 H0 F H ρ ρ' σ s d v o r e Q q => ?_⟩
  cases e
  exact q _ (o.set r) (fun j hj => by
    rw [List.getElem?_set_ne]
    rintro rfl
    exact hj (by simp)) (by simp)
theorem gsNil : CGs X K [] [] 0 [] := by
  refine ⟨_, fun j => pgs_nil, fun pd F0 H0 F H ρ ρ' σ s d v o r e Q q => ?_, rfl⟩
  cases d with
  | nil => cases e; exact ⟨r.cases0, q σ o (fun _ _ => rfl) rfl⟩
  | cons a b => cases e
theorem gsCons {e : Expr} {es : List Expr} {js js' : List Nat} {n : Nat} {g : TGt} {gs : List TGt} (h : CG X K e js g) (h' : CGs X K es js' n gs)
    (hs : ∀ i, (assignEach (e :: es) (X i).env).map (·.2) = assign e (X i).env :: (assignEach es (X i).env).map (·.2) := by intro _; rfl) : CGs X K (e :: es) (js ++ js') (n + 1) (g :: gs) := by
  obtain ⟨t, h1, h2⟩ := h
  obtain ⟨u, u1, u2, u3⟩ := h'
  refine ⟨_, fun i => pgs_cons (h1 i) (u1 i) (hs i), fun pd F0 H0 F H ρ ρ' σ s d v o r e Q q => ?_, by simp [u3]⟩
  cases d with
  | nil => cases e
  | cons a b =>
    obtain ⟨y, ys, rfl, r1, r2⟩ := r.cases
    have e' : (match g a ρ with | some ρ' => gTs gs b ρ' | none => none) = some ρ' := e
    cases hg : g a ρ with
    | none => rw [hg] at e'; cases e'
    | some ρ1 =>
      rw [hg] at e'
      refine ⟨y, ys, rfl, h2 pd F0 H0 F H ρ ρ1 σ s a y o r1 hg _ fun σ1 o1 k1 l1 => ?_⟩
      exact u2 pd F0 H0 F H ρ1 ρ' σ1 s b ys o1 r2 e' Q fun σ2 o2 k2 l2 => q σ2 o2 (fun j hj => by
        rw [List.mem_append] at hj
        rw [k2 j fun z => hj (.inr z), k1 j fun z => hj (.inl z)]) (l2.trans l1)
theorem gTs_len : ∀ {gs : List TGt} {ds : List D} {ρ ρ' : Rho}, gTs gs ds ρ = some ρ' → ds.length = gs.length
  | [], [], _, _, _ => rfl
  | [], _ :: _, _, _, e => by simp [gTs] at e
  | _ :: _, [], _, _, e => by simp [gTs] at e
  | g :: gs, d :: ds, ρ, ρ', e => by
    simp only [gTs] at e
    split at e
    · simp [gTs_len e]
    · cases e
theorem gTup' (C : Fam X P w K mg base N lv) {es : List Expr} {k n : Nat} {js : List Nat} {gs : List TGt} (h : CGs X K es js n gs) (hn : ∀ i, (assignEach es (X i).env).length = n := by intro _; rfl)
    (hst : ∀ i, (assignEach es (X i).env).findIdx? (·.1) = none := by intro _; rfl) : CG X K (.Tuple es k pos) js (gTp gs) := by
  obtain ⟨t, h1, h2, h3⟩ := h
  refine ⟨gTup K n t, fun i => by have := pg_tup (pos := pos) (k := k) (C.c i) (h1 i) (hn i) (hst i); rw [C.k i] at this; exact this, fun pd F0 H0 F H ρ ρ' σ s d v o r e Q q => ?_⟩
  cases d <;> first | (cases e; done) | skip
  rename_i ds
  simp only [Rep] at r
  obtain ⟨a, xs, rfl, t1, _, r⟩ := r
  have e' : gTs gs ds ρ = some ρ' := e
  exact ⟨a, xs, rfl, sqT_mono o.fh t1, by rw [r.length, gTs_len e', h3], h2 pd F0 H0 F H ρ ρ' σ s ds xs o r e' Q q⟩
end

/-! ### comprehensions -/
def wipeR (ρ : Rho) : List Nat → Rho
  | [] => ρ
  | v :: vs => (wipeR ρ vs).set v .un
theorem Ok.wipe {K : PySem.W.Frag} {pd : Option PD} {F0 H0 F H : Hp} {ρ : Rho} {σ : L2.St} {s : DS} (o : Ok K pd F0 H0 F H ρ σ s) : ∀ vs : List Nat, Ok K pd F0 H0 F H (wipeR ρ vs) (L2.wipe σ vs) s
  | [] => o
  | v :: vs => (Ok.wipe o vs).forget
theorem wipe_get (σ : L2.St) : ∀ (vs : List Nat) (j : Nat), (L2.wipe σ vs)[j]? = if j ∈ vs then (if j < σ.length then some none else none) else σ[j]?
  | [], j => by simp [L2.wipe]
  | v :: vs, j => by
    unfold L2.wipe
    by_cases h : v = j
    · subst h
      rw [if_pos (by simp)]
      by_cases hl : v < σ.length
      · rw [if_pos hl, List.getElem?_set_self (by rw [wipe_length]; exact hl)]
      · rw [if_neg hl, List.getElem?_eq_none (by rw [List.length_set, wipe_length]; omega)]
    · rw [List.getElem?_set_ne h, wipe_get σ vs j]
      have : (j ∈ v :: vs) = (j ∈ vs) := by simp [Ne.symm h]
      simp only [this]
theorem wipe_eq {σ σ' : L2.St} {vs js : List Nat} (hs : ∀ j ∈ js, j ∈ vs) (hl : σ'.length = σ.length) (h : ∀ j, j ∉ js → σ'[j]? = (L2.wipe σ vs)[j]?) : L2.wipe σ' vs = L2.wipe σ vs := by
  refine List.ext_getElem? fun j => ?_
  rw [wipe_get, wipe_get]
  by_cases hj : j ∈ vs
  · rw [if_pos hj, if_pos hj, hl]
  · rw [if_neg hj, if_neg hj, h j fun z => hj (hs j z), wipe_get, if_neg hj]
def compM (gg : TGt) (ft : TF) (fe : EF) (ρ : Rho) : List D → M (List D)
  | [] => Mp []
  | x :: xs => match gg x ρ with
    | none => Mf
    | some ρ1 => Mb (ft ρ1) fun b => if b = true then Mb (fe ρ1) fun y => Mb (compM gg ft fe ρ xs) fun ys => Mp (y :: ys) else compM gg ft fe ρ xs
def oComp (fi : AF) (gg : TGt) (ft : TF) (fe : EF) (vs : List Nat) : AF := fun ρ => Mb (fi ρ) fun xs => compM gg ft fe (wipeR ρ vs) xs
def tYes' : TF := fun _ => Mp true
theorem semT_yes {K : PySem.W.Frag} : SemT K tYes tYes' := fun pd F0 H0 F H ρ σ s d s' o e Q q => by
  obtain ⟨rfl, rfl⟩ := Mp_eq e
  exact q F H (.refl o.fh) o.dok
section
variable {K : PySem.W.Frag}
theorem DOk.ne {pd : Option PD} {F H : Hp} {s : DS} {p : Addr} (d : DOk K pd F H s) (n : H p = none) : some p ≠ pp pd := by
  cases pd with
  | none => simp
  | some x =>
    intro e
    obtain ⟨_, _, h, _⟩ := d
    have e' : p = x.p := by simpa using e
    rw [← e', n] at h; cases h
theorem semO_comp {wi : TI} {tg : TG} {tt : TT} {te : TE} {vs js : List Nat} {fi : AF} {gg : TGt} {ft : TF} {fe : EF} (hi : SemIW K wi fi) (hg : SemG K tg js gg) (ht : SemT K tt ft) (he : SemE K te fe) (hj : ∀ j ∈ js, j ∈ vs) :
    SemO K (tLc wi tg tt te vs) (oComp fi gg ft fe vs) := fun pd F0 H0 F H ρ σ s ds s' o e Q q => by
  obtain ⟨items, s1, e1, e⟩ := Mb_eq e
  refine hi pd F0 H0 F H ρ σ s items s1 o e1 _ fun J F1 H1 x1 d1 wk A nA => ?_
  have o1 := o.step x1 d1
  have nF : F1 A = none := o1.fh.free nA
  have nH : H A = none := by
    cases hp : H A with
    | none => rfl
    | some u => exact absurd nA (x1.hd A (by rw [hp]; simp))
  have npd : some A ≠ pp pd := d1.ne nA
  obtain ⟨hsz, wk⟩ := wk
  refine ⟨fun i m Hc => i + m = items.length ∧ ∃ Fc sc accV accD rest, Ext pd F1 H1 Fc Hc ∧ DOk K pd Fc Hc sc ∧ Fc A = none ∧ Hc A = some (.lst accV) ∧ accD.length ≤ i ∧ RepL K pd Fc accD accV ∧
    compM gg ft fe (wipeR ρ vs) (items.drop i) sc = some (rest, s') ∧ ds = accD ++ rest, ⟨items.length, by simp, F1, s1, [], [], ds, (Ext.own o1.fh nA).lift, d1.grow (Ext.own o1.fh nA), nF, upd_same, Nat.le_refl _, .nil, e, rfl⟩, ?_⟩
  rintro i m Hc ⟨him, Fc, sc, accV, accD, rest, xc, dc, nA', hA, hlen, rc, ec, eds⟩
  by_cases hlt : i < items.length
  · have hd : items[i]? = some items[i] := List.getElem?_eq_getElem hlt
    have edrop : items.drop i = items[i] :: items.drop (i + 1) := List.drop_eq_getElem_cons hlt
    rw [edrop] at ec
    unfold compM at ec
    obtain ⟨w1, w2⟩ := (wk i Fc Hc xc).1 _ hd
    refine .inr ⟨w1, fun Hn => i + 1 + (m - 1) = items.length ∧ ∃ Fc sc accV accD rest', Ext pd F1 H1 Fc Hn ∧ DOk K pd Fc Hn sc ∧ Fc A = none ∧ Hn A = some (.lst accV) ∧ accD.length ≤ i + 1 ∧ RepL K pd Fc accD accV ∧
      compM gg ft fe (wipeR ρ vs) (items.drop (i + 1)) sc = some (rest', s') ∧ ds = accD ++ rest', fun Hn hn => ⟨m - 1, by omega, hn⟩, fun x H2 hy => ?_⟩
    obtain ⟨F2, x2, r2⟩ := w2 x H2 hy
    cases hgg : gg items[i] (wipeR ρ vs) with
    | none => rw [hgg] at ec; cases ec
    | some ρ1 =>
      rw [hgg] at ec
      obtain ⟨b, s2, e2, ec⟩ := Mb_eq (show Mb (ft ρ1) _ sc = _ from ec)
      have oc : Ok K pd F0 H0 F2 H2 (wipeR ρ vs) (L2.wipe σ vs) sc := ((o1.step xc dc).step (x2.lift (pd := pd)) (dc.grow x2)).wipe vs
      refine hg pd F0 H0 F2 H2 _ ρ1 _ sc _ x oc r2 hgg _ fun σ2 o2 k2 l2 => ⟨wipe_eq hj (by rw [l2, wipe_length]) k2, ?_⟩
      refine ht pd F0 H0 F2 H2 ρ1 σ2 sc b s2 o2 e2 _ fun F3 H3 x3 d3 => ?_
      have o3 := o2.step x3 d3
      have hA3 : H3 A = some (.lst accV) := x3.hh _ _ (x2.same _ _ hA) npd
      have nA3 : F3 A = none := x3.Fnone (x2.Fnone nA' (by rw [hA]; simp)) (by rw [x2.same _ _ hA]; simp)
      cases b with
      | false =>
        refine iteF ⟨by omega, F3, s2, accV, accD, rest, xc.trans (x2.lift.trans x3), d3, nA3, hA3, by omega, (rc.mono x2.ff).mono x3.ff, ec, eds⟩
      | true =>
        obtain ⟨y, s3, e3, ec⟩ := Mb_eq (show Mb (fe ρ1) _ s2 = _ from ec)
        obtain ⟨ys, s4, e4, ec⟩ := Mb_eq ec
        obtain ⟨rfl, rfl⟩ := Mp_eq ec
        refine iteT (he pd F0 H0 F3 H3 ρ1 σ2 s2 y s3 o3 e3 _ fun v F4 H4 x4 d4 r4 => ?_)
        have hA4 : H4 A = some (.lst accV) := x4.hh _ _ hA3 npd
        have nA4 : F4 A = none := x4.Fnone nA3 (by rw [hA3]; simp)
        have xx := xc.trans (x2.lift.trans (x3.trans x4))
        have rr : RepL K pd F4 accD accV := ((rc.mono x2.ff).mono x3.ff).mono x4.ff
        refine ⟨accV, hA4, ?_, by omega, F4, s3, accV ++ [v], accD ++ [y], ys, ⟨xx.ff, fun b u hb np => ?_, fun b hb => ?_, xx.nw, fun b u hb => ?_⟩, ?_, nA4, upd_same, by simp; omega, rr.append (.cons r4 .nil), e4, by rw [eds]; simp⟩
        · rw [rr.length]
          exact Nat.lt_of_le_of_lt hlen (Nat.lt_of_lt_of_le hlt hsz)
        · have hb' : b ≠ A := by rintro rfl; rw [nA] at hb; cases hb
          rw [upd_ne hb']; exact xx.hh b u hb np
        · by_cases hb' : b = A
          · subst hb'; rw [upd_same]; simp
          · rw [upd_ne hb']; exact xx.hd b hb
        · have hb' : b ≠ A := by rintro rfl; rw [nA4] at hb; cases hb
          rw [upd_ne hb']; exact xx.fh b u hb
        · cases pd with
          | none => trivial
          | some a =>
            obtain ⟨h1, h2, h3, h4⟩ := d4
            refine ⟨h1, h2, ?_, h4⟩
            rw [upd_ne (fun z => npd (by simp [z]))]
            exact h3
  · have ei : i = items.length := by omega
    refine .inl ⟨(wk i Fc Hc xc).2 ei, ?_⟩
    rw [ei, List.drop_length] at ec
    obtain ⟨rfl, rfl⟩ := Mp_eq ec
    rw [List.append_nil] at eds
    subst eds
    exact q A accV Fc Hc (x1.trans xc) dc nH nA' hA (Nat.le_trans hlen (by rw [ei]; exact hsz)) rc
end
end Pu
namespace Pu
open PySem PySem.Spec PyProof.Rows L2

/-! ### comprehensions as expressions -/
section
variable {ι : Type} {X : ι → Cx} {P : Program} {w : World} {K : PySem.W.Frag} {mg : Str → Option Value} {base : Heap} {N : List Str} {lv : Nat} {pos : Pos}
/-- the contexts of a comprehension's block -/
structure BlkI (ι : Type) where
  i : ι
  s : Shared
  H : Hp
  C : Addr
  cl : List (Str × Addr)
  fp : List Addr
abbrev blkF (X : ι → Cx) (scope : Scope) : BlkI ι → Cx := fun b => (X b.i).blk b.s b.H scope (compEnvC scope b.cl b.C (X b.i).env) b.fp
theorem Fam.blk (C : Fam X P w K mg base N lv) (scope : Scope) : Fam (blkF X scope) P w K mg base N lv :=
  ⟨fun b => C.p b.i, fun b => C.w b.i, fun b => C.k b.i, fun b => C.m b.i, fun b => C.b b.i, fun b => C.n b.i, fun b => C.c b.i, C.nd, fun b => C.r b.i⟩
theorem oLc (C : Fam X P w K mg base N lv) {elt tg iter : Expr} {ifs : List Expr} {scope : Scope} {js : List Nat} {fi : AF} {gg : TGt} {ft : TF} {fe : EF} (own : List (Str × Nat)) (hi : CIW X K tg iter fi) (ok : ∀ i, BlkOk N (X i).env.scope scope own)
    (hg : CG (blkF X scope) K tg js gg) (ht : ∃ t, (∀ b, PTs (blkF X scope b) ifs t) ∧ SemT K t ft) (he : CE (blkF X scope) K elt fe) (hj : ∀ j ∈ js, j ∈ own.map (·.2) := by decide) (hs : ∀ i, ∀ x, foldedSetIterable iter (X i).env x = pure x := by intro _ _; rfl) :
    CO X K (.ListComp elt [⟨tg, iter, ifs, 0⟩] scope pos) (oComp fi gg ft fe (own.map (·.2))) := by
  obtain ⟨wi, i1, i2⟩ := hi
  obtain ⟨g, g1, g2⟩ := hg
  obtain ⟨tt, t1, t2⟩ := ht
  obtain ⟨te, e1, e2⟩ := he
  exact ⟨_, fun i => pe_lc (own := own) (C.c i) (by rw [C.n i]; exact C.nd) (i1 i) (by rw [C.n i]; exact ok i) (fun s H Cc cl fp => g1 ⟨i, s, H, Cc, cl, fp⟩) (fun s H Cc cl fp => t1 ⟨i, s, H, Cc, cl, fp⟩) (fun s H Cc cl fp => e1 ⟨i, s, H, Cc, cl, fp⟩) (hs i), semO_comp i2 g2 t2 e2 hj⟩
theorem ctNone {ι : Type} {X : ι → Cx} : ∃ t, (∀ b, PTs (X b) [] t) ∧ SemT K t tYes' := ⟨_, fun _ => pts_nil, semT_yes⟩
theorem ctOne {ι : Type} {X : ι → Cx} {c : Expr} {ft : TF} (h : CT X K c ft) : ∃ t, (∀ b, PTs (X b) [c] t) ∧ SemT K t ft := let ⟨t, h1, h2⟩ := h; ⟨t, fun b => pts_one (h1 b), h2⟩
end

/-! ### statements -/
inductive Res where
  | nx | rt (d : D) | bk | ct
abbrev SF := Rho → M (Res × Rho)
def PostS (K : PySem.W.Frag) (pd : Option PD) (F0 H0 F : Hp) (ρ' : Rho) (s' : DS) : Res → Ends → Prop
  | .nx, E => ∀ σ' F' H', Same F F' → Ok K pd F0 H0 F' H' ρ' σ' s' → E.nx σ' H'
  | .bk, E => ∀ σ' F' H', Same F F' → Ok K pd F0 H0 F' H' ρ' σ' s' → E.bk σ' H'
  | .ct, E => ∀ σ' F' H', Same F F' → Ok K pd F0 H0 F' H' ρ' σ' s' → E.ct σ' H'
  | .rt d, E => ∀ v F' H', Ext pd F0 H0 F' H' → DOk K pd F' H' s' → Rep K pd F' d v → E.rt v H'
def SemS (K : PySem.W.Frag) (t : TS) (g : SF) : Prop := ∀ (pd : Option PD) (F0 H0 F H : Hp) (ρ : Rho) (σ : L2.St) (s : DS) (r : Res) (ρ' : Rho) (s' : DS), Ok K pd F0 H0 F H ρ σ s → g ρ s = some ((r, ρ'), s') →
  ∀ E : Ends, PostS K pd F0 H0 F ρ' s' r E → t E σ H
section
variable {ι : Type}
def CS (X : ι → Cx) (K : PySem.W.Frag) (st : Stmt) (g : SF) : Prop := ∃ t, (∀ i, PS (X i) st t) ∧ SemS K t g
def CSs (X : ι → Cx) (K : PySem.W.Frag) (st : List Stmt) (g : SF) : Prop := ∃ t, (∀ i, PSs (X i) st t) ∧ SemS K t g
end
theorem PostS.from {K : PySem.W.Frag} {pd : Option PD} {F0 H0 F F1 : Hp} {ρ' : Rho} {s' : DS} {r : Res} {E : Ends} (h : Same F F1) (p : PostS K pd F0 H0 F ρ' s' r E) : PostS K pd F0 H0 F1 ρ' s' r E := by
  cases r with
  | nx => exact fun σ' F' H' a b => p σ' F' H' (h.trans a) b
  | bk => exact fun σ' F' H' a b => p σ' F' H' (h.trans a) b
  | ct => exact fun σ' F' H' a b => p σ' F' H' (h.trans a) b
  | rt d => exact p

def sNext : SF := fun ρ => Mp (.nx, ρ)
def sFail : SF := fun _ => Mf
def sBreak : SF := fun ρ => Mp (.bk, ρ)
def sCont : SF := fun ρ => Mp (.ct, ρ)
def sSeq (a b : SF) : SF := fun ρ => Mb (a ρ) fun r => match r with
  | (.nx, ρ') => b ρ'
  | r => Mp r
def sSet (i : Nat) (f : EF) : SF := fun ρ => Mb (f ρ) fun d => Mp (.nx, ρ.set i (.sh d))
def sOwn (i : Nat) (f : AF) : SF := fun ρ => Mb (f ρ) fun ds => Mp (.nx, ρ.set i (.ow ds))
def sDrop (f : EF) : SF := fun ρ => Mb (f ρ) fun _ => Mp (.nx, ρ)
def sRet (f : EF) : SF := fun ρ => Mb (f ρ) fun d => Mp (.rt d, ρ)
def sRetN : SF := fun ρ => Mp (.rt .non, ρ)
def onOw {α : Type} (o : Option Slot) (k : List D → M α) : M α := match o with
  | some (.ow ds) => k ds
  | _ => Mf
def onSh {α : Type} (o : Option Slot) (k : D → M α) : M α := match o with
  | some (.sh d) => k d
  | _ => Mf
def onInt {α : Type} (d : D) (k : Int → M α) : M α := match d with
  | .int i => k i
  | _ => Mf
def onLst {α : Type} (d : D) (k : List D → M α) : M α := match d with
  | .lst i => k i
  | _ => Mf
def onSome {α β : Type} (o : Option β) (k : β → M α) : M α := match o with
  | some x => k x
  | none => Mf
section
variable {α β : Type}
@[simp] theorem onOw_ow (ds : List D) (k : List D → M α) : onOw (some (.ow ds)) k = k ds := rfl
@[simp] theorem onSh_sh (d : D) (k : D → M α) : onSh (some (.sh d)) k = k d := rfl
@[simp] theorem onInt_int (d : Int) (k : Int → M α) : onInt (.int d) k = k d := rfl
@[simp] theorem onLst_lst (d : List D) (k : List D → M α) : onLst (.lst d) k = k d := rfl
@[simp] theorem onSome_some (d : β) (k : β → M α) : onSome (some d) k = k d := rfl
@[simp] theorem onSome_none (k : β → M α) : onSome none k = Mf := rfl
theorem onOw_eq {o : Option Slot} {k : List D → M α} {s s' : DS} {a : α} (e : onOw o k s = some (a, s')) : ∃ ds, o = some (.ow ds) ∧ k ds s = some (a, s') := by
  cases o with
  | none => cases e
  | some x => cases x <;> first | (cases e; done) | exact ⟨_, rfl, e⟩
theorem onSh_eq {o : Option Slot} {k : D → M α} {s s' : DS} {a : α} (e : onSh o k s = some (a, s')) : ∃ d, o = some (.sh d) ∧ k d s = some (a, s') := by
  cases o with
  | none => cases e
  | some x => cases x <;> first | (cases e; done) | exact ⟨_, rfl, e⟩
theorem onInt_eq {d : D} {k : Int → M α} {s s' : DS} {a : α} (e : onInt d k s = some (a, s')) : ∃ i, d = .int i ∧ k i s = some (a, s') := by
  cases d <;> first | (cases e; done) | exact ⟨_, rfl, e⟩
theorem onLst_eq {d : D} {k : List D → M α} {s s' : DS} {a : α} (e : onLst d k s = some (a, s')) : ∃ i, d = .lst i ∧ k i s = some (a, s') := by
  cases d <;> first | (cases e; done) | exact ⟨_, rfl, e⟩
theorem onSome_eq {d : Option β} {k : β → M α} {s s' : DS} {a : α} (e : onSome d k s = some (a, s')) : ∃ i, d = some i ∧ k i s = some (a, s') := by
  cases d <;> first | (cases e; done) | exact ⟨_, rfl, e⟩
end
def sTo (g : TGt) (f : EF) : SF := fun ρ => Mb (f ρ) fun d => onSome (g d ρ) fun ρ' => Mp (.nx, ρ')
def sRetOw (i : Nat) : SF := fun ρ => onOw ρ[i]? fun ds => Mp (.rt (.lst ds), ρ)
def sMove (i j : Nat) : SF := fun ρ => onOw ρ[i]? fun ds => Mp (.nx, (ρ.set i (.sh (.lst ds))).set j (.sh (.lst ds)))
def sIf (t : TF) (a b : SF) : SF := fun ρ => Mb (t ρ) fun k => if k = true then a ρ else b ρ
def sAug (i : Nat) (g : D → D → Option D) (f : EF) : SF := fun ρ => onSh ρ[i]? fun x => Mb (f ρ) fun y => Mb (Mo (g x y)) fun z => Mp (.nx, ρ.set i (.sh z))
/-- an own list changed by a method -/
def sMeth (i : Nat) (u : List D → D → Option (List D)) (f : EF) : SF := fun ρ => Mb (f ρ) fun d => onOw ρ[i]? fun ds => onSome (u ds d) fun es => Mp (.nx, ρ.set i (.ow es))
def appU (ds : List D) (d : D) : Option (List D) := if ds.length < SZ then some (ds ++ [d]) else none
def extU (ds : List D) (d : D) : Option (List D) := match d with
  | .lst es => if ds.length + es.length ≤ SZ then some (ds ++ es) else none
  | _ => none
def sPut (i : Nat) (fk f : EF) : SF := fun ρ => Mb (f ρ) fun d => Mb (fk ρ) fun k => onOw ρ[i]? fun ds => onInt k fun k => onSome (ixN ds.length k) fun j => Mp (.nx, ρ.set i (.ow (ds.set j d)))
def sAugIx (i : Nat) (g : D → D → Option D) (fk f : EF) : SF := fun ρ => Mb (fk ρ) fun k => onOw ρ[i]? fun ds => onInt k fun k => onSome (ixN ds.length k) fun j => onSome ds[j]? fun x =>
  Mb (f ρ) fun y => Mb (Mo (g x y)) fun z => Mp (.nx, ρ.set i (.ow (ds.set j z)))
def loopM (g : TGt) (body : SF) : List D → SF
  | [], ρ => Mp (.nx, ρ)
  | x :: xs, ρ => match g x ρ with
    | none => Mf
    | some ρ1 => Mb (body ρ1) fun r => match r with
      | (.nx, ρ2) => loopM g body xs ρ2
      | (.ct, ρ2) => loopM g body xs ρ2
      | (.bk, ρ2) => Mp (.nx, ρ2)
      | (.rt d, ρ2) => Mp (.rt d, ρ2)
def sFor (fi : AF) (g : TGt) (body : SF) : SF := fun ρ => Mb (fi ρ) fun xs => loopM g body xs ρ
def whileM (t : TF) (body : SF) : Nat → SF
  | 0, _ => Mf
  | n + 1, ρ => Mb (t ρ) fun k => if k = true then Mb (body ρ) fun r => match r with
      | (.nx, ρ2) => whileM t body n ρ2
      | (.ct, ρ2) => whileM t body n ρ2
      | (.bk, ρ2) => Mp (.nx, ρ2)
      | (.rt d, ρ2) => Mp (.rt d, ρ2)
    else Mp (.nx, ρ)
/-- how many turns a while may take -/
def FUEL : Nat := 2 ^ 40
def sWhile (t : TF) (body : SF) : SF := whileM t body FUEL

section
variable {K : PySem.W.Frag} {pd : Option PD} {F0 H0 F H F' H' : Hp} {ρ : Rho} {σ : L2.St} {s s' : DS}
/-- an owned list gets a new content -/
theorem Ok.upd {i : Nat} {es es' : List D} {p : Addr} {ys : List V} (o : Ok K pd F0 H0 F H ρ σ s) (h : ρ[i]? = some (.ow es)) (hp : σ[i]? = some (some (.ref p))) (hl : es'.length ≤ SZ) (r : RepL K pd F es' ys) :
    Ok K pd F0 H0 F (L2.upd H p (.lst ys)) (ρ.set i (.ow es')) σ s := by
  obtain ⟨q, h1, p', xs, rfl, h2, h3, h4, h5, h6, h7⟩ := o.env.at' i _ h
  rw [hp] at h1; cases h1
  refine ⟨⟨o.ext.ff, fun a u e n => ?_, fun a e => ?_, o.ext.nw, fun a u e => ?_⟩, ⟨by simp [o.env.len], fun j sl e => ?_, fun j k as bs q hjk e1 e2 e3 => ?_⟩, ?_⟩
  · have : a ≠ p := by rintro rfl; rw [h3] at e; cases e
    rw [upd_ne this]; exact o.ext.hh a u e n
  · by_cases ha : a = p
    · subst ha; rw [upd_same]; simp
    · rw [upd_ne ha]; exact o.ext.hd a e
  · have : a ≠ p := by rintro rfl; rw [h2] at e; cases e
    rw [upd_ne this]; exact o.ext.fh a u e
  · by_cases hj : i = j
    · subst hj
      have hl' : i < ρ.length := by have := (List.getElem?_eq_some_iff.mp e).1; simpa using this
      rw [List.getElem?_set_self hl'] at e
      cases e
      exact ⟨_, hp, p, ys, rfl, h2, h3, h4, upd_same, hl, r⟩
    · rw [List.getElem?_set_ne hj] at e
      obtain ⟨q, e1, e2⟩ := o.env.at' j sl e
      refine ⟨q, e1, ?_⟩
      cases sl with
      | un => trivial
      | sh d => exact e2
      | ow fs =>
        obtain ⟨p', xs', rfl, a2, a3, a4, a5, a6, a7⟩ := e2
        have : p' ≠ p := by
          rintro rfl
          exact o.env.ap i j es fs p' hj h e hp e1
        exact ⟨p', xs', rfl, a2, a3, a4, by rw [upd_ne this]; exact a5, a6, a7⟩
  · by_cases hj : i = j
    · subst hj
      have hk : i ≠ k := hjk
      rw [List.getElem?_set_ne hk] at e2
      exact o.env.ap i k es bs q hk h e2 e3
    · rw [List.getElem?_set_ne hj] at e1
      by_cases hk : i = k
      · subst hk
        exact o.env.ap j i as es q hjk e1 h e3
      · rw [List.getElem?_set_ne hk] at e2
        exact o.env.ap j k as bs q hjk e1 e2 e3
  · have d := o.dok
    cases pd with
    | none => trivial
    | some x =>
      obtain ⟨d1, d2, d3, d4⟩ := d
      refine ⟨d1, d2, ?_, d4⟩
      rw [upd_ne (fun z => h4 (by simp [z]))]
      exact d3
/-- an owned list becomes known to all -/
theorem Ok.freeze {i : Nat} {es : List D} (o : Ok K pd F0 H0 F H ρ σ s) (h : ρ[i]? = some (.ow es)) : ∃ p F', σ[i]? = some (some (.ref p)) ∧ Same F F' ∧ Ok K pd F0 H0 F' H (ρ.set i (.sh (.lst es))) σ s ∧ Rep K pd F' (.lst es) (.ref p) := by
  obtain ⟨q, h1, p, xs, rfl, h2, h3, h4, h5, h6, h7⟩ := o.env.at' i _ h
  have f1 : Same F (L2.upd F p (.lst xs)) := same_upd h2
  have rr : Rep K pd (L2.upd F p (.lst xs)) (.lst es) (.ref p) := by
    simp only [Rep]
    exact ⟨p, xs, rfl, upd_same, h6, h7.mono f1⟩
  refine ⟨p, _, h1, f1, ⟨⟨o.ext.ff.trans f1, o.ext.hh, o.ext.hd, fun a u e => ?_, fun a u e => ?_⟩, ⟨by simp [o.env.len], fun j sl e => ?_, fun j k as bs q hjk e1 e2 e3 => ?_⟩, ?_⟩, rr⟩
  · by_cases ha : a = p
    · subst ha; exact .inr h3
    · rw [upd_ne ha] at e; exact o.ext.nw a u e
  · by_cases ha : a = p
    · subst ha; rw [upd_same] at e; cases e; exact h5
    · rw [upd_ne ha] at e; exact o.ext.fh a u e
  · by_cases hj : i = j
    · subst hj
      have hl' : i < ρ.length := by have := (List.getElem?_eq_some_iff.mp e).1; simpa using this
      rw [List.getElem?_set_self hl'] at e
      cases e
      exact ⟨_, h1, _, rfl, rr⟩
    · rw [List.getElem?_set_ne hj] at e
      obtain ⟨q, e1, e2⟩ := o.env.at' j sl e
      refine ⟨q, e1, ?_⟩
      cases sl with
      | un => trivial
      | sh d => obtain ⟨x, a1, a2⟩ := e2; exact ⟨x, a1, a2.mono f1⟩
      | ow fs =>
        obtain ⟨p', xs', rfl, a2, a3, a4, a5, a6, a7⟩ := e2
        have : p' ≠ p := by
          rintro rfl
          exact o.env.ap i j es fs p' hj h e h1 e1
        exact ⟨p', xs', rfl, by rw [upd_ne this]; exact a2, a3, a4, a5, a6, a7.mono f1⟩
  · have a1 : i ≠ j := by
      rintro rfl
      have hl' : i < ρ.length := by have := (List.getElem?_eq_some_iff.mp e1).1; simpa using this
      rw [List.getElem?_set_self hl'] at e1; cases e1
    have a2 : i ≠ k := by
      rintro rfl
      have hl' : i < ρ.length := by have := (List.getElem?_eq_some_iff.mp e2).1; simpa using this
      rw [List.getElem?_set_self hl'] at e2; cases e2
    rw [List.getElem?_set_ne a1] at e1
    rw [List.getElem?_set_ne a2] at e2
    exact o.env.ap j k as bs q hjk e1 e2 e3
  · have d := o.dok
    cases pd with
    | none => trivial
    | some x =>
      obtain ⟨d1, d2, d3, d4⟩ := d
      refine ⟨?_, d2, d3, f1 _ _ d4⟩
      rw [upd_ne (fun z => h4 (by simp [z]))]
      exact d1
end

section
variable {ι : Type} {X : ι → Cx} {P : Program} {w : World} {K : PySem.W.Frag} {mg : Str → Option Value} {base : Heap} {N : List Str} {lv : Nat} {pos : Pos} {st : Stmt} {rest : List Stmt} {e : Expr} {f fk : EF} {g g' : SF}
theorem ssNil : CSs X K [] sNext := ⟨_, fun _ => pss_nil, fun pd F0 H0 F H ρ σ s r ρ' s' o e E q => by cases Mp_eq e with | intro a b => cases a; cases b; exact q σ F H (Same.refl _) o⟩
theorem ssCons (h : CS X K st g) (h' : CSs X K rest g') : CSs X K (st :: rest) (sSeq g g') := by
  obtain ⟨t, h1, h2⟩ := h
  obtain ⟨u, u1, u2⟩ := h'
  refine ⟨_, fun i => pss_cons (h1 i) (u1 i), fun pd F0 H0 F H ρ σ s r ρ' s' o e E q => ?_⟩
  obtain ⟨⟨r1, ρ1⟩, s1, e1, e2⟩ := Mb_eq e
  refine h2 pd F0 H0 F H ρ σ s r1 ρ1 s1 o e1 _ ?_
  cases r1 with
  | nx => exact fun σ' F' H' a b => u2 pd F0 H0 F' H' ρ1 σ' s1 r ρ' s' b e2 E (q.from a)
  | bk => obtain ⟨a, rfl⟩ := Mp_eq e2; cases a; exact q
  | ct => obtain ⟨a, rfl⟩ := Mp_eq e2; cases a; exact q
  | rt d => obtain ⟨a, rfl⟩ := Mp_eq e2; cases a; exact q
theorem ssOne (h : CS X K st g) : CSs X K [st] g := by
  obtain ⟨t, h1, h2⟩ := h
  exact ⟨_, fun i => pss_one (h1 i), h2⟩
theorem cPass : CS X K (.Pass pos) sNext := ⟨_, fun _ => ps_pass, fun pd F0 H0 F H ρ σ s r ρ' s' o e E q => by cases Mp_eq e with | intro a b => cases a; cases b; exact q σ F H (Same.refl _) o⟩
theorem cBreak : CS X K (.Break pos) sBreak := ⟨_, fun _ => ps_break, fun pd F0 H0 F H ρ σ s r ρ' s' o e E q => by cases Mp_eq e with | intro a b => cases a; cases b; exact q σ F H (Same.refl _) o⟩
theorem cCont : CS X K (.Continue pos) sCont := ⟨_, fun _ => ps_continue, fun pd F0 H0 F H ρ σ s r ρ' s' o e E q => by cases Mp_eq e with | intro a b => cases a; cases b; exact q σ F H (Same.refl _) o⟩
theorem cNever : CS X K st sFail := ⟨_, fun _ => ps_never, fun pd F0 H0 F H ρ σ s r ρ' s' o e E q => (Mf_eq e).elim⟩
theorem cRet (h : CE X K e f) : CS X K (.Return (some e) pos) (sRet f) := by
  obtain ⟨t, h1, h2⟩ := h
  refine ⟨_, fun i => ps_ret (h1 i), fun pd F0 H0 F H ρ σ s r ρ' s' o e E q => ?_⟩
  obtain ⟨d, s1, e1, e2⟩ := Mb_eq e
  obtain ⟨a, rfl⟩ := Mp_eq e2
  cases a
  exact h2 pd F0 H0 F H _ σ s d _ o e1 _ fun v F' H' x d' r => q v F' H' (o.ext.trans x) d' r
theorem cRetN : CS X K (.Return none pos) sRetN := ⟨_, fun _ => ps_retN, fun pd F0 H0 F H ρ σ s r ρ' s' o e E q => by
  obtain ⟨a, rfl⟩ := Mp_eq e
  cases a
  exact q _ F H o.ext o.dok (by simp [Rep])⟩
theorem cRetOw (C : Fam X P w K mg base N lv) (i : Nat) {x : Str} {p2 : Pos} (hN : N[i]? = some x := by rfl) (hv : ∀ j, Vis (X j).env.scope x := by intro _; first | exact Or.inl rfl | exact Or.inr (Or.inl rfl) | exact Or.inr (Or.inr rfl))
    (hd : (x == ("__debug__" : Str)) = false := by decide) (hcd : (x == ("__classdict__" : Str)) = false := by decide) : CS X K (.Return (some (.Name x p2)) pos) (sRetOw i) := by
  refine ⟨_, fun j => ps_ret (pe_var (by rw [C.n j]; exact hN) (hv j) hd hcd), fun pd F0 H0 F H ρ σ s r ρ' s' o e E q => ?_⟩
  obtain ⟨ds, h, e⟩ := onOw_eq e
  obtain ⟨a, rfl⟩ := Mp_eq e
  cases a
  obtain ⟨p, F', h1, f1, o', rr⟩ := o.freeze h
  exact ⟨_, h1, q _ F' H o'.ext o'.dok rr⟩
theorem cExpr (h : CE X K e f) (hs : ∀ i, swapsWith e none pos.line (X i).env = pure false := by intro _; rfl) : CS X K (.Expr e pos) (sDrop f) := by
  obtain ⟨t, h1, h2⟩ := h
  refine ⟨_, fun i => ps_expr (h1 i) (hs i), fun pd F0 H0 F H ρ σ s r ρ' s' o e E q => ?_⟩
  obtain ⟨d, s1, e1, e2⟩ := Mb_eq e
  obtain ⟨a, rfl⟩ := Mp_eq e2
  cases a
  exact h2 pd F0 H0 F H _ σ s d _ o e1 _ fun v F' H' x d' r => q σ F' H' x.ff (o.step x d')
theorem cIfS {c : Expr} {a b : List Stmt} {ft : TF} (hc : CT X K c ft) (ha : CSs X K a g) (hb : CSs X K b g') : CS X K (.If c a b pos) (sIf ft g g') := by
  obtain ⟨t, h1, h2⟩ := hc
  obtain ⟨ta, a1, a2⟩ := ha
  obtain ⟨tb, b1, b2⟩ := hb
  refine ⟨_, fun i => ps_if (h1 i) (a1 i) (b1 i), fun pd F0 H0 F H ρ σ s r ρ' s' o e E q => ?_⟩
  obtain ⟨k, s1, e1, e2⟩ := Mb_eq e
  refine h2 pd F0 H0 F H ρ σ s k s1 o e1 _ fun F1 H1 x1 d1 => ?_
  cases k with
  | true => exact iteT (a2 pd F0 H0 F1 H1 ρ σ s1 r ρ' s' (o.step x1 d1) e2 E (q.from x1.ff))
  | false => exact iteF (b2 pd F0 H0 F1 H1 ρ σ s1 r ρ' s' (o.step x1 d1) e2 E (q.from x1.ff))
theorem cSet (C : Fam X P w K mg base N lv) (i : Nat) {x : Str} {p2 : Pos} (h : CE X K e f) (hi : N[i]? = some x := by rfl) (hx : ∀ j, Loc (X j).env.scope x := by intro _; first | exact Or.inl rfl | exact Or.inr rfl)
    (hs : ∀ j, swapsWith e (some (.Name x p2)) pos.line (X j).env = pure false := by intro _; rfl) (hf : ∀ j, (X j).fn x = true ∨ (X j).env.scope.names.lookup x = some .local := by intro _; first | exact Or.inl rfl | exact Or.inr rfl) :
    CS X K (.Assign [.Name x p2] e pos) (sSet i f) := by
  obtain ⟨t, h1, h2⟩ := h
  refine ⟨_, fun j => ps_set (by rw [C.n j]; exact C.nd) (by rw [C.n j]; exact hi) (hx j) (h1 j) (hs j) (hf j), fun pd F0 H0 F H ρ σ s r ρ' s' o e E q => ?_⟩
  obtain ⟨d, s1, e1, e2⟩ := Mb_eq e
  obtain ⟨a, rfl⟩ := Mp_eq e2
  cases a
  exact h2 pd F0 H0 F H _ σ s d _ o e1 _ fun v F' H' x d' r => q _ F' H' x.ff ((o.step x d').set r)
theorem semS_own {i : Nat} {te : TE} {fo : AF} (h2 : SemO K te fo) : SemS K (tAsg te (gName i)) (sOwn i fo) := fun pd F0 H0 F H ρ σ s r ρ' s' o e E q => by
  obtain ⟨d, s1, e1, e2⟩ := Mb_eq e
  obtain ⟨a, rfl⟩ := Mp_eq e2
  cases a
  refine h2 pd F0 H0 F H _ σ s d _ o e1 _ fun p xs F' H' x d' n1 n2 l z r => q _ F' H' x.ff ?_
  have o' := o.step x d'
  have n0 : H0 p = none := by
    cases hp : H0 p with
    | none => rfl
    | some u => exact absurd n1 (o.ext.hd p (by rw [hp]; simp))
  refine o'.setOw n2 n0 (o.dok.ne n1) l z r fun j fs hj e1 e2 => ?_
  obtain ⟨q, a1, p', xs', rfl, a2, a3, a4, a5, _⟩ := o.env.at' j _ e1
  rw [a1] at e2
  cases e2
  rw [n1] at a5; cases a5
theorem cOwn (C : Fam X P w K mg base N lv) (i : Nat) {x : Str} {p2 : Pos} {fo : AF} (h : CO X K e fo) (hi : N[i]? = some x := by rfl) (hx : ∀ j, Loc (X j).env.scope x := by intro _; first | exact Or.inl rfl | exact Or.inr rfl)
    (hs : ∀ j, swapsWith e (some (.Name x p2)) pos.line (X j).env = pure false := by intro _; rfl) (hf : ∀ j, (X j).fn x = true ∨ (X j).env.scope.names.lookup x = some .local := by intro _; first | exact Or.inl rfl | exact Or.inr rfl) :
    CS X K (.Assign [.Name x p2] e pos) (sOwn i fo) := by
  obtain ⟨t, h1, h2⟩ := h
  exact ⟨_, fun j => ps_set (by rw [C.n j]; exact C.nd) (by rw [C.n j]; exact hi) (hx j) (h1 j) (hs j) (hf j), semS_own h2⟩
theorem cTo {tg : Expr} {js : List Nat} {gg : TGt} (h : CE X K e f) (hg : CG X K tg js gg) (hs : ∀ j, swapsWithSole [tg] e pos.line (X j).env = pure false := by intro _; rfl) (hw : ∀ j, swappedStores [tg] e (X j).env = pure none := by intro _; rfl)
    (h1 : ∀ j, (assignEach [tg] (X j).env).map (·.2) = [assign tg (X j).env] := by intro _; rfl) : CS X K (.Assign [tg] e pos) (sTo gg f) := by
  obtain ⟨t, e1, e2⟩ := h
  obtain ⟨tg', g1, g2⟩ := hg
  refine ⟨_, fun j => ps_asg (e1 j) (g1 j) (hs j) (hw j) (h1 j), fun pd F0 H0 F H ρ σ s r ρ' s' o e E q => ?_⟩
  obtain ⟨d, s1, a1, a2⟩ := Mb_eq e
  obtain ⟨ρ1, hρ, a2⟩ := onSome_eq a2
  obtain ⟨a, rfl⟩ := Mp_eq a2
  cases a
  refine e2 pd F0 H0 F H _ σ s d _ o a1 _ fun v F' H' x d' r => ?_
  exact g2 pd F0 H0 F' H' _ _ σ _ d v (o.step x d') r hρ _ fun σ' o' _ _ => q σ' F' H' x.ff o'
theorem cMove (C : Fam X P w K mg base N lv) (i j : Nat) {x y : Str} {p2 p3 : Pos} (hN : N[i]? = some x := by rfl) (hv : ∀ k, Vis (X k).env.scope x := by intro _; first | exact Or.inl rfl | exact Or.inr (Or.inl rfl) | exact Or.inr (Or.inr rfl))
    (hi : N[j]? = some y := by rfl) (hx : ∀ k, Loc (X k).env.scope y := by intro _; first | exact Or.inl rfl | exact Or.inr rfl)
    (hd : (x == ("__debug__" : Str)) = false := by decide) (hcd : (x == ("__classdict__" : Str)) = false := by decide)
    (hs : ∀ k, swapsWith (.Name x p3) (some (.Name y p2)) pos.line (X k).env = pure false := by intro _; rfl) (hf : ∀ k, (X k).fn y = true ∨ (X k).env.scope.names.lookup y = some .local := by intro _; first | exact Or.inl rfl | exact Or.inr rfl) :
    CS X K (.Assign [.Name y p2] (.Name x p3) pos) (sMove i j) := by
  refine ⟨_, fun k => ps_set (by rw [C.n k]; exact C.nd) (by rw [C.n k]; exact hi) (hx k) (pe_var (by rw [C.n k]; exact hN) (hv k) hd hcd) (hs k) (hf k), fun pd F0 H0 F H ρ σ s r ρ' s' o e E q => ?_⟩
  obtain ⟨ds, h, e⟩ := onOw_eq e
  obtain ⟨a, rfl⟩ := Mp_eq e
  cases a
  obtain ⟨p, F', h1, f1, o', rr⟩ := o.freeze h
  exact ⟨_, h1, q _ F' H f1 (o'.set rr)⟩
theorem cAug (C : Fam X P w K mg base N lv) (i : Nat) {x : Str} {p2 : Pos} {op : Operator} {r : R2} {gg : D → D → Option D} (ho : ∀ j, OpR (X j) (inplaceOp op) r) (hv : V2 K r gg) (h : CE X K e f) (hi : N[i]? = some x := by rfl)
    (hx : ∀ j, Loc (X j).env.scope x := by intro _; first | exact Or.inl rfl | exact Or.inr rfl) (hf : ∀ j, (X j).fn x = true ∨ (X j).env.scope.names.lookup x = some .local := by intro _; first | exact Or.inl rfl | exact Or.inr rfl) :
    CS X K (.AugAssign (.Name x p2) op e pos) (sAug i gg f) := by
  obtain ⟨t, h1, h2⟩ := h
  refine ⟨_, fun j => ps_aug (by rw [C.n j]; exact C.nd) (by rw [C.n j]; exact hi) (hx j) (h1 j) (ho j) (hf j), fun pd F0 H0 F H ρ σ s r ρ' s' o e E q => ?_⟩
  obtain ⟨xd, hxd, e⟩ := onSh_eq e
  obtain ⟨y, s1, e1, e⟩ := Mb_eq e
  obtain ⟨z, s2, e0, e⟩ := Mb_eq e
  obtain ⟨e2, rfl⟩ := Mo_eq e0
  obtain ⟨a, rfl⟩ := Mp_eq e
  cases a
  obtain ⟨xv, a1, a2⟩ := o.sh hxd
  refine ⟨xv, a1, h2 pd F0 H0 F H _ σ s y _ o e1 _ fun v F1 H1 x1 d1 r1 => ?_⟩
  have o1 := o.step x1 d1
  exact hv pd F1 H1 xd y z xv v o1.fh (.inl (a2.mono x1.ff)) (.inl r1) e2 _ fun u F2 H2 x2 r2 => q _ F2 H2 (x1.ff.trans x2.ff) ((o1.step x2.lift (d1.grow x2)).set r2)
theorem semS_never : SemS K tNever sFail := fun pd F0 H0 F H ρ σ s r ρ' s' o e E q => (Mf_eq e).elim
/-! loops -/
theorem semS_for {wi : TI} {tg : TG} {tb : TS} {fi : AF} {gg : TGt} {js : List Nat} {body : SF} (hi : SemI K wi fi) (hg : SemG K tg js gg) (hb : SemS K tb body) : SemS K (tFor wi tg tb) (sFor fi gg body) := fun pd F0 H0 F H ρ σ s r ρ' s' o e E q => by
  obtain ⟨items, s1, e1, e⟩ := Mb_eq e
  refine hi pd F0 H0 F H ρ σ s items s1 o e1 _ fun J F1 H1 x1 d1 wk => ?_
  obtain ⟨hsz, wk⟩ := wk
  have q1 := q.from x1.ff
  refine ⟨fun i m σc Hc => i + m = items.length ∧ ∃ Fc ρc sc, Same F1 Fc ∧ Ok K pd F0 H0 Fc Hc ρc σc sc ∧ loopM gg body (items.drop i) ρc sc = some ((r, ρ'), s'), ⟨items.length, by simp, F1, ρ, s1, Same.refl _, o.step x1 d1, e⟩, ?_⟩
  rintro i m σc Hc ⟨him, Fc, ρc, sc, fc, oc, ec⟩
  by_cases hlt : i < items.length
  · have hd : items[i]? = some items[i] := List.getElem?_eq_getElem hlt
    rw [List.drop_eq_getElem_cons hlt] at ec
    unfold loopM at ec
    obtain ⟨w1, w2⟩ := (wk i Fc Hc fc oc.fh).1 _ hd
    refine .inr ⟨w1, ?_⟩
    cases hgg : gg items[i] ρc with
    | none => rw [hgg] at ec; exact (Mf_eq ec).elim
    | some ρ1 =>
      rw [hgg] at ec
      obtain ⟨⟨r1, ρ2⟩, s2, e2, ec⟩ := Mb_eq ec
      refine ⟨fun σn Hn => (r1 = .nx ∨ r1 = .ct) ∧ i + 1 + (m - 1) = items.length ∧ ∃ Fn, Same F1 Fn ∧ Ok K pd F0 H0 Fn Hn ρ2 σn s2, fun σn Hn ⟨h1, h2, Fn, h3, h4⟩ => ⟨m - 1, by omega, h2, Fn, ρ2, s2, h3, h4, ?_⟩, fun x H2 hy => ?_⟩
      · rcases h1 with rfl | rfl <;> exact ec
      · obtain ⟨F2, x2, r2⟩ := w2 x H2 hy
        have o2 := oc.step (x2.lift (pd := pd)) (oc.dok.grow x2)
        refine hg pd F0 H0 F2 H2 ρc ρ1 σc sc _ x o2 r2 hgg _ fun σ3 o3 _ _ => ?_
        refine hb pd F0 H0 F2 H2 ρ1 σ3 sc r1 ρ2 s2 o3 e2 _ ?_
        cases r1 with
        | nx => exact fun σn Fn Hn a b => ⟨.inl rfl, by omega, Fn, fc.trans (x2.ff.trans a), b⟩
        | ct => exact fun σn Fn Hn a b => ⟨.inr rfl, by omega, Fn, fc.trans (x2.ff.trans a), b⟩
        | bk => obtain ⟨a, rfl⟩ := Mp_eq ec; cases a; exact fun σn Fn Hn a b => q1 σn Fn Hn (fc.trans (x2.ff.trans a)) b
        | rt d => obtain ⟨a, rfl⟩ := Mp_eq ec; cases a; exact q1
  · have ei : i = items.length := by omega
    refine .inl ⟨(wk i Fc Hc fc oc.fh).2 ei, ?_⟩
    rw [ei, List.drop_length] at ec
    obtain ⟨a, rfl⟩ := Mp_eq ec
    cases a
    exact q1 σc Fc Hc fc oc
theorem cFor (C : Fam X P w K mg base N lv) {tg iter : Expr} {body : List Stmt} {fi : AF} {gg : TGt} {js : List Nat} (hp : ∀ i, PassesOwn (model (X i).prog (X i).w) (X i).A (X i).env (X i).xe) (hi : CI X K tg iter fi) (hg : CG X K tg js gg) (hb : CSs X K body g)
    (hs : ∀ i, ∀ x, foldedSetIterable iter (X i).env x = pure x := by intro _ _; rfl) : CS X K (.For tg iter body [] pos) (sFor fi gg g) := by
  obtain ⟨wi, i1, i2⟩ := hi
  obtain ⟨tg', g1, g2⟩ := hg
  obtain ⟨tb, b1, b2⟩ := hb
  exact ⟨_, fun i => ps_for (hp i) (C.c i) (i1 i) (g1 i) (b1 i) (hs i), semS_for i2 g2 b2⟩
theorem semS_while {tc : TT} {tb : TS} {ft : TF} {body : SF} (hc : SemT K tc ft) (hb : SemS K tb body) (n : Nat) : SemS K (tWhile tc tb) (whileM ft body n) := fun pd F0 H0 F H ρ σ s r ρ' s' o e E q => by
  refine ⟨fun m σc Hc => ∃ Fc ρc sc, Same F Fc ∧ Ok K pd F0 H0 Fc Hc ρc σc sc ∧ whileM ft body m ρc sc = some ((r, ρ'), s'), ⟨n, F, ρ, s, Same.refl _, o, e⟩, ?_⟩
  rintro m σc Hc ⟨Fc, ρc, sc, fc, oc, ec⟩
  cases m with
  | zero => exact (Mf_eq ec).elim
  | succ m =>
    unfold whileM at ec
    obtain ⟨k, s1, e1, ec⟩ := Mb_eq ec
    refine hc pd F0 H0 Fc Hc ρc σc sc k s1 oc e1 _ fun F1 H1 x1 d1 => ?_
    have o1 := oc.step x1 d1
    have f1 := fc.trans x1.ff
    cases k with
    | false =>
      obtain ⟨a, rfl⟩ := Mp_eq ec
      cases a
      exact iteF (q σc F1 H1 f1 o1)
    | true =>
      refine iteT ?_
      obtain ⟨⟨r1, ρ2⟩, s2, e2, ec⟩ := Mb_eq (show Mb (body ρc) _ s1 = _ from ec)
      refine ⟨fun σn Hn => (r1 = .nx ∨ r1 = .ct) ∧ ∃ Fn, Same F Fn ∧ Ok K pd F0 H0 Fn Hn ρ2 σn s2, fun σn Hn ⟨h1, Fn, h3, h4⟩ => ⟨m, Nat.lt_succ_self _, Fn, ρ2, s2, h3, h4, ?_⟩, ?_⟩
      · rcases h1 with rfl | rfl <;> exact ec
      · refine hb pd F0 H0 F1 H1 ρc σc s1 r1 ρ2 s2 o1 e2 _ ?_
        cases r1 with
        | nx => exact fun σn Fn Hn a b => ⟨.inl rfl, Fn, f1.trans a, b⟩
        | ct => exact fun σn Fn Hn a b => ⟨.inr rfl, Fn, f1.trans a, b⟩
        | bk => obtain ⟨a, rfl⟩ := Mp_eq ec; cases a; exact fun σn Fn Hn a b => q σn Fn Hn (f1.trans a) b
        | rt d => obtain ⟨a, rfl⟩ := Mp_eq ec; cases a; exact q
theorem cWhile {c : Expr} {body : List Stmt} {ft : TF} (hp : ∀ i, PassesOwn (model (X i).prog (X i).w) (X i).A (X i).env (X i).xe) (hc : CT X K c ft) (hb : CSs X K body g) : CS X K (.While c body [] pos) (sWhile ft g) := by
  obtain ⟨tc, c1, c2⟩ := hc
  obtain ⟨tb, b1, b2⟩ := hb
  exact ⟨_, fun i => ps_while (hp i) (c1 i) (b1 i), semS_while c2 b2 FUEL⟩
/-! own lists changed -/
theorem semS_meth {i : Nat} {t : TA} {fa : EF} {r : V → List V → Hp → VK → Prop} {u : List D → D → Option (List D)}
    (ha : ∀ (pd : Option PD) (F0 H0 F H : Hp) (ρ : Rho) (σ : L2.St) (s : DS) (d : D) (s' : DS), Ok K pd F0 H0 F H ρ σ s → fa ρ s = some (d, s') → ∀ Q : List V → Hp → Prop, (∀ v F' H', Ext pd F H F' H' → DOk K pd F' H' s' → RepB K pd F' H' d v → Q [v] H') → t σ H Q)
    (hr : ∀ (pd : Option PD) (F H : Hp) (p : Addr) (xs : List V) (es : List D) (d : D) (v : V) (es' : List D), Same F H → H p = some (.lst xs) → RepL K pd F es xs → es.length ≤ SZ → RepB K pd F H d v → u es d = some es' →
      ∀ Q : VK, (∀ ys, es'.length ≤ SZ → RepL K pd F es' ys → Q .non (upd H p (.lst ys))) → r (.ref p) [v] H Q) :
    SemS K (tDrop (tBM K "list" r (tVar i) t)) (sMeth i u fa) := fun pd F0 H0 F H ρ σ s r' ρ' s' o e E q => by
  obtain ⟨d, s1, e1, e⟩ := Mb_eq e
  obtain ⟨es, hes, e⟩ := onOw_eq e
  obtain ⟨es', hu, e⟩ := onSome_eq e
  obtain ⟨a, rfl⟩ := Mp_eq e
  cases a
  obtain ⟨z, h1, p, xs, rfl, h2, h3, h4, h5, h6, h7⟩ := o.env.at' i _ hes
  refine ⟨.ref p, h1, .inl ⟨rfl, xs, .of h5⟩, ha pd F0 H0 F H _ σ s d _ o e1 _ fun v F1 H1 x1 d1 r1 => ?_⟩
  have o1 := o.step x1 d1
  exact hr pd F1 H1 p xs es d v es' o1.fh (x1.hh _ _ h5 h4) (h7.mono x1.ff) h6 r1 hu _ fun ys hl ry => q σ F1 _ x1.ff (o1.upd hes h1 hl ry)
theorem v_app (pd : Option PD) (F H : Hp) (p : Addr) (xs : List V) (es : List D) (d : D) (v : V) (es' : List D) (fh : Same F H) (hp : H p = some (.lst xs)) (r : RepL K pd F es xs) (hl : es.length ≤ SZ) (rd : Rep K pd F d v) (e : appU es d = some es')
    (Q : VK) (q : ∀ ys, es'.length ≤ SZ → RepL K pd F es' ys → Q .non (upd H p (.lst ys))) : rAppend (.ref p) [v] H Q := by
  unfold appU at e
  split at e
  · rename_i h
    cases e
    exact ⟨p, xs, v, rfl, rfl, hp, by rw [r.length]; exact h, q _ (by simp; exact h) (r.append (.cons rd .nil))⟩
  · cases e
theorem v_ext (pd : Option PD) (F H : Hp) (p : Addr) (xs : List V) (es : List D) (d : D) (v : V) (es' : List D) (fh : Same F H) (hp : H p = some (.lst xs)) (r : RepL K pd F es xs) (hl : es.length ≤ SZ) (rd : RepB K pd F H d v) (e : extU es d = some es')
    (Q : VK) (q : ∀ ys, es'.length ≤ SZ → RepL K pd F es' ys → Q .non (upd H p (.lst ys))) : rExtend (.ref p) [v] H Q := by
  cases d <;> first | (cases e; done) | skip
  rename_i fs
  simp only [extU] at e
  split at e
  · rename_i h
    cases e
    obtain ⟨b, zs, rfl, h1, _, h2⟩ := rd.lst fh
    exact ⟨p, b, xs, zs, rfl, rfl, hp, h1, by rw [r.length, h2.length]; exact h, q _ (by simp; exact h) (r.append h2)⟩
  · cases e
end
section
variable {ι : Type} {X : ι → Cx} {P : Program} {w : World} {K : PySem.W.Frag} {mg : Str → Option Value} {base : Heap} {N : List Str} {lv : Nat} {pos cpos apos : Pos} {st : Stmt} {rest : List Stmt} {e : Expr} {f fk : EF} {g g' : SF}
/-- x.append(e) -/
theorem cApp (C : Fam X P w K mg base N lv) (i : Nat) {x : Str} {p2 : Pos} (h : CE X K e f) (hN : N[i]? = some x := by rfl) (hv : ∀ j, Vis (X j).env.scope x := by intro _; first | exact Or.inl rfl | exact Or.inr (Or.inl rfl) | exact Or.inr (Or.inr rfl))
    (hd : (x == ("__debug__" : Str)) = false := by decide) (hcd : (x == ("__classdict__" : Str)) = false := by decide)
    (hbase : ∀ j, attributeBase (.Name x p2) "append" (X j).env (eval (.Name x p2) (X j).env) = eval (.Name x p2) (X j).env := by intro _; rfl)
    (hfew : ∀ j, ((backTo cpos (starEach [e] (X j).env)).all (fun x => !x.1) && (backToKw cpos (keywordEach [] (X j).env)).all (fun x => x.1.isSome)
      && decide (([e] : List Expr).length + ([] : List Keyword).length + (if ([] : List Keyword).isEmpty then 0 else 1) < 30)) = true := by intro _; rfl)
    (hline : (apos.endLine == cpos.line) = true := by rfl) (hs : ∀ j, starEach [e] (X j).env = (false, eval e (X j).env) :: starEach [] (X j).env := by intro _; rfl) (hplain : ∀ j, (backTo cpos (starEach [] (X j).env)).any (·.1) = false := by intro _; rfl)
    (hsw : ∀ j, swapsWith (.Call (.Attribute (.Name x p2) "append" apos) [e] [] cpos) none pos.line (X j).env = pure false := by intro _; rfl) :
    CS X K (.Expr (.Call (.Attribute (.Name x p2) "append" apos) [e] [] cpos) pos) (sMeth i appU f) := by
  obtain ⟨t, h1, h2⟩ := h
  refine ⟨tDrop (tBM K "list" rAppend (tVar i) (tCons t tNil)), fun j => ps_expr (by
    have := pe_bm (X := X j) (cpos := cpos) (apos := apos) PySem.F.plainAttrs_list PySem.F.slot_list_append PySem.F.type_list_append mt_append (pe_var (pos := p2) (by rw [C.n j]; exact hN) (hv j) hd hcd) (pa_cons (h1 j) pa_nil (hs j)) (hbase j) (hfew j) hline (hs j) (hplain j)
    rw [C.k j] at this
    exact this) (hsw j), ?_⟩
  intro pd F0 H0 F H ρ σ s r' ρ' s' o e E q
  obtain ⟨d, s1, e1, e⟩ := Mb_eq e
  obtain ⟨es, hes, e⟩ := onOw_eq e
  obtain ⟨es', hu, e⟩ := onSome_eq e
  obtain ⟨a, rfl⟩ := Mp_eq e
  cases a
  obtain ⟨z, a1, p, xs, rfl, a2, a3, a4, a5, a6, a7⟩ := o.env.at' i _ hes
  refine ⟨.ref p, a1, .inl ⟨rfl, xs, .of a5⟩, h2 pd F0 H0 F H _ σ s d _ o e1 _ fun v F1 H1 x1 d1 r1 => ?_⟩
  have o1 := o.step x1 d1
  exact v_app pd F1 H1 p xs es d v es' o1.fh (x1.hh _ _ a5 a4) (a7.mono x1.ff) a6 r1 hu (fun _ Hn => E.nx σ Hn) fun ys hl ry => q σ F1 _ x1.ff (o1.upd hes a1 hl ry)
/-- x.extend(e) -/
theorem cExt (C : Fam X P w K mg base N lv) (i : Nat) {x : Str} {p2 : Pos} (h : CB X K e f) (hN : N[i]? = some x := by rfl) (hv : ∀ j, Vis (X j).env.scope x := by intro _; first | exact Or.inl rfl | exact Or.inr (Or.inl rfl) | exact Or.inr (Or.inr rfl))
    (hd : (x == ("__debug__" : Str)) = false := by decide) (hcd : (x == ("__classdict__" : Str)) = false := by decide)
    (hbase : ∀ j, attributeBase (.Name x p2) "extend" (X j).env (eval (.Name x p2) (X j).env) = eval (.Name x p2) (X j).env := by intro _; rfl)
    (hfew : ∀ j, ((backTo cpos (starEach [e] (X j).env)).all (fun x => !x.1) && (backToKw cpos (keywordEach [] (X j).env)).all (fun x => x.1.isSome)
      && decide (([e] : List Expr).length + ([] : List Keyword).length + (if ([] : List Keyword).isEmpty then 0 else 1) < 30)) = true := by intro _; rfl)
    (hline : (apos.endLine == cpos.line) = true := by rfl) (hs : ∀ j, starEach [e] (X j).env = (false, eval e (X j).env) :: starEach [] (X j).env := by intro _; rfl) (hplain : ∀ j, (backTo cpos (starEach [] (X j).env)).any (·.1) = false := by intro _; rfl)
    (hsw : ∀ j, swapsWith (.Call (.Attribute (.Name x p2) "extend" apos) [e] [] cpos) none pos.line (X j).env = pure false := by intro _; rfl) :
    CS X K (.Expr (.Call (.Attribute (.Name x p2) "extend" apos) [e] [] cpos) pos) (sMeth i extU f) := by
  obtain ⟨t, h1, h2⟩ := h
  refine ⟨tDrop (tBM K "list" rExtend (tVar i) (tCons t tNil)), fun j => ps_expr (by
    have := pe_bm (X := X j) (cpos := cpos) (apos := apos) PySem.F.plainAttrs_list PySem.F.slot_list_extend PySem.F.type_list_extend mt_extend (pe_var (pos := p2) (by rw [C.n j]; exact hN) (hv j) hd hcd) (pa_cons (h1 j) pa_nil (hs j)) (hbase j) (hfew j) hline (hs j) (hplain j)
    rw [C.k j] at this
    exact this) (hsw j), semS_meth (fun pd F0 H0 F H ρ σ s d s' o e Q q => h2 pd F0 H0 F H ρ σ s d s' o e _ fun v F' H' x y z => q v F' H' x y z) v_ext⟩
/-- x[k] = e -/
theorem cPut (C : Fam X P w K mg base N lv) (i : Nat) {x : Str} {p2 p3 : Pos} {ek : Expr} (h : CE X K e f) (hk : CE X K ek fk) (hN : N[i]? = some x := by rfl) (hv : ∀ j, Vis (X j).env.scope x := by intro _; first | exact Or.inl rfl | exact Or.inr (Or.inl rfl) | exact Or.inr (Or.inr rfl))
    (hd : (x == ("__debug__" : Str)) = false := by decide) (hcd : (x == ("__classdict__" : Str)) = false := by decide)
    (ha : ∀ j, ∀ v, assign (.Subscript (.Name x p2) ek p3) (X j).env v = (do
      let ov ← holding [v] (eval (.Name x p2) (X j).env)
      let iv ← holding [v, ov] (eval ek (X j).env)
      standAt p3
      holding [v, ov, iv] (setItem ov iv v)
      release [v, ov, iv] []) := by intro _ _; rfl)
    (hs : ∀ j, swapsWithSole [.Subscript (.Name x p2) ek p3] e pos.line (X j).env = pure false := by intro _; rfl) (hw : ∀ j, swappedStores [.Subscript (.Name x p2) ek p3] e (X j).env = pure none := by intro _; rfl)
    (h1 : ∀ j, (assignEach [.Subscript (.Name x p2) ek p3] (X j).env).map (·.2) = [assign (.Subscript (.Name x p2) ek p3) (X j).env] := by intro _; rfl) :
    CS X K (.Assign [.Subscript (.Name x p2) ek p3] e pos) (sPut i fk f) := by
  obtain ⟨t, e1, e2⟩ := h
  obtain ⟨tk, k1, k2⟩ := hk
  refine ⟨_, fun j => ps_asg (e1 j) (pg_sub (pe_var (by rw [C.n j]; exact hN) (hv j) hd hcd) (k1 j) set_list (ha j)) (hs j) (hw j) (h1 j), fun pd F0 H0 F H ρ σ s r ρ' s' o e E q => ?_⟩
  obtain ⟨d, s1, a1, e⟩ := Mb_eq e
  obtain ⟨kd, s2, a2, e⟩ := Mb_eq e
  obtain ⟨ds, hds, e⟩ := onOw_eq e
  obtain ⟨k, rfl, e⟩ := onInt_eq e
  obtain ⟨j, hj, e⟩ := onSome_eq e
  obtain ⟨a, rfl⟩ := Mp_eq e
  cases a
  refine e2 pd F0 H0 F H _ σ s d _ o a1 _ fun v F1 H1 x1 d1 r1 => ?_
  have o1 := o.step x1 d1
  obtain ⟨z, b1, p, xs, rfl, b2, b3, b4, b5, b6, b7⟩ := o1.env.at' i _ hds
  refine ⟨.ref p, b1, k2 pd F0 H0 F1 H1 _ σ s1 _ _ o1 a2 _ fun kv F2 H2 x2 d2 r2 => ?_⟩
  have o2 := o1.step x2 d2
  simp only [Rep] at r2
  refine ⟨p, xs, k, j, rfl, r2, x2.hh _ _ b5 b4, by rw [b7.length]; exact hj, q σ F2 _ (x1.ff.trans x2.ff) (o2.upd hds b1 (by rw [List.length_set]; exact b6) ((b7.mono x2.ff).set j (r1.mono x2.ff)))⟩
theorem pget_list {X : Cx} (hK : X.K = K) : PGet X (rIxL K) := by
  subst hK
  intro pins s σ H o i ov iv Q I ro ri h
  obtain ⟨p, xs, k, v, rfl, rfl, hq, he, q⟩ := h
  cases ro
  obtain ⟨t, rfl⟩ := ri
  obtain ⟨its, r, pl, hz⟩ := I.list hq
  obtain ⟨j, h1, h2, h3, h4, h5⟩ := atI_get he
  obtain ⟨u, eu, ru⟩ := r.get h2
  have hl := r.length
  have hn := line63
  have fin : EP X pins σ Q u s := ⟨v, H, I, ru, q⟩
  by_cases h0 : 0 ≤ k
  · have hj : k.toNat = j := by
      rw [seqIndex_of h0 h5] at h1
      exact Option.some.inj h1
    exact wpAny_getItem_list pl.isList h0 (by omega) (by rw [hj]; simpa using eu) fin
  · have hj : (k + (its.toArray.size : Int)).toNat = j := by
      rw [seqIndex_neg (by omega) h4] at h1
      rw [List.size_toArray, ← hl]
      exact Option.some.inj h1
    exact wpAny_getItem_list_neg pl.isList (by omega) (by rw [List.size_toArray] <;> omega) (by omega) (by rw [hj]; simpa using eu) fin
/-- x[k] op= e -/
theorem cAugIx (C : Fam X P w K mg base N lv) (i : Nat) {x : Str} {p2 p3 : Pos} {ek : Expr} {op : Operator} {r : R2} {gg : D → D → Option D} (ho : ∀ j, OpR (X j) (inplaceOp op) r) (hvv : V2 K r gg) (hk : CE X K ek fk) (h : CE X K e f) (hN : N[i]? = some x := by rfl)
    (hv : ∀ j, Vis (X j).env.scope x := by intro _; first | exact Or.inl rfl | exact Or.inr (Or.inl rfl) | exact Or.inr (Or.inr rfl))
    (hd : (x == ("__debug__" : Str)) = false := by decide) (hcd : (x == ("__classdict__" : Str)) = false := by decide)
    (ha : ∀ ov iv new, augStore ek ov iv new = (do holding [new, ov, iv] (setItem ov iv new); release [new, ov, iv] []; pure .next) := by intros; rfl) :
    CS X K (.AugAssign (.Subscript (.Name x p2) ek p3) op e pos) (sAugIx i gg fk f) := by
  obtain ⟨t, e1, e2⟩ := h
  obtain ⟨tk, k1, k2⟩ := hk
  refine ⟨_, fun j => ps_augS (pe_var (by rw [C.n j]; exact hN) (hv j) hd hcd) (k1 j) (pget_list (C.k j)) (e1 j) (ho j) set_list ha, fun pd F0 H0 F H ρ σ s r ρ' s' o e E q => ?_⟩
  obtain ⟨kd, s1, a1, e⟩ := Mb_eq e
  obtain ⟨ds, hds, e⟩ := onOw_eq e
  obtain ⟨k, rfl, e⟩ := onInt_eq e
  obtain ⟨j, hj, e⟩ := onSome_eq e
  obtain ⟨x0, hx0, e⟩ := onSome_eq e
  obtain ⟨y, s2, a2, e⟩ := Mb_eq e
  obtain ⟨z, s3, a3, e⟩ := Mb_eq e
  obtain ⟨a3, rfl⟩ := Mo_eq a3
  obtain ⟨a, rfl⟩ := Mp_eq e
  cases a
  obtain ⟨zz, b1, p, xs, rfl, b2, b3, b4, b5, b6, b7⟩ := o.env.at' i _ hds
  refine ⟨.ref p, b1, k2 pd F0 H0 F H _ σ s _ _ o a1 _ fun kv F1 H1 x1 d1 r1 => ?_⟩
  have o1 := o.step x1 d1
  simp only [Rep] at r1
  obtain ⟨xv, hxv, rxv⟩ := b7.get hx0
  have hp1 := x1.hh _ _ b5 b4
  refine ⟨p, xs, k, xv, rfl, r1, .of hp1, by unfold atI; rw [b7.length, hj]; exact hxv, e2 pd F0 H0 F1 H1 _ σ s1 y _ o1 a2 _ fun v F2 H2 x2 d2 r2 => ?_⟩
  have o2 := o1.step x2 d2
  refine hvv pd F2 H2 x0 y z xv v o2.fh (.inl ((rxv.mono x1.ff).mono x2.ff)) (.inl r2) (by assumption) _ fun u F3 H3 x3 r3 => ?_
  have o3 := o2.step (x3.lift (pd := pd)) (d2.grow x3)
  refine ⟨p, xs, k, j, rfl, r1, x3.same _ _ (x2.hh _ _ hp1 b4), by rw [b7.length]; exact hj, q σ F3 _ (x1.ff.trans (x2.ff.trans x3.ff)) (o3.upd hds b1 (by rw [List.length_set]; exact b6) ((((b7.mono x1.ff).mono x2.ff).mono x3.ff).set j r3))⟩
end

/-! ### defs -/
abbrev FnP (K : PySem.W.Frag) (x : Str) (st : Stmt) (f : Addr) (fd : FuncData) : Prop := FunD K x x (defArgs st) (defBody st) (defScope st) [] [] f fd
theorem FnP.okP {P : Program} {w : World} {K : PySem.W.Frag} {mg : Str → Option Value} {base : Heap} {x : Str} {st : Stmt} {f : Addr} {fd : FuncData} {N ps : List Str} {k : Nat} {sp : Sp} (F : FnP K x st f fd) (S : FnScope N ps (defScope st)) (len : ∀ vs H Q E, sp vs H Q E → vs.length = ps.length)
    (hbody : ∀ (cdv : Value) (A : Around) (outer : List Env) (s : Shared) (H : Hp) (vs : List V) (Q : VK) (E : XK), Room k (A.deeper (envOfC x (defScope st) s.heap.objs.size f cdv)) → sp vs H Q E →
      ∃ t, PSs (cxOf CX0 P w K mg base N x (defScope st) f cdv A outer s H E).nox (defBody st) t ∧ t { nx := fun _ H' => Q .non H', rt := Q } (L2.start N vs) H) : FnOk P w K mg base CX0 (k + 1) f fd ps sp :=
  F.ok S len fun cdv A outer s H vs Q E hr h => let ⟨t, t1, t2⟩ := hbody cdv A outer s H vs Q E hr h; ⟨t, PSs.nox t1, t2⟩
def runDef (n k : Nat) (g : SF) (args : List D) : M D := if args.length = k then Mb (g (args.map Slot.sh ++ List.replicate (n - args.length) Slot.un)) fun r => match r with
  | (.rt d, _) => Mp d
  | (.nx, _) => Mp .non
  | _ => Mf else Mf
def spM (K : PySem.W.Frag) (m : List D → M D) : Sp := fun vs H Q _ => ∃ (pd : Option PD) (F : Hp) (args : List D) (s : DS) (d : D) (s' : DS), Same F H ∧ DOk K pd F H s ∧ RepL K pd F args vs ∧ m args s = some (d, s') ∧
  ∀ v F' H', Ext pd F H F' H' → DOk K pd F' H' s' → Rep K pd F' d v → Q v H'
/-- a def of the text, its mirror m -/
structure DefOk (P : Program) (w : World) (K : PySem.W.Frag) (mg : Str → Option Value) (base : Heap) (name : Str) (k : Nat) (ps : List Str) (m : List D → M D) : Prop where
  ex : ∃ f fd, FnOk P w K mg base CX0 k f fd ps (spM K m) ∧ mg name = some (.ref f) ∧ PySem.W.keepIn K (.ref f) = true ∧ Binds K fd ps []
/-- the entries of a def -/
structure EntI (k : Nat) (qual : Str) (scope : Scope) (f : Addr) where
  cdv : Value
  A : Around
  outer : List Env
  s : Shared
  H : Hp
  E : XK
  hr : Room k (A.deeper (envOfC qual scope s.heap.objs.size f cdv))
abbrev entF (P : Program) (w : World) (K : PySem.W.Frag) (mg : Str → Option Value) (base : Heap) (N : List Str) (k : Nat) (qual : Str) (scope : Scope) (f : Addr) : EntI k qual scope f → Cx :=
  fun i => (cxOf CX0 P w K mg base N qual scope f i.cdv i.A i.outer i.s i.H i.E).nox
section
variable {P : Program} {w : World} {K : PySem.W.Frag} {mg : Str → Option Value} {base : Heap}
theorem Fam.ent {N : List Str} {k : Nat} {qual : Str} {scope : Scope} {f : Addr} (nd : N.Nodup) : Fam (entF P w K mg base N k qual scope f) P w K mg base N k :=
  ⟨fun _ => rfl, fun _ => rfl, fun _ => rfl, fun _ => rfl, fun _ => rfl, fun _ => rfl, fun _ => rfl, nd, fun i => ⟨i.hr.hd, i.hr.dp, i.hr.un⟩⟩
theorem ok_start {pd : Option PD} {F H : Hp} {N : List Str} {args : List D} {vs : List V} {s : DS} (fh : Same F H) (d : DOk K pd F H s) (r : RepL K pd F args vs) :
    Ok K pd F H F H (args.map Slot.sh ++ List.replicate (N.length - args.length) Slot.un) (L2.start N vs) s := by
  refine ⟨.refl fh, ⟨by simp [L2.start, r.length], fun i sl e => ?_, fun i j es fs p hij e1 => ?_⟩, d⟩
  · by_cases hi : i < args.length
    · rw [List.getElem?_append_left (by simpa using hi), List.getElem?_map, List.getElem?_eq_getElem hi] at e
      cases e
      obtain ⟨x, h1, h2⟩ := r.get (List.getElem?_eq_getElem hi)
      refine ⟨some x, ?_, x, rfl, h2⟩
      unfold L2.start
      rw [List.getElem?_append_left (by simpa [r.length] using hi), List.getElem?_map, h1]
      rfl
    · rw [List.getElem?_append_right (by simpa using hi), List.getElem?_replicate] at e
      split at e
      · cases e
        rename_i hlt
        refine ⟨none, ?_, trivial⟩
        unfold L2.start
        rw [List.getElem?_append_right (by simpa [r.length] using hi), List.getElem?_replicate, if_pos (by simpa [r.length] using hlt)]
      · cases e
  · exfalso
    have hm := List.mem_of_getElem? e1
    simp at hm
theorem runDef_len {n k : Nat} {g : SF} {args : List D} {s : DS} {r : D × DS} (h : runDef n k g args s = some r) : args.length = k := by
  unfold runDef at h
  split at h
  · assumption
  · cases h
theorem runDef_eq {n k : Nat} {g : SF} {args : List D} {s s' : DS} {d : D} (h : runDef n k g args s = some (d, s')) : ∃ r ρ', g (args.map Slot.sh ++ List.replicate (n - args.length) Slot.un) s = some ((r, ρ'), s') ∧ (r = .rt d ∨ (r = .nx ∧ d = .non)) := by
  unfold runDef at h
  split at h
  · obtain ⟨⟨r, ρ'⟩, s1, e1, e2⟩ := Mb_eq h
    cases r with
    | nx => obtain ⟨rfl, rfl⟩ := Mp_eq e2; exact ⟨_, _, e1, .inr ⟨rfl, rfl⟩⟩
    | rt d' => obtain ⟨rfl, rfl⟩ := Mp_eq e2; exact ⟨_, _, e1, .inl rfl⟩
    | bk => exact (Mf_eq e2).elim
    | ct => exact (Mf_eq e2).elim
  · cases h
/-- THE RULE for a def -/
theorem def_ok {x : Str} {st : Stmt} {f : Addr} {fd : FuncData} {N ps : List Str} {k : Nat} {g : SF} (F : FnP K x st f fd) (S : FnScope N ps (defScope st)) (h : CSs (entF P w K mg base N k x (defScope st) f) K (defBody st) g)
    (hm : mg x = some (.ref f)) (hb : Binds K fd ps []) (n : Nat := N.length) (kk : Nat := ps.length) (hn : N.length = n := by rfl) (hk : ps.length = kk := by rfl) : DefOk P w K mg base x (k + 1) ps (runDef n kk g) := by
  subst hn; subst hk
  refine ⟨f, fd, F.okP S (fun vs H Q E h => ?_) (fun cdv A outer s H vs Q E hr h' => ?_), hm, F.kp, hb⟩
  · obtain ⟨pd, F, args, s, d, s', _, _, r, e, _⟩ := h
    rw [r.length]
    exact runDef_len e
  · obtain ⟨t, t1, t2⟩ := h
    obtain ⟨pd, F, args, s0, d, s', fh, dk, r, e, q⟩ := h'
    refine ⟨t, t1 ⟨cdv, A, outer, s, H, E, hr⟩, ?_⟩
    obtain ⟨r1, ρ', e1, e2⟩ := runDef_eq e
    refine t2 pd F H F H _ _ s0 r1 ρ' s' (ok_start fh dk r) e1 _ ?_
    rcases e2 with rfl | ⟨rfl, rfl⟩
    · exact fun v F' H' a b c => q v F' H' a b c
    · exact fun σ' F' H' a b => q .non F' H' b.ext b.dok (by simp [Rep])
end
def xCall (m : List D → M D) (a : AF) : EF := fun ρ => Mb (a ρ) m
mutual
def noL : D → Bool
  | .lst _ => false
  | .rng => false
  | .dic _ _ => false
  | .tup ds => noLs ds
  | _ => true
def noLs : List D → Bool
  | [] => true
  | d :: ds => noL d && noLs ds
end
/-- a call whose arguments may be own lists; what comes back holds no list -/
def xCallB (m : List D → M D) (a : AF) : EF := fun ρ => Mb (a ρ) fun xs => Mb (m xs) fun d => if noL d = true then Mp d else Mf
section
variable {K : PySem.W.Frag} {pd : Option PD} {F F' H : Hp}
mutual
/-- data without lists lean on tuples alone -/
theorem Rep.keep (h : ∀ a xs, F a = some (.tup xs) → F' a = some (.tup xs)) (h' : ∀ a o xs, F a = some (.frz o (.tup xs)) → F' a = some (.frz o (.tup xs))) : ∀ {d : D} {v : V}, noL d = true → Rep K pd F d v → Rep K pd F' d v
  | .non, _, _, r => by simpa only [Rep] using r
  | .bl _, _, _, r => by simpa only [Rep] using r
  | .int _, _, _, r => by simpa only [Rep] using r
  | .str _, _, _, r => by simpa only [Rep] using r
  | .rng, _, n, _ => by simp [noL] at n
  | .dic _ _, _, n, _ => by simp [noL] at n
  | .lst _, _, n, _ => by simp [noL] at n
  | .tup ds, _, n, r => by
    simp only [Rep] at r ⊢
    obtain ⟨a, xs, e, s, hl, q⟩ := r
    refine ⟨a, xs, e, ?_, hl, RepL.keep h h' (by simpa only [noL] using n) q⟩
    rcases s with (s | ⟨o, s⟩) | s
    · exact .inl (.inl (h _ _ s))
    · exact .inl (.inr ⟨o, h' _ _ _ s⟩)
    · exact .inr s
theorem RepL.keep (h : ∀ a xs, F a = some (.tup xs) → F' a = some (.tup xs)) (h' : ∀ a o xs, F a = some (.frz o (.tup xs)) → F' a = some (.frz o (.tup xs))) : ∀ {ds : List D} {xs : List V}, noLs ds = true → RepL K pd F ds xs → RepL K pd F' ds xs
  | [], _, _, r => by simpa only [RepL] using r
  | d :: ds, _, n, r => by
    obtain ⟨y, ys, rfl, r1, r2⟩ := r.cases
    simp only [noLs, Bool.and_eq_true] at n
    exact .cons (Rep.keep h h' n.1 r1) (RepL.keep h h' n.2 r2)
end
end
section
variable {ι : Type} {X : ι → Cx} {P : Program} {w : World} {K : PySem.W.Frag} {mg : Str → Option Value} {base : Heap} {N : List Str} {lv : Nat} {pos p : Pos} {e : Expr} {es : List Expr} {g : AF} {x : Str} {k : Nat} {ps : List Str} {m : List D → M D}
theorem cCall (C : Fam X P w K mg base N lv) (Df : DefOk P w K mg base x k ps m) (hk : k ≤ lv) (ha : CA X K (e :: es) g) (hg : ∀ i, Gl (X i) x := by intro _; rfl) (hdb : (x == ("__debug__" : Str)) = false := by decide)
    (he : ∀ i, starEach (e :: es) (X i).env = (false, eval e (X i).env) :: starEach es (X i).env := by intro _; rfl) (hpl : ∀ i, (backTo pos (starEach es (X i).env)).any (·.1) = false := by intro _; rfl) :
    CE X K (.Call (.Name x p) (e :: es) [] pos) (xCall m g) := by
  obtain ⟨f, fd, F, hm, kp, hb⟩ := Df.ex
  obtain ⟨t, h1, h2⟩ := ha
  refine ⟨tCall (spM K m) [] E0 t, fun i => ?_, fun pd F0 H0 F H ρ σ s d s' o e Q q => ?_⟩
  · have hF : FnOk (X i).prog (X i).w (X i).K (X i).mg (X i).base CX0 k f fd ps (spM K m) := by rw [C.p i, C.w i, C.k i, C.m i, C.b i]; exact F
    exact pe_call hF ((C.r i).mono hk) (hg i) (by rw [C.m i]; exact hm) (by rw [C.k i]; exact kp) (by rw [C.k i]; exact hb) .nil pass0 (h1 i) hdb (he i) (hpl i)
  · obtain ⟨xs, s1, e1, e2⟩ := Mb_eq e
    refine h2 pd F0 H0 F H ρ σ s xs s1 o e1 _ fun vs F1 H1 x1 d1 r1 => ?_
    rw [List.append_nil]
    exact ⟨pd, F1, xs, s1, d, s', (o.step x1 d1).fh, d1, r1, e2, fun v F' H' x2 d2 r2 => q v F' H' (x1.trans x2) d2 r2⟩
theorem cCallB' (C : Fam X P w K mg base N lv) (Df : DefOk P w K mg base x k ps m) (hk : k ≤ lv) (ha : CAB X K (e :: es) g) (hg : ∀ i, Gl (X i) x := by intro _; rfl) (hdb : (x == ("__debug__" : Str)) = false := by decide)
    (he : ∀ i, starEach (e :: es) (X i).env = (false, eval e (X i).env) :: starEach es (X i).env := by intro _; rfl) (hpl : ∀ i, (backTo pos (starEach es (X i).env)).any (·.1) = false := by intro _; rfl) :
    CE X K (.Call (.Name x p) (e :: es) [] pos) (xCallB m g) := by
  obtain ⟨f, fd, F, hm, kp, hb⟩ := Df.ex
  obtain ⟨t, h1, h2⟩ := ha
  refine ⟨tCall (spM K m) [] E0 t, fun i => ?_, fun pd F0 H0 F H ρ σ s d s' o e Q q => ?_⟩
  · have hF : FnOk (X i).prog (X i).w (X i).K (X i).mg (X i).base CX0 k f fd ps (spM K m) := by rw [C.p i, C.w i, C.k i, C.m i, C.b i]; exact F
    exact pe_call hF ((C.r i).mono hk) (hg i) (by rw [C.m i]; exact hm) (by rw [C.k i]; exact kp) (by rw [C.k i]; exact hb) .nil pass0 (h1 i) hdb (he i) (hpl i)
  · obtain ⟨xs, s1, e1, e⟩ := Mb_eq e
    obtain ⟨d', s2, e2, e⟩ := Mb_eq e
    split at e
    · rename_i hno
      obtain ⟨rfl, rfl⟩ := Mp_eq e
      refine h2 pd F0 H0 F H ρ σ s xs s1 o e1 _ fun vs F1 H1 x1 d1 r1 => ?_
      have o1 := o.step x1 d1
      rw [List.append_nil]
      -- what is borrowed is told for the time of the call
      have hFb : ∃ Fb : Hp, (∀ a u, F1 a = some u → Fb a = some u) ∧ (∀ a u, Fb a = some u → H1 a = some u) ∧ (∀ a, some a = pp pd → Fb a = F1 a) ∧ RepL K pd Fb xs vs ∧ (∀ a, Fb a = F1 a ∨ ∃ ys, Fb a = some (.lst ys)) := by
        classical
        refine ⟨fun a => if V.ref a ∈ vs ∧ some a ≠ pp pd ∧ ∃ ys, H1 a = some (.lst ys) then H1 a else F1 a, fun a u h => ?_, fun a u h => ?_, fun a h => ?_, ?_, fun a => ?_⟩
        · show (if V.ref a ∈ vs ∧ some a ≠ pp pd ∧ ∃ ys, H1 a = some (.lst ys) then H1 a else F1 a) = some u
          split
          · exact o1.fh _ _ h
          · exact h
        · have h : (if V.ref a ∈ vs ∧ some a ≠ pp pd ∧ ∃ ys, H1 a = some (.lst ys) then H1 a else F1 a) = some u := h
          split at h
          · exact h
          · exact o1.fh _ _ h
        · show (if V.ref a ∈ vs ∧ some a ≠ pp pd ∧ ∃ ys, H1 a = some (.lst ys) then H1 a else F1 a) = F1 a
          rw [if_neg (fun z => z.2.1 h)]
        · have key : ∀ {xs : List D} {ws : List V}, RepBL K pd F1 H1 xs ws → (∀ v ∈ ws, v ∈ vs) → RepL K pd (fun a => if V.ref a ∈ vs ∧ some a ≠ pp pd ∧ ∃ ys, H1 a = some (.lst ys) then H1 a else F1 a) xs ws := by
            intro xs ws r
            induction r with
            | nil => intro _; exact .nil
            | @cons dd dds v ws h t ih =>
              intro hm
              have sm : Same F1 (fun a => if V.ref a ∈ vs ∧ some a ≠ pp pd ∧ ∃ ys, H1 a = some (.lst ys) then H1 a else F1 a) := fun a u h => by
                show (if V.ref a ∈ vs ∧ some a ≠ pp pd ∧ ∃ ys, H1 a = some (.lst ys) then H1 a else F1 a) = some u
                split
                · exact o1.fh _ _ h
                · exact h
              refine .cons ?_ (ih fun v hv => hm v (List.mem_cons_of_mem _ hv))
              rcases h with h | ⟨p, es, ys, rfl, rfl, h3, h4, h5, h6, h7⟩
              · exact h.mono sm
              · simp only [Rep]
                exact ⟨p, ys, rfl, by rw [if_pos ⟨hm _ (by simp), h4, ys, h3⟩]; exact h3, h6, h7.mono sm⟩
          exact key r1 fun v hv => hv
        · show (if V.ref a ∈ vs ∧ some a ≠ pp pd ∧ ∃ ys, H1 a = some (.lst ys) then H1 a else F1 a) = F1 a ∨ ∃ ys, (if V.ref a ∈ vs ∧ some a ≠ pp pd ∧ ∃ ys, H1 a = some (.lst ys) then H1 a else F1 a) = some (.lst ys)
          split
          · rename_i z; exact .inr z.2.2
          · exact .inl rfl
      obtain ⟨Fb, b1, b2, b3, b4, b5⟩ := hFb
      have db : DOk K pd Fb H1 s1 := by
        cases pd with
        | none => trivial
        | some y =>
          obtain ⟨c1, c2, c3, c4⟩ := d1
          exact ⟨by rw [b3 _ rfl]; exact c1, c2, c3, b1 _ _ c4⟩
      refine ⟨pd, Fb, xs, s1, d', s2, b2, db, b4, e2, fun v F' H' x2 d2 r2 => ?_⟩
      classical
      let F2 : Hp := fun a => if F1 a = none ∧ H1 a ≠ none then none else F' a
      have k1 : ∀ a u, F' a = some u → ¬ (F1 a = none ∧ H1 a ≠ none) → F2 a = some u := fun a u h n => by
        show (if F1 a = none ∧ H1 a ≠ none then none else F' a) = some u
        rw [if_neg n]; exact h
      have k2 : ∀ a u, F2 a = some u → F' a = some u ∧ ¬ (F1 a = none ∧ H1 a ≠ none) := fun a u h => by
        have h : (if F1 a = none ∧ H1 a ≠ none then none else F' a) = some u := h
        split at h
        · cases h
        · rename_i n; exact ⟨h, n⟩
      have keep1 : ∀ a u, F1 a = some u → F2 a = some u := fun a u h => k1 a u (x2.ff _ _ (b1 _ _ h)) fun z => by rw [h] at z; exact absurd z.1 (by simp)
      have xx : Ext pd F1 H1 F2 H' := by
        refine ⟨keep1, x2.hh, x2.hd, fun a u h => ?_, fun a u h => x2.fh _ _ (k2 a u h).1⟩
        obtain ⟨h, n⟩ := k2 a u h
        rcases x2.nw a u h with z | z
        · cases hF : F1 a with
          | none => exact absurd ⟨hF, by rw [b2 _ _ z]; simp⟩ n
          | some u' =>
            have := x2.ff _ _ (b1 _ _ hF)
            rw [h] at this; cases this; exact .inl rfl
        · exact .inr z
      refine q v F2 H' (x1.trans xx) ?_ ?_
      · cases pd with
        | none => trivial
        | some y =>
          obtain ⟨c1, c2, c3, c4⟩ := d2
          refine ⟨?_, c2, c3, ?_⟩
          · cases hz : F2 y.p with
            | none => rfl
            | some u => rw [(k2 _ _ hz).1] at c1; cases c1
          · obtain ⟨_, _, _, c4'⟩ := d1
            have := keep1 _ _ c4'
            have h0 := (k2 _ _ this).1
            rw [c4] at h0
            rw [this]; exact h0.symm
      · have known : ∀ a u, F' a = some u → (∀ ys, u ≠ .lst ys) → F2 a = some u := fun a u h ne => k1 a u h fun n => by
          rcases x2.nw a u h with z | z
          · rcases b5 a with y | ⟨ys, y⟩
            · rw [y] at z; rw [n.1] at z; cases z
            · rw [y] at z; cases z; exact ne ys rfl
          · exact n.2 z
        exact r2.keep (fun a ys h => known a _ h fun _ z => by cases z) (fun a ob ys h => known a _ h fun _ z => by cases z) hno
    · exact (Mf_eq e).elim
end
end Pu
namespace Pu
open PySem PySem.Spec PyProof.Rows L2

/-! ### enumerate, zip over lists and tuples as they come (b: a tuple) -/
def SqA (K : PySem.W.Frag) (H : Hp) (b : Bool) (a : Addr) (xs : List V) : Prop := if b = true then SqT K H a xs else SqL K H a xs
def ItA (h : Heap) (b : Bool) (it a : Addr) (i : Nat) : Prop := if b = true then h.IsTupleIter it a i else h.IsListIter it a i
def SeqB (h : Heap) (b : Bool) (a : Addr) (its : Array Value) : Prop := if b = true then h.IsTuple a its else h.IsList a its
def itOb (b : Bool) (a : Addr) : Obj := if b = true then { cls := .type "tuple_iterator", data := .fields #[.ref a, .int 0 0] } else { cls := .type "list_iterator", data := .fields #[.ref a, .int 0 0] }
theorem ItA.ob {h : Heap} {b : Bool} {it a : Addr} {i : Nat} (x : ItA h b it a i) : ∃ o, h.get? it = some o ∧ ∀ v, o.data ≠ .cell v := by
  unfold ItA at x
  cases b
  · obtain ⟨o, h1, _, h2⟩ : h.IsListIter it a i := x
    exact ⟨o, h1, fun v q => by rw [h2] at q; cases q⟩
  · obtain ⟨o, h1, _, h2⟩ : h.IsTupleIter it a i := x
    exact ⟨o, h1, fun v q => by rw [h2] at q; cases q⟩
theorem ItA.at' {h h' : Heap} {b : Bool} {it a : Addr} {i : Nat} (x : ItA h b it a i) (e : ∀ o, h.get? it = some o → h'.get? it = some o) : ItA h' b it a i := by
  unfold ItA at x ⊢
  cases b
  · exact Heap.IsListIter.at (show h.IsListIter it a i from x) e
  · exact Heap.IsTupleIter.at (show h.IsTupleIter it a i from x) e
theorem itA_new {h : Heap} {b : Bool} {it a : Addr} (e : h.get? it = some (itOb b a)) : ItA h b it a 0 := by
  cases b
  · exact ⟨_, e, rfl, rfl⟩
  · exact ⟨_, e, rfl, rfl⟩
theorem inv_seqA {X : Cx} {pins : List (Addr × Obj)} {σ : L2.St} {H : Hp} {s : Shared} {b : Bool} {a : Addr} {xs : List V} (I : Inv X pins σ H s) (h : SqA X.K H b a xs) : ∃ its : List Value, Vals xs its ∧ SeqB s.heap b a its.toArray := by
  cases b
  · obtain ⟨its, r, p, _⟩ := I.list (show SqL X.K H a xs from h)
    exact ⟨its, r, p.isList⟩
  · obtain ⟨its, r, p, _⟩ := I.tuple (show SqT X.K H a xs from h)
    exact ⟨its, r, p⟩
theorem inv_injA {X : Cx} {pins : List (Addr × Obj)} {σ : L2.St} {H : Hp} {s : Shared} {b : Bool} {a : Addr} {xs ys : List V} (I : Inv X pins σ H s) (h : SqA X.K H b a xs) (h' : SqA X.K H b a ys) : xs = ys := by
  cases b
  · exact I.list_inj (show SqL X.K H a xs from h) h'
  · exact I.tuple_inj (show SqT X.K H a xs from h) h'
theorem seqB_live {h : Heap} {b : Bool} {a : Addr} {its : Array Value} (x : SeqB h b a its) : a < h.objs.size := by
  cases b
  · obtain ⟨o, e, _⟩ := (show h.IsList a its from x); exact Heap.lt_size e
  · obtain ⟨o, e, _⟩ := (show h.IsTuple a its from x); exact Heap.lt_size e
theorem drawsB {prog : Program} {w : World} {A : Around} (hh : A.handled = none) (b : Bool) (it a : Addr) (hne : a ≠ it) (items : Array Value) :
    Draws prog w A it [it, a] items.size (fun i v => items[i]? = some v) (fun i h => ItA h b it a i ∧ SeqB h b a items) := by
  cases b
  · exact Draws.list hh it a hne items
  · exact Draws.tuple hh it a hne items
theorem beginsB (b : Bool) (a : Addr) (items : Array Value) : Begins (.ref a) (itOb b a) fun h => SeqB h b a items := by
  cases b
  · exact begins_list a items
  · exact begins_tuple a items
set_option maxHeartbeats 1000000 in
theorem meets_enum1 {v : Value} {o : Obj} {H : Heap → Prop} (B : Begins v o H) :
    Meets (Builtin.«enumerate.__new__» ⟨[.type "enumerate", v], []⟩) (fun _ R s => H s.heap ∧
      R (.ok (.ret (.ref (s.heap.push o).objs.size))) { s with heap := (s.heap.push o).push { cls := .type "enumerate", data := .fields #[.none, .bool false, .ref s.heap.objs.size, rawInt 0, .none, .none] } }) :=
  .of_wp fun prog w A R s h => by
    obtain ⟨hp, g, d, tk, os⟩ := s; obtain ⟨h1, h⟩ := h
    have hsub := sub_enumerate
    have go : ∀ {A' : Around} {E : Value → Shared → Prop} {Q : Value → Shared → Prop}, Q (.ref hp.objs.size) ⟨hp.push o, g, d, tk, os⟩ → wpAny (model prog w) A' (pyIter v) Q E ⟨hp, g, d, tk, os⟩ := fun q => B.iter prog w _ _ ⟨hp, g, d, tk, os⟩ _ h1 q
    wp_walk using go
    refine wpAny_stack_any fun st => wpAny_pure ?_
    split
    · rename_i c _ _ _ _ _
      cases (c == Value.type "enumerate")
      · wp_walk using go
        exact ⟨_, rfl, h⟩
      · wp_walk using go
        exact ⟨_, rfl, h⟩
    · wp_walk using go
      exact ⟨_, rfl, h⟩
theorem call_enum1 {prog : Program} {w : World} {A : Around} {E : Value → Shared → Prop} {s : Shared} {v : Value} {o : Obj} {H : Heap → Prop} {Q : Value → Shared → Prop} (B : Begins v o H) (h1 : H s.heap)
    (h : ∀ h', IsEnum h' (s.heap.objs.size + 1) s.heap.objs.size 0 .none → h'.get? s.heap.objs.size = some o → h'.objs.size = s.heap.objs.size + 2 →
      (∀ b o, s.heap.get? b = some o → h'.get? b = some o) → Q (.ref (s.heap.objs.size + 1)) { s with heap := h' }) : wpAny (model prog w) A (call (.type "enumerate") [v]) Q E s := by
  refine callType_new F.called_enumerate (by decide) (F.typeCall_enumerate_1 _) (F.newCall_enumerate_1 _) (fun obj => F.args_object_init_2 obj _) F.entry_enumerate_new (meets_enum1 B) ⟨h1, ?_⟩
  have hz : (s.heap.push o).objs.size = s.heap.objs.size + 1 := Heap.size_push ..
  show _ ∧ _
  rw [hz]
  have he : IsEnum ((s.heap.push o).push { cls := .type "enumerate", data := .fields #[.none, .bool false, .ref s.heap.objs.size, rawInt 0, .none, .none] }) (s.heap.objs.size + 1) s.heap.objs.size 0 .none := by
    have z := Heap.get?_push_size (s.heap.push o) (o := { cls := .type "enumerate", data := .fields #[.none, .bool false, .ref s.heap.objs.size, rawInt 0, .none, .none] }) rfl
    rw [hz] at z; exact z
  exact ⟨⟨_, he, rfl⟩, h _ he (Heap.get?_push_of_some _ (Heap.get?_push_size _ B.free)) (by rw [Heap.size_push, hz]) fun b o x => Heap.get?_push_of_some _ (Heap.get?_push_of_some _ x)⟩

def IteA (K : PySem.W.Frag) (b : Bool) (a : Addr) : It :=
  ⟨fun i H => ∃ (xs : List V) (x : V), SqA K H b a xs ∧ xs[i]? = some x, fun i H v H' => ∃ T x, v = .ref T ∧ H T = none ∧ H' = L2.upd H T (.tup [.int (i : Nat), x]) ∧ ∀ xs, SqA K H b a xs → xs[i]? = some x, fun i H => ∃ xs : List V, SqA K H b a xs ∧ xs.length = i⟩
theorem turn_enumA {P : Program} {w : World} {K : PySem.W.Frag} {elts : List Expr} {kk : Nat} {tpos : Pos} (b : Bool) (a e it : Addr) (nei : e ≠ it) (nae : a ≠ e) (nai : a ≠ it) :
    Turn P w K (.Tuple elts kk tpos) (IteA K b a) [e, it] e (fun i h => (∃ old, IsEnum h e it ((i : Nat) : Int) old) ∧ ItA h b it a i) where
  mem := by simp
  obj := fun i h st c hc => by
    obtain ⟨⟨old, he⟩, hi⟩ := st
    rcases (by simpa using hc : c = e ∨ c = it) with rfl | rfl
    · exact ⟨_, he, fun v q => nomatch q⟩
    · exact hi.ob
  keep := fun i h h' st k => let ⟨⟨old, he⟩, hi⟩ := st; ⟨⟨old, k e (by simp) _ he⟩, hi.at' fun o q => k it (by simp) o q⟩
  item := by
    intro X hP hw hK hc i pins s σ H E I hf st hg
    subst hP hw hK
    obtain ⟨⟨old, he⟩, hit⟩ := st
    obtain ⟨xs, x, hq, hx⟩ := hg
    obtain ⟨its, rv, p⟩ := inv_seqA I hq
    obtain ⟨u, hu, ru⟩ := rv.get hx
    have hlt : i < its.toArray.size := by
      have := (List.getElem?_eq_some_iff.mp hu).1
      simpa using this
    have hel : e < s.heap.objs.size := Heap.lt_size he
    have hil : it < s.heap.objs.size := by obtain ⟨_, q, _⟩ := hit.ob; exact Heap.lt_size q
    refine wpAny_pyNext_enum_itemD (drawsB (A := X.A.in1) (I.ok.hd hc) b it a nai its.toArray) he ⟨hit, p⟩ hlt nei (by simp [nei, Ne.symm nae]) fun z h' tk hz ho hs' hT hsz hk => ?_
    have hzu : z = u := by
      have h1 : its[i]? = some z := by simpa using hz
      rw [hu] at h1; exact (Option.some.inj h1).symm
    subst hzu
    refine ⟨_, rfl, wpAny_letOwnedTupleGo_enum (s := { s with heap := h', toks := tk + 1 }) ho fun h'' he' sb => ?_⟩
    have hT2 : h''.get? s.heap.objs.size = some { cls := .type "tuple", data := .seq #[.int i tk, z] } := (sb.2 _ (Nat.ne_of_gt hel)).trans hT
    have new : ObjOk X.prog X.w (L2.upd H s.heap.objs.size (.tup [.int (i : Nat), x])) h'' s.heap.objs.size (.tup [.int (i : Nat), x]) :=
      ⟨by show 2 ≤ sizeLine; decide, [.int i tk, z], .cons ⟨_, rfl⟩ (.cons ru .nil), ⟨_, hT2, rfl, _, rfl⟩⟩
    have I1 : Inv X pins σ (L2.upd H s.heap.objs.size (.tup [.int (i : Nat), x])) { s with heap := h'', toks := tk + 1 } :=
      I.turnedNew (ch := [e, it]) (fun c ob hb q => (sb.2 c (fun y => hb (by simp [y]))).trans (hk c ob (fun y => hb (by simp [y])) (fun y => hb (by simp [y])) q)) hf (Nat.le_refl _) new
    refine ⟨.ref s.heap.objs.size, _, I1, rfl, ⟨_, x, rfl, I.hok.fresh (Nat.le_refl _), rfl, fun ys hy => by rw [inv_injA I hy hq]; exact hx⟩, ⟨⟨z, ?_⟩, hs'.1.at' fun o q => (sb.2 it (Ne.symm nei)).trans q⟩, fun c hc' => ?_⟩
    · have e1 : ((i + 1 : Nat) : Int) = (i : Int) + 1 := by omega
      rw [e1]; exact he'
    · have hb' : c < s.heap.objs.size := by
        rcases (by simpa using hc' : c = e ∨ c = it) with rfl | rfl
        · exact hel
        · exact hil
      rw [upd_ne (Nat.ne_of_lt hb')]
      exact (hf c hc').1
  done := by
    intro X hP hw hK hc i pins s σ H E I hf st hg
    subst hP hw hK
    obtain ⟨⟨old, he⟩, hit⟩ := st
    obtain ⟨xs, hq, hx⟩ := hg
    obtain ⟨its, rv, p⟩ := inv_seqA I hq
    obtain ⟨f0, f1, f2, f3, f4, f5⟩ := hf it (by simp)
    have hl := rv.length
    have hn : its.toArray.size = i := by simp; omega
    have D := drawsB (prog := X.prog) (w := X.w) (A := X.A.in1) (I.ok.hd hc) b it a nai its.toArray
    rw [hn] at D
    exact wpAny_pyNext_enum_endD D he ⟨hit, p⟩ fun h' eb => ⟨rfl, I.turned (t' := s.toks) (fun c o hb q => eb c o hb q) f0 f1 f3 f4 f5⟩
  self := fun A i s Q E st h => let ⟨⟨_, he⟩, _⟩ := st; wpAny_pyIter_enum he h
def iEnumA (K : PySem.W.Frag) (ta : TA) : TI := fun σ H R => ta σ H fun vs H1 => ∃ b a xs, vs = [.ref a] ∧ SqA K H1 b a xs ∧ R (IteA K b a) H1
theorem pi_enumA {X : Cx} {e : Expr} {ta : TA} {p pos tpos : Pos} {elts : List Expr} {kk : Nat} (hg : Gl X "enumerate") (hm : X.mg "enumerate" = none) (ha : PA X [e] ta) (hs : starEach [e] X.env = [(false, eval e X.env)] := by rfl) :
    PI X (.Tuple elts kk tpos) (.Call (.Name "enumerate" p) [e] [] pos) (iEnumA X.K ta) := by
  refine ⟨fun pins s σ H R I h => ?_⟩
  refine Call_ (ld_blt I hg hm boot_enumerate (PyProof.Rows.callWith_type1 (thn (ha.run pos pins s σ H _ I h) fun us s1 ⟨vs, H1, I1, r1, q1⟩ => ?_) hs rfl))
  obtain ⟨b, a, xs, ex, hq, q⟩ := q1
  subst ex
  cases r1 with
  | cons r rr =>
    cases rr
    cases r
    obtain ⟨its, rv, p'⟩ := inv_seqA I1 hq
    have ha' := seqB_live p'
    refine call_enum1 (beginsB b a its.toArray) p' fun h' he hit hsz hk => wpAny_pyIter_enum he ?_
    have I2 : Inv X pins σ H1 { s1 with heap := h' } := I1.kept (t' := s1.toks) hk
    refine ⟨s1.heap.objs.size + 1, [s1.heap.objs.size + 1, s1.heap.objs.size], _, _, H1, rfl, I2, turn_enumA b a (s1.heap.objs.size + 1) s1.heap.objs.size (Nat.succ_ne_self _) (Nat.ne_of_lt (Nat.lt_succ_of_lt ha')) (Nat.ne_of_lt ha'), ⟨⟨.none, he⟩, itA_new hit⟩, fun c hb => ?_, q⟩
    have hle : s1.heap.objs.size ≤ c := by
      rcases (by simpa using hb : c = s1.heap.objs.size + 1 ∨ c = s1.heap.objs.size) with z | z
      · rw [z]; exact Nat.le_add_right _ _
      · rw [z]; exact Nat.le_refl _
    exact I1.fpOk hle (I1.hok.fresh hle)

def ItzA (K : PySem.W.Frag) (b c : Bool) (p q : Addr) : It :=
  ⟨fun i H => ∃ (xs ys : List V) (x y : V), SqA K H b p xs ∧ SqA K H c q ys ∧ xs[i]? = some x ∧ ys[i]? = some y,
    fun i H v H' => ∃ T x y, v = .ref T ∧ H T = none ∧ H' = L2.upd H T (.tup [x, y]) ∧ (∀ xs, SqA K H b p xs → xs[i]? = some x) ∧ ∀ ys, SqA K H c q ys → ys[i]? = some y,
    fun i H => ∃ xs ys : List V, SqA K H b p xs ∧ SqA K H c q ys ∧ i ≤ xs.length ∧ i ≤ ys.length ∧ (i = xs.length ∨ i = ys.length)⟩
theorem turn_zipB {P : Program} {w : World} {K : PySem.W.Frag} {elts : List Expr} {kk : Nat} {tpos : Pos} {b c : Bool} {p q z TI TO i1 i2 : Addr} (D : ZipSep2 z TI TO i1 i2 [i1, p] [i2, q]) (n1 : p ≠ i1) (n2 : q ≠ i2) :
    Turn P w K (.Tuple elts kk tpos) (ItzA K b c p q) [z, TI, TO, i1, i2] z (fun i h => IsZip h z TI TO .none ∧ IsTupOf2 h TI (.ref i1) (.ref i2) ∧ (∃ x y, IsTupOf2 h TO x y) ∧ ItA h b i1 p i ∧ ItA h c i2 q i) where
  mem := by simp
  obj := fun i h st k hk => by
    obtain ⟨hz, hTI, ⟨x, y, hTO⟩, h1, h2⟩ := st
    rcases (by simpa using hk : k = z ∨ k = TI ∨ k = TO ∨ k = i1 ∨ k = i2) with e | e | e | e | e
    · rw [e]; exact ⟨_, hz, fun v q => nomatch q⟩
    · rw [e]; exact ⟨_, hTI, fun v q => nomatch q⟩
    · rw [e]; exact ⟨_, hTO, fun v q => nomatch q⟩
    · rw [e]; exact h1.ob
    · rw [e]; exact h2.ob
  keep := fun i h h' st k => by
    obtain ⟨hz, hTI, ⟨x, y, hTO⟩, h1, h2⟩ := st
    exact ⟨k z (by simp) _ hz, k TI (by simp) _ hTI, ⟨x, y, k TO (by simp) _ hTO⟩, h1.at' fun o q => k i1 (by simp) o q, h2.at' fun o q => k i2 (by simp) o q⟩
  item := by
    intro X hP hw hK hc i pins s σ H E I hf st hg
    subst hP hw hK
    obtain ⟨hz, hTI, ⟨x0, y0, hTO⟩, h1, h2⟩ := st
    obtain ⟨xs, ys, x, y, hqx, hqy, hx, hy⟩ := hg
    obtain ⟨its, rv, p1⟩ := inv_seqA I hqx
    obtain ⟨its2, rv2, p2⟩ := inv_seqA I hqy
    obtain ⟨u, hu, ru⟩ := rv.get hx
    obtain ⟨u2, hu2, ru2⟩ := rv2.get hy
    have hlt : i < its.toArray.size := by
      have := (List.getElem?_eq_some_iff.mp hu).1
      simpa using this
    have hlt2 : i < its2.toArray.size := by
      have := (List.getElem?_eq_some_iff.mp hu2).1
      simpa using this
    have hzl : z < s.heap.objs.size := Heap.lt_size hz
    refine wpAny_pyNext_zipD2_item D (drawsB (A := X.A.in1) (I.ok.hd hc) b i1 p n1 its.toArray) (drawsB (A := X.A.in1) (I.ok.hd hc) c i2 q n2 its2.toArray) hz hTI hTO ⟨h1, p1⟩ ⟨h2, p2⟩ hlt hlt2 fun y1 y2 h' tk e1 e2 z' TO' s1 s2 hT hsz hk => ?_
    have hyu : y1 = u := by
      have h1 : its[i]? = some y1 := by simpa using e1
      rw [hu] at h1; exact (Option.some.inj h1).symm
    have hyu2 : y2 = u2 := by
      have h1 : its2[i]? = some y2 := by simpa using e2
      rw [hu2] at h1; exact (Option.some.inj h1).symm
    subst hyu hyu2
    refine ⟨_, rfl, wpAny_letOwnedTupleGo_zip (s := { s with heap := h', toks := tk }) z' fun h'' z'' sb => ?_⟩
    have hT2 : h''.get? s.heap.objs.size = some { cls := .type "tuple", data := .seq #[y1, y2] } := (sb.2 _ (Nat.ne_of_gt hzl)).trans hT
    have new : ObjOk X.prog X.w (L2.upd H s.heap.objs.size (.tup [x, y])) h'' s.heap.objs.size (.tup [x, y]) :=
      ⟨by show 2 ≤ sizeLine; decide, [y1, y2], .cons ru (.cons ru2 .nil), ⟨_, hT2, rfl, _, rfl⟩⟩
    have I1 : Inv X pins σ (L2.upd H s.heap.objs.size (.tup [x, y])) { s with heap := h'', toks := tk } :=
      I.turnedNew (t' := tk) (ch := [z, TI, TO, i1, i2]) (fun k o hb q => (sb.2 k (fun q' => hb (by simp [q']))).trans (hk k o (fun q' => hb (by simp [q'])) (fun q' => hb (by simp [q'])) (fun q' => hb (by simp [q'])) (fun q' => hb (by simp [q'])) q)) hf (Nat.le_refl _) new
    have TIi1 := D.TIi1
    have TIi2 := D.TIi2
    refine ⟨.ref s.heap.objs.size, _, I1, rfl, ⟨_, x, y, rfl, I.hok.fresh (Nat.le_refl _), rfl, fun l hl => by rw [inv_injA I hl hqx]; exact hx, fun l hl => by rw [inv_injA I hl hqy]; exact hy⟩, ⟨z'', ?_, ⟨y1, y2, ?_⟩, ?_, ?_⟩, fun k hk' => ?_⟩
    · exact (sb.2 _ D.TIz).trans (hk _ _ D.TIz D.TITO TIi1 TIi2 hTI)
    · exact (sb.2 _ D.TOz).trans TO'
    · exact s1.1.at' fun o q => (sb.2 _ (Ne.symm D.zi1)).trans q
    · exact s2.1.at' fun o q => (sb.2 _ (Ne.symm D.zi2)).trans q
    · have hlt : k < s.heap.objs.size := by
        rcases (by simpa using hk' : k = z ∨ k = TI ∨ k = TO ∨ k = i1 ∨ k = i2) with e | e | e | e | e
        · rw [e]; exact hzl
        · rw [e]; exact Heap.lt_size hTI
        · rw [e]; exact Heap.lt_size hTO
        · rw [e]; obtain ⟨_, e1, _⟩ := h1.ob; exact Heap.lt_size e1
        · rw [e]; obtain ⟨_, e2, _⟩ := h2.ob; exact Heap.lt_size e2
      rw [upd_ne (Nat.ne_of_lt hlt)]
      exact (hf k hk').1
  done := by
    intro X hP hw hK hc i pins s σ H E I hf st hg
    subst hP hw hK
    obtain ⟨hz, hTI, ⟨x0, y0, hTO⟩, h1, h2⟩ := st
    obtain ⟨xs, ys, hqx, hqy, l1, l2, hend⟩ := hg
    obtain ⟨its, rv, p1⟩ := inv_seqA I hqx
    obtain ⟨its2, rv2, p2⟩ := inv_seqA I hqy
    have e1 := rv.length
    have e2 := rv2.length
    exact wpAny_pyNext_zipD2_end D (drawsB (A := X.A.in1) (I.ok.hd hc) b i1 p n1 its.toArray) (drawsB (A := X.A.in1) (I.ok.hd hc) c i2 q n2 its2.toArray) hz hTI hTO ⟨h1, p1⟩ ⟨h2, p2⟩ (by simp; omega) (by simp; omega) (by simp; omega) fun h' tk hk =>
      ⟨rfl, I.turnedL (t' := tk) (ch := [z, TI, TO, i1, i2]) (fun k o hb q => hk k o (fun q' => hb (by simp [q'])) (fun q' => hb (by simp [q'])) (fun q' => hb (by simp [q'])) (fun q' => hb (by simp [q'])) q) hf⟩
  self := fun A i s Q E st h => wpAny_pyIter_zip st.1 h
def iZipB (K : PySem.W.Frag) (ta : TA) : TI := fun σ H R => ta σ H fun vs H1 => ∃ b c p q xs ys, vs = [.ref p, .ref q] ∧ SqA K H1 b p xs ∧ SqA K H1 c q ys ∧ R (ItzA K b c p q) H1
theorem pi_zipB {X : Cx} {e e2 : Expr} {ta : TA} {p pos tpos : Pos} {elts : List Expr} {kk : Nat} (hg : Gl X "zip") (hm : X.mg "zip" = none) (ha : PA X [e, e2] ta)
    (hs : starEach [e, e2] X.env = (false, eval e X.env) :: starEach [e2] X.env := by rfl) (hpl : (backTo pos (starEach [e2] X.env)).any (·.1) = false := by rfl) :
    PI X (.Tuple elts kk tpos) (.Call (.Name "zip" p) [e, e2] [] pos) (iZipB X.K ta) := by
  refine ⟨fun pins s σ H R I h => ?_⟩
  refine Call_ (ld_blt I hg hm PyProof.Rows.boot_zip (PyProof.Rows.callWith_type1 (thn (ha.run pos pins s σ H _ I h) fun us s1 ⟨vs, H1, I1, r1, q1⟩ => ?_) hs hpl))
  obtain ⟨b, c, p, q, xs, ys, ex, hqx, hqy, q1⟩ := q1
  subst ex
  cases r1 with
  | cons r rr =>
    cases rr with
    | cons r' rr =>
      cases rr
      cases r
      cases r'
      obtain ⟨its, rv, p1⟩ := inv_seqA I1 hqx
      obtain ⟨its2, rv2, p2⟩ := inv_seqA I1 hqy
      have l1 := seqB_live p1
      have l2 := seqB_live p2
      have sep : ZipSep2 (s1.heap.objs.size + 4) (s1.heap.objs.size + 2) (s1.heap.objs.size + 3) s1.heap.objs.size (s1.heap.objs.size + 1) [s1.heap.objs.size, p] [s1.heap.objs.size + 1, q] :=
        zip_sep2 (fp1 := [p]) (fp2 := [q]) (fun k hk => by rw [List.mem_singleton.mp hk]; exact l1) (fun k hk => by rw [List.mem_singleton.mp hk]; exact l2)
      refine zip_begins2 (beginsB b p its.toArray) (beginsB c q its2.toArray) p1 p2 fun h' hz hTI hTO h1 h2 hsz hk => wpAny_pyIter_zip hz ?_
      have I2 : Inv X pins σ H1 { s1 with heap := h' } := I1.kept (t' := s1.toks) hk
      refine ⟨s1.heap.objs.size + 4, [s1.heap.objs.size + 4, s1.heap.objs.size + 2, s1.heap.objs.size + 3, s1.heap.objs.size, s1.heap.objs.size + 1], _, _, H1, rfl, I2,
        turn_zipB sep (Nat.ne_of_lt l1) (Nat.ne_of_lt (Nat.lt_succ_of_lt l2)), ⟨hz, hTI, ⟨_, _, hTO⟩, itA_new h1, itA_new h2⟩, fun k hk' => ?_, q1⟩
      have hle : s1.heap.objs.size ≤ k := by
        rcases (by simpa using hk' : k = s1.heap.objs.size + 4 ∨ k = s1.heap.objs.size + 2 ∨ k = s1.heap.objs.size + 3 ∨ k = s1.heap.objs.size ∨ k = s1.heap.objs.size + 1) with z | z | z | z | z
        · rw [z]; exact Nat.le_add_right _ _
        · rw [z]; exact Nat.le_add_right _ _
        · rw [z]; exact Nat.le_add_right _ _
        · rw [z]; exact Nat.le_refl _
        · rw [z]; exact Nat.le_add_right _ _
      exact I1.fpOk hle (I1.hok.fresh hle)

/-! their pure side -/
def enL (ds : List D) : List D := ds.mapIdx fun i d => .tup [.int (i : Nat), d]
def zpL (xs ys : List D) : List D := List.zipWith (fun x y => .tup [x, y]) xs ys
def enD : List D → Option (List D)
  | [d] => (seqD d).map enL
  | _ => none
def zpD : List D → Option (List D)
  | [d, e] => match seqD d, seqD e with
    | some xs, some ys => some (zpL xs ys)
    | _, _ => none
  | _ => none
section
variable {K : PySem.W.Frag} {pd : Option PD} {F H : Hp}
theorem seqS {d : D} {v : V} {ds : List D} (r : Rep K pd F d v) (e : seqD d = some ds) : ∃ b a xs, v = .ref a ∧ ds.length ≤ SZ ∧ ∀ F1 H1, Same F F1 → Same F1 H1 → SqA K H1 b a xs ∧ RepL K pd F1 ds xs := by
  cases d <;> first | (cases e; done) | skip
  · cases e
    simp only [Rep] at r
    obtain ⟨a, xs, rfl, t1, hl, r⟩ := r
    exact ⟨true, a, xs, rfl, hl, fun F1 H1 f1 f2 => ⟨sqT_mono f2 (sqT_mono f1 t1), r.mono f1⟩⟩
  · cases e
    simp only [Rep] at r
    obtain ⟨a, xs, rfl, t1, hl, r⟩ := r
    exact ⟨false, a, xs, rfl, hl, fun F1 H1 f1 f2 => ⟨.of (f2 _ _ (f1 _ _ t1)), r.mono f1⟩⟩
theorem seqW {d : D} {v : V} {ds : List D} (r : RepB K pd F H d v) (e : seqD d = some ds) : ∃ b a xs, v = .ref a ∧ ds.length ≤ SZ ∧ ∀ F1 H1, Ext pd F H F1 H1 → SqA K H1 b a xs ∧ RepL K pd F1 ds xs := by
  rcases r with r | ⟨p, es, xs, rfl, rfl, h3, h4, h5, h6, h7⟩
  · obtain ⟨b, a, xs, h1, h2, h3⟩ := seqS r e
    exact ⟨b, a, xs, h1, h2, fun F1 H1 x => h3 F1 H1 x.ff x.fh⟩
  · cases e
    exact ⟨false, p, xs, rfl, h6, fun F1 H1 x => ⟨.of (x.hh _ _ h3 h4), h7.mono x.ff⟩⟩
theorem walk_en {G : Hp → Hp → Prop} {b : Bool} {a : Addr} {xs : List V} {ds : List D} (hG : ∀ F1 H1, G F1 H1 → Same F1 H1 ∧ SqA K H1 b a xs ∧ RepL K pd F1 ds xs) (i : Nat) (F1 H1 : Hp) (g : G F1 H1) :
    (∀ d, (enL ds)[i]? = some d → (IteA K b a).go i H1 ∧ ∀ x H2, (IteA K b a).yld i H1 x H2 → ∃ F2, Ext none F1 H1 F2 H2 ∧ Rep K pd F2 d x) ∧ (i = (enL ds).length → (IteA K b a).stop i H1) := by
  obtain ⟨fh, h1, h2⟩ := hG F1 H1 g
  refine ⟨fun d hd => ?_, fun e => ⟨xs, h1, by rw [h2.length, e]; simp [enL]⟩⟩
  unfold enL at hd
  rw [List.getElem?_mapIdx] at hd
  cases hdd : ds[i]? with
  | none => rw [hdd] at hd; cases hd
  | some d0 =>
    rw [hdd] at hd
    have hd := (Option.some.inj hd).symm
    subst hd
    obtain ⟨y, hy, ry⟩ := h2.get hdd
    refine ⟨⟨xs, y, h1, hy⟩, fun x H2 ⟨T, z, e1, e2, e3, e4⟩ => ?_⟩
    subst e1 e3
    have := e4 xs h1
    rw [hy] at this; cases this
    have x2 := Ext.new (o := .tup [V.int (i : Nat), y]) fh e2
    refine ⟨_, x2, ?_⟩
    simp only [Rep]
    exact ⟨T, _, rfl, .of upd_same, (by show 2 ≤ sizeLine; decide), .cons (by simp [Rep]) (.cons (ry.mono x2.ff) .nil)⟩
theorem walk_zp {G : Hp → Hp → Prop} {b c : Bool} {p q : Addr} {xs ys : List V} {ds es : List D} (hG : ∀ F1 H1, G F1 H1 → Same F1 H1 ∧ (SqA K H1 b p xs ∧ RepL K pd F1 ds xs) ∧ SqA K H1 c q ys ∧ RepL K pd F1 es ys) (i : Nat) (F1 H1 : Hp) (g : G F1 H1) :
    (∀ d, (zpL ds es)[i]? = some d → (ItzA K b c p q).go i H1 ∧ ∀ x H2, (ItzA K b c p q).yld i H1 x H2 → ∃ F2, Ext none F1 H1 F2 H2 ∧ Rep K pd F2 d x) ∧ (i = (zpL ds es).length → (ItzA K b c p q).stop i H1) := by
  obtain ⟨fh, ⟨h1, h2⟩, h3, h4⟩ := hG F1 H1 g
  refine ⟨fun d hd => ?_, fun e => ⟨xs, ys, h1, h3, ?_⟩⟩
  · unfold zpL at hd
    rw [List.getElem?_zipWith] at hd
    cases hdd : ds[i]? with
    | none => rw [hdd] at hd; cases hd
    | some d0 =>
      cases hee : es[i]? with
      | none => rw [hdd, hee] at hd; cases hd
      | some e0 =>
        rw [hdd, hee] at hd
        have hd := (Option.some.inj hd).symm
        subst hd
        obtain ⟨y, hy, ry⟩ := h2.get hdd
        obtain ⟨y', hy', ry'⟩ := h4.get hee
        refine ⟨⟨xs, ys, y, y', h1, h3, hy, hy'⟩, fun x H2 ⟨T, z, z', e1, e2, e3, e4, e5⟩ => ?_⟩
        subst e1 e3
        have a1 := e4 xs h1
        rw [hy] at a1; cases a1
        have a2 := e5 ys h3
        rw [hy'] at a2; cases a2
        have x2 := Ext.new (o := .tup [y, y']) fh e2
        refine ⟨_, x2, ?_⟩
        simp only [Rep]
        exact ⟨T, _, rfl, .of upd_same, (by show 2 ≤ sizeLine; decide), .cons (ry.mono x2.ff) (.cons (ry'.mono x2.ff) .nil)⟩
  · have : (zpL ds es).length = min ds.length es.length := by simp [zpL]
    rw [this] at e
    rw [h2.length, h4.length]
    omega
end
section
variable {ι : Type} {X : ι → Cx} {P : Program} {w : World} {K : PySem.W.Frag} {mg : Str → Option Value} {base : Heap} {N : List Str} {lv : Nat} {pos : Pos} {a b c e : Expr} {es elts : List Expr} {f fa fb fc : EF} {g : AF} {kk : Nat} {tpos p : Pos}
theorem iEnE (C : Fam X P w K mg base N lv) (hm : mg "enumerate" = none) (h : CA X K [a] g) (hg : ∀ i, Gl (X i) "enumerate" := by intro _; rfl) (hs : ∀ i, starEach [a] (X i).env = [(false, eval a (X i).env)] := by intro _; rfl) :
    CI X K (.Tuple elts kk tpos) (.Call (.Name "enumerate" p) [a] [] pos) (iRg enD g) := by
  obtain ⟨t, h1, h2⟩ := h
  refine ⟨iEnumA K t, fun i => by have := pi_enumA (pos := pos) (p := p) (elts := elts) (kk := kk) (tpos := tpos) (hg i) (by rw [C.m i]; exact hm) (h1 i) (hs i); rw [C.k i] at this; exact this, fun pd F0 H0 F H ρ σ s d s' o e R q => ?_⟩
  obtain ⟨xs, s1, e1, e⟩ := Mb_eq e
  obtain ⟨e2, rfl⟩ := Mo_eq e
  refine h2 pd F0 H0 F H ρ σ s xs s1 o e1 _ fun vs F1 H1 x1 d1 r1 => ?_
  have fh := (o.step x1 d1).fh
  unfold enD at e2
  split at e2
  · rename_i d0
    obtain ⟨y, ys, rfl, h3, h4⟩ := r1.cases
    have := h4.cases0; subst this
    cases h5 : seqD d0 with
    | none => rw [h5] at e2; cases e2
    | some ds =>
      rw [h5] at e2; cases e2
      obtain ⟨b, a, zs, rfl, hl, k⟩ := seqS h3 h5
      exact ⟨b, a, zs, rfl, (k F1 H1 (Same.refl _) fh).1, q _ F1 H1 x1 d1 ⟨by simp [enL]; exact hl, fun i F2 H2 f2 f3 => walk_en (G := fun F2 H2 => Same F1 F2 ∧ Same F2 H2) (fun F2 H2 g => ⟨g.2, k F2 H2 g.1 g.2⟩) i F2 H2 ⟨f2, f3⟩⟩⟩
  · cases e2
theorem iEnB (C : Fam X P w K mg base N lv) (hm : mg "enumerate" = none) (h : CAB X K [a] g) (hg : ∀ i, Gl (X i) "enumerate" := by intro _; rfl) (hs : ∀ i, starEach [a] (X i).env = [(false, eval a (X i).env)] := by intro _; rfl) :
    CIW X K (.Tuple elts kk tpos) (.Call (.Name "enumerate" p) [a] [] pos) (iRg enD g) := by
  obtain ⟨t, h1, h2⟩ := h
  refine ⟨iEnumA K t, fun i => by have := pi_enumA (pos := pos) (p := p) (elts := elts) (kk := kk) (tpos := tpos) (hg i) (by rw [C.m i]; exact hm) (h1 i) (hs i); rw [C.k i] at this; exact this, fun pd F0 H0 F H ρ σ s d s' o e R q => ?_⟩
  obtain ⟨xs, s1, e1, e⟩ := Mb_eq e
  obtain ⟨e2, rfl⟩ := Mo_eq e
  refine h2 pd F0 H0 F H ρ σ s xs s1 o e1 _ fun vs F1 H1 x1 d1 r1 => ?_
  have fh := (o.step x1 d1).fh
  unfold enD at e2
  split at e2
  · rename_i d0
    cases r1 with
    | cons h3 h4 =>
      cases h4
      cases h5 : seqD d0 with
      | none => rw [h5] at e2; cases e2
      | some ds =>
        rw [h5] at e2; cases e2
        obtain ⟨b, a, zs, rfl, hl, k⟩ := seqW h3 h5
        exact ⟨b, a, zs, rfl, (k F1 H1 (.refl fh)).1, q _ F1 H1 x1 d1 ⟨by simp [enL]; exact hl, fun i F2 H2 f2 => walk_en (G := fun F2 H2 => Ext pd F1 H1 F2 H2) (fun F2 H2 g => ⟨g.fh, k F2 H2 g⟩) i F2 H2 f2⟩⟩
  · cases e2
theorem iZpE (C : Fam X P w K mg base N lv) (hm : mg "zip" = none) (h : CA X K [a, b] g) (hg : ∀ i, Gl (X i) "zip" := by intro _; rfl) (hs : ∀ i, starEach [a, b] (X i).env = (false, eval a (X i).env) :: starEach [b] (X i).env := by intro _; rfl)
    (hpl : ∀ i, (backTo pos (starEach [b] (X i).env)).any (·.1) = false := by intro _; rfl) : CI X K (.Tuple elts kk tpos) (.Call (.Name "zip" p) [a, b] [] pos) (iRg zpD g) := by
  obtain ⟨t, h1, h2⟩ := h
  refine ⟨iZipB K t, fun i => by have := pi_zipB (pos := pos) (p := p) (elts := elts) (kk := kk) (tpos := tpos) (hg i) (by rw [C.m i]; exact hm) (h1 i) (hs i) (hpl i); rw [C.k i] at this; exact this, fun pd F0 H0 F H ρ σ s d s' o e R q => ?_⟩
  obtain ⟨xs, s1, e1, e⟩ := Mb_eq e
  obtain ⟨e2, rfl⟩ := Mo_eq e
  refine h2 pd F0 H0 F H ρ σ s xs s1 o e1 _ fun vs F1 H1 x1 d1 r1 => ?_
  have fh := (o.step x1 d1).fh
  unfold zpD at e2
  split at e2
  · rename_i d0 d1'
    obtain ⟨y, ys, rfl, h3, h4⟩ := r1.cases
    obtain ⟨y', ys', rfl, h3', h4'⟩ := h4.cases
    have := h4'.cases0; subst this
    cases h5 : seqD d0 with
    | none => rw [h5] at e2; cases e2
    | some ds =>
      cases h6 : seqD d1' with
      | none => rw [h5, h6] at e2; cases e2
      | some ds' =>
        rw [h5, h6] at e2; cases e2
        obtain ⟨b, a, zs, rfl, hl, k⟩ := seqS h3 h5
        obtain ⟨b', a', zs', rfl, hl', k'⟩ := seqS h3' h6
        exact ⟨b, b', a, a', zs, zs', rfl, (k F1 H1 (Same.refl _) fh).1, (k' F1 H1 (Same.refl _) fh).1, q _ F1 H1 x1 d1 ⟨by simp [zpL]; omega, fun i F2 H2 f2 f3 => walk_zp (G := fun F2 H2 => Same F1 F2 ∧ Same F2 H2) (fun F2 H2 g => ⟨g.2, k F2 H2 g.1 g.2, k' F2 H2 g.1 g.2⟩) i F2 H2 ⟨f2, f3⟩⟩⟩
  · cases e2
theorem iZpB (C : Fam X P w K mg base N lv) (hm : mg "zip" = none) (h : CAB X K [a, b] g) (hg : ∀ i, Gl (X i) "zip" := by intro _; rfl) (hs : ∀ i, starEach [a, b] (X i).env = (false, eval a (X i).env) :: starEach [b] (X i).env := by intro _; rfl)
    (hpl : ∀ i, (backTo pos (starEach [b] (X i).env)).any (·.1) = false := by intro _; rfl) : CIW X K (.Tuple elts kk tpos) (.Call (.Name "zip" p) [a, b] [] pos) (iRg zpD g) := by
  obtain ⟨t, h1, h2⟩ := h
  refine ⟨iZipB K t, fun i => by have := pi_zipB (pos := pos) (p := p) (elts := elts) (kk := kk) (tpos := tpos) (hg i) (by rw [C.m i]; exact hm) (h1 i) (hs i) (hpl i); rw [C.k i] at this; exact this, fun pd F0 H0 F H ρ σ s d s' o e R q => ?_⟩
  obtain ⟨xs, s1, e1, e⟩ := Mb_eq e
  obtain ⟨e2, rfl⟩ := Mo_eq e
  refine h2 pd F0 H0 F H ρ σ s xs s1 o e1 _ fun vs F1 H1 x1 d1 r1 => ?_
  have fh := (o.step x1 d1).fh
  unfold zpD at e2
  split at e2
  · rename_i d0 d1'
    cases r1 with
    | cons h3 h4 =>
      cases h4 with
      | cons h3' h4' =>
        cases h4'
        cases h5 : seqD d0 with
        | none => rw [h5] at e2; cases e2
        | some ds =>
          cases h6 : seqD d1' with
          | none => rw [h5, h6] at e2; cases e2
          | some ds' =>
            rw [h5, h6] at e2; cases e2
            obtain ⟨b, a, zs, rfl, hl, k⟩ := seqW h3 h5
            obtain ⟨b', a', zs', rfl, hl', k'⟩ := seqW h3' h6
            exact ⟨b, b', a, a', zs, zs', rfl, (k F1 H1 (.refl fh)).1, (k' F1 H1 (.refl fh)).1, q _ F1 H1 x1 d1 ⟨by simp [zpL]; omega, fun i F2 H2 f2 => walk_zp (G := fun F2 H2 => Ext pd F1 H1 F2 H2) (fun F2 H2 g => ⟨g.fh, k F2 H2 g, k' F2 H2 g⟩) i F2 H2 f2⟩⟩
  · cases e2
end
end Pu
namespace Pu
open PySem PySem.Spec PyProof.Rows L2

theorem blk_sc {ι : Type} {X : ι → Cx} {sc : Scope} {b : BlkI ι} : (blkF X sc b).env.scope = L2.relS sc (X b.i).env.scope := rfl
theorem ent_sc {P : Program} {w : World} {K : PySem.W.Frag} {mg : Str → Option Value} {base : Heap} {N : List Str} {k : Nat} {qual : Str} {scope : Scope} {f : Addr} {i : EntI k qual scope f} : (entF P w K mg base N k qual scope f i).env.scope = scope := rfl
theorem bt_len : bootBuiltins "len" = some (.builtin "len") := by decide +kernel
theorem bt_sum : bootBuiltins "sum" = some (.builtin "sum") := by decide +kernel
theorem bt_min : bootBuiltins "min" = some (.builtin "min") := by decide +kernel
theorem bt_max : bootBuiltins "max" = some (.builtin "max") := by decide +kernel
theorem bt_all : bootBuiltins "all" = some (.builtin "all") := by decide +kernel
theorem bt_any : bootBuiltins "any" = some (.builtin "any") := by decide +kernel
theorem bt_abs : bootBuiltins "abs" = some (.builtin "abs") := by decide +kernel
theorem bt_sorted : bootBuiltins "sorted" = some (.builtin "sorted") := by decide +kernel
theorem bt_tuple : bootBuiltins "tuple" = some (.type "tuple") := by decide +kernel
theorem bt_list : bootBuiltins "list" = some (.type "list") := by decide +kernel
theorem bt_int : bootBuiltins "int" = some (.type "int") := by decide +kernel
theorem roomU {lv : Nat} {A : Around} (r : Room lv A) : A.units + 200 < cLine := by have := r.un; omega

/-! ### D and the library's data -/
mutual
theorem toP_inj : ∀ {x y : D}, clean x = true → clean y = true → toP x = toP y → x = y
  | .non, y, _, c, e => by cases y <;> simp [toP] at e <;> first | rfl | simp [clean] at c
  | .bl a, y, _, c, e => by cases y <;> simp [toP] at e <;> first | (rw [e]; done) | simp [clean] at c
  | .int a, y, _, c, e => by cases y <;> simp [toP] at e <;> first | (rw [e]; done) | simp [clean] at c
  | .str a, y, _, c, e => by cases y <;> simp [toP] at e <;> first | (rw [e]; done) | simp [clean] at c
  | .rng, y, c, _, e => by simp [clean] at c
  | .dic _ _, y, c, _, e => by simp [clean] at c
  | .tup a, y, c, c', e => by
    cases y <;> simp [toP] at e
    rw [toPs_inj (by simpa only [clean] using c) (by simpa only [clean] using c') e]
  | .lst a, y, c, c', e => by
    cases y <;> simp [toP] at e
    rw [toPs_inj (by simpa only [clean] using c) (by simpa only [clean] using c') e]
theorem toPs_inj : ∀ {x y : List D}, cleanL x = true → cleanL y = true → toPs x = toPs y → x = y
  | [], [], _, _, _ => rfl
  | [], _ :: _, _, _, e => by simp [toPs] at e
  | _ :: _, [], _, _, e => by simp [toPs] at e
  | a :: as, b :: bs, c, c', e => by
    simp only [toPs, List.cons.injEq] at e
    simp only [cleanL, Bool.and_eq_true] at c c'
    rw [toP_inj c.1 c'.1 e.1, toPs_inj c.2 c'.2 e.2]
end
theorem cleanL_all : ∀ {ds : List D}, cleanL ds = true ↔ ∀ d ∈ ds, clean d = true
  | [] => by simp [cleanL]
  | d :: ds => by simp [cleanL, cleanL_all (ds := ds)]

/-! ### order -/
def ordOk (x y : D) : Bool := cmpOk x && cmpOk y && PySem.W.alike (toP x) (toP y) && !isNonD x
def ltA (x y : D) : Option D := if ordOk x y = true then some (.bl (PySem.W.dataLt (toP x) (toP y))) else none
def gtA (x y : D) : Option D := if ordOk x y = true then some (.bl (PySem.W.dataLt (toP y) (toP x))) else none
def leA (x y : D) : Option D := if ordOk x y = true then some (.bl (!PySem.W.dataLt (toP y) (toP x))) else none
def geA (x y : D) : Option D := if ordOk x y = true then some (.bl (!PySem.W.dataLt (toP x) (toP y))) else none
theorem ordOk_ii (a b : Int) : ordOk (.int a) (.int b) = true := by simp [ordOk, cmpOk, clean, toP, SeqAt.shaped, PyData.canLay0, PyData.depth, PySem.W.alike, isNonD]
@[simp] theorem ltA_ii (a b : Int) : ltA (.int a) (.int b) = some (.bl (decide (a < b))) := by unfold ltA; rw [if_pos (ordOk_ii a b)]; simp [toP, PySem.W.dataLt_int]
@[simp] theorem gtA_ii (a b : Int) : gtA (.int a) (.int b) = some (.bl (decide (b < a))) := by unfold gtA; rw [if_pos (ordOk_ii a b)]; simp [toP, PySem.W.dataLt_int]
@[simp] theorem leA_ii (a b : Int) : leA (.int a) (.int b) = some (.bl (decide (a ≤ b))) := by unfold leA; rw [if_pos (ordOk_ii a b)]; simp only [toP, PySem.W.dataLt_int, ← decide_not]; exact congrArg (fun z => some (D.bl z)) (decide_eq_decide.mpr (by omega))
@[simp] theorem geA_ii (a b : Int) : geA (.int a) (.int b) = some (.bl (decide (b ≤ a))) := by unfold geA; rw [if_pos (ordOk_ii a b)]; simp only [toP, PySem.W.dataLt_int, ← decide_not]; exact congrArg (fun z => some (D.bl z)) (decide_eq_decide.mpr (by omega))
def rOrd (K : PySem.W.Frag) (f : PyData → PyData → Bool) : R2 := fun x y H Q => ∃ d e, Dp K H x d ∧ Dp K H y e ∧ PySem.W.alike d e = true ∧ d ≠ .none ∧ d.depth ≤ 64 ∧ Q (.bl (f d e)) H
section
variable {X : Cx} {K : PySem.W.Frag}
theorem dmin {d e : PyData} (h : d.depth ≤ 64) : min d.depth e.depth ≤ 64 := Nat.le_trans (Nat.min_le_left _ _) h
theorem op_ltA (hk : X.K = K) (hu : X.A.units + 200 < cLine) : OpR X (compareOp .Lt) (rOrd K fun d e => PySem.W.dataLt d e) := by
  subst hk
  intro pins s σ H x y v u Q I rx ry ⟨d, e, hd, he, ha, hn, hz, q⟩
  obtain ⟨as, r1⟩ := Dp.reads I d x v hd rx
  obtain ⟨bs, r2⟩ := Dp.reads I e y u he ry
  have := dmin (e := e) hz
  exact PySem.W.lt_data r1 r2 ha hn (by omega) ⟨.bl _, H, I, rfl, q⟩
theorem op_gtA (hk : X.K = K) (hu : X.A.units + 200 < cLine) : OpR X (compareOp .Gt) (rOrd K fun d e => PySem.W.dataLt e d) := by
  subst hk
  intro pins s σ H x y v u Q I rx ry ⟨d, e, hd, he, ha, hn, hz, q⟩
  obtain ⟨as, r1⟩ := Dp.reads I d x v hd rx
  obtain ⟨bs, r2⟩ := Dp.reads I e y u he ry
  have := dmin (e := e) hz
  exact PySem.W.gt_data r1 r2 ha hn (by omega) ⟨.bl _, H, I, rfl, q⟩
theorem op_leA (hk : X.K = K) (hu : X.A.units + 200 < cLine) : OpR X (compareOp .LtE) (rOrd K fun d e => !PySem.W.dataLt e d) := by
  subst hk
  intro pins s σ H x y v u Q I rx ry ⟨d, e, hd, he, ha, hn, hz, q⟩
  obtain ⟨as, r1⟩ := Dp.reads I d x v hd rx
  obtain ⟨bs, r2⟩ := Dp.reads I e y u he ry
  have := dmin (e := e) hz
  exact PySem.W.le_data r1 r2 ha hn (by omega) ⟨.bl _, H, I, rfl, q⟩
theorem op_geA (hk : X.K = K) (hu : X.A.units + 200 < cLine) : OpR X (compareOp .GtE) (rOrd K fun d e => !PySem.W.dataLt d e) := by
  subst hk
  intro pins s σ H x y v u Q I rx ry ⟨d, e, hd, he, ha, hn, hz, q⟩
  obtain ⟨as, r1⟩ := Dp.reads I d x v hd rx
  obtain ⟨bs, r2⟩ := Dp.reads I e y u he ry
  have := dmin (e := e) hz
  exact PySem.W.ge_data r1 r2 ha hn (by omega) ⟨.bl _, H, I, rfl, q⟩
theorem v_ord {f : PyData → PyData → Bool} {gg : D → D → Option D} (hg : ∀ x y, gg x y = if ordOk x y = true then some (.bl (f (toP x) (toP y))) else none) : V2 K (rOrd K f) gg := fun pd F H x y d v w fh rx ry e Q q => by
  rw [hg] at e
  split at e
  · rename_i h
    cases e
    unfold ordOk cmpOk at h
    simp only [Bool.and_eq_true, Bool.not_eq_true'] at h
    obtain ⟨⟨⟨⟨c1, s1⟩, c2, s2⟩, ha⟩, hn⟩ := h
    exact ⟨_, _, rx.dp fh c1, ry.dp fh c2, ha, by cases x <;> simp [toP, isNonD] at hn ⊢, SeqAt.depth_of_shaped s1, q _ F H (.refl fh) (by simp [Rep])⟩
  · cases e
theorem v_ltA : V2 K (rOrd K fun d e => PySem.W.dataLt d e) ltA := v_ord fun _ _ => rfl
theorem v_gtA : V2 K (rOrd K fun d e => PySem.W.dataLt e d) gtA := v_ord fun _ _ => rfl
theorem v_leA : V2 K (rOrd K fun d e => !PySem.W.dataLt e d) leA := v_ord fun _ _ => rfl
theorem v_geA : V2 K (rOrd K fun d e => !PySem.W.dataLt d e) geA := v_ord fun _ _ => rfl
theorem op_eqA (hk : X.K = K) (hu : X.A.units + 200 < cLine) : OpR X (compareOp .Eq) (rEqD K) := by subst hk; exact op_eqD (by omega)
theorem op_neA (hk : X.K = K) (hu : X.A.units + 200 < cLine) : OpR X (compareOp .NotEq) (rNeD K) := by subst hk; exact op_neD (by omega)

/-! ### in -/
def hasD (d : D) (ds : List D) : Bool := ds.any fun z => PyData.eqv (toP z) (toP d)
def inD (x y : D) : Option D := match seqD y with
  | some ds => if cmpOk x = true ∧ cmpOk y = true then some (.bl (hasD x ds)) else none
  | none => none
def ninD (x y : D) : Option D := match seqD y with
  | some ds => if cmpOk x = true ∧ cmpOk y = true then some (.bl (!hasD x ds)) else none
  | none => none
def sqP (b : Bool) (ds : List PyData) : PyData := if b = true then .tuple ds else .list ds
def rInA (K : PySem.W.Frag) (f : Bool → Bool) : R2 := fun x y H Q => ∃ b d ds, Dp K H x d ∧ Dp K H y (sqP b ds) ∧ SeqAt.shaped d = true ∧ SeqAt.shaped (sqP b ds) = true ∧ Q (.bl (f (ds.any fun z => PyData.eqv z d))) H
theorem op_inA (hk : X.K = K) (hu : X.A.units + 200 < cLine) : OpR X (compareOp .In) (rInA K id) := by
  subst hk
  intro pins s σ H x y v u Q I rx ry ⟨b, d, ds, hd, he, sd, se, q⟩
  obtain ⟨as, r1⟩ := Dp.reads I d x v hd rx
  cases b with
  | false =>
    obtain ⟨bs, r2⟩ := Dp.reads I (.list ds) y u he ry
    exact SeqAt.in_list_reads r2 r1 (SeqAt.canLay_of_shaped se) (SeqAt.canLay_of_shaped sd) (room_in_shaped sd (by omega)) ⟨.bl _, H, I, rfl, q⟩
  | true =>
    obtain ⟨bs, r2⟩ := Dp.reads I (.tuple ds) y u he ry
    exact SeqAt.in_tuple_reads r2 r1 (SeqAt.canLay_of_shaped se) (SeqAt.canLay_of_shaped sd) (room_in_shaped sd (by omega)) ⟨.bl _, H, I, rfl, q⟩
theorem op_ninA (hk : X.K = K) (hu : X.A.units + 200 < cLine) : OpR X (compareOp .NotIn) (rInA K not) := by
  subst hk
  intro pins s σ H x y v u Q I rx ry ⟨b, d, ds, hd, he, sd, se, q⟩
  obtain ⟨as, r1⟩ := Dp.reads I d x v hd rx
  cases b with
  | false =>
    obtain ⟨bs, r2⟩ := Dp.reads I (.list ds) y u he ry
    exact SeqAt.notIn_list_reads r2 r1 (SeqAt.canLay_of_shaped se) (SeqAt.canLay_of_shaped sd) (room_in_shaped sd (by omega)) ⟨.bl _, H, I, rfl, q⟩
  | true =>
    obtain ⟨bs, r2⟩ := Dp.reads I (.tuple ds) y u he ry
    exact SeqAt.notIn_tuple_reads r2 r1 (SeqAt.canLay_of_shaped se) (SeqAt.canLay_of_shaped sd) (room_in_shaped sd (by omega)) ⟨.bl _, H, I, rfl, q⟩
theorem any_toP (d : D) (ds : List D) : ((toPs ds).any fun z => PyData.eqv z (toP d)) = hasD d ds := by rw [toPs_eq, List.any_map]; rfl
theorem seq_sq {y : D} {ds : List D} (e : seqD y = some ds) : ∃ b, toP y = sqP b (toPs ds) := by
  cases y <;> first | (cases e; done) | skip
  · cases e; exact ⟨true, by simp [toP, sqP]⟩
  · cases e; exact ⟨false, by simp [toP, sqP]⟩
theorem v_inG {f : Bool → Bool} {gg : D → D → Option D} (hg : ∀ x y, gg x y = match seqD y with
    | some ds => if cmpOk x = true ∧ cmpOk y = true then some (.bl (f (hasD x ds))) else none
    | none => none) : V2 K (rInA K f) gg := fun pd F H x y d v w fh rx ry e Q q => by
  rw [hg] at e
  cases h5 : seqD y with
  | none => rw [h5] at e; cases e
  | some ds =>
    rw [h5] at e
    have e : (if cmpOk x = true ∧ cmpOk y = true then some (D.bl (f (hasD x ds))) else none) = some d := e
    split at e
    · rename_i h
      cases e
      unfold cmpOk at h
      simp only [Bool.and_eq_true] at h
      obtain ⟨⟨c1, s1⟩, c2, s2⟩ := h
      obtain ⟨b, hb⟩ := seq_sq h5
      have dy := ry.dp fh c2
      rw [hb] at dy s2
      exact ⟨b, _, _, rx.dp fh c1, dy, s1, s2, by rw [any_toP]; exact q _ F H (.refl fh) (by simp [Rep])⟩
    · cases e
theorem v_in : V2 K (rInA K id) inD := v_inG fun _ _ => rfl
theorem v_nin : V2 K (rInA K not) ninD := v_inG fun _ _ => rfl

/-! ### min, max of a sequence -/
def minA (x : D) (xs : List D) : D := xs.foldl (fun a y => if PySem.W.dataLt (toP y) (toP a) = true then y else a) x
def maxA (x : D) (xs : List D) : D := xs.foldl (fun a y => if PySem.W.dataLt (toP a) (toP y) = true then y else a) x
def allCmp (ds : List D) : Bool := (ds.all fun x => cmpOk x && !isNonD x) && ds.all fun x => ds.all fun y => PySem.W.alike (toP x) (toP y)
def onSeq {α : Type} (k : List D → Option α) : List D → Option α
  | [d] => match seqD d with
    | some ds => k ds
    | none => none
  | _ => none
def minD : List D → Option D := onSeq fun ds => match ds with
  | x :: xs => if allCmp (x :: xs) = true then some (minA x xs) else none
  | [] => none
def maxD : List D → Option D := onSeq fun ds => match ds with
  | x :: xs => if allCmp (x :: xs) = true then some (maxA x xs) else none
  | [] => none
theorem fold_toP (c : PyData → PyData → Bool) : ∀ (xs : List D) (x : D), toP (xs.foldl (fun a y => if c (toP y) (toP a) = true then y else a) x) = (toPs xs).foldl (fun a y => if c y a = true then y else a) (toP x)
  | [], x => rfl
  | y :: ys, x => by
    rw [List.foldl_cons, fold_toP c ys, toPs, List.foldl_cons]
    by_cases h : c (toP y) (toP x) = true
    · rw [if_pos h, if_pos h]
    · rw [if_neg h, if_neg h]
theorem minA_toP (x : D) (xs : List D) : toP (minA x xs) = PySem.W.minD (toP x) (toPs xs) := fold_toP (fun y a => PySem.W.dataLt y a) xs x
theorem maxA_toP (x : D) (xs : List D) : toP (maxA x xs) = PySem.W.maxD (toP x) (toPs xs) := fold_toP (fun y a => PySem.W.dataLt a y) xs x
theorem fold_mem (c : D → D → Bool) : ∀ (xs : List D) (x : D), xs.foldl (fun a y => if c y a = true then y else a) x ∈ x :: xs
  | [], x => by simp
  | y :: ys, x => by
    rw [List.foldl_cons]
    have := fold_mem c ys (if c y x = true then y else x)
    by_cases h : c y x = true
    · rw [if_pos h] at this ⊢
      exact List.mem_cons_of_mem _ this
    · rw [if_neg h] at this ⊢
      rcases List.mem_cons.mp this with z | z
      · rw [z]; simp
      · exact List.mem_cons_of_mem _ (List.mem_cons_of_mem _ z)
theorem minA_mem (x : D) (xs : List D) : minA x xs ∈ x :: xs := fold_mem (fun y a => PySem.W.dataLt (toP y) (toP a)) xs x
theorem maxA_mem (x : D) (xs : List D) : maxA x xs ∈ x :: xs := fold_mem (fun y a => PySem.W.dataLt (toP a) (toP y)) xs x
theorem allCmp_mem {ds : List D} (h : allCmp ds = true) : (∀ x ∈ ds, clean x = true ∧ SeqAt.shaped (toP x) = true ∧ isNonD x = false) ∧ ∀ x ∈ ds, ∀ y ∈ ds, PySem.W.alike (toP x) (toP y) = true := by
  unfold allCmp cmpOk at h
  simp only [Bool.and_eq_true, List.all_eq_true, Bool.not_eq_true'] at h
  exact ⟨fun x hx => ⟨(h.1 x hx).1.1, (h.1 x hx).1.2, (h.1 x hx).2⟩, h.2⟩
theorem alike_all {ds : List D} (h : allCmp ds = true) : PySem.W.AlikeAll (toPs ds) := by
  obtain ⟨h1, h2⟩ := allCmp_mem h
  rw [toPs_eq]
  refine ⟨fun x hx y hy => ?_, fun x hx => ?_⟩
  · obtain ⟨a, ha, rfl⟩ := List.mem_map.mp hx
    obtain ⟨b, hb, rfl⟩ := List.mem_map.mp hy
    exact h2 a ha b hb
  · obtain ⟨a, ha, rfl⟩ := List.mem_map.mp hx
    have := (h1 a ha).2.2
    cases a <;> simp [toP, isNonD] at this ⊢
theorem depthAll_le : ∀ {ds : List D}, (∀ x ∈ ds, SeqAt.shaped (toP x) = true) → PyData.depthAll (toPs ds) ≤ 64
  | [], _ => by simp [toPs, PyData.depthAll]
  | d :: ds, h => by
    have h1 := SeqAt.depth_of_shaped (h d (by simp))
    have h2 := depthAll_le (ds := ds) fun x hx => h x (by simp [hx])
    simp only [toPs, PyData.depthAll]
    omega
def rBest (K : PySem.W.Frag) (f : PyData → List PyData → PyData) : List V → Hp → VK → Prop := fun vs H Q => ∃ b a xs d ds, vs = [V.ref a] ∧ SqA K H b a xs ∧ DpAll K H xs (d :: ds) ∧ PySem.W.AlikeAll (d :: ds) ∧ PyData.depthAll (d :: ds) ≤ 64 ∧ (f d ds ∈ d :: ds) ∧
  ∀ (i : Nat) (v : V), (xs : List V)[i]? = some v → (d :: ds)[i]? = some (f d ds) → Q v H
theorem Vals.getB : ∀ {xs : List V} {us : List Value} {i : Nat} {u : Value}, Vals xs us → us[i]? = some u → ∃ x, xs[i]? = some x ∧ L2.RelV x u
  | _, _, i, u, .nil, e => by simp at e
  | _, _, 0, u, .cons r t, e => by simp at e; subst e; exact ⟨_, rfl, r⟩
  | _, _, i + 1, u, .cons r t, e => by
    obtain ⟨x, h1, h2⟩ := Vals.getB (i := i) t (by simpa using e)
    exact ⟨x, by simpa using h1, h2⟩
theorem readsAll_get : ∀ {h : Heap} {vs : List Value} {ds : List PyData} {as : List Addr} {i : Nat} {v : Value}, ReadsAll h vs ds as → vs[i]? = some v → ∃ d bs, ds[i]? = some d ∧ Reads h v d bs
  | _, _, _, _, i, v, .nil, e => by simp at e
  | _, _, _, _, 0, v, .cons r t, e => by simp at e; subst e; exact ⟨_, _, rfl, r⟩
  | _, _, _, _, i + 1, v, .cons r t, e => by
    obtain ⟨d, bs, h1, h2⟩ := readsAll_get (i := i) t (by simpa using e)
    exact ⟨d, bs, by simpa using h1, h2⟩
theorem c_best {id : String} {f : PyData → List PyData → PyData} (hk : X.K = K)
    (hl : ∀ {prog : Program} {w : World} {A : Around} {E : Value → Shared → Prop} {s : Shared} {l : Addr} {b : Bool} {vs : Array Value} {x : PyData} {xs : List PyData} {as : List Addr} {Q : Value → Shared → Prop}, A.handled = none → SeqB s.heap b l vs → ReadsAll s.heap vs.toList (x :: xs) as → PySem.W.AlikeAll (x :: xs) → A.units + 1 + PyData.depthAll (x :: xs) < cLine →
      (∀ (i : Nat) v h' tk bs, vs[i]? = some v → Reads h' v (f x xs) bs → (∀ b o, s.heap.get? b = some o → h'.get? b = some o) → Q v { s with heap := h', toks := tk }) → wpAny (model prog w) A (call (.builtin id) [.ref l]) Q E s)
    (hc : X.calm = true) (hu : X.A.units + 200 < cLine) : CallR X (.builtin id) (rBest K f) := by
  subst hk
  intro pins s σ H vs us Q I r h
  obtain ⟨b, a, xs, d, ds, rfl, hs, hd, ha, hz, hm, q⟩ := h
  obtain ⟨its, rv, p⟩ := inv_seqA I hs
  rw [Vals.ref1 r]
  obtain ⟨as, ra⟩ := Dp.readsAll I (d :: ds) xs its hd rv
  refine hl (I.ok.hd hc) p ra ha (by omega) fun i v h' tk bs hv rd hkeep => ?_
  have hv' : its[i]? = some v := by simpa using hv
  obtain ⟨x, hx, rx⟩ := Vals.getB rv hv'
  obtain ⟨e, cs, he, re⟩ := readsAll_get ra hv'
  have hmem : e ∈ d :: ds := List.mem_of_getElem? he
  have ee : e = f d ds := PySem.W.alike_unique e (f d ds) v cs bs (ha.1 _ hmem _ hm) (PySem.W.reads_keeps hkeep re) rd
  subst ee
  exact ⟨x, H, I.kept hkeep, rx, q i x hx he⟩
theorem c_min (hk : X.K = K) (hc : X.calm = true) (hu : X.A.units + 200 < cLine) : CallR X (.builtin "min") (rBest K PySem.W.minD) := c_best hk (fun {prog w A E s l b vs x xs as Q} h0 h1 h2 h3 h4 h5 => by
  cases b
  · exact PySem.W.min_list_data h0 h1 h2 h3 h4 h5
  · exact PySem.W.min_tuple_data h0 h1 h2 h3 h4 h5) hc hu
theorem c_max (hk : X.K = K) (hc : X.calm = true) (hu : X.A.units + 200 < cLine) : CallR X (.builtin "max") (rBest K PySem.W.maxD) := c_best hk (fun {prog w A E s l b vs x xs as Q} h0 h1 h2 h3 h4 h5 => by
  cases b
  · exact PySem.W.max_list_data h0 h1 h2 h3 h4 h5
  · exact PySem.W.max_tuple_data h0 h1 h2 h3 h4 h5) hc hu
theorem seqV {pd : Option PD} {F H : Hp} {d : D} {v : V} {ds : List D} (fh : Same F H) (r : RepB K pd F H d v) (e : seqD d = some ds) : ∃ b a xs, v = .ref a ∧ ds.length ≤ SZ ∧ SqA K H b a xs ∧ RepL K pd F ds xs := by
  obtain ⟨b, a, xs, h1, h2, h3⟩ := seqW r e
  exact ⟨b, a, xs, h1, h2, h3 F H (.refl fh)⟩
theorem v_best {f : PyData → List PyData → PyData} {fA : D → List D → D} (h1 : ∀ x xs, toP (fA x xs) = f (toP x) (toPs xs)) (h2 : ∀ x xs, fA x xs ∈ x :: xs) {gg : List D → Option D}
    (hg : gg = onSeq fun ds => match ds with
      | x :: xs => if allCmp (x :: xs) = true then some (fA x xs) else none
      | [] => none) : VL K (rBest K f) gg := fun pd F H xs d vs fh r e Q q => by
  subst hg
  unfold onSeq at e
  split at e
  · rename_i d0
    cases r with
    | cons r0 rt =>
      cases rt
      cases h5 : seqD d0 with
      | none => rw [h5] at e; cases e
      | some ds =>
        rw [h5] at e
        cases ds with
        | nil => cases e
        | cons x xs =>
          have e : (if allCmp (x :: xs) = true then some (fA x xs) else none) = some d := e
          split at e
          · rename_i hc
            cases e
            obtain ⟨b, a, ys, rfl, hl, sq, rr⟩ := seqV fh r0 h5
            obtain ⟨m1, m2⟩ := allCmp_mem hc
            have hcl : cleanL (x :: xs) = true := cleanL_all.mpr fun z hz => (m1 z hz).1
            refine ⟨b, a, ys, toP x, toPs xs, rfl, sq, RepL.dp fh hcl rr, alike_all hc, depthAll_le (ds := x :: xs) fun z hz => (m1 z hz).2.1, ?_, fun i v hv hi => ?_⟩
            · rw [← h1]
              have := List.mem_map_of_mem (f := toP) (h2 x xs)
              rw [← toPs_eq] at this
              exact this
            · obtain ⟨dd, hdd, rd⟩ := rr.getV hv
              have hi' : (toPs (x :: xs))[i]? = some (f (toP x) (toPs xs)) := hi
              rw [toPs_eq, List.getElem?_map, hdd, ← h1] at hi'
              have : dd = fA x xs := toP_inj (m1 _ (List.mem_of_getElem? hdd)).1 (m1 _ (h2 x xs)).1 (Option.some.inj hi')
              subst this
              exact q v F H (.refl fh) rd
          · cases e
  · cases e
theorem v_min : VL K (rBest K PySem.W.minD) minD := v_best minA_toP minA_mem rfl
theorem v_max : VL K (rBest K PySem.W.maxD) maxD := v_best maxA_toP maxA_mem rfl

/-! ### sum, all, any -/
def intsD : List D → Option (List Int)
  | [] => some []
  | .int i :: ds => (intsD ds).map (i :: ·)
  | _ => none
def blsD : List D → Option (List Bool)
  | [] => some []
  | .bl i :: ds => (blsD ds).map (i :: ·)
  | _ => none
theorem intsD_eq : ∀ {ds : List D} {ns : List Int}, intsD ds = some ns → ds = ns.map D.int
  | [], _, e => by cases e; rfl
  | .int i :: ds, ns, e => by
    simp only [intsD] at e
    cases h : intsD ds with
    | none => rw [h] at e; cases e
    | some ms => rw [h] at e; cases e; rw [intsD_eq h]; rfl
  | .non :: _, _, e => by cases e
  | .bl _ :: _, _, e => by cases e
  | .str _ :: _, _, e => by cases e
  | .tup _ :: _, _, e => by cases e
  | .lst _ :: _, _, e => by cases e
  | .rng :: _, _, e => by cases e
  | .dic _ _ :: _, _, e => by cases e
theorem blsD_eq : ∀ {ds : List D} {ns : List Bool}, blsD ds = some ns → ds = ns.map D.bl
  | [], _, e => by cases e; rfl
  | .bl i :: ds, ns, e => by
    simp only [blsD] at e
    cases h : blsD ds with
    | none => rw [h] at e; cases e
    | some ms => rw [h] at e; cases e; rw [blsD_eq h]; rfl
  | .non :: _, _, e => by cases e
  | .int _ :: _, _, e => by cases e
  | .str _ :: _, _, e => by cases e
  | .tup _ :: _, _, e => by cases e
  | .lst _ :: _, _, e => by cases e
  | .rng :: _, _, e => by cases e
  | .dic _ _ :: _, _, e => by cases e
@[simp] theorem intsD_map : ∀ ns : List Int, intsD (ns.map D.int) = some ns
  | [] => rfl
  | n :: ns => by simp [intsD, intsD_map ns]
@[simp] theorem blsD_map : ∀ ns : List Bool, blsD (ns.map D.bl) = some ns
  | [] => rfl
  | n :: ns => by simp [blsD, blsD_map ns]
def sumD : List D → Option D := onSeq fun ds => (intsD ds).map fun ns => .int ns.sum
def allD : List D → Option D
  | [.lst ds] => (blsD ds).map fun bs => .bl (bs.all id)
  | _ => none
def anyD : List D → Option D
  | [.lst ds] => (blsD ds).map fun bs => .bl (bs.any id)
  | _ => none
def rSumA (K : PySem.W.Frag) : List V → Hp → VK → Prop := fun vs H Q => ∃ (b : Bool) (a : Addr) (ns : List Int), vs = [V.ref a] ∧ SqA K H b a (ns.map V.int) ∧ Q (.int ns.sum) H
theorem c_sum (hk : X.K = K) (hc : X.calm = true) : CallR X (.builtin "sum") (rSumA K) := by
  subst hk
  intro pins s σ H vs us Q I r h
  obtain ⟨b, a, ns, rfl, hs, q⟩ := h
  cases b with
  | false => exact cr_sum hc pins s σ H _ us Q I r ⟨a, ns, rfl, hs, q⟩
  | true =>
    obtain ⟨its, rv, p, _⟩ := I.tuple (show SqT X.K H a (ns.map V.int) from hs)
    rw [Vals.ref1 r]
    have hi : IntsAre its ns := Vals.ints rv
    obtain ⟨xs, hx⟩ := hi.allInts.items
    have hn : numsOf its.toArray.toList = ns := by rw [show its.toArray.toList = its from rfl, hi.numsOf]
    have ht : s.heap.IsTuple a its.toArray := p
    rw [hx] at ht hn
    rw [nums_intItems] at hn
    refine PySem.W.ktm_sumG (I.ok.hd hc) ht fun h' tk t' hkp => ?_
    rw [preSum_eq, List.take_of_length_le (by simp), hn]
    exact ⟨.int _, H, I.kept hkp, ⟨_, rfl⟩, q⟩
theorem v_sum : VL K (rSumA K) sumD := fun pd F H xs d vs fh r e Q q => by
  unfold sumD onSeq at e
  split at e
  · rename_i d0
    cases r with
    | cons r0 rt =>
      cases rt
      cases h5 : seqD d0 with
      | none => rw [h5] at e; cases e
      | some ds =>
        rw [h5] at e
        have e : (intsD ds).map (fun ns => D.int ns.sum) = some d := e
        cases h6 : intsD ds with
        | none => rw [h6] at e; cases e
        | some ns =>
          rw [h6] at e; cases e
          obtain ⟨b, a, ys, rfl, hl, sq, rr⟩ := seqV fh r0 h5
          rw [intsD_eq h6] at rr
          rw [rr.ints] at sq
          exact ⟨b, a, ns, rfl, sq, q _ F H (.refl fh) (by simp [Rep])⟩
  · cases e
theorem c_all (hk : X.K = K) (hc : X.calm = true) : CallR X (.builtin "all") (rAll K) := by subst hk; exact cr_all hc
theorem c_any (hk : X.K = K) (hc : X.calm = true) : CallR X (.builtin "any") (rAny K) := by subst hk; exact cr_any hc
theorem v_all : VL K (rAll K) allD := fun pd F H xs d vs fh r e Q q => by
  unfold allD at e
  split at e
  · rename_i ds
    cases h6 : blsD ds with
    | none => rw [h6] at e; cases e
    | some bs =>
      rw [h6] at e; cases e
      cases r with
      | cons r0 rt =>
        cases rt
        obtain ⟨a, ys, rfl, h3, _, h4⟩ := r0.lst fh
        rw [blsD_eq h6] at h4
        rw [h4.bls] at h3
        exact ⟨a, bs, rfl, .of h3, q _ F H (.refl fh) (by simp [Rep])⟩
  · cases e
theorem v_any : VL K (rAny K) anyD := fun pd F H xs d vs fh r e Q q => by
  unfold anyD at e
  split at e
  · rename_i ds
    cases h6 : blsD ds with
    | none => rw [h6] at e; cases e
    | some bs =>
      rw [h6] at e; cases e
      cases r with
      | cons r0 rt =>
        cases rt
        obtain ⟨a, ys, rfl, h3, _, h4⟩ := r0.lst fh
        rw [blsD_eq h6] at h4
        rw [h4.bls] at h3
        exact ⟨a, bs, rfl, .of h3, q _ F H (.refl fh) (by simp [Rep])⟩
  · cases e

/-! ### is True -/
def isBD : D → D → Option D
  | .bl a, .bl b => some (.bl (decide (a = b)))
  | _, _ => none
def isNotBD : D → D → Option D
  | .bl a, .bl b => some (.bl (!decide (a = b)))
  | _, _ => none
theorem v_isB : V2 K rIsB isBD := fun pd F H x y d v w fh rx ry e Q q => by
  cases x <;> cases y <;> first | (cases e; done) | skip
  cases e
  exact ⟨_, _, rx.bl, ry.bl, q _ F H (.refl fh) (by simp [Rep])⟩
theorem v_isNotB : V2 K rNotB isNotBD := fun pd F H x y d v w fh rx ry e Q q => by
  cases x <;> cases y <;> first | (cases e; done) | skip
  cases e
  exact ⟨_, _, rx.bl, ry.bl, q _ F H (.refl fh) (by simp [Rep])⟩

/-! ### += of ints; powers -/
def addI : D → D → Option D
  | .int a, .int b => some (.int (a + b))
  | _, _ => none
theorem v_iadd : V2 K (rI0 fun i j => .int (i + j)) addI := v2I0 (g := fun i j => .int (i + j)) (fun _ _ _ _ => by simp [Rep]) (int2 (fun _ _ => rfl) fun x y h => by cases x <;> cases y <;> first | rfl | exact (h _ _ rfl rfl).elim)
def powD : D → D → Option D
  | .int i, .int j => if 0 ≤ j ∧ j ≤ 1000000 ∧ i.natAbs < 2 ^ 64 then some (.int (i ^ j.toNat)) else none
  | _, _ => none
theorem v_pow : V2 K (rI CPow fun i j => .int (i ^ j.toNat)) powD := v2I (g := fun i j => .int (i ^ j.toNat)) (fun _ _ _ _ => by simp [Rep]) fun x y d e => by
  cases x <;> cases y <;> first | (cases e; done) | skip
  rename_i i j
  simp only [powD] at e
  split at e
  · rename_i h; exact ⟨i, j, rfl, rfl, h, (Option.some.inj e).symm⟩
  · cases e
end
end Pu
namespace Pu
open PySem PySem.Spec PyProof.Rows L2

/-! ### tuple * int -/
theorem tmul_same (l : Addr) (items : Array Value) (n : Nat) (dd : Option Addr) (sl : Array (Option Value)) (x : Int) (u : Tok) (c0 : (decide (x < -(2 ^ 63)) || decide (x ≥ 2 ^ 63)) = false) (c1 : (items.isEmpty || x == 1) = true) :
    Meets (Builtin.«tuple.__mul__» ⟨[.ref l, .int x u], []⟩) (fun _ R s => s.heap.get? l = some { cls := .type "tuple", dict := dd, data := .seq items n, slots := sl } ∧ R (.ok (.ret (Value.ref l))) s) :=
  .of_wp fun prog w A R s h => by
    obtain ⟨hp, g, d, tk, os⟩ := s
    obtain ⟨hl, h⟩ := h
    have f1 := AutoSeq1.idx_int
    wp_walk using wpAny_loadPart' hl
    repeat (first
      | (refine wpAny_ite_false (decide_eq_false (by rw [c0]; exact Bool.false_ne_true)) ?_; wp_walk using wpAny_loadPart' hl)
      | (refine wpAny_ite_true (decide_eq_true c1) ?_; wp_walk using wpAny_loadPart' hl))
    exact ⟨_, rfl, h⟩
theorem tmul_none (l : Addr) (items : Array Value) (n : Nat) (dd : Option Addr) (sl : Array (Option Value)) (x : Int) (u : Tok) (c0 : (decide (x < -(2 ^ 63)) || decide (x ≥ 2 ^ 63)) = false) (c1 : (items.isEmpty || x == 1) = false) (c2 : (decide (x ≤ 0) || items.isEmpty) = true) :
    Meets (Builtin.«tuple.__mul__» ⟨[.ref l, .int x u], []⟩) (fun _ R s => s.heap.get? l = some { cls := .type "tuple", dict := dd, data := .seq items n, slots := sl } ∧
      R (.ok (.ret (Value.ref s.heap.objs.size))) { s with heap := s.heap.push { cls := Value.type "tuple", data := Data.seq #[] }, toks := s.toks }) :=
  .of_wp fun prog w A R s h => by
    obtain ⟨hp, g, d, tk, os⟩ := s
    obtain ⟨hl, h⟩ := h
    have f1 := AutoSeq1.idx_int
    wp_walk using wpAny_loadPart' hl
    repeat (first
      | (refine wpAny_ite_false (decide_eq_false (by rw [c0]; exact Bool.false_ne_true)) ?_; wp_walk using wpAny_loadPart' hl)
      | (refine wpAny_ite_false (decide_eq_false (by rw [c1]; exact Bool.false_ne_true)) ?_; wp_walk using wpAny_loadPart' hl)
      | (refine wpAny_ite_true (decide_eq_true c2) ?_; wp_walk using wpAny_loadPart' hl))
    exact ⟨_, rfl, h⟩
def rRepA (K : PySem.W.Frag) : R2 := fun x y H Q => ∃ l k xs, x = .ref l ∧ y = .int k ∧ SqT K H l xs ∧ -(2 ^ 63) ≤ k ∧ k ≤ 1000 ∧ xs.length ≤ 1000 ∧ (xs = [] ∨ k = 1 → Q (.ref l) H) ∧ (xs ≠ [] → k ≠ 1 → ∀ p, H p = none → Q (.ref p) (L2.upd H p (.tup (List.replicate k.toNat xs).flatten)))
section
variable {X : Cx} {K : PySem.W.Frag}
theorem op_repTA (hk : X.K = K) : OpR X (binaryOp .Mult) (rRepA K) := by
  subst hk
  intro pins s σ H x y v u Q I rx ry h
  obtain ⟨l, k, xs, rfl, rfl, hT, h1, h2, hz, q1, q2⟩ := h
  by_cases hbig : xs ≠ [] ∧ 2 ≤ k
  · exact op_repT pins s σ H _ _ v u Q I rx ry ⟨l, k, xs, rfl, rfl, hT, hbig.1, hbig.2, h2, hz, q2 hbig.1 (by omega)⟩
  cases rx
  obtain ⟨t, rfl⟩ := ry
  obtain ⟨its, r, ⟨⟨cls, dd, data, sl⟩, ho, hc, n, hd⟩, hs⟩ := I.tuple hT
  simp only at hc hd
  subst hc hd
  have hle : its.length = xs.length := r.length.symm
  have c0 : (decide (k < -(2 ^ 63)) || decide (k ≥ 2 ^ 63)) = false := by
    rw [decide_eq_false (by omega), decide_eq_false (by omega)] <;> rfl
  by_cases hsame : xs = [] ∨ k = 1
  · have c1 : (its.toArray.isEmpty || k == 1) = true := by
      rcases hsame with e | e
      · subst e
        cases its with
        | nil => rfl
        | cons a b => cases hle
      · subst e; simp
    exact wpAny_binaryOp_repeat_ref (T := "tuple") (U := "int") (by decide) ⟨_, ho, rfl⟩ (fun s' => typeIs_int s' k t) noFill_tuple_mul F.fills_int_mul F.slot_int_rmul repeat_tuple F.slot_int_index.lookup
      (call_meets F.slot_int_rmul (typeIs_int s k t) F.entry_int_rmul (F.args_int_rmul_2 _ _) (int_rmul_tuple k t l its.toArray n dd sl)
        ⟨ho, rfl, ⟨_, ho, rfl⟩, call_meets F.slot_tuple_mul ⟨_, ho, rfl⟩ F.entry_tuple_mul (F.args_tuple_mul_2 _ _) (tmul_same l its.toArray n dd sl k t c0 c1) ⟨ho, .ref l, H, I, rfl, q1 hsame⟩⟩)
  · have hx : xs ≠ [] := fun e => hsame (.inl e)
    have hk1 : k ≠ 1 := fun e => hsame (.inr e)
    have hk0 : k ≤ 0 := by
      by_cases h2 : 2 ≤ k
      · exact absurd ⟨hx, h2⟩ hbig
      · omega
    have hi : its.toArray.isEmpty = false := by
      cases its with
      | nil => exact absurd (List.eq_nil_of_length_eq_zero hle.symm) hx
      | cons a b => rfl
    have c1 : (its.toArray.isEmpty || k == 1) = false := by
      rw [hi, Bool.false_or]
      exact beq_eq_false_iff_ne.mpr hk1
    have c2 : (decide (k ≤ 0) || its.toArray.isEmpty) = true := by rw [decide_eq_true hk0]; rfl
    have e0 : k.toNat = 0 := by omega
    have q := q2 hx hk1
    rw [e0] at q
    refine wpAny_binaryOp_repeat_ref (T := "tuple") (U := "int") (by decide) ⟨_, ho, rfl⟩ (fun s' => typeIs_int s' k t) noFill_tuple_mul F.fills_int_mul F.slot_int_rmul repeat_tuple F.slot_int_index.lookup
      (call_meets F.slot_int_rmul (typeIs_int s k t) F.entry_int_rmul (F.args_int_rmul_2 _ _) (int_rmul_tuple k t l its.toArray n dd sl)
        ⟨ho, rfl, ⟨_, ho, rfl⟩, call_meets F.slot_tuple_mul ⟨_, ho, rfl⟩ F.entry_tuple_mul (F.args_tuple_mul_2 _ _) (tmul_none l its.toArray n dd sl k t c0 c1 c2) ⟨ho, ?_⟩⟩)
    refine ⟨.ref s.heap.objs.size, _, I.laid (t' := s.toks) (o := .tup []) (fun b ob q => Heap.get?_push_of_some _ q) (Nat.le_refl _) ?_, rfl, q _ (I.hok.fresh (Nat.le_refl _))⟩
    exact ⟨Nat.zero_le _, [], .nil, IsTup.new _ _⟩
def repT : D → D → Option D
  | .tup a, .int k => if -(2 ^ 63) ≤ k ∧ k ≤ 1000 ∧ a.length ≤ 1000 then some (.tup (List.replicate k.toNat a).flatten) else none
  | _, _ => none
theorem v_repT : V2 K (rRepA K) repT := fun pd F H x y d v w fh rx ry e Q q => by
  cases x <;> cases y <;> first | (cases e; done) | skip
  rename_i as k
  simp only [repT] at e
  split at e
  · rename_i hl
    cases e
    obtain ⟨a, xs, rfl, t1, t2, l1, r1⟩ := rx.tup fh
    refine ⟨a, k, xs, rfl, ry.int, t1, hl.1, hl.2.1, by rw [r1.length]; exact hl.2.2, fun z => ?_, fun _ _ p n => ?_⟩
    · have : (List.replicate k.toNat as).flatten = as := by
        rcases z with z | z
        · subst z
          have : as = [] := List.eq_nil_of_length_eq_zero r1.length.symm
          subst this
          simp
        · subst z; simp
      rw [this] at q
      exact q _ F H (.refl fh) (by simp only [Rep]; exact ⟨a, xs, rfl, t2, l1, r1⟩)
    · have x2 := Ext.new (o := .tup (List.replicate k.toNat xs).flatten) fh n
      refine q _ _ _ x2 ?_
      simp only [Rep]
      refine ⟨p, _, rfl, .of upd_same, ?_, (r1.rep _).mono x2.ff⟩
      rw [List.length_flatten, List.map_replicate, List.sum_replicate_nat]
      have a1 : k.toNat * as.length ≤ 1000 * 1000 := Nat.mul_le_mul (by omega) hl.2.2
      exact Nat.le_trans a1 (by decide)
  · cases e

/-! ### x[::-1] -/
theorem sliceRev {prog : Program} {w : World} {A : Around} {E : Value → Shared → Prop} {s : Shared} {sl : Addr} {vl vu vs : Value} {n : Nat} {Q : Int × Int × Nat → Shared → Prop} (hs : s.heap.IsSliceOf sl vl vu vs) (pl : IsPart vl none) (pu : IsPart vu none) (ps : IsPart vs (some (-1)))
    (h : Q ((n : Int) - 1, -1, n) s) : wpAny (model prog w) A (Builtin.Slice.sliceApplied (.ref sl) (pure (n : Int))) Q E s := by
  obtain ⟨os, hos, hcs, hds⟩ := id hs
  unfold Builtin.Slice.sliceApplied Builtin.Slice.sliceFields
  refine wpAny_bind (wpAny_bind (wpAny_field hos hds (x := vl) rfl (wpAny_bind (wpAny_field hos hds (x := vu) rfl (wpAny_bind (wpAny_field hos hds (x := vs) rfl (wpAny_pure ?_)))))))
  refine wpAny_bind (HT.slicePart_ ps ?_)
  show wpAny _ _ (if ((-1 : Int) == 0) = true then _ else _) _ _ s
  rw [if_neg (by decide)]
  refine wpAny_bind (HT.slicePart_ pl (wpAny_bind (HT.slicePart_ pu (wpAny_bind (wpAny_pure ?_)))))
  show wpAny _ _ (pure ((n : Int) - 1, (-1 : Int), Builtin.Slice.slicePlaces ((n : Int) - 1) (-1) (-1))) _ _ s
  have e : Builtin.Slice.slicePlaces ((n : Int) - 1) (-1) (-1) = n := by
    unfold Builtin.Slice.slicePlaces
    rw [if_neg (by decide)]
    by_cases h : (n : Int) - 1 > -1
    · rw [if_pos h, show (- -1 : Int) = 1 by decide, Int.ediv_one]; omega
    · rw [if_neg h]; omega
  rw [e]
  exact wpAny_pure h
theorem filterMap_same {α β : Type} {f g : α → Option β} : ∀ {l : List α}, (∀ x ∈ l, f x = g x) → l.filterMap f = l.filterMap g
  | [], _ => rfl
  | a :: l, h => by
    rw [List.filterMap_cons, List.filterMap_cons, h a (by simp), filterMap_same fun x hx => h x (by simp [hx])]
theorem pick_rev (xs : Array Value) : ((List.range xs.size).filterMap fun (m : Nat) => xs[((xs.size : Int) - 1 + (m : Int) * -1).toNat]?).toArray = xs.toList.reverse.toArray := by
  have e := PySem.W.krv_all xs
  have e2 : ((List.range xs.size).filterMap fun (m : Nat) => xs[((xs.size : Int) - 1 + (m : Int) * -1).toNat]?) = ((List.range xs.size).map fun k => xs.size - 1 - k).filterMap (xs[·]?) := by
    rw [List.filterMap_map]
    refine filterMap_same fun m hm => ?_
    have := List.mem_range.mp hm
    show xs[((xs.size : Int) - 1 + (m : Int) * -1).toNat]? = xs[xs.size - 1 - m]?
    rw [show ((xs.size : Int) - 1 + (m : Int) * -1).toNat = xs.size - 1 - m by omega]
  rw [e2, PySem.W.krv_range, List.filterMap_reverse, e]
theorem getItem_tuple_rev {prog : Program} {w : World} {A : Around} {E : Value → Shared → Prop} {s : Shared} {t sl : Addr} {items : Array Value} {vl vu vs : Value} {Q : Value → Shared → Prop} (ht : IsTup s.heap t items) (hs : s.heap.IsSliceOf sl vl vu vs) (pl : IsPart vl none) (pu : IsPart vu none) (ps : IsPart vs (some (-1)))
    (h : Q (.ref s.heap.objs.size) { s with heap := s.heap.push { cls := .type "tuple", data := .seq items.toList.reverse.toArray } })
    (hsz : items.size ≤ sizeLine) : wpAny (model prog w) A (getItem (.ref t) (.ref sl)) Q E s := by
  have htake : sizeOk (.seq items.toList.reverse.toArray) := by
    show items.toList.reverse.toArray.size ≤ sizeLine
    simpa using hsz
  obtain ⟨os, hos, hcs, hds⟩ := id hs
  have hTs : s.TypeIs (.ref sl) "slice" := ⟨os, hos, hcs⟩
  unfold getItem
  try with_reducible refine wpAny_holding ?_
  first | refine wpAny_bind (wpAny_pure ?_) | skip
  refine wpAny_bind (wpAny_sequenceKey ht.typeIs (by decide) ?_)
  refine wpAny_bind (wpAny_callSpecial?_slot (name := Str.ofString "__getitem__") ht.typeIs PyProof.Rows.slot_tuple_getitem
    (wpAny_call_entry PyProof.Rows.slot_tuple_getitem ht.typeIs entry_tuple_getitem ?_ (args_tuple_getitem _ _)))
  show wpAny _ _ (Builtin.Tuple.tupleItemsOf (.ref t) >>= _) _ _ s
  refine wpAny_bind (tupleItemsOf_ ht ?_)
  refine wpAny_bind (wpAny_typeOf hTs ?_)
  rw [if_pos (by decide)]
  refine wpAny_bind (sliceRev hs pl pu ps ?_)
  have hno : ¬ ((((items.size : Int) - 1) == 0 && (-1 : Int) == 1 && items.size == items.size) = true) := by simp
  show wpAny _ _ (if (((items.size : Int) - 1) == 0 && (-1 : Int) == 1 && items.size == items.size) = true then _ else _) _ _ s
  rw [if_neg hno, pick_rev]
  first
    | exact wpAny_bind (m := Builtin.Tuple.tupleExact _) (wpAny_newObj_type (wpAny_pure ⟨_, rfl, wpAny_pure h⟩) htake)
    | exact wpAny_bind (m := Builtin.Tuple.tupleExact _) (wpAny_newObj_type (wpAny_bind (wpAny_pure (wpAny_pure ⟨_, rfl, wpAny_pure h⟩))) htake)
    | exact wpAny_bind (wpAny_bind (m := Builtin.Tuple.tupleExact _) (wpAny_newObj_type (wpAny_pure (wpAny_pure ⟨_, rfl, wpAny_pure h⟩)) htake))
    | exact wpAny_bind (wpAny_bind (m := Builtin.Tuple.tupleExact _) (wpAny_newObj_type (wpAny_pure ⟨_, rfl, wpAny_pure h⟩) htake))
def tRevA (K : PySem.W.Frag) (te : TE) : TE := fun σ H Q => te σ H fun x H1 => ∃ b a xs, x = .ref a ∧ SqA K H1 b a xs ∧ ∀ p, H1 p = none → Q (.ref p) (L2.upd H1 p (if b = true then .tup xs.reverse else .lst xs.reverse))
theorem pe_revA {X : Cx} {e : Expr} {te : TE} {k : Nat} {p1 p2 p3 pos : Pos} (he : PE X e te) : PE X (.Subscript e (.Slice none none (some (.UnaryOp .USub (.Constant (.int 1) k p1) p2)) p3) pos) (tRevA X.K te) := by
  refine ⟨fun pins s σ H Q I h => ?_⟩
  refine Subscript_ (thn (he.run pins s σ H _ I h) fun v s1 ⟨x, H1, I1, r1, q1⟩ => ?_)
  obtain ⟨b, a, xs, ex, hx, q⟩ := q1
  subst ex
  cases r1
  have hst : PO X (some (.UnaryOp .USub (.Constant (.int 1) k p1) p2)) (tPart (tUn (rU fun i => .int (-i)) (tC (.int 1)))) := po_some (pe_un un_neg pe_int)
  refine wpAny_Slice (thn (po_none.run pins s1 σ H1 (fun o H2 => o = none ∧ H2 = H1) I1 ⟨rfl, rfl⟩) fun vl s2 ⟨l, H2, I2, pl, el, e2⟩ => ?_)
  subst el e2
  refine thn (po_none.run pins s2 σ H2 (fun o H3 => o = none ∧ H3 = H2) I2 ⟨rfl, rfl⟩) fun vu s3 ⟨u, H3, I3, pu, eu, e3⟩ => ?_
  subst eu e3
  refine thn (hst.run pins s3 σ H3 (fun o H4 => o = some (-1) ∧ H4 = H3) I3 ⟨1, rfl, -1, rfl, rfl, rfl⟩) fun vs s4 ⟨o, H4, I4, ps, eo, e4⟩ => ?_
  subst eo e4
  have I5 : Inv X pins σ H4 { s4 with heap := s4.heap.push { cls := .type "slice", data := .fields #[vl, vu, vs] } } := I4.kept (t' := s4.toks) fun b ob q => Heap.get?_push_of_some _ q
  show wpAny (model X.prog X.w) X.A (subscriptTail e (.Slice none none (some (.UnaryOp .USub (.Constant (.int 1) k p1) p2)) p3) (.ref a) (.ref s4.heap.objs.size)) (EP X pins σ Q) X.xe { s4 with heap := s4.heap.push { cls := .type "slice", data := .fields #[vl, vu, vs] } }
  cases b with
  | false =>
    obtain ⟨its, r, ht, hz⟩ := I5.list (show SqL X.K H4 a xs from hx)
    have hlen := r.length
    refine tail_any (ops := [.ref a, .ref s4.heap.objs.size]) ht.isList.typeIs (PySem.slot_list_getitem.lookup) ?_ (by with_unfolding_all rfl)
    refine wpAny_getItem_list_slice ht.isList (Heap.IsSliceOf.new _ vl vu vs) pl pu ps (by decide) ?_ (by rw [List.size_toArray]; omega)
    rw [PySem.W.krv_pick]
    refine ⟨.ref _, _, I5.laid (t' := s4.toks) (o := .lst xs.reverse) (fun b ob q => Heap.get?_push_of_some _ q) (Nat.le_refl _) ?_, rfl, q _ (I5.hok.fresh (Nat.le_refl _))⟩
    exact ⟨by rw [List.length_reverse]; exact hz, _, 0, r.reverse, Heap.get?_push_size _ rfl⟩
  | true =>
    obtain ⟨its, r, ht, hz⟩ := I5.tuple (show SqT X.K H4 a xs from hx)
    have hlen := r.length
    refine tail_any (ops := [.ref a, .ref s4.heap.objs.size]) ht.typeIs (PyProof.Rows.slot_tuple_getitem.lookup) ?_ (by with_unfolding_all rfl)
    refine getItem_tuple_rev ht (Heap.IsSliceOf.new _ vl vu vs) pl pu ps ?_ (by rw [List.size_toArray]; omega)
    refine ⟨.ref _, _, I5.laid (t' := s4.toks) (o := .tup xs.reverse) (fun b ob q => Heap.get?_push_of_some _ q) (Nat.le_refl _) ?_, rfl, q _ (I5.hok.fresh (Nat.le_refl _))⟩
    exact ⟨by rw [List.length_reverse]; exact hz, _, r.reverse, IsTup.new _ _⟩
def revD : D → Option D
  | .tup a => some (.tup a.reverse)
  | .lst a => some (.lst a.reverse)
  | _ => none
end
section
variable {ι : Type} {X : ι → Cx} {P : Program} {w : World} {K : PySem.W.Frag} {mg : Str → Option Value} {base : Heap} {N : List Str} {lv : Nat} {pos : Pos} {a b c e : Expr} {es elts : List Expr} {f fa fb fc : EF} {g : AF}
theorem cRev (C : Fam X P w K mg base N lv) {k : Nat} {p1 p2 p3 : Pos} (h : CB X K e f) : CE X K (.Subscript e (.Slice none none (some (.UnaryOp .USub (.Constant (.int 1) k p1) p2)) p3) pos) (x1 revD f) := by
  obtain ⟨t, h1, h2⟩ := h
  refine ⟨tRevA K t, fun i => by have := pe_revA (pos := pos) (k := k) (p1 := p1) (p2 := p2) (p3 := p3) (h1 i); rw [C.k i] at this; exact this, fun pd F0 H0 F H ρ σ s d s' o e Q q => ?_⟩
  obtain ⟨x, s1, e1, e⟩ := Mb_eq e
  obtain ⟨e2, rfl⟩ := Mo_eq e
  refine h2 pd F0 H0 F H ρ σ s x s1 o e1 _ fun v F1 H1 x1 d1 r1 => ?_
  have fh := (o.step x1 d1).fh
  cases x <;> first | (cases e2; done) | skip
  · cases e2
    obtain ⟨p, xs, rfl, t1, t2, hl, r⟩ := r1.tup fh
    refine ⟨true, p, xs, rfl, t1, fun z n => ?_⟩
    have x2 := Ext.new (o := .tup xs.reverse) fh n
    refine q _ _ _ (x1.trans x2.lift) (d1.grow x2) ?_
    simp only [Rep]
    exact ⟨z, _, rfl, .of upd_same, by rw [List.length_reverse]; exact hl, r.reverse.mono x2.ff⟩
  · cases e2
    obtain ⟨p, xs, rfl, t1, hl, r⟩ := r1.lst fh
    refine ⟨false, p, xs, rfl, .of t1, fun z n => ?_⟩
    have x2 := Ext.new (o := .lst xs.reverse) fh n
    refine q _ _ _ (x1.trans x2.lift) (d1.grow x2) ?_
    simp only [Rep]
    exact ⟨z, _, rfl, upd_same, by rw [List.length_reverse]; exact hl, r.reverse.mono x2.ff⟩

/-! ### l.index(x) -/
def idxD (d : D) (ds : List D) : Option Nat := ds.findIdx? fun z => PyData.eqv (toP z) (toP d)
def indexD (x y : D) : Option D := match x with
  | .lst ds => if cmpOk (.lst ds) = true ∧ cmpOk y = true then (idxD y ds).map fun j => .int (j : Nat) else none
  | _ => none
theorem cIndex (C : Fam X P w K mg base N lv) {apos cpos : Pos} (ho : CB X K a fa) (ha : CB X K b fb)
    (hbase : ∀ j, attributeBase a "index" (X j).env (eval a (X j).env) = eval a (X j).env := by intro _; rfl)
    (hfew : ∀ j, ((backTo cpos (starEach [b] (X j).env)).all (fun x => !x.1) && (backToKw cpos (keywordEach [] (X j).env)).all (fun x => x.1.isSome)
      && decide (([b] : List Expr).length + ([] : List Keyword).length + (if ([] : List Keyword).isEmpty then 0 else 1) < 30)) = true := by intro _; rfl)
    (hline : (apos.endLine == cpos.line) = true := by rfl) (hs : ∀ j, starEach [b] (X j).env = (false, eval b (X j).env) :: starEach [] (X j).env := by intro _; rfl) (hplain : ∀ j, (backTo cpos (starEach [] (X j).env)).any (·.1) = false := by intro _; rfl) :
    CE X K (.Call (.Attribute a "index" apos) [b] [] cpos) (x2 indexD fa fb) := by
  obtain ⟨ta, a1, a2⟩ := ho
  obtain ⟨tb, b1, b2⟩ := ha
  refine ⟨tBM K "list" (rIndexD K) ta (tCons tb tNil), fun j => by
    have := pe_bm (X := X j) (cpos := cpos) (apos := apos) PySem.F.plainAttrs_list PySem.F.slot_list_index PySem.F.type_list_index (mt_indexD (by have := (C.r j).un; omega)) (a1 j) (pa_cons (b1 j) pa_nil (hs j)) (hbase j) (hfew j) hline (hs j) (hplain j)
    rw [C.k j] at this
    exact this, fun pd F0 H0 F H ρ σ s d s' o e Q q => ?_⟩
  obtain ⟨x, s1, e1, e⟩ := Mb_eq e
  obtain ⟨y, s2, e2, e⟩ := Mb_eq e
  obtain ⟨e3, rfl⟩ := Mo_eq e
  refine a2 pd F0 H0 F H ρ σ s x s1 o e1 _ fun v F1 H1 x1 d1 r1 => ?_
  have o1 := o.step x1 d1
  obtain ⟨ds, rfl⟩ : ∃ ds, x = .lst ds := by cases x <;> first | (cases e3; done) | exact ⟨_, rfl⟩
  · simp only [indexD] at e3
    split at e3
    · rename_i hc
      cases hj : idxD y ds with
      | none => rw [hj] at e3; cases e3
      | some j =>
        rw [hj] at e3; cases e3
        obtain ⟨p, xs, rfl, h3, _, h4⟩ := r1.lst o1.fh
        refine ⟨.inl ⟨rfl, xs, .of h3⟩, b2 pd F0 H0 F1 H1 ρ σ s1 y s2 o1 e2 _ fun u F2 H2 x2 d2 r2 => ?_⟩
        have o2 := o1.step x2 d2
        have r1' := r1.mono x2
        unfold cmpOk at hc
        simp only [Bool.and_eq_true] at hc
        obtain ⟨⟨c1, s1'⟩, c2, s2'⟩ := hc
        have dl := r1'.dp o2.fh c1
        have hjj := hj
        unfold idxD at hjj
        rw [List.findIdx?_eq_some_iff_getElem] at hjj
        obtain ⟨hlt, h5, h6⟩ := hjj
        simp only [toP] at dl s1'
        refine ⟨p, u, toP y, toPs ds, j, toP ds[j], rfl, rfl, dl, r2.dp o2.fh c2, s1', s2', by rw [toPs_eq, List.getElem?_map, List.getElem?_eq_getElem hlt]; rfl, h5, fun m z' hm hz => ?_, q _ F2 H2 (x1.trans x2) o2.dok (by simp [Rep])⟩
        rw [toPs_eq, List.getElem?_map, List.getElem?_eq_getElem (by omega)] at hz
        have hz := Option.some.inj hz
        subst hz
        simpa using h6 m hm
    · cases e3

/-! ### list(range(..)), tuple(range(..)) -/
def o1 (g : D → Option (List D)) (f : EF) : AF := fun ρ => Mb (f ρ) fun x => Mo (g x)
def rgo1 : D → Option (List D)
  | .int j => if -(2 ^ 62) ≤ j ∧ j ≤ 16777216 then some (rangeL 0 j.toNat) else none
  | _ => none
def rgo2 : D → D → Option (List D)
  | .int i, .int j => if -(2 ^ 61) ≤ i ∧ i < 2 ^ 61 ∧ -(2 ^ 61) ≤ j ∧ j < 2 ^ 61 ∧ j - i ≤ 16777216 then some (rangeL i (j - i).toNat) else none
  | _, _ => none
def xTp (a : AF) : EF := fun ρ => Mb (a ρ) fun xs => Mp (.tup xs)
theorem rgV_rep {K : PySem.W.Frag} {pd : Option PD} {F : Hp} (i : Int) (j : Int) : RepL K pd F (rangeL i (j - i).toNat) (L2.rgV i j) := by
  have e1 : rangeL i (j - i).toNat = ((List.range (j - i).toNat).map fun (k : Nat) => i + (k : Int)).map D.int := by unfold rangeL; rw [List.map_map]; rfl
  have e2 : L2.rgV i j = ((List.range (j - i).toNat).map fun (k : Nat) => i + (k : Int)).map V.int := by unfold L2.rgV; rw [List.map_map]; rfl
  rw [e1, e2]
  exact RepL.ofInts _
theorem oListRg1 (C : Fam X P w K mg base N lv) (hm1 : mg "list" = none) (hm2 : mg "range" = none) {p p2 pos2 : Pos} (h : CE X K a fa) (hg : ∀ i, Gl (X i) "list" := by intro _; rfl) (hg2 : ∀ i, Gl (X i) "range" := by intro _; rfl)
    (na : ∀ i, starEach [a] (X i).env = (false, eval a (X i).env) :: starEach [] (X i).env := by intro _; rfl) (nb : ∀ i, starEach [.Call (.Name "range" p2) [a] [] pos2] (X i).env = (false, eval (.Call (.Name "range" p2) [a] [] pos2) (X i).env) :: starEach [] (X i).env := by intro _; rfl) :
    CO X K (.Call (.Name "list" p) [.Call (.Name "range" p2) [a] [] pos2] [] pos) (o1 rgo1 fa) := by
  obtain ⟨t, h1, h2⟩ := h
  refine ⟨_, fun i => pe_listRg (C.c i) (hg i) (by rw [C.m i]; exact hm1) (prg_1 (hg2 i) (by rw [C.m i]; exact hm2) (h1 i) (na i)) (nb i), fun pd F0 H0 F H ρ σ s d s' o e Q q => ?_⟩
  obtain ⟨x, s1, e1, e⟩ := Mb_eq e
  obtain ⟨e2, rfl⟩ := Mo_eq e
  refine h2 pd F0 H0 F H ρ σ s x s1 o e1 _ fun v F1 H1 x1 d1 r1 => ?_
  have fh := (o.step x1 d1).fh
  cases x <;> first | (cases e2; done) | skip
  rename_i j
  simp only [rgo1] at e2
  split at e2
  · rename_i hj
    cases e2
    simp only [Rep] at r1
    subst r1
    refine ⟨j, rfl, ⟨by omega, by omega, by omega, by omega, by omega⟩, fun z n => ?_⟩
    have x2 := Ext.own (o := .lst (L2.rgV 0 j)) fh n
    have rr := rgV_rep (K := K) (pd := pd) (F := F1) 0 j
    rw [Int.sub_zero] at rr
    refine q z (L2.rgV 0 j) F1 _ (x1.trans x2.lift) (d1.grow x2) ?_ (nF_of fh n) upd_same ?_ rr
    · cases hp : H z with
      | none => rfl
      | some u => exact absurd n (x1.hd z (by rw [hp]; simp))
    · unfold rangeL; rw [List.length_map, List.length_range]; show j.toNat ≤ 2 ^ 24; omega
  · cases e2
theorem oListRg2 (C : Fam X P w K mg base N lv) (hm1 : mg "list" = none) (hm2 : mg "range" = none) {p p2 pos2 : Pos} (h : CE X K a fa) (h' : CE X K b fb) (hg : ∀ i, Gl (X i) "list" := by intro _; rfl) (hg2 : ∀ i, Gl (X i) "range" := by intro _; rfl)
    (na : ∀ i, starEach [a, b] (X i).env = (false, eval a (X i).env) :: starEach [b] (X i).env := by intro _; rfl) (na2 : ∀ i, starEach [b] (X i).env = (false, eval b (X i).env) :: starEach [] (X i).env := by intro _; rfl)
    (hp : ∀ i, (backTo pos2 (starEach [b] (X i).env)).any (·.1) = false := by intro _; rfl)
    (nb : ∀ i, starEach [.Call (.Name "range" p2) [a, b] [] pos2] (X i).env = (false, eval (.Call (.Name "range" p2) [a, b] [] pos2) (X i).env) :: starEach [] (X i).env := by intro _; rfl) :
    CO X K (.Call (.Name "list" p) [.Call (.Name "range" p2) [a, b] [] pos2] [] pos) (o2 rgo2 fa fb) := by
  obtain ⟨t, h1, h2⟩ := h
  obtain ⟨u, u1, u2⟩ := h'
  refine ⟨_, fun i => pe_listRg (C.c i) (hg i) (by rw [C.m i]; exact hm1) (prg_2 (hg2 i) (by rw [C.m i]; exact hm2) (h1 i) (u1 i) (na i) (na2 i) (hp i)) (nb i), fun pd F0 H0 F H ρ σ s d s' o e Q q => ?_⟩
  obtain ⟨x, s1, e1, e⟩ := Mb_eq e
  obtain ⟨y, s2, e2, e⟩ := Mb_eq e
  obtain ⟨e3, rfl⟩ := Mo_eq e
  refine h2 pd F0 H0 F H ρ σ s x s1 o e1 _ fun v F1 H1 x1 d1 r1 => ?_
  refine u2 pd F0 H0 F1 H1 ρ σ s1 y s2 (o.step x1 d1) e2 _ fun v' F2 H2 x2 d2 r2 => ?_
  have fh := ((o.step x1 d1).step x2 d2).fh
  obtain ⟨i, j, rfl, rfl⟩ : ∃ i j, x = .int i ∧ y = .int j := by cases x <;> cases y <;> first | (cases e3; done) | exact ⟨_, _, rfl, rfl⟩
  simp only [rgo2] at e3
  split at e3
  · rename_i hj
    cases e3
    simp only [Rep] at r1 r2
    subst r1 r2
    refine ⟨i, j, rfl, rfl, ⟨by omega, by omega, by omega, by omega, by omega⟩, fun z n => ?_⟩
    have x3 := Ext.own (o := .lst (L2.rgV i j)) fh n
    refine q z (L2.rgV i j) F2 _ (x1.trans (x2.trans x3.lift)) (d2.grow x3) ?_ (nF_of fh n) upd_same ?_ (rgV_rep i j)
    · cases hp : H z with
      | none => rfl
      | some u => exact absurd n ((x1.trans x2).hd z (by rw [hp]; simp))
    · unfold rangeL; rw [List.length_map, List.length_range]; show (j - i).toNat ≤ 2 ^ 24; omega
  · cases e3
theorem cTupRg1 (C : Fam X P w K mg base N lv) (hm1 : mg "tuple" = none) (hm2 : mg "range" = none) {p p2 pos2 : Pos} (h : CE X K a fa) (hg : ∀ i, Gl (X i) "tuple" := by intro _; rfl) (hg2 : ∀ i, Gl (X i) "range" := by intro _; rfl)
    (na : ∀ i, starEach [a] (X i).env = (false, eval a (X i).env) :: starEach [] (X i).env := by intro _; rfl) (nb : ∀ i, starEach [.Call (.Name "range" p2) [a] [] pos2] (X i).env = (false, eval (.Call (.Name "range" p2) [a] [] pos2) (X i).env) :: starEach [] (X i).env := by intro _; rfl) :
    CE X K (.Call (.Name "tuple" p) [.Call (.Name "range" p2) [a] [] pos2] [] pos) (xTp (o1 rgo1 fa)) := by
  obtain ⟨t, h1, h2⟩ := h
  refine ⟨_, fun i => pe_tupRg (C.c i) (hg i) (by rw [C.m i]; exact hm1) (prg_1 (hg2 i) (by rw [C.m i]; exact hm2) (h1 i) (na i)) (nb i), fun pd F0 H0 F H ρ σ s d s' o e Q q => ?_⟩
  obtain ⟨x0, s0, e0, e⟩ := Mb_eq e
  obtain ⟨rfl, rfl⟩ := Mp_eq e
  obtain ⟨x, s1, e1, e⟩ := Mb_eq e0
  obtain ⟨e2, rfl⟩ := Mo_eq e
  refine h2 pd F0 H0 F H ρ σ s x s1 o e1 _ fun v F1 H1 x1 d1 r1 => ?_
  have fh := (o.step x1 d1).fh
  cases x <;> first | (cases e2; done) | skip
  rename_i j
  simp only [rgo1] at e2
  split at e2
  · rename_i hj
    cases e2
    simp only [Rep] at r1
    subst r1
    refine ⟨j, rfl, ⟨by omega, by omega, by omega, by omega, by omega⟩, fun z n => ?_⟩
    have x2 := Ext.new (o := .tup (L2.rgV 0 j)) fh n
    have rr := rgV_rep (K := K) (pd := pd) (F := F1) 0 j
    rw [Int.sub_zero] at rr
    refine q _ _ _ (x1.trans x2.lift) (d1.grow x2) ?_
    simp only [Rep]
    exact ⟨z, _, rfl, .of upd_same, by unfold rangeL; rw [List.length_map, List.length_range]; show j.toNat ≤ 2 ^ 24; omega, rr.mono x2.ff⟩
  · cases e2

/-! ### x = [.. for ..] -/
theorem semS_set {i : Nat} {te : TE} (h2 : SemE K te f) : SemS K (tAsg te (gName i)) (sSet i f) := fun pd F0 H0 F H ρ σ s r ρ' s' o e E q => by
  obtain ⟨d, s1, e1, e2⟩ := Mb_eq e
  obtain ⟨a, rfl⟩ := Mp_eq e2
  cases a
  exact h2 pd F0 H0 F H _ σ s d _ o e1 _ fun v F' H' x d' r => q _ F' H' x.ff ((o.step x d').set r)
theorem cSwLc (C : Fam X P w K mg base N lv) {y : Str} {py : Pos} {elt tg iter : Expr} {ifs : List Expr} {scope : Scope} {js : List Nat} {fi : AF} {gg : TGt} {ft : TF} {fe : EF} {lpos : Pos} (i : Nat) (own : List (Str × Nat)) (hi : CIW X K tg iter fi) (ok : ∀ i, BlkOk N (X i).env.scope scope own)
    (hg : CG (blkF X scope) K tg js gg) (ht : ∃ t, (∀ b, PTs (blkF X scope b) ifs t) ∧ SemT K t ft) (he : CE (blkF X scope) K elt fe) (hN : N[i]? = some y) (hk : ∀ j, (X j).env.scope.kind = .function) (hy : ∀ j, (X j).env.scope.names.lookup y = some .local) (hl : (py.line == lpos.line) = true)
    (ha : (scope.names.any fun (n, k) => n == y && (k == .local || k == .cell)) = false) (hj : ∀ j ∈ js, j ∈ own.map (·.2)) (hs : ∀ i, ∀ x, foldedSetIterable iter (X i).env x = pure x) :
    ∃ te, (∀ j, PS (X j) (.Assign [.Name y py] (.ListComp elt [⟨tg, iter, ifs, 0⟩] scope lpos) pos) (tAsg te (gName i))) ∧ SemO K te (oComp fi gg ft fe (own.map (·.2))) := by
  obtain ⟨wi, i1, i2⟩ := hi
  obtain ⟨g, g1, g2⟩ := hg
  obtain ⟨tt, t1, t2⟩ := ht
  obtain ⟨te, e1, e2⟩ := he
  exact ⟨_, fun i => ps_setLc (own := own) (C.c i) (by rw [C.n i]; exact C.nd) (by rw [C.n i]; exact hN) (hy i) (sw_true (hk i) (hy i) hl ha) (i1 i) (by rw [C.n i]; exact ok i) (fun s H Cc cl fp => g1 ⟨i, s, H, Cc, cl, fp⟩) (fun s H Cc cl fp => t1 ⟨i, s, H, Cc, cl, fp⟩) (fun s H Cc cl fp => e1 ⟨i, s, H, Cc, cl, fp⟩) (hs i), semO_comp i2 g2 t2 e2 hj⟩
theorem cOwnLc (C : Fam X P w K mg base N lv) {y : Str} {py : Pos} {elt tg iter : Expr} {ifs : List Expr} {scope : Scope} {js : List Nat} {fi : AF} {gg : TGt} {ft : TF} {fe : EF} {lpos : Pos} (i : Nat) (own : List (Str × Nat)) (hi : CIW X K tg iter fi) (ok : ∀ i, BlkOk N (X i).env.scope scope own)
    (hg : CG (blkF X scope) K tg js gg) (ht : ∃ t, (∀ b, PTs (blkF X scope b) ifs t) ∧ SemT K t ft) (he : CE (blkF X scope) K elt fe) (hN : N[i]? = some y := by rfl) (hk : ∀ j, (X j).env.scope.kind = .function := by intro _; rfl) (hy : ∀ j, (X j).env.scope.names.lookup y = some .local := by intro _; rfl) (hl : (py.line == lpos.line) = true := by rfl)
    (ha : (scope.names.any fun (n, k) => n == y && (k == .local || k == .cell)) = false := by decide +kernel) (hj : ∀ j ∈ js, j ∈ own.map (·.2) := by decide) (hs : ∀ i, ∀ x, foldedSetIterable iter (X i).env x = pure x := by intro _ _; rfl) :
    CS X K (.Assign [.Name y py] (.ListComp elt [⟨tg, iter, ifs, 0⟩] scope lpos) pos) (sOwn i (oComp fi gg ft fe (own.map (·.2)))) :=
  let ⟨te, h1, h2⟩ := cSwLc C i own hi ok hg ht he hN hk hy hl ha hj hs; ⟨_, h1, semS_own h2⟩
theorem cSetLc (C : Fam X P w K mg base N lv) {y : Str} {py : Pos} {elt tg iter : Expr} {ifs : List Expr} {scope : Scope} {js : List Nat} {fi : AF} {gg : TGt} {ft : TF} {fe : EF} {lpos : Pos} (i : Nat) (own : List (Str × Nat)) (hi : CIW X K tg iter fi) (ok : ∀ i, BlkOk N (X i).env.scope scope own)
    (hg : CG (blkF X scope) K tg js gg) (ht : ∃ t, (∀ b, PTs (blkF X scope b) ifs t) ∧ SemT K t ft) (he : CE (blkF X scope) K elt fe) (hN : N[i]? = some y := by rfl) (hk : ∀ j, (X j).env.scope.kind = .function := by intro _; rfl) (hy : ∀ j, (X j).env.scope.names.lookup y = some .local := by intro _; rfl) (hl : (py.line == lpos.line) = true := by rfl)
    (ha : (scope.names.any fun (n, k) => n == y && (k == .local || k == .cell)) = false := by decide +kernel) (hj : ∀ j ∈ js, j ∈ own.map (·.2) := by decide) (hs : ∀ i, ∀ x, foldedSetIterable iter (X i).env x = pure x := by intro _ _; rfl) :
    CS X K (.Assign [.Name y py] (.ListComp elt [⟨tg, iter, ifs, 0⟩] scope lpos) pos) (sSet i (xOf (oComp fi gg ft fe (own.map (·.2))))) :=
  let ⟨te, h1, h2⟩ := cSwLc C i own hi ok hg ht he hN hk hy hl ha hj hs; ⟨_, h1, semS_set (sem_of_O h2)⟩

/-! ### a module's names -/
structure CstOk (mg : Str → Option Value) (x : Str) (d : D) (K : PySem.W.Frag) : Prop where
  ex : ∃ v u, mg x = some u ∧ L2.RelV v u ∧ ∀ pd F, Rep K pd F d v
theorem CstOk.ce {x : Str} {d : D} (k : CstOk mg x d K) (C : Fam X P w K mg base N lv) (hg : ∀ j, Gl (X j) x := by intro _; rfl) (hd : (x == ("__debug__" : Str)) = false := by decide) : CE X K (.Name x pos) (xC d) :=
  let ⟨v, u, h1, h2, h3⟩ := k.ex; cGlob C h1 h2 h3 hg hd
theorem CstOk.int {x : Str} {i : Int} {t : Tok} (h : mg x = some (.int i t)) : CstOk mg x (.int i) K := ⟨.int i, _, h, ⟨t, rfl⟩, fun _ _ => by simp [Rep]⟩
structure Bi (mg : Str → Option Value) : Prop where
  len : mg "len" = none
  sum : mg "sum" = none
  min : mg "min" = none
  max : mg "max" = none
  all : mg "all" = none
  any : mg "any" = none
  abs : mg "abs" = none
  int : mg "int" = none
  sorted : mg "sorted" = none
  tuple : mg "tuple" = none
  list : mg "list" = none
  range : mg "range" = none
  enumerate : mg "enumerate" = none
  zip : mg "zip" = none
end
end Pu
namespace Pu
open PySem PySem.Spec PyProof.Rows L2

/-! ### a def's own list becomes known to all, ahead of a statement -/
def sFz (i : Nat) (g : SF) : SF := fun ρ => onOw ρ[i]? fun ds => g (ρ.set i (.sh (.lst ds)))
section
variable {ι : Type} {X : ι → Cx} {P : Program} {w : World} {K : PySem.W.Frag} {mg : Str → Option Value} {base : Heap} {N : List Str} {lv : Nat} {pos : Pos} {st : Stmt} {rest : List Stmt} {e : Expr} {f fk : EF} {g g' : SF}
theorem cFz (i : Nat) (h : CS X K st g) : CS X K st (sFz i g) := by
  obtain ⟨t, h1, h2⟩ := h
  refine ⟨t, h1, fun pd F0 H0 F H ρ σ s r ρ' s' o e E q => ?_⟩
  obtain ⟨ds, hds, e⟩ := onOw_eq e
  obtain ⟨p, F', _, f1, o', _⟩ := o.freeze hds
  exact h2 pd F0 H0 F' H _ σ s r ρ' s' o' e E (q.from f1)

/-! ### a, b = x, y: from the right -/
def sPar (i j : Nat) (f g : EF) : SF := fun ρ => Mb (f ρ) fun a => Mb (g ρ) fun b => Mp (.nx, (ρ.set i (.sh a)).set j (.sh b))

/-! ### the law's draw object -/
def rdD (k : Nat) (s : DS) : D := match k with
  | 0 => .lst (s.ns.map D.int)
  | 1 => .int s.pos
  | 2 => .int s.acc
  | _ => .int s.seed
def xRd (i k : Nat) : EF := fun ρ => onSh ρ[i]? fun d => match d with
  | .rng => fun s => some (rdD k s, s)
  | _ => Mf
def wrD (k : Nat) (v : Int) (s : DS) : DS := match k with
  | 1 => { s with pos := v }
  | 2 => { s with acc := v }
  | _ => { s with seed := v }
def wrOk (k : Nat) (v : Int) : Bool := decide (0 ≤ v) && (k != 3 || decide (v < 2147483647))
def sWr (i k : Nat) (f : EF) : SF := fun ρ => Mb (f ρ) fun d => onInt d fun v => onSh ρ[i]? fun x => match x with
  | .rng => fun s => if wrOk k v = true then some ((.nx, ρ), wrD k v s) else none
  | _ => Mf
theorem onSh_rng {i : Nat} {ρ : Rho} {α : Type} {k : M α} {s s' : DS} {a : α} (e : onSh ρ[i]? (fun d => match d with
  | .rng => k
  | _ => Mf) s = some (a, s')) : ρ[i]? = some (.sh .rng) ∧ k s = some (a, s') := by
  obtain ⟨d, h, e⟩ := onSh_eq e
  cases d <;> first | (cases e; done) | exact ⟨h, e⟩
theorem Ok.rng {K : PySem.W.Frag} {pd : Option PD} {F0 H0 F H : Hp} {ρ : Rho} {σ : L2.St} {s : DS} {i : Nat} (o : Ok K pd F0 H0 F H ρ σ s) (h : ρ[i]? = some (.sh .rng)) :
    ∃ x, pd = some x ∧ σ[i]? = some (some (.ref x.p)) ∧ F x.p = none ∧ s.ok ∧ H x.p = some (.lst [.ref x.q, .int s.pos, .int s.acc, .int s.seed]) ∧ F x.q = some (.lst (s.ns.map V.int)) := by
  obtain ⟨v, h1, h2⟩ := o.sh h
  simp only [Rep] at h2
  obtain ⟨a, rfl, h2⟩ := h2
  cases pd with
  | none => cases h2
  | some x =>
    have : x.p = a := Option.some.inj h2
    subst this
    obtain ⟨d1, d2, d3, d4⟩ := o.dok
    exact ⟨x, rfl, h1, d1, d2, d3, d4⟩
theorem Ok.wr {K : PySem.W.Frag} {x : PD} {F0 H0 F H : Hp} {ρ : Rho} {σ : L2.St} {s s' : DS} (o : Ok K (some x) F0 H0 F H ρ σ s) (ok : s'.ok) (hn : s'.ns = s.ns) :
    Ok K (some x) F0 H0 F (L2.upd H x.p (.lst [.ref x.q, .int s'.pos, .int s'.acc, .int s'.seed])) ρ σ s' := by
  obtain ⟨d1, d2, d3, d4⟩ := o.dok
  refine ⟨⟨o.ext.ff, fun a u e n => ?_, fun a e => ?_, o.ext.nw, fun a u e => ?_⟩, ⟨o.env.len, fun i sl e => ?_, o.env.ap⟩, d1, ok, upd_same, by rw [hn]; exact d4⟩
  · have : a ≠ x.p := fun z => n (by rw [z]; rfl)
    rw [upd_ne this]; exact o.ext.hh a u e n
  · by_cases ha : a = x.p
    · subst ha; rw [upd_same]; simp
    · rw [upd_ne ha]; exact o.ext.hd a e
  · have : a ≠ x.p := fun z => by rw [z, d1] at e; cases e
    rw [upd_ne this]; exact o.ext.fh a u e
  · obtain ⟨q, h1, h2⟩ := o.env.at' i sl e
    refine ⟨q, h1, ?_⟩
    cases sl with
    | un => trivial
    | sh d => exact h2
    | ow fs =>
      obtain ⟨p', xs', rfl, a2, a3, a4, a5, a6, a7⟩ := h2
      exact ⟨p', xs', rfl, a2, a3, a4, by rw [upd_ne (fun z => a4 (by rw [z]; rfl))]; exact a5, a6, a7⟩
theorem cRd (C : Fam X P w K mg base N lv) (i k : Nat) {x : Str} {p2 p3 : Pos} {kk} (hk : k ≤ 3) (hN : N[i]? = some x := by rfl) (hv : ∀ j, Vis (X j).env.scope x := by intro _; first | exact Or.inl rfl | exact Or.inr (Or.inl rfl) | exact Or.inr (Or.inr rfl))
    (hd : (x == ("__debug__" : Str)) = false := by decide) (hcd : (x == ("__classdict__" : Str)) = false := by decide) : CE X K (.Subscript (.Name x p2) (.Constant (.int (k : Nat)) kk p3) pos) (xRd i k) := by
  refine ⟨tOp (rIxL K) (tVar i) (tC (.int (k : Nat))), fun j => ?_, fun pd F0 H0 F H ρ σ s d s' o e Q q => ?_⟩
  · have := pe_ix (pos := pos) (X := X j) ix_list (pe_var (pos := p2) (by rw [C.n j]; exact hN) (hv j) hd hcd) (pe_int (i := ((k : Nat) : Int)) (j := kk) (pos := p3)) (fun _ _ => rfl)
    rw [C.k j] at this
    exact this
  · obtain ⟨h, e⟩ := onSh_rng e
    obtain ⟨e1, e2⟩ := Prod.mk.inj (Option.some.inj e)
    subst e2
    obtain ⟨x, rfl, h1, d1, d2, d3, d4⟩ := o.rng h
    have hcase : k = 0 ∨ k = 1 ∨ k = 2 ∨ k = 3 := by omega
    have fin : ∃ z, atI [V.ref x.q, .int s.pos, .int s.acc, .int s.seed] (k : Nat) = some z ∧ Rep K (some x) F d z := by
      rcases hcase with rfl | rfl | rfl | rfl
      · refine ⟨_, rfl, ?_⟩
        rw [← e1]
        simp only [rdD, Rep]
        exact ⟨x.q, _, rfl, d4, by rw [List.length_map]; exact Nat.le_trans d2.nl (by decide), RepL.ofInts _⟩
      · exact ⟨_, rfl, by rw [← e1]; simp [rdD, Rep]⟩
      · exact ⟨_, rfl, by rw [← e1]; simp [rdD, Rep]⟩
      · exact ⟨_, rfl, by rw [← e1]; simp [rdD, Rep]⟩
    obtain ⟨z, hz, rz⟩ := fin
    exact ⟨_, h1, x.p, _, (k : Nat), z, rfl, rfl, .of d3, hz, q z F H (.refl o.fh) o.dok rz⟩
theorem cWr (C : Fam X P w K mg base N lv) (i k : Nat) {x : Str} {p2 p3 p4 : Pos} {kk} (h : CE X K e f) (hk : 1 ≤ k ∧ k ≤ 3) (hN : N[i]? = some x := by rfl) (hv : ∀ j, Vis (X j).env.scope x := by intro _; first | exact Or.inl rfl | exact Or.inr (Or.inl rfl) | exact Or.inr (Or.inr rfl))
    (hd : (x == ("__debug__" : Str)) = false := by decide) (hcd : (x == ("__classdict__" : Str)) = false := by decide)
    (ha : ∀ j, ∀ v, assign (.Subscript (.Name x p2) (.Constant (.int (k : Nat)) kk p4) p3) (X j).env v = (do
      let ov ← holding [v] (eval (.Name x p2) (X j).env)
      let iv ← holding [v, ov] (eval (.Constant (.int (k : Nat)) kk p4) (X j).env)
      standAt p3
      holding [v, ov, iv] (setItem ov iv v)
      release [v, ov, iv] []) := by intro _ _; rfl)
    (hs : ∀ j, swapsWithSole [.Subscript (.Name x p2) (.Constant (.int (k : Nat)) kk p4) p3] e pos.line (X j).env = pure false := by intro _; rfl) (hw : ∀ j, swappedStores [.Subscript (.Name x p2) (.Constant (.int (k : Nat)) kk p4) p3] e (X j).env = pure none := by intro _; rfl)
    (h1 : ∀ j, (assignEach [.Subscript (.Name x p2) (.Constant (.int (k : Nat)) kk p4) p3] (X j).env).map (·.2) = [assign (.Subscript (.Name x p2) (.Constant (.int (k : Nat)) kk p4) p3) (X j).env] := by intro _; rfl) :
    CS X K (.Assign [.Subscript (.Name x p2) (.Constant (.int (k : Nat)) kk p4) p3] e pos) (sWr i k f) := by
  obtain ⟨t, e1, e2⟩ := h
  refine ⟨_, fun j => ps_asg (e1 j) (pg_sub (pe_var (by rw [C.n j]; exact hN) (hv j) hd hcd) (pe_int (i := ((k : Nat) : Int)) (j := kk) (pos := p4)) set_list (ha j)) (hs j) (hw j) (h1 j), fun pd F0 H0 F H ρ σ s r ρ' s' o e E q => ?_⟩
  obtain ⟨d, s1, a1, e⟩ := Mb_eq e
  obtain ⟨v, rfl, e⟩ := onInt_eq e
  obtain ⟨hr, e⟩ := onSh_rng e
  split at e
  · rename_i hok
    obtain ⟨e3, e4⟩ := Prod.mk.inj (Option.some.inj e)
    cases e3
    subst e4
    refine e2 pd F0 H0 F H _ σ s _ _ o a1 _ fun z F1 H1 x1 d1 r1 => ?_
    have o1 := o.step x1 d1
    simp only [Rep] at r1
    subst r1
    obtain ⟨x, rfl, h1, c1, c2, c3, c4⟩ := o1.rng hr
    unfold wrOk at hok
    simp only [Bool.and_eq_true, Bool.or_eq_true, bne_iff_ne, ne_eq, decide_eq_true_eq] at hok
    refine ⟨_, h1, x.p, _, (k : Nat), k, rfl, rfl, c3, ?_, ?_⟩
    · rcases (show k = 1 ∨ k = 2 ∨ k = 3 by omega) with rfl | rfl | rfl <;> rfl
    · rcases (show k = 1 ∨ k = 2 ∨ k = 3 by omega) with rfl | rfl | rfl
      · exact q σ F1 _ x1.ff (o1.wr (s' := wrD 1 v s1) ⟨hok.1, c2.a0, c2.s0, c2.s1, c2.nl⟩ rfl)
      · exact q σ F1 _ x1.ff (o1.wr (s' := wrD 2 v s1) ⟨c2.p0, hok.1, c2.s0, c2.s1, c2.nl⟩ rfl)
      · exact q σ F1 _ x1.ff (o1.wr (s' := wrD 3 v s1) ⟨c2.p0, c2.a0, hok.1, by rcases hok.2 with z | z; exact absurd rfl z; exact z, c2.nl⟩ rfl)
  · cases e
end

/-! ### _law_begin(script) -/
def spBegin (K : PySem.W.Frag) : Sp := fun vs H Q _ => ∃ (a : Addr) (ns : List Int), vs = [.ref a] ∧ SqL K H a (ns.map V.int) ∧ ns.length ≤ 63 ∧
  ∀ (q p : Addr) (H1 : Hp) (seed : Int), 0 ≤ seed → seed < 2147483647 → p ≠ q → H1 q = some (.lst (ns.map V.int)) → H1 p = some (.lst [.ref q, .int 0, .int 0, .int seed]) → Q (.ref p) H1
theorem seed_next {s c : Int} (h0 : 0 ≤ s) (h1 : s < 2147483647) : 0 ≤ (s * 69621 + c % 2147483629 + 7) % 2147483647 ∧ (s * 69621 + c % 2147483629 + 7) % 2147483647 < 2147483647 := ⟨Int.emod_nonneg _ (by decide), Int.emod_lt_of_pos _ (by decide)⟩
theorem log_small {x : Int} (h : x.natAbs < 2 ^ 64) : x.natAbs.log2 < 64 := by
  by_cases h0 : x.natAbs = 0
  · rw [h0]; decide
  · exact (Nat.log2_lt h0).mpr h
/-- the reading of its body, by hand (N = script, seed, cell) -/
def tBegin (K : PySem.W.Frag) (tl : TE) : TS := tSeq (tAsg (tC (.int 1)) (gName 1)) (tSeq (tFor (iList K (tVar 0)) (gName 2) (tAsg (tOp (rI (fun _ j => 0 < j) fun i j => .int (i % j)) (tOp (rAddAll K) (tOp (rAddAll K) (tOp (rI CMulW fun i j => .int (i * j)) (tVar 1) (tC (.int 69621)))
  (tOp (rI (fun _ j => 0 < j) fun i j => .int (i % j)) (tCB (fun xs H Q => (∃ i, xs = [.int i] ∧ Q (.int i) H) ∨ ∃ k, xs = [.bl k] ∧ Q (.int (if k then 1 else 0)) H) (tCons (tVar 2) tNil)) (tC (.int 2147483629)))) (tC (.int 7))) (tC (.int 2147483647))) (gName 1))) (tRet tl))
theorem semBegin {K : PySem.W.Frag} {H : Hp} {a : Addr} {ns : List Int} {Q : VK} {E : Ends} (hS : SqL K H a (ns.map V.int)) (hl : ns.length ≤ 63)
    (q : ∀ (q p : Addr) (H1 : Hp) (seed : Int), 0 ≤ seed → seed < 2147483647 → p ≠ q → H1 q = some (.lst (ns.map V.int)) → H1 p = some (.lst [.ref q, .int 0, .int 0, .int seed]) → Q (.ref p) H1) (hE : E.rt = Q) {y1 y2 : Option V}
    (tl : TE) (htl : tl = tLst (tCons (tCB (fun xs H Q => ∃ p ys, xs = [.ref p] ∧ (SqL K H p ys ∨ SqT K H p ys) ∧ ∀ l, H l = none → Q (.ref l) (L2.upd H l (.lst ys))) (tCons (tVar 0) tNil)) (tCons (tC (.int 0)) (tCons (tC (.int 0)) (tCons (tVar 1) tNil))))) :
    tBegin K tl E [some (.ref a), y1, y2] H := by
  refine ⟨.ref a, rfl, a, rfl, ⟨_, hS⟩, ?_⟩
  refine ⟨fun i m σ H' => H' = H ∧ i + m = ns.length ∧ ∃ s y, σ = [some (.ref a), some (.int s), y] ∧ 0 ≤ s ∧ s < 2147483647, ⟨ns.length, rfl, by simp, 1, _, rfl, by decide, by decide⟩, ?_⟩
  rintro i m σ H' ⟨rfl, him, s, y, rfl, h0, h1⟩
  by_cases hi : i < ns.length
  · have g : (ns.map V.int)[i]? = some (.int ns[i]) := by rw [List.getElem?_map, List.getElem?_eq_getElem hi]; rfl
    refine .inr ⟨⟨_, _, hS, g⟩, fun σ' H2 => H2 = H' ∧ i + 1 + (m - 1) = ns.length ∧ ∃ s y, σ' = [some (.ref a), some (.int s), y] ∧ 0 ≤ s ∧ s < 2147483647, fun σ' H2 h => ⟨m - 1, by omega, h⟩, fun x H2 hy => ?_⟩
    obtain ⟨rfl, hx⟩ := hy
    have ex : x = .int ns[i] := Option.some.inj ((hx _ hS).symm.trans g)
    subst ex
    have hlog : s.natAbs.log2 + (69621 : Int).natAbs.log2 < 1000000 := by
      have := log_small (x := s) (by omega)
      have : (69621 : Int).natAbs.log2 < 64 := log_small (by decide)
      omega
    have hn := seed_next (c := ns[i]) h0 h1
    exact ⟨_, rfl, s, 69621, rfl, rfl, hlog, _, rfl, .inl ⟨_, rfl, _, _, rfl, rfl, (by show (0 : Int) < 2147483629; decide), .inl ⟨_, _, rfl, rfl, .inl ⟨_, _, rfl, rfl, ⟨_, _, rfl, rfl, (by show (0 : Int) < 2147483647; decide), ⟨rfl, by omega, _, _, rfl, hn.1, hn.2⟩⟩⟩⟩⟩⟩
  · refine .inl ⟨⟨_, hS, by rw [List.length_map]; omega⟩, ?_⟩
    show tl [some (.ref a), some (.int s), y] H' E.rt
    rw [hE]
    subst htl
    refine ⟨.ref a, rfl, a, _, rfl, .inl hS, fun l hl' => ⟨.int s, rfl, by show 4 ≤ sizeLine; decide, fun p hp => ?_⟩⟩
    have hne : p ≠ l := by rintro rfl; rw [upd_same] at hp; cases hp
    exact q l p _ s h0 h1 hne (by rw [upd_ne (Ne.symm hne), upd_same]) upd_same
abbrev tBeginL (K : PySem.W.Frag) : TE := tLst (tCons (tCB (fun xs H Q => ∃ p ys, xs = [.ref p] ∧ (SqL K H p ys ∨ SqT K H p ys) ∧ ∀ l, H l = none → Q (.ref l) (L2.upd H l (.lst ys))) (tCons (tVar 0) tNil)) (tCons (tC (.int 0)) (tCons (tC (.int 0)) (tCons (tVar 1) tNil))))
section
variable {P : Program} {w : World} {K : PySem.W.Frag} {mg : Str → Option Value} {base : Heap}
theorem begin_ok {st : Stmt} {f : Addr} {fd : FuncData} {k : Nat} {x : Str} (F : FnP K x st f fd) (S : FnScope ["script", "seed", "cell"] ["script"] (defScope st))
    (h : ∀ i, PSs (entF P w K mg base ["script", "seed", "cell"] k x (defScope st) f i) (defBody st) (tBegin K (tBeginL K))) : FnOk P w K mg base CX0 (k + 1) f fd ["script"] (spBegin K) := by
  refine F.okP S (fun vs H Q E h => ?_) (fun cdv A outer s H vs Q E hr h' => ?_)
  · obtain ⟨a, ns, rfl, _⟩ := h
    rfl
  · obtain ⟨a, ns, rfl, hS, hlen, q⟩ := h'
    exact ⟨_, h ⟨cdv, A, outer, s, H, E, hr⟩, semBegin hS hlen q rfl _ rfl⟩
/-- the start of a law's slots: the script forgotten, d the draw object -/
def rho0 (n : Nat) : Rho := .un :: .sh .rng :: List.replicate (n - 2) .un
def spLaw (K : PySem.W.Frag) (n : Nat) (g : SF) : Sp := fun vs H Q _ => ∃ (a : Addr) (ns : List Int), vs = [.ref a] ∧ SqL K H a (ns.map V.int) ∧ ns.length ≤ 63 ∧ (∀ seed, 0 ≤ seed → seed < 2147483647 → ∃ ρ' s', g (rho0 n) ⟨ns, 0, 0, seed⟩ = some ((.rt (.bl true), ρ'), s')) ∧ ∀ H', Q (.bl true) H'
theorem law_ok {st : Stmt} {f fB : Addr} {fd fdB : FuncData} {k kB : Nat} {x : Str} {N : List Str} {p2 p3 p4 p5 pos : Pos} {rest : List Stmt} {g : SF} (F : FnP K x st f fd) (S : FnScope N ["script"] (defScope st))
    (FB : FnOk P w K mg base CX0 kB fB fdB ["script"] (spBegin K)) (hkB : kB ≤ k) (bB : Binds K fdB ["script"] []) (gB : mg "_law_begin" = some (.ref fB)) (kpB : PySem.W.keepIn K (.ref fB) = true)
    (hb : defBody st = .Assign [.Name "d" p2] (.Call (.Name "_law_begin" p3) [.Name "script" p4] [] p5) pos :: rest) (h : CSs (entF P w K mg base N k x (defScope st) f) K rest g)
    (hN0 : N[0]? = some (Str.ofString "script")) (hN1 : N[1]? = some (Str.ofString "d")) (n : Nat := N.length) (hn : N.length = n := by rfl) (hn2 : 2 ≤ n := by decide)
    (hv : ∀ j, Vis (entF P w K mg base N k x (defScope st) f j).env.scope "script" := by intro _; first | exact Or.inl rfl | exact Or.inr (Or.inl rfl) | exact Or.inr (Or.inr rfl)) (hx : ∀ j, Loc (entF P w K mg base N k x (defScope st) f j).env.scope "d" := by intro _; first | exact Or.inl rfl | exact Or.inr rfl)
    (hg : ∀ i, Gl (entF P w K mg base N k x (defScope st) f i) "_law_begin" := by intro _; rfl)
    (he : ∀ i, starEach [.Name "script" p4] (entF P w K mg base N k x (defScope st) f i).env = (false, eval (.Name "script" p4) (entF P w K mg base N k x (defScope st) f i).env) :: starEach [] (entF P w K mg base N k x (defScope st) f i).env := by intro _; rfl)
    (hpl : ∀ i, (backTo p5 (starEach [] (entF P w K mg base N k x (defScope st) f i).env)).any (·.1) = false := by intro _; rfl)
    (hs : ∀ j, swapsWith (.Call (.Name "_law_begin" p3) [.Name "script" p4] [] p5) (some (.Name "d" p2)) pos.line (entF P w K mg base N k x (defScope st) f j).env = pure false := by intro _; rfl) :
    FnOk P w K mg base CX0 (k + 1) f fd ["script"] (spLaw K n g) := by
  subst hn
  refine F.okP S (fun vs H Q E h => ?_) (fun cdv A outer s H vs Q E hr h' => ?_)
  · obtain ⟨a, ns, rfl, _⟩ := h
    rfl
  · obtain ⟨a, ns, rfl, hS, hlen, hG, q⟩ := h'
    obtain ⟨t, t1, t2⟩ := h
    have i0 : EntI k x (defScope st) f := ⟨cdv, A, outer, s, H, E, hr⟩
    refine ⟨tSeq (tAsg (tCall (spBegin K) [] E0 (tCons (tVar 0) tNil)) (gName 1)) t, ?_, ?_⟩
    · rw [hb]
      refine pss_cons (ps_set (S.nd) hN1 (hx ⟨cdv, A, outer, s, H, E, hr⟩) ?_ (hs ⟨cdv, A, outer, s, H, E, hr⟩)) (t1 ⟨cdv, A, outer, s, H, E, hr⟩)
      exact pe_call (X := entF P w K mg base N k x (defScope st) f ⟨cdv, A, outer, s, H, E, hr⟩) FB (hr.mono hkB) (hg ⟨cdv, A, outer, s, H, E, hr⟩) gB kpB bB .nil pass0 (pa_cons (pe_var hN0 (hv ⟨cdv, A, outer, s, H, E, hr⟩)) pa_nil (he ⟨cdv, A, outer, s, H, E, hr⟩)) (by decide) (he ⟨cdv, A, outer, s, H, E, hr⟩) (hpl ⟨cdv, A, outer, s, H, E, hr⟩)
    · have hst : L2.start N [V.ref a] = some (.ref a) :: none :: List.replicate (N.length - 2) none := by
        show [some (V.ref a)] ++ List.replicate (N.length - 1) none = _
        have : N.length - 1 = (N.length - 2) + 1 := by omega
        rw [this, List.replicate_succ]; rfl
      rw [hst]
      refine ⟨.ref a, rfl, a, ns, rfl, hS, hlen, fun qa p H1 seed h0 h1 hne e1 e2 => ?_⟩
      obtain ⟨ρ', s', hgg⟩ := hG seed h0 h1
      have nF : (L2.upd (fun _ => none) qa (HO.lst (ns.map V.int)) : Hp) p = none := by rw [upd_ne hne]
      refine t2 (some ⟨p, qa⟩) (L2.upd (fun _ => none) qa (.lst (ns.map V.int))) H1 (L2.upd (fun _ => none) qa (.lst (ns.map V.int))) H1 (rho0 N.length) _ ⟨ns, 0, 0, seed⟩ _ ρ' s' ⟨.refl fun b u e => ?_, ⟨?_, fun i sl e => ?_, fun i j ds es z hij e3 => ?_⟩, nF, ⟨Int.le_refl _, Int.le_refl _, h0, h1, hlen⟩, e2, upd_same⟩ hgg _ ?_
      · by_cases hb' : b = qa
        · subst hb'; rw [upd_same] at e; cases e; exact e1
        · rw [upd_ne hb'] at e; cases e
      · simp [rho0]
      · cases i with
        | zero => cases e; exact ⟨_, rfl, trivial⟩
        | succ i =>
          cases i with
          | zero => cases e; exact ⟨some (.ref p), rfl, .ref p, rfl, by simp only [Rep]; exact ⟨p, rfl, rfl⟩⟩
          | succ i =>
            have e : (List.replicate (N.length - 2) Slot.un)[i]? = some sl := e
            rw [List.getElem?_replicate] at e
            split at e
            · rename_i hlt
              cases e
              refine ⟨none, ?_, trivial⟩
              show (List.replicate (N.length - 2) (none : Option V))[i]? = some none
              rw [List.getElem?_replicate, if_pos hlt]
            · cases e
      · exfalso
        have := List.mem_of_getElem? e3
        simp [rho0] at this
      · exact fun v F' H' _ _ r => by
          simp only [Rep] at r
          subst r
          exact q H'
end
end Pu
namespace Pu
open PySem PySem.Spec PyProof.Rows L2

/-! ### plain values as data -/
class EnQ (α : Type) where
  e : α → D
  k : Nat
  cl : ∀ a, clean (e a) = true
  lay : ∀ a, (toP (e a)).canLay0 = true
  dp : ∀ a, (toP (e a)).depth ≤ k
  eqv : ∀ a b, PyData.eqv (toP (e a)) (toP (e b)) = true ↔ a = b
class En (α : Type) extends EnQ α where
  nn : ∀ a, isNonD (e a) = false
  lt : α → α → Bool
  al : ∀ a b, PySem.W.alike (toP (e a)) (toP (e b)) = true
  ltv : ∀ a b, PySem.W.dataLt (toP (e a)) (toP (e b)) = lt a b
  irr : ∀ a, lt a a = false
  trans : ∀ a b c, lt a b = true → lt b c = true → lt a c = true
  tot : ∀ a b, lt a b = false → lt b a = false → a = b
abbrev en {α : Type} [EnQ α] (a : α) : D := EnQ.e a
@[reducible] instance : En Int where
  e := .int
  k := 0
  cl _ := rfl
  lay _ := by simp [toP, PyData.canLay0]
  dp _ := by simp [toP, PyData.depth]
  nn _ := rfl
  eqv a b := by simp [toP, PyData.eqv]
  lt a b := decide (a < b)
  al a b := by simp [toP, PySem.W.alike]
  ltv a b := by simp [toP, PySem.W.dataLt_int]
  irr a := by simp
  trans a b c h1 h2 := by simp at *; omega
  tot a b h1 h2 := by simp at *; omega
@[reducible] instance : En Nat where
  e n := .int n
  k := 0
  cl _ := rfl
  lay _ := by simp [toP, PyData.canLay0]
  dp _ := by simp [toP, PyData.depth]
  nn _ := rfl
  eqv a b := by simp only [toP, PyData.eqv, beq_iff_eq]; omega
  lt a b := decide (a < b)
  al a b := by simp [toP, PySem.W.alike]
  ltv a b := by simp [toP, PySem.W.dataLt_int]
  irr a := by simp
  trans a b c h1 h2 := by simp at *; omega
  tot a b h1 h2 := by simp at *; omega
@[reducible] instance : EnQ Bool where
  e := .bl
  k := 0
  cl _ := rfl
  lay _ := by simp [toP, PyData.canLay0]
  dp _ := by simp [toP, PyData.depth]
  eqv a b := by simp [toP, PyData.eqv]
section
variable {α β : Type}
theorem cleanL_map [EnQ α] : ∀ l : List α, cleanL (l.map EnQ.e) = true
  | [] => rfl
  | a :: l => by simp [cleanL, EnQ.cl, cleanL_map l]
theorem lay_map [EnQ α] : ∀ l : List α, PyData.canLayAll0 (toPs (l.map EnQ.e)) = true
  | [] => by simp [toPs, PyData.canLayAll0]
  | a :: l => by simp [toPs, PyData.canLayAll0, EnQ.lay, lay_map l]
theorem dp_map [EnQ α] : ∀ l : List α, PyData.depthAll (toPs (l.map EnQ.e)) ≤ EnQ.k α
  | [] => by simp [toPs, PyData.depthAll]
  | a :: l => by
    have := dp_map l
    have := EnQ.dp a
    simp only [List.map_cons, toPs, PyData.depthAll]
    omega
theorem eqvAll_map [EnQ α] : ∀ l m : List α, PyData.eqvAll (toPs (l.map EnQ.e)) (toPs (m.map EnQ.e)) = true ↔ l = m
  | [], [] => by simp [toPs, PyData.eqvAll]
  | [], b :: m => by simp [toPs, PyData.eqvAll]
  | a :: l, [] => by simp [toPs, PyData.eqvAll]
  | a :: l, b :: m => by simp [toPs, PyData.eqvAll, EnQ.eqv, eqvAll_map l m]
@[reducible] instance [EnQ α] : EnQ (List α) where
  e l := .tup (l.map EnQ.e)
  k := EnQ.k α + 1
  cl l := by simp only [clean]; exact cleanL_map l
  lay l := by simp only [toP, PyData.canLay0]; exact lay_map l
  dp l := by simp only [toP, PyData.depth]; have := dp_map l; omega
  eqv l m := by simp only [toP, PyData.eqv]; exact eqvAll_map l m
def lxL (lt : α → α → Bool) : List α → List α → Bool
  | [], [] => false
  | [], _ :: _ => true
  | _ :: _, [] => false
  | a :: l, b :: m => lt a b || (!lt b a && lxL lt l m)
theorem alL [En α] : ∀ l m : List α, PySem.W.alikeAll (toPs (l.map EnQ.e)) (toPs (m.map EnQ.e)) = true
  | [], _ => by simp [toPs, PySem.W.alikeAll]
  | a :: l, [] => by simp [toPs, PySem.W.alikeAll]
  | a :: l, b :: m => by simp [toPs, PySem.W.alikeAll, En.al, alL l m]
theorem ltL [En α] : ∀ l m : List α, PyProof.Rows.lexLt PyProof.Rows.itemOrd (PySem.W.keyToksAll (toPs (l.map EnQ.e))) (PySem.W.keyToksAll (toPs (m.map EnQ.e))) = lxL En.lt l m
  | [], [] => by simp [toPs, PySem.W.keyToksAll, PyProof.Rows.lexLt, lxL]; rfl
  | [], b :: m => by
    simp only [List.map_nil, List.map_cons, toPs, PySem.W.keyToksAll, lxL]
    rfl
  | a :: l, [] => by
    simp only [List.map_nil, List.map_cons, toPs, PySem.W.keyToksAll, lxL]
    rfl
  | a :: l, b :: m => by
    simp only [List.map_cons, toPs, lxL]
    cases h : PyData.eqv (toP (EnQ.e a)) (toP (EnQ.e b)) with
    | true =>
      have := (EnQ.eqv a b).mp h
      subst this
      rw [PySem.W.dataLt_all_yes (En.al a a) h, ltL l m, En.irr]; simp
    | false =>
      rw [PySem.W.dataLt_all_no (En.al a b) h, En.ltv]
      have hne : a ≠ b := fun z => by rw [(EnQ.eqv a b).mpr z] at h; cases h
      cases h1 : En.lt a b with
      | true => simp
      | false =>
        cases h2 : En.lt b a with
        | true => simp
        | false => exact absurd (En.tot a b h1 h2) hne
theorem lxL_irr [En α] : ∀ l : List α, lxL En.lt l l = false
  | [] => rfl
  | a :: l => by simp [lxL, En.irr, lxL_irr l]
theorem lt_asym [En α] {a b : α} (h : En.lt a b = true) : En.lt b a = false := by
  cases h2 : En.lt b a with
  | false => rfl
  | true => have := En.trans a b a h h2; rw [En.irr] at this; cases this
theorem lxL_trans [En α] : ∀ l m n : List α, lxL En.lt l m = true → lxL En.lt m n = true → lxL En.lt l n = true
  | [], [], _, h, _ => by simp [lxL] at h
  | [], _ :: _, [], _, h => by simp [lxL] at h
  | [], _ :: _, _ :: _, _, _ => rfl
  | _ :: _, [], _, h, _ => by simp [lxL] at h
  | _ :: _, _ :: _, [], _, h => by simp [lxL] at h
  | a :: l, b :: m, c :: n, h1, h2 => by
    simp only [lxL, Bool.or_eq_true, Bool.and_eq_true, Bool.not_eq_true'] at h1 h2 ⊢
    rcases h1 with h1 | ⟨h1, h1'⟩ <;> rcases h2 with h2 | ⟨h2, h2'⟩
    · exact .inl (En.trans a b c h1 h2)
    · cases hb : En.lt b c with
      | true => exact .inl (En.trans a b c h1 hb)
      | false => have := En.tot b c hb h2; subst this; exact .inl h1
    · cases ha : En.lt a b with
      | true => exact .inl (En.trans a b c ha h2)
      | false => have := En.tot a b ha h1; subst this; exact .inl h2
    · cases ha : En.lt a b with
      | true =>
        cases hb : En.lt b c with
        | true => exact .inl (En.trans a b c ha hb)
        | false => have := En.tot b c hb h2; subst this; exact .inl ha
      | false =>
        have := En.tot a b ha h1; subst this
        exact .inr ⟨h2, lxL_trans l m n h1' h2'⟩
theorem lxL_tot [En α] : ∀ l m : List α, lxL En.lt l m = false → lxL En.lt m l = false → l = m
  | [], [], _, _ => rfl
  | [], _ :: _, h, _ => by simp [lxL] at h
  | _ :: _, [], _, h => by simp [lxL] at h
  | a :: l, b :: m, h1, h2 => by
    simp only [lxL, Bool.or_eq_false_iff, Bool.and_eq_false_iff, Bool.not_eq_false'] at h1 h2
    have hab := En.tot a b h1.1 h2.1
    subst hab
    rw [En.irr] at h1 h2
    rw [lxL_tot l m (by simpa using h1.2) (by simpa using h2.2)]
@[reducible] instance [En α] : En (List α) where
  nn _ := rfl
  lt := lxL En.lt
  al l m := by show PySem.W.alike (toP (.tup _)) (toP (.tup _)) = true; simp only [toP, PySem.W.alike]; exact alL l m
  ltv l m := by show PySem.W.dataLt (toP (.tup _)) (toP (.tup _)) = _; simp only [toP]; rw [PySem.W.dataLt_tuple]; exact ltL l m
  irr := lxL_irr
  trans := lxL_trans
  tot := lxL_tot
@[reducible] instance [EnQ α] [EnQ β] : EnQ (α × β) where
  e p := .tup [EnQ.e p.1, EnQ.e p.2]
  k := EnQ.k α + EnQ.k β + 1
  cl p := by simp [clean, cleanL, EnQ.cl]
  lay p := by simp [toP, toPs, PyData.canLay0, PyData.canLayAll0, EnQ.lay]
  dp p := by
    have := EnQ.dp p.1
    have := EnQ.dp p.2
    simp only [toP, toPs, PyData.depth, PyData.depthAll]; omega
  eqv p q := by
    simp only [toP, toPs, PyData.eqv, PyData.eqvAll, Bool.and_true, Bool.and_eq_true, EnQ.eqv]
    exact ⟨fun h => Prod.ext h.1 h.2, fun h => by rw [h]; exact ⟨rfl, rfl⟩⟩
def ltP (f : α → α → Bool) (g : β → β → Bool) (p q : α × β) : Bool := f p.1 q.1 || (!f q.1 p.1 && g p.2 q.2)
theorem ltP_v [En α] [En β] (p q : α × β) : PySem.W.dataLt (toP (EnQ.e p)) (toP (EnQ.e q)) = ltP En.lt En.lt p q := by
  show PySem.W.dataLt (toP (.tup [EnQ.e p.1, EnQ.e p.2])) (toP (.tup [EnQ.e q.1, EnQ.e q.2])) = _
  simp only [toP, toPs]
  rw [PySem.W.dataLt_tuple]
  unfold ltP
  cases h : PyData.eqv (toP (EnQ.e p.1)) (toP (EnQ.e q.1)) with
  | true =>
    have e1 := (EnQ.eqv _ _).mp h
    rw [PySem.W.dataLt_all_yes (En.al _ _) h]
    cases h' : PyData.eqv (toP (EnQ.e p.2)) (toP (EnQ.e q.2)) with
    | true =>
      have e2 := (EnQ.eqv _ _).mp h'
      rw [PySem.W.dataLt_all_yes (En.al _ _) h', e1, e2, En.irr, En.irr]; rfl
    | false =>
      rw [PySem.W.dataLt_all_no (En.al _ _) h', En.ltv, e1, En.irr]; simp
  | false =>
    rw [PySem.W.dataLt_all_no (En.al _ _) h, En.ltv]
    have hne : p.1 ≠ q.1 := fun z => by rw [(EnQ.eqv _ _).mpr z] at h; cases h
    cases h1 : En.lt p.1 q.1 with
    | true => simp
    | false =>
      cases h2 : En.lt q.1 p.1 with
      | true => simp
      | false => exact absurd (En.tot _ _ h1 h2) hne
@[reducible] instance [En α] [En β] : En (α × β) where
  nn _ := rfl
  lt := ltP En.lt En.lt
  al p q := by show PySem.W.alike (toP (.tup [EnQ.e p.1, EnQ.e p.2])) (toP (.tup [EnQ.e q.1, EnQ.e q.2])) = true; simp [toP, toPs, PySem.W.alike, PySem.W.alikeAll, En.al]
  ltv := ltP_v
  irr p := by simp [ltP, En.irr]
  trans p q r h1 h2 := by
    simp only [ltP, Bool.or_eq_true, Bool.and_eq_true, Bool.not_eq_true'] at h1 h2 ⊢
    rcases h1 with h1 | ⟨h1, h1'⟩ <;> rcases h2 with h2 | ⟨h2, h2'⟩
    · exact .inl (En.trans _ _ _ h1 h2)
    · cases hb : En.lt q.1 r.1 with
      | true => exact .inl (En.trans _ _ _ h1 hb)
      | false => have := En.tot _ _ hb h2; rw [this] at h1; exact .inl h1
    · cases ha : En.lt p.1 q.1 with
      | true => exact .inl (En.trans _ _ _ ha h2)
      | false => have := En.tot _ _ ha h1; rw [← this] at h2; exact .inl h2
    · cases ha : En.lt p.1 q.1 with
      | true =>
        cases hb : En.lt q.1 r.1 with
        | true => exact .inl (En.trans _ _ _ ha hb)
        | false => have := En.tot _ _ hb h2; rw [this] at ha; exact .inl ha
      | false =>
        have := En.tot _ _ ha h1
        rw [← this] at h2
        exact .inr ⟨h2, En.trans _ _ _ h1' h2'⟩
  tot p q h1 h2 := by
    simp only [ltP, Bool.or_eq_false_iff, Bool.and_eq_false_iff, Bool.not_eq_false'] at h1 h2
    have e1 := En.tot _ _ h1.1 h2.1
    rw [e1, En.irr] at h1
    rw [e1, En.irr] at h2
    exact Prod.ext e1 (En.tot _ _ (by simpa using h1.2) (by simpa using h2.2))
@[reducible] instance [En α] : EnQ (Option α) where
  e o := match o with
    | none => .non
    | some a => EnQ.e a
  k := EnQ.k α
  cl o := by cases o with
    | none => rfl
    | some a => exact EnQ.cl a
  lay o := by cases o with
    | none => simp [toP, PyData.canLay0]
    | some a => exact EnQ.lay a
  dp o := by cases o with
    | none => simp [toP, PyData.depth]
    | some a => exact EnQ.dp a
  eqv o p := by
    cases o with
    | none => cases p with
      | none => simp [toP, PyData.eqv]
      | some b =>
        have := En.nn b
        show PyData.eqv (toP .non) (toP (EnQ.e b)) = true ↔ _
        cases h : (EnQ.e b : D) <;> simp [toP, PyData.eqv, h, isNonD] at this ⊢
    | some a => cases p with
      | none =>
        have := En.nn a
        show PyData.eqv (toP (EnQ.e a)) (toP .non) = true ↔ _
        cases h : (EnQ.e a : D) <;> simp [toP, PyData.eqv, h, isNonD] at this ⊢
      | some b =>
        show PyData.eqv (toP (EnQ.e a)) (toP (EnQ.e b)) = true ↔ _
        rw [EnQ.eqv]; simp
/-! the operations on such -/
class Sh (α : Type) [EnQ α] : Prop where
  s : EnQ.k α ≤ 60
instance : Sh Int := ⟨by decide⟩
instance : Sh Nat := ⟨by decide⟩
instance : Sh Bool := ⟨by decide⟩
theorem shaped_en [EnQ α] (h : EnQ.k α ≤ 64) (a : α) : cmpOk (EnQ.e a) = true := by
  unfold cmpOk SeqAt.shaped
  rw [EnQ.cl, EnQ.lay]
  have := EnQ.dp a
  simp; omega
theorem cmpOk_tup [EnQ α] (h : EnQ.k α ≤ 60) (l : List α) : cmpOk (.tup (l.map EnQ.e)) = true := shaped_en (α := List α) (by show EnQ.k α + 1 ≤ 64; omega) l
theorem cmpOk_lst [EnQ α] (h : EnQ.k α ≤ 60) (l : List α) : cmpOk (.lst (l.map EnQ.e)) = true := by
  unfold cmpOk SeqAt.shaped
  simp only [clean, toP, PyData.canLay0, PyData.depth, cleanL_map, lay_map, Bool.true_and, decide_eq_true_eq]
  have := dp_map l
  omega
theorem eq_en [EnQ α] [DecidableEq α] (h : EnQ.k α ≤ 60) (a b : α) : eqD (EnQ.e a) (EnQ.e b) = some (.bl (decide (a = b))) := by
  unfold eqD
  rw [if_pos ⟨shaped_en (by omega) a, shaped_en (by omega) b⟩]
  congr 2
  by_cases e : a = b
  · rw [decide_eq_true e, (EnQ.eqv a b).mpr e]
  · rw [decide_eq_false e]
    cases hh : PyData.eqv (toP (EnQ.e a)) (toP (EnQ.e b)) with
    | false => rfl
    | true => exact absurd ((EnQ.eqv a b).mp hh) e
theorem ne_en [EnQ α] [DecidableEq α] (h : EnQ.k α ≤ 60) (a b : α) : neD (EnQ.e a) (EnQ.e b) = some (.bl (!decide (a = b))) := by
  unfold neD
  rw [if_pos ⟨shaped_en (by omega) a, shaped_en (by omega) b⟩]
  congr 3
  by_cases e : a = b
  · rw [decide_eq_true e, (EnQ.eqv a b).mpr e]
  · rw [decide_eq_false e]
    cases hh : PyData.eqv (toP (EnQ.e a)) (toP (EnQ.e b)) with
    | false => rfl
    | true => exact absurd ((EnQ.eqv a b).mp hh) e
theorem eqL_en [EnQ α] [DecidableEq α] (h : EnQ.k α ≤ 60) (l m : List α) : eqD (.lst (l.map EnQ.e)) (.lst (m.map EnQ.e)) = some (.bl (decide (l = m))) := by
  unfold eqD
  rw [if_pos ⟨cmpOk_lst h l, cmpOk_lst h m⟩]
  simp only [toP, PyData.eqv]
  congr 2
  by_cases e : l = m
  · rw [decide_eq_true e, (eqvAll_map l m).mpr e]
  · rw [decide_eq_false e]
    cases hh : PyData.eqvAll (toPs (l.map EnQ.e)) (toPs (m.map EnQ.e)) with
    | false => rfl
    | true => exact absurd ((eqvAll_map l m).mp hh) e
theorem neL_en [EnQ α] [DecidableEq α] (h : EnQ.k α ≤ 60) (l m : List α) : neD (.lst (l.map EnQ.e)) (.lst (m.map EnQ.e)) = some (.bl (!decide (l = m))) := by
  have := eqL_en h l m
  unfold eqD at this
  unfold neD
  rw [if_pos ⟨cmpOk_lst h l, cmpOk_lst h m⟩] at this ⊢
  have := D.bl.inj (Option.some.inj this)
  rw [this]
theorem hasD_en [EnQ α] [DecidableEq α] (a : α) : ∀ l : List α, hasD (EnQ.e a) (l.map EnQ.e) = decide (a ∈ l)
  | [] => rfl
  | b :: l => by
    have ih := hasD_en a l
    unfold hasD at ih ⊢
    rw [List.map_cons, List.any_cons, ih]
    by_cases e : a = b
    · subst e
      rw [(EnQ.eqv a a).mpr rfl]; simp
    · have : PyData.eqv (toP (EnQ.e b)) (toP (EnQ.e a)) = false := by
        cases hh : PyData.eqv (toP (EnQ.e b)) (toP (EnQ.e a)) with
        | false => rfl
        | true => exact absurd ((EnQ.eqv b a).mp hh).symm e
      rw [this]; simp [e]
theorem inL_en [EnQ α] [DecidableEq α] (h : EnQ.k α ≤ 60) (a : α) (l : List α) : inD (EnQ.e a) (.lst (l.map EnQ.e)) = some (.bl (decide (a ∈ l))) := by
  unfold inD; simp only [seqD]; rw [if_pos ⟨shaped_en (by omega) a, cmpOk_lst h l⟩, hasD_en]
theorem inT_en [EnQ α] [DecidableEq α] (h : EnQ.k α ≤ 60) (a : α) (l : List α) : inD (EnQ.e a) (.tup (l.map EnQ.e)) = some (.bl (decide (a ∈ l))) := by
  unfold inD; simp only [seqD]; rw [if_pos ⟨shaped_en (by omega) a, cmpOk_tup h l⟩, hasD_en]
theorem ninL_en [EnQ α] [DecidableEq α] (h : EnQ.k α ≤ 60) (a : α) (l : List α) : ninD (EnQ.e a) (.lst (l.map EnQ.e)) = some (.bl (!decide (a ∈ l))) := by
  unfold ninD; simp only [seqD]; rw [if_pos ⟨shaped_en (by omega) a, cmpOk_lst h l⟩, hasD_en]
theorem ninT_en [EnQ α] [DecidableEq α] (h : EnQ.k α ≤ 60) (a : α) (l : List α) : ninD (EnQ.e a) (.tup (l.map EnQ.e)) = some (.bl (!decide (a ∈ l))) := by
  unfold ninD; simp only [seqD]; rw [if_pos ⟨shaped_en (by omega) a, cmpOk_tup h l⟩, hasD_en]
theorem ninT_yes [EnQ α] [DecidableEq α] (h : EnQ.k α ≤ 60) {a : α} {l : List α} (hm : a ∈ l) : ninD (EnQ.e a) (.tup (l.map EnQ.e)) = some (.bl false) := by rw [ninT_en h a l]; simp [hm]
theorem ninL_yes [EnQ α] [DecidableEq α] (h : EnQ.k α ≤ 60) {a : α} {l : List α} (hm : a ∈ l) : ninD (EnQ.e a) (.lst (l.map EnQ.e)) = some (.bl false) := by rw [ninL_en h a l]; simp [hm]
theorem ordOk_en [En α] (h : EnQ.k α ≤ 60) (a b : α) : ordOk (EnQ.e a) (EnQ.e b) = true := by
  unfold ordOk; rw [shaped_en (by omega) a, shaped_en (by omega) b, En.al, En.nn]; rfl
theorem lt_en [En α] (h : EnQ.k α ≤ 60) (a b : α) : ltA (EnQ.e a) (EnQ.e b) = some (.bl (En.lt a b)) := by unfold ltA; rw [if_pos (ordOk_en h a b), En.ltv]
/-! least, greatest -/
def mnE [En α] (x : α) (xs : List α) : α := xs.foldl (fun a y => if En.lt y a = true then y else a) x
def mxE [En α] (x : α) (xs : List α) : α := xs.foldl (fun a y => if En.lt a y = true then y else a) x
theorem minA_en [En α] : ∀ (xs : List α) (x : α), minA (EnQ.e x) (xs.map EnQ.e) = EnQ.e (mnE x xs)
  | [], x => rfl
  | y :: xs, x => by
    have ih := minA_en xs (if En.lt y x = true then y else x)
    unfold minA mnE at ih ⊢
    rw [List.map_cons, List.foldl_cons, List.foldl_cons, ← ih, En.ltv]
    by_cases h : En.lt y x = true <;> simp [h]
theorem maxA_en [En α] : ∀ (xs : List α) (x : α), maxA (EnQ.e x) (xs.map EnQ.e) = EnQ.e (mxE x xs)
  | [], x => rfl
  | y :: xs, x => by
    have ih := maxA_en xs (if En.lt x y = true then y else x)
    unfold maxA mxE at ih ⊢
    rw [List.map_cons, List.foldl_cons, List.foldl_cons, ← ih, En.ltv]
    by_cases h : En.lt x y = true <;> simp [h]
theorem allCmp_en [En α] (h : EnQ.k α ≤ 60) (l : List α) : allCmp (l.map EnQ.e) = true := by
  unfold allCmp
  simp only [Bool.and_eq_true, List.all_eq_true, List.mem_map, forall_exists_index, and_imp, forall_apply_eq_imp_iff₂, Bool.not_eq_true']
  exact ⟨fun a _ => ⟨shaped_en (by omega) a, En.nn a⟩, fun a _ b _ => En.al a b⟩
theorem min_seq [En α] (h : EnQ.k α ≤ 60) {d : D} {x : α} {xs : List α} (hd : seqD d = some ((x :: xs).map EnQ.e)) : minD [d] = some (EnQ.e (mnE x xs)) := by
  unfold minD onSeq
  simp only [hd, List.map_cons]
  have := allCmp_en h (x :: xs)
  rw [List.map_cons] at this
  rw [if_pos this, minA_en]
theorem max_seq [En α] (h : EnQ.k α ≤ 60) {d : D} {x : α} {xs : List α} (hd : seqD d = some ((x :: xs).map EnQ.e)) : maxD [d] = some (EnQ.e (mxE x xs)) := by
  unfold maxD onSeq
  simp only [hd, List.map_cons]
  have := allCmp_en h (x :: xs)
  rw [List.map_cons] at this
  rw [if_pos this, maxA_en]
theorem mnE_mem [En α] (x : α) (xs : List α) : mnE x xs ∈ x :: xs := by
  unfold mnE
  induction xs generalizing x with
  | nil => simp
  | cons y ys ih =>
    rw [List.foldl_cons]
    have := ih (if En.lt y x = true then y else x)
    by_cases h : En.lt y x = true
    · simp only [h, if_true] at this ⊢; exact List.mem_cons_of_mem _ this
    · simp only [h] at this ⊢
      rcases List.mem_cons.mp this with z | z
      · exact List.mem_cons.mpr (.inl z)
      · exact List.mem_cons_of_mem _ (List.mem_cons_of_mem _ z)
theorem mxE_mem [En α] (x : α) (xs : List α) : mxE x xs ∈ x :: xs := by
  unfold mxE
  induction xs generalizing x with
  | nil => simp
  | cons y ys ih =>
    rw [List.foldl_cons]
    have := ih (if En.lt x y = true then y else x)
    by_cases h : En.lt x y = true
    · simp only [h, if_true] at this ⊢; exact List.mem_cons_of_mem _ this
    · simp only [h] at this ⊢
      rcases List.mem_cons.mp this with z | z
      · exact List.mem_cons.mpr (.inl z)
      · exact List.mem_cons_of_mem _ (List.mem_cons_of_mem _ z)
theorem le_trans' [En α] {a b c : α} (h1 : En.lt b a = false) (h2 : En.lt c b = false) : En.lt c a = false := by
  cases h : En.lt c a with
  | false => rfl
  | true =>
    cases h3 : En.lt a b with
    | true => have := En.trans _ _ _ h h3; rw [h2] at this; cases this
    | false => have := En.tot _ _ h3 h1; subst this; rw [h2] at h; cases h
theorem mnE_le [En α] (x : α) (xs : List α) : ∀ y ∈ x :: xs, En.lt y (mnE x xs) = false := by
  unfold mnE
  induction xs generalizing x with
  | nil => intro y hy; rw [List.mem_singleton.mp hy]; exact En.irr x
  | cons z zs ih =>
    intro y hy
    rw [List.foldl_cons]
    by_cases h : En.lt z x = true
    · simp only [h, if_true]
      have := ih z
      rcases List.mem_cons.mp hy with e | e
      · subst e
        exact le_trans' (this z (by simp)) (lt_asym h)
      · exact this y e
    · simp only [h]
      have := ih x
      rcases List.mem_cons.mp hy with e | e
      · subst e; exact this y (by simp)
      · rcases List.mem_cons.mp e with e | e
        · subst e
          exact le_trans' (this x (by simp)) (by simpa using h)
        · exact this y (List.mem_cons_of_mem _ e)
theorem mxE_le [En α] (x : α) (xs : List α) : ∀ y ∈ x :: xs, En.lt (mxE x xs) y = false := by
  unfold mxE
  induction xs generalizing x with
  | nil => intro y hy; rw [List.mem_singleton.mp hy]; exact En.irr x
  | cons z zs ih =>
    intro y hy
    rw [List.foldl_cons]
    by_cases h : En.lt x z = true
    · simp only [h, if_true]
      have := ih z
      rcases List.mem_cons.mp hy with e | e
      · subst e
        exact le_trans' (lt_asym h) (this z (by simp))
      · exact this y e
    · simp only [h]
      have := ih x
      rcases List.mem_cons.mp hy with e | e
      · subst e; exact this y (by simp)
      · rcases List.mem_cons.mp e with e | e
        · subst e
          exact le_trans' (by simpa using h) (this x (by simp))
        · exact this y (List.mem_cons_of_mem _ e)
theorem mnE_uniq [En α] {x : α} {xs : List α} {m : α} (h1 : m ∈ x :: xs) (h2 : ∀ y ∈ x :: xs, En.lt y m = false) : mnE x xs = m := En.tot _ _ (mnE_le x xs m h1 |> fun h => h2 _ (mnE_mem x xs)) (mnE_le x xs m h1)
/-! places -/
theorem idxD_en [EnQ α] [DecidableEq α] (a : α) : ∀ l : List α, idxD (EnQ.e a) (l.map EnQ.e) = l.findIdx? fun z => decide (z = a)
  | [] => rfl
  | b :: l => by
    have ih := idxD_en a l
    unfold idxD at ih ⊢
    rw [List.map_cons, List.findIdx?_cons, List.findIdx?_cons, ih]
    by_cases e : b = a
    · subst e
      rw [(EnQ.eqv b b).mpr rfl]; simp
    · have : PyData.eqv (toP (EnQ.e b)) (toP (EnQ.e a)) = false := by
        cases hh : PyData.eqv (toP (EnQ.e b)) (toP (EnQ.e a)) with
        | false => rfl
        | true => exact absurd ((EnQ.eqv b a).mp hh) e
      rw [this]; simp [e]
theorem index_en [EnQ α] [DecidableEq α] (h : EnQ.k α ≤ 60) (a : α) (l : List α) : indexD (.lst (l.map EnQ.e)) (EnQ.e a) = (l.findIdx? fun z => decide (z = a)).map fun j => .int (j : Nat) := by
  unfold indexD; simp only []
  rw [if_pos ⟨cmpOk_lst h l, shaped_en (by omega) a⟩, idxD_en]
end
end Pu
namespace Pu
open PySem PySem.Spec PyProof.Rows L2

/-! ### what the words come to: weakest preconditions -/
def wp {α : Type} (m : M α) (s : DS) (Q : α → DS → Prop) : Prop := ∃ a s', m s = some (a, s') ∧ Q a s'
section
variable {α β : Type} {s : DS} {Q : α → DS → Prop}
theorem wp_some {m : M α} {a : α} {s' : DS} (h : m s = some (a, s')) : wp m s Q ↔ Q a s' := by
  unfold wp; rw [h]
  exact ⟨fun ⟨b, t, e, q⟩ => by cases e; exact q, fun q => ⟨a, s', rfl, q⟩⟩
theorem Mb_some {m : M β} {f : β → M α} {b : β} {s s1 : DS} (h : m s = some (b, s1)) : Mb m f s = f b s1 := by unfold Mb; rw [h]
theorem wp_mono {m : M α} {Q' : α → DS → Prop} (h : wp m s Q) (hq : ∀ a s', Q a s' → Q' a s') : wp m s Q' := let ⟨a, s', e, q⟩ := h; ⟨a, s', e, hq a s' q⟩
@[simp] theorem wp_Mp (a : α) : wp (Mp a) s Q ↔ Q a s := wp_some rfl
@[simp] theorem wp_Mf : wp (Mf : M α) s Q ↔ False := ⟨(fun h => by obtain ⟨_, _, e, _⟩ := h; cases e), False.elim⟩
theorem wp_congr {m : M α} {Q' : α → DS → Prop} (h : ∀ a s', Q a s' ↔ Q' a s') : wp m s Q ↔ wp m s Q' := ⟨fun x => wp_mono x fun a s' => (h a s').mp, fun x => wp_mono x fun a s' => (h a s').mpr⟩
theorem ite_F {c P : Prop} [Decidable c] : (if c then P else False) ↔ c ∧ P := by by_cases h : c <;> simp [h]
@[simp] theorem wp_Mb (m : M β) (f : β → M α) : wp (Mb m f) s Q ↔ wp m s fun b s' => wp (f b) s' Q := by
  constructor
  · rintro ⟨a, s', e, q⟩
    obtain ⟨b, s1, e1, e2⟩ := Mb_eq e
    exact ⟨b, s1, e1, a, s', e2, q⟩
  · rintro ⟨b, s1, e1, a, s', e2, q⟩
    refine ⟨a, s', ?_, q⟩
    unfold Mb; rw [e1]; exact e2
@[simp] theorem wp_Mo (o : Option α) : wp (Mo o) s Q ↔ ∃ a, o = some a ∧ Q a s := by
  cases o with
  | none => simp
  | some a => simp
@[simp] theorem wp_ite (c : Prop) [Decidable c] (a b : M α) : wp (if c then a else b) s Q ↔ if c then wp a s Q else wp b s Q := by split <;> rfl
@[simp] theorem wp_asB {d : D} {Q : Bool → DS → Prop} : wp (asB d) s Q ↔ ∃ b, d = .bl b ∧ Q b s := by
  cases d <;> simp [asB]
@[simp] theorem wp_onOw {o : Option Slot} {k : List D → M α} : wp (onOw o k) s Q ↔ ∃ ds, o = some (.ow ds) ∧ wp (k ds) s Q := by
  cases o with
  | none => simp [onOw]
  | some x => cases x <;> simp [onOw]
@[simp] theorem wp_onSh {o : Option Slot} {k : D → M α} : wp (onSh o k) s Q ↔ ∃ ds, o = some (.sh ds) ∧ wp (k ds) s Q := by
  cases o with
  | none => simp [onSh]
  | some x => cases x <;> simp [onSh]
@[simp] theorem wp_onInt {o : D} {k : Int → M α} : wp (onInt o k) s Q ↔ ∃ i, o = .int i ∧ wp (k i) s Q := by cases o <;> simp [onInt]
@[simp] theorem wp_onLst {o : D} {k : List D → M α} : wp (onLst o k) s Q ↔ ∃ i, o = .lst i ∧ wp (k i) s Q := by cases o <;> simp [onLst]
@[simp] theorem wp_onSome {o : Option β} {k : β → M α} : wp (onSome o k) s Q ↔ ∃ i, o = some i ∧ wp (k i) s Q := by cases o <;> simp [onSome]
end
section
variable {s : DS} {ρ : Rho} {Q : D → DS → Prop} {QA : List D → DS → Prop} {QT : Bool → DS → Prop} {QS : Res × Rho → DS → Prop}
@[simp] theorem w_xSh (i : Nat) : wp (xSh i ρ) s Q ↔ ∃ d, ρ[i]? = some (.sh d) ∧ Q d s := by
  unfold xSh
  cases h : ρ[i]? with
  | none => simp
  | some x => cases x <;> simp
/-- what a slot holds, as data -/
def slotD : Option Slot → Option D
  | some (.sh d) => some d
  | some (.ow ds) => some (.lst ds)
  | _ => none
@[simp] theorem slotD_sh (d : D) : slotD (some (.sh d)) = some d := rfl
@[simp] theorem slotD_ow (d : List D) : slotD (some (.ow d)) = some (.lst d) := rfl
@[simp] theorem w_xNm (i : Nat) : wp (xNm i ρ) s Q ↔ ∃ d, slotD ρ[i]? = some d ∧ Q d s := by
  unfold xNm
  cases h : ρ[i]? with
  | none => simp [slotD]
  | some x => cases x <;> simp [slotD]
@[simp] theorem w_xC (d : D) : wp (xC d ρ) s Q ↔ Q d s := by unfold xC; simp
@[simp] theorem w_x1 (g : D → Option D) (a : EF) : wp (x1 g a ρ) s Q ↔ wp (a ρ) s fun x s1 => ∃ d, g x = some d ∧ Q d s1 := by unfold x1; simp
@[simp] theorem w_x2 (g : D → D → Option D) (a b : EF) : wp (x2 g a b ρ) s Q ↔ wp (a ρ) s fun x s1 => wp (b ρ) s1 fun y s2 => ∃ d, g x y = some d ∧ Q d s2 := by unfold x2; simp
@[simp] theorem w_xL (g : List D → Option D) (a : AF) : wp (xL g a ρ) s Q ↔ wp (a ρ) s fun x s1 => ∃ d, g x = some d ∧ Q d s1 := by unfold xL; simp
@[simp] theorem w_o1 (g : D → Option (List D)) (a : EF) : wp (o1 g a ρ) s QA ↔ wp (a ρ) s fun x s1 => ∃ d, g x = some d ∧ QA d s1 := by unfold o1; simp
@[simp] theorem w_o2 (g : D → D → Option (List D)) (a b : EF) : wp (o2 g a b ρ) s QA ↔ wp (a ρ) s fun x s1 => wp (b ρ) s1 fun y s2 => ∃ d, g x y = some d ∧ QA d s2 := by unfold o2; simp
@[simp] theorem w_oL (g : List D → Option (List D)) (a : AF) : wp (oL g a ρ) s QA ↔ wp (a ρ) s fun x s1 => ∃ d, g x = some d ∧ QA d s1 := by unfold oL; simp
@[simp] theorem w_xOf (a : AF) : wp (xOf a ρ) s Q ↔ wp (a ρ) s fun ds s1 => Q (.lst ds) s1 := by unfold xOf; simp
@[simp] theorem w_xTp (a : AF) : wp (xTp a ρ) s Q ↔ wp (a ρ) s fun ds s1 => Q (.tup ds) s1 := by unfold xTp; simp
@[simp] theorem w_aN : wp (aN ρ) s QA ↔ QA [] s := by unfold aN; simp
@[simp] theorem w_aC (a : EF) (r : AF) : wp (aC a r ρ) s QA ↔ wp (a ρ) s fun x s1 => wp (r ρ) s1 fun xs s2 => QA (x :: xs) s2 := by unfold aC; simp
@[simp] theorem w_xCh (g g' : D → D → Option D) (a b c : EF) : wp (xCh g g' a b c ρ) s Q ↔ wp (a ρ) s fun x s1 => wp (b ρ) s1 fun y s2 => ∃ k, g x y = some (.bl k) ∧ if k = true then wp (c ρ) s2 fun w s3 => ∃ d, g' y w = some d ∧ Q d s3 else Q (.bl false) s2 := by
  unfold xCh; simp only [wp_Mb, wp_Mo, wp_asB, wp_ite, wp_Mp]
  refine wp_congr fun x s1 => wp_congr fun y s2 => ⟨?_, ?_⟩
  · rintro ⟨z, h1, b, rfl, h2⟩; exact ⟨b, h1, h2⟩
  · rintro ⟨b, h1, h2⟩; exact ⟨_, h1, b, rfl, h2⟩
@[simp] theorem w_xAnd (a b : EF) : wp (xAnd a b ρ) s Q ↔ wp (a ρ) s fun x s1 => ∃ k, x = .bl k ∧ if k = true then wp (b ρ) s1 Q else Q (.bl false) s1 := by unfold xAnd; simp
@[simp] theorem w_xOr (a b : EF) : wp (xOr a b ρ) s Q ↔ wp (a ρ) s fun x s1 => ∃ k, x = .bl k ∧ if k = true then Q (.bl true) s1 else wp (b ρ) s1 Q := by unfold xOr; simp
@[simp] theorem w_xNot (a : EF) : wp (xNot a ρ) s Q ↔ wp (a ρ) s fun x s1 => ∃ k, x = .bl k ∧ Q (.bl (!k)) s1 := by unfold xNot; simp
@[simp] theorem w_xIf (t : TF) (a b : EF) : wp (xIf t a b ρ) s Q ↔ wp (t ρ) s fun k s1 => if k = true then wp (a ρ) s1 Q else wp (b ρ) s1 Q := by unfold xIf; simp
@[simp] theorem w_xTup (a : AF) : wp (xTup a ρ) s Q ↔ wp (a ρ) s fun xs s1 => xs.length ≤ SZ ∧ Q (.tup xs) s1 := by
  unfold xTup; simp only [wp_Mb, wp_ite, wp_Mp, wp_Mf, ite_F]
@[simp] theorem w_oLst (a : AF) : wp (oLst a ρ) s QA ↔ wp (a ρ) s fun xs s1 => xs.length ≤ SZ ∧ QA xs s1 := by
  unfold oLst; simp only [wp_Mb, wp_ite, wp_Mp, wp_Mf, ite_F]
@[simp] theorem w_tV (a : EF) : wp (tV a ρ) s QT ↔ wp (a ρ) s fun x s1 => ∃ b, x = .bl b ∧ QT b s1 := by unfold tV; simp
@[simp] theorem w_tAnd (a b : TF) : wp (tAnd a b ρ) s QT ↔ wp (a ρ) s fun k s1 => if k = true then wp (b ρ) s1 QT else QT false s1 := by unfold tAnd; simp
@[simp] theorem w_tOr (a b : TF) : wp (tOr a b ρ) s QT ↔ wp (a ρ) s fun k s1 => if k = true then QT true s1 else wp (b ρ) s1 QT := by unfold tOr; simp
@[simp] theorem w_tNot (a : TF) : wp (tNot a ρ) s QT ↔ wp (a ρ) s fun k s1 => QT (!k) s1 := by unfold tNot; simp
@[simp] theorem w_tTr (a : EF) : wp (tTr a ρ) s QT ↔ wp (a ρ) s fun x s1 => ∃ b, truD x = some b ∧ QT b s1 := by unfold tTr; simp
@[simp] theorem w_tYes : wp (tYes' ρ) s QT ↔ QT true s := by unfold tYes'; simp
@[simp] theorem w_xCall (m : List D → M D) (a : AF) : wp (xCall m a ρ) s Q ↔ wp (a ρ) s fun xs s1 => wp (m xs) s1 Q := by unfold xCall; simp
@[simp] theorem w_xCallB (m : List D → M D) (a : AF) : wp (xCallB m a ρ) s Q ↔ wp (a ρ) s fun xs s1 => wp (m xs) s1 fun d s2 => noL d = true ∧ Q d s2 := by
  unfold xCallB; simp only [wp_Mb, wp_ite, wp_Mp, wp_Mf, ite_F]
@[simp] theorem w_iSq (f : EF) : wp (iSq f ρ) s QA ↔ wp (f ρ) s fun d s1 => ∃ ds, seqD d = some ds ∧ QA ds s1 := by unfold iSq; simp
@[simp] theorem w_iRg (g : List D → Option (List D)) (f : AF) : wp (iRg g f ρ) s QA ↔ wp (f ρ) s fun xs s1 => ∃ ds, g xs = some ds ∧ QA ds s1 := by unfold iRg; simp
/-- a slice's end -/
def wpO (f : Option EF) (ρ : Rho) (s : DS) (Q : Option Int → DS → Prop) : Prop := match f with
  | none => Q none s
  | some f => wp (f ρ) s fun d s1 => ∃ i, d = .int i ∧ Q (some i) s1
@[simp] theorem wpO_none {Q : Option Int → DS → Prop} : wpO none ρ s Q ↔ Q none s := Iff.rfl
@[simp] theorem wpO_some {f : EF} {Q : Option Int → DS → Prop} : wpO (some f) ρ s Q ↔ wp (f ρ) s fun d s1 => ∃ i, d = .int i ∧ Q (some i) s1 := Iff.rfl
@[simp] theorem w_xSl (g : D → Option Int → Option Int → Option D) (a : EF) (lo hi : Option EF) : wp (xSl g a lo hi ρ) s Q ↔ wp (a ρ) s fun x s1 => wpO lo ρ s1 fun l s2 => wpO hi ρ s2 fun u s3 => ∃ d, g x l u = some d ∧ Q d s3 := by
  have k1 : ∀ (d : D) (s2 : DS) (R : Option Int → DS → Prop), wp ((match d with | .int i => Mp (some i) | _ => Mf) : M (Option Int)) s2 R ↔ ∃ i, d = .int i ∧ R (some i) s2 := fun d s2 R => by cases d <;> simp
  unfold xSl; simp only [wp_Mb, wp_Mo]
  refine wp_congr fun x s1 => ?_
  cases lo with
  | none =>
    simp only [wpO_none, wp_Mp]
    cases hi with
    | none => simp only [wpO_none, wp_Mp]
    | some f =>
      simp only [wpO_some, wp_Mb]
      refine wp_congr fun d s2 => ?_
      cases d <;> simp
  | some f =>
    simp only [wpO_some, wp_Mb]
    refine wp_congr fun d s2 => ?_
    cases d <;> simp
    cases hi with
    | none => simp
    | some f' =>
      simp
      refine wp_congr fun d' s3 => ?_
      cases d' <;> simp
/-! statements -/
@[simp] theorem w_sNext : wp (sNext ρ) s QS ↔ QS (.nx, ρ) s := by unfold sNext; simp
@[simp] theorem w_sFail : wp (sFail ρ) s QS ↔ False := by unfold sFail; simp
@[simp] theorem w_sBreak : wp (sBreak ρ) s QS ↔ QS (.bk, ρ) s := by unfold sBreak; simp
@[simp] theorem w_sCont : wp (sCont ρ) s QS ↔ QS (.ct, ρ) s := by unfold sCont; simp
/-- what follows a statement -/
def aft (b : SF) (QS : Res × Rho → DS → Prop) : Res × Rho → DS → Prop
  | (.nx, ρ'), s' => wp (b ρ') s' QS
  | r, s' => QS r s'
@[simp] theorem aft_nx {b : SF} : aft b QS (.nx, ρ) s ↔ wp (b ρ) s QS := Iff.rfl
@[simp] theorem aft_rt {b : SF} {d : D} : aft b QS (.rt d, ρ) s ↔ QS (.rt d, ρ) s := Iff.rfl
@[simp] theorem aft_bk {b : SF} : aft b QS (.bk, ρ) s ↔ QS (.bk, ρ) s := Iff.rfl
@[simp] theorem aft_ct {b : SF} : aft b QS (.ct, ρ) s ↔ QS (.ct, ρ) s := Iff.rfl
@[simp] theorem w_sSeq (a b : SF) : wp (sSeq a b ρ) s QS ↔ wp (a ρ) s (aft b QS) := by
  unfold sSeq; simp only [wp_Mb]
  refine wp_congr fun r s1 => ?_
  obtain ⟨r, ρ1⟩ := r
  cases r <;> simp [aft]
@[simp] theorem w_sSet (i : Nat) (f : EF) : wp (sSet i f ρ) s QS ↔ wp (f ρ) s fun d s1 => QS (.nx, ρ.set i (.sh d)) s1 := by unfold sSet; simp
@[simp] theorem w_sOwn (i : Nat) (f : AF) : wp (sOwn i f ρ) s QS ↔ wp (f ρ) s fun d s1 => QS (.nx, ρ.set i (.ow d)) s1 := by unfold sOwn; simp
@[simp] theorem w_sDrop (f : EF) : wp (sDrop f ρ) s QS ↔ wp (f ρ) s fun d s1 => QS (.nx, ρ) s1 := by unfold sDrop; simp
@[simp] theorem w_sRet (f : EF) : wp (sRet f ρ) s QS ↔ wp (f ρ) s fun d s1 => QS (.rt d, ρ) s1 := by unfold sRet; simp
@[simp] theorem w_sRetN : wp (sRetN ρ) s QS ↔ QS (.rt .non, ρ) s := by unfold sRetN; simp
@[simp] theorem w_sTo (g : TGt) (f : EF) : wp (sTo g f ρ) s QS ↔ wp (f ρ) s fun d s1 => ∃ ρ', g d ρ = some ρ' ∧ QS (.nx, ρ') s1 := by unfold sTo; simp
@[simp] theorem w_sRetOw (i : Nat) : wp (sRetOw i ρ) s QS ↔ ∃ ds, ρ[i]? = some (.ow ds) ∧ QS (.rt (.lst ds), ρ) s := by unfold sRetOw; simp
@[simp] theorem w_sMove (i j : Nat) : wp (sMove i j ρ) s QS ↔ ∃ ds, ρ[i]? = some (.ow ds) ∧ QS (.nx, (ρ.set i (.sh (.lst ds))).set j (.sh (.lst ds))) s := by unfold sMove; simp
@[simp] theorem w_sFz (i : Nat) (g : SF) : wp (sFz i g ρ) s QS ↔ ∃ ds, ρ[i]? = some (.ow ds) ∧ wp (g (ρ.set i (.sh (.lst ds)))) s QS := by unfold sFz; simp
@[simp] theorem w_sIf (t : TF) (a b : SF) : wp (sIf t a b ρ) s QS ↔ wp (t ρ) s fun k s1 => if k = true then wp (a ρ) s1 QS else wp (b ρ) s1 QS := by unfold sIf; simp
@[simp] theorem w_sAug (i : Nat) (g : D → D → Option D) (f : EF) : wp (sAug i g f ρ) s QS ↔ ∃ x, ρ[i]? = some (.sh x) ∧ wp (f ρ) s fun y s1 => ∃ z, g x y = some z ∧ QS (.nx, ρ.set i (.sh z)) s1 := by unfold sAug; simp
@[simp] theorem w_sMeth (i : Nat) (u : List D → D → Option (List D)) (f : EF) : wp (sMeth i u f ρ) s QS ↔ wp (f ρ) s fun d s1 => ∃ ds, ρ[i]? = some (.ow ds) ∧ ∃ es, u ds d = some es ∧ QS (.nx, ρ.set i (.ow es)) s1 := by unfold sMeth; simp
@[simp] theorem w_sPut (i : Nat) (fk f : EF) : wp (sPut i fk f ρ) s QS ↔ wp (f ρ) s fun d s1 => wp (fk ρ) s1 fun k s2 => ∃ ds, ρ[i]? = some (.ow ds) ∧ ∃ k', k = .int k' ∧ ∃ j, ixN ds.length k' = some j ∧ QS (.nx, ρ.set i (.ow (ds.set j d))) s2 := by unfold sPut; simp
@[simp] theorem w_sAugIx (i : Nat) (g : D → D → Option D) (fk f : EF) : wp (sAugIx i g fk f ρ) s QS ↔ wp (fk ρ) s fun k s1 => ∃ ds, ρ[i]? = some (.ow ds) ∧ ∃ k', k = .int k' ∧ ∃ j, ixN ds.length k' = some j ∧ ∃ x, ds[j]? = some x ∧ wp (f ρ) s1 fun y s2 => ∃ z, g x y = some z ∧ QS (.nx, ρ.set i (.ow (ds.set j z))) s2 := by unfold sAugIx; simp
@[simp] theorem gNm_eq (i : Nat) (d : D) : gNm i d ρ = some (ρ.set i (.sh d)) := rfl
@[simp] theorem gTp_eq (gs : List TGt) (ds : List D) : gTp gs (.tup ds) ρ = gTs gs ds ρ := rfl
@[simp] theorem gTs_nil : gTs [] [] ρ = some ρ := rfl
@[simp] theorem gTs_nm (i : Nat) (gs : List TGt) (d : D) (ds : List D) : gTs (gNm i :: gs) (d :: ds) ρ = gTs gs ds (ρ.set i (.sh d)) := rfl
theorem gTs_cons (g : TGt) (gs : List TGt) (d : D) (ds : List D) {ρ1 : Rho} (h : g d ρ = some ρ1) : gTs (g :: gs) (d :: ds) ρ = gTs gs ds ρ1 := by show (match g d ρ with | some ρ' => gTs gs ds ρ' | none => none) = _; rw [h]
@[simp] theorem gTs_tp (g : List TGt) (gs : List TGt) (d : List D) (ds : List D) : gTs (gTp g :: gs) (.tup d :: ds) ρ = (gTs g d ρ).bind (gTs gs ds) := by
  show (match gTs g d ρ with | some ρ' => gTs gs ds ρ' | none => none) = _
  cases gTs g d ρ <;> rfl
/-- a def's run -/
theorem wp_def {n k : Nat} {g : SF} {args : List D} (hk : args.length = k) (h : wp (g (args.map Slot.sh ++ List.replicate (n - args.length) Slot.un)) s fun r s' => (∃ d, r.1 = .rt d ∧ Q d s') ∨ (r.1 = .nx ∧ Q .non s')) : wp (runDef n k g args) s Q := by
  unfold runDef
  rw [if_pos hk, wp_Mb]
  refine wp_mono h fun r s' h => ?_
  obtain ⟨r, ρ'⟩ := r
  rcases h with ⟨d, rfl, q⟩ | ⟨rfl, q⟩ <;> simpa
/-- a def that comes to one value and draws nothing -/
theorem def_eq {m : List D → M D} {args : List D} {d : D} (h : ∀ s, wp (m args) s fun x s' => x = d ∧ s' = s) (s : DS) : m args s = some (d, s) := by
  obtain ⟨a, s', e, rfl, rfl⟩ := h s
  exact e
theorem wp_eq {m : List D → M D} {args : List D} {d : D} (h : ∀ s, m args s = some (d, s)) : wp (m args) s Q ↔ Q d s := wp_some (h s)

/-! comprehensions and loops -/
theorem wp_comp {α : Type} {gg : TGt} {ft : TF} {fe : EF} {ρ : Rho} (I : DS → Prop) (P : D → D → Prop) (items : List D)
    (h : ∀ x ∈ items, ∀ s, I s → ∃ ρ1, gg x ρ = some ρ1 ∧ wp (ft ρ1) s fun b s1 => if b = true then wp (fe ρ1) s1 fun y s2 => I s2 ∧ P x y else I s1) :
    ∀ s, I s → wp (compM gg ft fe ρ items) s fun ys s' => I s' ∧ (∀ y ∈ ys, ∃ x ∈ items, P x y) ∧ ys.length ≤ items.length := by
  induction items with
  | nil => intro s hs; simp [compM, hs]
  | cons x xs ih =>
    intro s hs
    obtain ⟨ρ1, e, hw⟩ := h x (by simp) s hs
    unfold compM
    rw [e]
    simp only [wp_Mb]
    refine wp_mono hw fun b s1 hb => ?_
    have ih' := ih fun y hy => h y (by simp [hy])
    cases b with
    | true =>
      simp only [if_true, wp_Mb] at hb ⊢
      refine wp_mono hb fun y s2 ⟨h2, hp⟩ => ?_
      refine wp_mono (ih' s2 h2) fun ys s3 ⟨h3, h4, h5⟩ => ?_
      rw [wp_Mp]
      exact ⟨h3, fun z hz => by
        rcases List.mem_cons.mp hz with rfl | hz
        · exact ⟨x, by simp, hp⟩
        · obtain ⟨x', hx', hp'⟩ := h4 z hz; exact ⟨x', by simp [hx'], hp'⟩, by simp; omega⟩
    | false =>
      simp only [Bool.false_eq_true, if_false] at hb ⊢
      exact wp_mono (ih' s1 hb) fun ys s3 ⟨h3, h4, h5⟩ => ⟨h3, fun z hz => by obtain ⟨x', hx', hp'⟩ := h4 z hz; exact ⟨x', by simp [hx'], hp'⟩, by simp; omega⟩
/-- a comprehension that draws nothing -/
theorem comp_map {α : Type} {gg : TGt} {ft : TF} {fe : EF} {ρ : Rho} {en' : α → D} {p : α → Bool} {f : α → D} (l : List α)
    (h : ∀ x ∈ l, ∃ ρ1, gg (en' x) ρ = some ρ1 ∧ ∀ s, wp (ft ρ1) s (fun b s1 => b = p x ∧ s1 = s) ∧ (p x = true → wp (fe ρ1) s fun y s2 => y = f x ∧ s2 = s)) (s : DS) :
    compM gg ft fe ρ (l.map en') s = some ((l.filter p).map f, s) := by
  induction l generalizing s with
  | nil => rfl
  | cons x xs ih =>
    obtain ⟨ρ1, e, hw⟩ := h x (by simp)
    have ih' := ih fun y hy => h y (by simp [hy])
    obtain ⟨h1, h2⟩ := hw s
    obtain ⟨b, s1, e1, eb, es⟩ := h1
    subst eb es
    rw [List.map_cons]
    unfold compM
    rw [e]
    show Mb (ft ρ1) _ _ = _
    rw [Mb_some e1]
    cases hp : p x with
    | false => simp only [Bool.false_eq_true, if_false, List.filter_cons, hp]; exact ih' _
    | true =>
      obtain ⟨y, s2, e2, rfl, rfl⟩ := h2 hp
      simp only [if_true, List.filter_cons, hp, List.map_cons]
      rw [Mb_some e2, Mb_some (ih' _)]
      rfl
theorem comp_mapT {α : Type} {gg : TGt} {fe : EF} {ρ : Rho} {en' : α → D} {f : α → D} (l : List α)
    (h : ∀ x ∈ l, ∃ ρ1, gg (en' x) ρ = some ρ1 ∧ ∀ s, wp (fe ρ1) s fun y s2 => y = f x ∧ s2 = s) (s : DS) : compM gg tYes' fe ρ (l.map en') s = some (l.map f, s) := by
  have := comp_map (ft := tYes') (p := fun _ => true) l (fun x hx => let ⟨ρ1, e, hw⟩ := h x hx; ⟨ρ1, e, fun s => ⟨by simp, fun _ => hw s⟩⟩) s
  rw [List.filter_eq_self.mpr (by simp)] at this
  exact this
@[simp] theorem w_oComp (fi : AF) (gg : TGt) (ft : TF) (fe : EF) (vs : List Nat) : wp (oComp fi gg ft fe vs ρ) s QA ↔ wp (fi ρ) s fun xs s1 => wp (compM gg ft fe (wipeR ρ vs) xs) s1 QA := by unfold oComp; simp
@[simp] theorem w_sFor (fi : AF) (g : TGt) (body : SF) : wp (sFor fi g body ρ) s QS ↔ wp (fi ρ) s fun xs s1 => wp (loopM g body xs ρ) s1 QS := by unfold sFor; simp
/-- THE RULE for loops: what holds ahead of the items that are left -/
theorem wp_loop {g : TGt} {body : SF} (I : List D → Rho → DS → Prop) (h : ∀ x xs ρ s, I (x :: xs) ρ s → ∃ ρ1, g x ρ = some ρ1 ∧ wp (body ρ1) s fun r s' => match r with
      | (.nx, ρ2) => I xs ρ2 s'
      | (.ct, ρ2) => I xs ρ2 s'
      | (.bk, ρ2) => QS (.nx, ρ2) s'
      | (.rt d, ρ2) => QS (.rt d, ρ2) s') (h0 : ∀ ρ s, I [] ρ s → QS (.nx, ρ) s) : ∀ (xs : List D) (ρ : Rho) (s : DS), I xs ρ s → wp (loopM g body xs ρ) s QS
  | [], ρ, s, hi => by unfold loopM; rw [wp_Mp]; exact h0 ρ s hi
  | x :: xs, ρ, s, hi => by
    obtain ⟨ρ1, e, hw⟩ := h x xs ρ s hi
    unfold loopM
    rw [e]
    simp only [wp_Mb]
    refine wp_mono hw fun r s' hr => ?_
    obtain ⟨r, ρ2⟩ := r
    cases r with
    | nx => exact wp_loop I h h0 xs ρ2 s' hr
    | ct => exact wp_loop I h h0 xs ρ2 s' hr
    | bk => rw [wp_Mp]; exact hr
    | rt d => rw [wp_Mp]; exact hr
/-- THE RULE for while: a measure that falls -/
theorem wp_while {t : TF} {body : SF} (I : Nat → Rho → DS → Prop) (h : ∀ n ρ s, I n ρ s → wp (t ρ) s fun k s1 => if k = true then wp (body ρ) s1 fun r s' => match r with
      | (.nx, ρ2) => ∃ m, m < n ∧ I m ρ2 s'
      | (.ct, ρ2) => ∃ m, m < n ∧ I m ρ2 s'
      | (.bk, ρ2) => QS (.nx, ρ2) s'
      | (.rt d, ρ2) => QS (.rt d, ρ2) s' else QS (.nx, ρ) s1) : ∀ (F n : Nat) (ρ : Rho) (s : DS), n < F → I n ρ s → wp (whileM t body F ρ) s QS
  | 0, n, _, _, hn, _ => by omega
  | F + 1, n, ρ, s, hn, hi => by
    unfold whileM
    simp only [wp_Mb, wp_ite]
    refine wp_mono (h n ρ s hi) fun k s1 hk => ?_
    cases k with
    | false => simpa using hk
    | true =>
      simp only [if_true, wp_Mb] at hk ⊢
      refine wp_mono hk fun r s' hr => ?_
      obtain ⟨r, ρ2⟩ := r
      cases r with
      | nx => obtain ⟨m, hm, hi'⟩ := hr; exact wp_while I h F m ρ2 s' (by omega) hi'
      | ct => obtain ⟨m, hm, hi'⟩ := hr; exact wp_while I h F m ρ2 s' (by omega) hi'
      | bk => rw [wp_Mp]; exact hr
      | rt d => rw [wp_Mp]; exact hr
theorem w_sWhile {t : TF} {body : SF} (I : Nat → Rho → DS → Prop) (h : ∀ n ρ s, I n ρ s → wp (t ρ) s fun k s1 => if k = true then wp (body ρ) s1 fun r s' => match r with
      | (.nx, ρ2) => ∃ m, m < n ∧ I m ρ2 s'
      | (.ct, ρ2) => ∃ m, m < n ∧ I m ρ2 s'
      | (.bk, ρ2) => QS (.nx, ρ2) s'
      | (.rt d, ρ2) => QS (.rt d, ρ2) s' else QS (.nx, ρ) s1) (n : Nat) (hn : n < FUEL) (hi : I n ρ s) : wp (sWhile t body ρ) s QS := wp_while I h FUEL n ρ s hn hi
end
end Pu
namespace Pu
open PySem PySem.Spec PyProof.Rows L2
/-! ### the law's draws -/
def gTake : SF := sSeq (sIf (tAnd (tV (x2 eqD (xRd 0 2) (xC (.int 0)))) (tV (x2 ltA (xRd 0 1) (xL lenD (aC (xRd 0 0) (aN)))))) (sSeq (sWr 0 2 (xL absD (aC (xL intD (aC (x2 ixD (xRd 0 0) (xRd 0 1)) (aN))) (aN)))) (sSeq (sWr 0 1 (x2 addD (xRd 0 1) (xC (.int 1)))) (sIf (tV (x2 ltA (xRd 0 2) (x2 powD (xC (.int 10)) (xC (.int 18))))) (sSeq (sSet 3 (xL intD (aC (xRd 0 2) (aN)))) (sSeq (sWr 0 2 (xC (.int 0))) (sRet (x2 modD (xNm 3) (xNm 1))))) (sNext)))) (sNext)) (sSeq (sIf (tV (x2 gtA (xRd 0 2) (xC (.int 0)))) (sSeq (sSet 2 (x2 modD (xL intD (aC (xRd 0 2) (aN))) (xNm 1))) (sSeq (sWr 0 2 (x2 divD (xL intD (aC (xRd 0 2) (aN))) (xNm 1))) (sRet (xSh 2)))) (sNext)) (sSeq (sWr 0 3 (x2 modD (xL intD (aC (x2 addD (x2 mulD (xRd 0 3) (xC (.int 48271))) (xC (.int 11))) (aN))) (xC (.int 2147483647)))) (sRet (x2 modD (xL intD (aC (x2 divD (xRd 0 3) (xC (.int 3))) (aN))) (xNm 1)))))
def mTake : List D → M D := runDef 4 2 gTake
section
variable {s : DS} {ρ : Rho} {Q : D → DS → Prop} {QA : List D → DS → Prop} {QT : Bool → DS → Prop} {QS : Res × Rho → DS → Prop}
@[simp] theorem w_xRd (i k : Nat) : wp (xRd i k ρ) s Q ↔ ρ[i]? = some (.sh .rng) ∧ Q (rdD k s) s := by
  unfold xRd
  simp only [wp_onSh]
  constructor
  · rintro ⟨d, h, w⟩
    cases d <;> first | (simp at w; done) | skip
    obtain ⟨a, s', e, q⟩ := w
    cases e
    exact ⟨h, q⟩
  · rintro ⟨h, q⟩
    exact ⟨.rng, h, _, _, rfl, q⟩
@[simp] theorem w_sWr (i k : Nat) (f : EF) : wp (sWr i k f ρ) s QS ↔ wp (f ρ) s fun d s1 => ∃ v, d = .int v ∧ ρ[i]? = some (.sh .rng) ∧ wrOk k v = true ∧ QS (.nx, ρ) (wrD k v s1) := by
  unfold sWr
  simp only [wp_Mb, wp_onInt, wp_onSh]
  refine wp_congr fun d s1 => ⟨?_, ?_⟩
  · rintro ⟨v, rfl, x, h, w⟩
    cases x <;> first | (simp at w; done) | skip
    obtain ⟨a, s', e, q⟩ := w
    have e : (if wrOk k v = true then some ((Res.nx, ρ), wrD k v s1) else none) = some (a, s') := e
    split at e
    · rename_i hok
      cases e
      exact ⟨v, rfl, h, hok, q⟩
    · cases e
  · rintro ⟨v, rfl, h, hok, q⟩
    refine ⟨v, rfl, .rng, h, (.nx, ρ), wrD k v s1, ?_, q⟩
    show (if wrOk k v = true then some ((Res.nx, ρ), wrD k v s1) else none) = _
    rw [if_pos hok]
@[simp] theorem eqD_ii (a b : Int) : eqD (.int a) (.int b) = some (.bl (decide (a = b))) := eq_en (α := Int) (by decide) a b
@[simp] theorem neD_ii (a b : Int) : neD (.int a) (.int b) = some (.bl (!decide (a = b))) := ne_en (α := Int) (by decide) a b
@[simp] theorem lenD_l (a : List D) : lenD [.lst a] = some (.int a.length) := rfl
@[simp] theorem lenD_t (a : List D) : lenD [.tup a] = some (.int a.length) := rfl
@[simp] theorem tupD_l (a : List D) : tupD [.lst a] = some (.tup a) := rfl
@[simp] theorem tupD_t (a : List D) : tupD [.tup a] = some (.tup a) := rfl
@[simp] theorem listO_l (a : List D) : listO [.lst a] = some a := rfl
@[simp] theorem listO_t (a : List D) : listO [.tup a] = some a := rfl
@[simp] theorem absD_i (a : Int) : absD [.int a] = some (.int (if a < 0 then -a else a)) := rfl
@[simp] theorem intD_i (a : Int) : intD [.int a] = some (.int a) := rfl
@[simp] theorem intD_b (a : Bool) : intD [.bl a] = some (.int (if a then 1 else 0)) := rfl
@[simp] theorem max2D_ii (a b : Int) : max2D [.int a, .int b] = some (.int (max a b)) := by unfold max2D; simp only []; congr 2; omega
@[simp] theorem min2D_ii (a b : Int) : min2D [.int a, .int b] = some (.int (min a b)) := by unfold min2D; simp only []; congr 2; omega
@[simp] theorem addD_ii (a b : Int) : addD (.int a) (.int b) = some (.int (a + b)) := rfl
@[simp] theorem subD_ii (a b : Int) : subD (.int a) (.int b) = some (.int (a - b)) := rfl
@[simp] theorem addI_ii (a b : Int) : addI (.int a) (.int b) = some (.int (a + b)) := rfl
@[simp] theorem negD_i (a : Int) : negD (.int a) = some (.int (-a)) := rfl
theorem modD_ii (a : Int) {b : Int} (h : 0 < b) : modD (.int a) (.int b) = some (.int (a % b)) := by show (if 0 < b then some (D.int (a % b)) else none) = _; rw [if_pos h]
theorem divD_ii (a : Int) {b : Int} (h : 0 < b) (h2 : b.natAbs.log2 < 9000) : divD (.int a) (.int b) = some (.int (a / b)) := by show (if 0 < b ∧ b.natAbs.log2 < 9000 then some (D.int (a / b)) else none) = _; rw [if_pos ⟨h, h2⟩]
theorem mulD_ii {a b : Int} (h : a.natAbs.log2 + b.natAbs.log2 < 1000000) : mulD (.int a) (.int b) = some (.int (a * b)) := by show (if a.natAbs.log2 + b.natAbs.log2 < 1000000 then some (D.int (a * b)) else none) = _; rw [if_pos h]
theorem log_lt {x : Int} {k : Nat} (h : x.natAbs < 2 ^ k) : x.natAbs.log2 ≤ k := by
  by_cases h0 : x.natAbs = 0
  · rw [h0]; simp
  · exact Nat.le_of_lt ((Nat.log2_lt h0).mpr h)
theorem mulD_sm {a b : Int} (k : Nat) (h : a.natAbs < 2 ^ k) (h2 : b.natAbs < 2 ^ k) (hk : k < 500000 := by decide) : mulD (.int a) (.int b) = some (.int (a * b)) := mulD_ii (by have := log_lt h; have := log_lt h2; omega)
theorem divD_sm (a : Int) {b : Int} (k : Nat) (h : 0 < b) (h2 : b.natAbs < 2 ^ k) (hk : k < 9000 := by decide) : divD (.int a) (.int b) = some (.int (a / b)) := divD_ii a h (by have := log_lt h2; omega)
theorem atI_nat' {α : Type} (xs : List α) (n : Nat) : atI xs (n : Int) = xs[n]? := by
  cases h : xs[n]? with
  | some v => exact atI_nat h
  | none =>
    unfold atI ixN
    have := List.getElem?_eq_none_iff.mp h
    rw [if_pos (by omega), if_neg (by omega)]; rfl
theorem ixN_nat {n k : Nat} (h : k < n) : ixN n (k : Int) = some k := by unfold ixN; rw [if_pos (by omega), if_pos (by omega)]; simp
@[simp] theorem ixD_tn (xs : List D) (n : Nat) : ixD (.tup xs) (.int (n : Nat)) = xs[n]? := atI_nat' xs n
@[simp] theorem ixD_ln (xs : List D) (n : Nat) : ixD (.lst xs) (.int (n : Nat)) = xs[n]? := atI_nat' xs n
theorem ixD_t0 (xs : List D) : ixD (.tup xs) (.int 0) = xs[0]? := atI_nat' xs 0
theorem ixD_t1 (xs : List D) : ixD (.tup xs) (.int 1) = xs[1]? := atI_nat' xs 1
theorem ixD_t2 (xs : List D) : ixD (.tup xs) (.int 2) = xs[2]? := atI_nat' xs 2
theorem ixD_l0 (xs : List D) : ixD (.lst xs) (.int 0) = xs[0]? := atI_nat' xs 0
theorem ixD_l1 (xs : List D) : ixD (.lst xs) (.int 1) = xs[1]? := atI_nat' xs 1
@[simp] theorem seqD_t (xs : List D) : seqD (.tup xs) = some xs := rfl
@[simp] theorem seqD_l (xs : List D) : seqD (.lst xs) = some xs := rfl
@[simp] theorem isD_non (x : D) : isD x .non = some (.bl (isNonD x)) := rfl
@[simp] theorem isNotD_non (x : D) : isNotD x .non = some (.bl (!isNonD x)) := rfl
@[simp] theorem wrD1 (ns : List Int) (p a sd v : Int) : wrD 1 v ⟨ns, p, a, sd⟩ = ⟨ns, v, a, sd⟩ := rfl
@[simp] theorem wrD2 (ns : List Int) (p a sd v : Int) : wrD 2 v ⟨ns, p, a, sd⟩ = ⟨ns, p, v, sd⟩ := rfl
@[simp] theorem wrD3 (ns : List Int) (p a sd v : Int) : wrD 3 v ⟨ns, p, a, sd⟩ = ⟨ns, p, a, v⟩ := rfl
theorem pow18 : powD (.int 10) (.int 18) = some (.int 1000000000000000000) := by
  show (if (0 : Int) ≤ 18 ∧ (18 : Int) ≤ 1000000 ∧ (10 : Int).natAbs < 2 ^ 64 then some (D.int (10 ^ (18 : Int).toNat)) else none) = _
  rw [if_pos (by decide)]; rfl
set_option maxHeartbeats 4000000 in
/-- a draw: a number below many, the draw object still well -/
theorem take_ok {m : Int} (hm : 0 < m) (hm2 : m.natAbs < 2 ^ 64) (h : s.ok) : wp (mTake [.rng, .int m]) s fun d s' => s'.ok ∧ ∃ r : Int, d = .int r ∧ 0 ≤ r ∧ r < m := by
  have hmod : ∀ a : Int, 0 ≤ a % m ∧ a % m < m := fun a => ⟨Int.emod_nonneg _ (by omega), Int.emod_lt_of_pos _ hm⟩
  obtain ⟨ns, pos, acc, seed⟩ := s
  obtain ⟨p0, a0, s0, s1, hl⟩ := h
  simp only at p0 a0 s0 s1 hl
  have hdiv : ∀ a : Int, divD (.int a) (.int m) = some (.int (a / m)) := fun a => divD_sm a 64 hm hm2
  have hdivp : ∀ a : Int, 0 ≤ a → 0 ≤ a / m := fun a ha => Int.ediv_nonneg ha (by omega)
  have last : ∀ (p a : Int), 0 ≤ p → a = 0 → ∃ d, mulD (D.int seed) (D.int 48271) = some d ∧ ∃ d_1, addD d (D.int 11) = some d_1 ∧ ∃ d, intD [d_1] = some d ∧ ∃ d_2, modD d (D.int 2147483647) = some d_2 ∧ ∃ v, d_2 = D.int v ∧ wrOk 3 v = true ∧
      ∃ d, divD (D.int v) (D.int 3) = some d ∧ ∃ d_3, intD [d] = some d_3 ∧ ∃ d, modD d_3 (D.int m) = some d ∧ (DS.mk ns p a v).ok ∧ ∃ r, d = D.int r ∧ 0 ≤ r ∧ r < m := by
    intro p a hp ha
    have h1 : 0 ≤ (seed * 48271 + 11) % 2147483647 := Int.emod_nonneg _ (by decide)
    have h2 : (seed * 48271 + 11) % 2147483647 < 2147483647 := Int.emod_lt_of_pos _ (by decide)
    refine ⟨_, mulD_sm 64 (by omega) (by decide), _, rfl, _, rfl, _, modD_ii _ (by decide), _, rfl, by unfold wrOk; simp [h1, h2], _, divD_sm _ 64 (by decide) (by decide), _, rfl, _, modD_ii _ hm, ⟨hp, by rw [ha]; exact Int.le_refl _, h1, h2, hl⟩, _, rfl, (hmod _).1, (hmod _).2⟩
  refine wp_def rfl ?_
  by_cases hacc : acc = 0
  · subst hacc
    by_cases hpos : pos < ns.length
    · obtain ⟨k, rfl⟩ := Int.eq_ofNat_of_zero_le p0
      have hk : k < ns.length := by omega
      have hx : ixD (.lst (ns.map D.int)) (.int (k : Nat)) = some (.int ns[k]) := by rw [ixD_ln, List.getElem?_map, List.getElem?_eq_getElem hk]; rfl
      have hv : 0 ≤ (if ns[k] < 0 then -ns[k] else ns[k]) := by split <;> omega
      generalize hvv : (if ns[k] < 0 then -ns[k] else ns[k]) = v at hv
      have hvv' : absD [.int ns[k]] = some (.int v) := by rw [absD_i, hvv]
      by_cases hsm : v < 1000000000000000000
      · simp [gTake, List.replicate, modD_ii _ hm, rdD, hx, hvv', pow18, hk, wrOk, hv, hsm, hmod, hdiv, Nat.not_le.mpr hk, Int.not_le.mpr hsm]
        exact ⟨by omega, ⟨by show (0 : Int) ≤ (k : Int) + 1; omega, Int.le_refl _, s0, s1, hl⟩⟩
      · have hv0 : 0 < v := by omega
        simp [gTake, List.replicate, modD_ii _ hm, rdD, hx, hvv', pow18, hk, wrOk, hv, hsm, hmod, hdiv, hv0, Nat.not_le.mpr hk, Int.not_le.mpr hv0]
        exact ⟨by omega, Int.not_lt.mp hsm, hdivp v hv, ⟨by show (0 : Int) ≤ (k : Int) + 1; omega, hdivp v hv, s0, s1, hl⟩⟩
    · have := last pos 0 p0 rfl
      simp [gTake, List.replicate, rdD, hpos, Int.not_lt.mp hpos]
      simpa using this
  · have hacc0 : 0 < acc := by omega
    simp [gTake, List.replicate, modD_ii _ hm, rdD, hacc, hacc0, hdiv, wrOk, hmod, Int.not_le.mpr hacc0]
    exact ⟨hdivp acc a0, ⟨p0, hdivp acc a0, s0, s1, hl⟩⟩
end
end Pu
namespace Pu
open PySem PySem.Spec PyProof.Rows L2
section
variable {α β : Type}
theorem e_L [EnQ α] (l : List α) : (EnQ.e l : D) = .tup (l.map EnQ.e) := rfl
theorem e_P [EnQ α] [EnQ β] (p : α × β) : (EnQ.e p : D) = .tup [EnQ.e p.1, EnQ.e p.2] := rfl
theorem e_I (i : Int) : (EnQ.e i : D) = .int i := rfl
theorem e_N (i : Nat) : (EnQ.e i : D) = .int (i : Nat) := rfl
theorem e_B (i : Bool) : (EnQ.e i : D) = .bl i := rfl
theorem e_none [En α] : (EnQ.e (none : Option α) : D) = .non := rfl
theorem e_some [En α] (a : α) : (EnQ.e (some a) : D) = EnQ.e a := rfl
theorem SZ_eq : SZ = 16777216 := by decide
/-! ranges -/
theorem rng1_n {n : Nat} (h : n ≤ 16777216) : rng1D [.int (n : Nat)] = some ((List.range n).map EnQ.e) := by
  show (if (n : Int) ≤ 16777216 ∧ -(2 ^ 62) ≤ (n : Int) then some (rangeL 0 (n : Int).toNat) else none) = _
  rw [if_pos (by omega)]
  unfold rangeL
  simp only [Int.toNat_natCast, Option.some.injEq]
  exact List.map_congr_left fun i _ => by rw [Int.zero_add]; rfl
theorem rng1_i {j : Int} (h : j ≤ 16777216) (h2 : -1000 ≤ j) : rng1D [.int j] = some ((List.range j.toNat).map EnQ.e) := by
  show (if j ≤ 16777216 ∧ -(2 ^ 62) ≤ j then some (rangeL 0 j.toNat) else none) = _
  rw [if_pos (by omega)]
  unfold rangeL
  simp only [Option.some.injEq]
  exact List.map_congr_left fun i _ => by rw [Int.zero_add]; rfl
theorem rng2_n {a b : Nat} (h : a ≤ 16777216) (h : b ≤ 16777216) : rng2D [.int (a : Nat), .int (b : Nat)] = some ((List.range' a (b - a)).map EnQ.e) := by
  simp only [rng2D]
  rw [if_pos (by omega)]
  unfold rangeL
  rw [List.range'_eq_map_range, List.map_map]
  have : ((b : Int) - a).toNat = b - a := by omega
  rw [this]
  congr 1
/-! all, any, sums -/
theorem blsD_f (p : α → Bool) : ∀ l : List α, blsD (l.map fun x => .bl (p x)) = some (l.map p)
  | [] => rfl
  | x :: l => by simp [blsD, blsD_f p l]
theorem intsD_f (p : α → Int) : ∀ l : List α, intsD (l.map fun x => .int (p x)) = some (l.map p)
  | [] => rfl
  | x :: l => by simp [intsD, intsD_f p l]
theorem allD_f (p : α → Bool) (l : List α) : allD [.lst (l.map fun x => .bl (p x))] = some (.bl (l.all p)) := by
  show (blsD _).map _ = _
  rw [blsD_f]
  simp [List.all_map, Function.comp_def]
theorem anyD_f (p : α → Bool) (l : List α) : anyD [.lst (l.map fun x => .bl (p x))] = some (.bl (l.any p)) := by
  show (blsD _).map _ = _
  rw [blsD_f]
  simp [List.any_map, Function.comp_def]
theorem sumL_f (p : α → Int) (l : List α) : sumD [.lst (l.map fun x => .int (p x))] = some (.int (l.map p).sum) := by
  show (intsD _).map _ = _
  rw [intsD_f]; rfl
theorem sumT_f (p : α → Int) (l : List α) : sumD [.tup (l.map fun x => .int (p x))] = some (.int (l.map p).sum) := by
  show (intsD _).map _ = _
  rw [intsD_f]; rfl
theorem sumL_i (l : List Int) : sumD [.lst (l.map D.int)] = some (.int l.sum) := by
  show (intsD _).map _ = _
  rw [intsD_map]; rfl
theorem sumT_i (l : List Int) : sumD [.tup (l.map D.int)] = some (.int l.sum) := by
  show (intsD _).map _ = _
  rw [intsD_map]; rfl
theorem blsD_rep (b : Bool) : ∀ n : Nat, blsD (List.replicate n (.bl b)) = some (List.replicate n b)
  | 0 => rfl
  | n + 1 => by rw [List.replicate_succ, List.replicate_succ]; simp [blsD, blsD_rep b n]
@[simp] theorem allD_rep (n : Nat) : allD [.lst (List.replicate n (.bl true))] = some (.bl true) := by
  show (blsD _).map _ = _
  rw [blsD_rep]; simp
@[simp] theorem allD_true (l : List α) : allD [.lst (l.map fun _ => .bl true)] = some (.bl true) := by rw [allD_f (fun _ => true)]; simp
@[simp] theorem truD_bl (b : Bool) : truD (.bl b) = some b := rfl
@[simp] theorem truD_int (b : Int) : truD (.int b) = some (b != 0) := rfl
@[simp] theorem truD_non : truD .non = some false := rfl
@[simp] theorem truD_tup (l : List D) : truD (.tup l) = some (!l.isEmpty) := rfl
@[simp] theorem truD_lst (l : List D) : truD (.lst l) = some (!l.isEmpty) := rfl
/-! slices -/
theorem cut_take {γ : Type} (xs : List γ) (n : Nat) : cutD xs none (some (n : Int)) = xs.take n := by
  unfold cutD
  rw [HT.sIx_none, HT.sIx_nat, List.drop_zero, Nat.sub_zero]
  rcases Nat.le_total n xs.length with h | h
  · rw [Nat.min_eq_left h]
  · rw [Nat.min_eq_right h, List.take_of_length_le (Nat.le_refl _), List.take_of_length_le h]
theorem cut_drop {γ : Type} (xs : List γ) (n : Nat) : cutD xs (some (n : Int)) none = xs.drop n := by
  unfold cutD
  rw [HT.sIx_none, HT.sIx_nat]
  rcases Nat.le_total n xs.length with h | h
  · rw [Nat.min_eq_left h, List.take_of_length_le (by rw [List.length_drop]; exact Nat.le_refl _)]
  · rw [Nat.min_eq_right h, List.drop_of_length_le h, List.drop_of_length_le (Nat.le_refl xs.length)]; simp
theorem cut_init {γ : Type} (xs : List γ) : cutD xs none (some (-1)) = xs.dropLast := by
  unfold cutD
  rw [HT.sIx_none, List.drop_zero, Nat.sub_zero, List.dropLast_eq_take]
  have : HT.sIx xs.length xs.length (some (-1)) = xs.length - 1 := by
    show (if (-1 : Int) < 0 then (-1 + (xs.length : Int)).toNat else min (-1 : Int).toNat xs.length) = xs.length - 1
    rw [if_pos (by decide)]; omega
  rw [this]
theorem sl_take (xs : List D) (n : Nat) : slD (.tup xs) none (some (n : Int)) = some (.tup (xs.take n)) := by show some (D.tup _) = _; rw [cut_take]
theorem sl_drop (xs : List D) (n : Nat) : slD (.tup xs) (some (n : Int)) none = some (.tup (xs.drop n)) := by show some (D.tup _) = _; rw [cut_drop]
theorem slL_take (xs : List D) (n : Nat) : slD (.lst xs) none (some (n : Int)) = some (.lst (xs.take n)) := by show some (D.lst _) = _; rw [cut_take]
theorem slL_drop (xs : List D) (n : Nat) : slD (.lst xs) (some (n : Int)) none = some (.lst (xs.drop n)) := by show some (D.lst _) = _; rw [cut_drop]
theorem addD_tt {a b : List D} (h : a.length + b.length ≤ 16777216) : addD (.tup a) (.tup b) = some (.tup (a ++ b)) := by
  show (if a.length + b.length ≤ SZ then some (D.tup (a ++ b)) else none) = _
  rw [if_pos (by rw [SZ_eq]; exact h)]
theorem catO_ll {a b : List D} (h : a.length + b.length ≤ 16777216) : catO (.lst a) (.lst b) = some (a ++ b) := by
  show (if a.length + b.length ≤ SZ then some (a ++ b) else none) = _
  rw [if_pos (by rw [SZ_eq]; exact h)]
theorem repO_1 (x : D) {n : Nat} (h : n ≤ 16777216) : repO (.lst [x]) (.int (n : Nat)) = some (List.replicate n x) := by
  simp only [repO]
  rw [if_pos ⟨by omega, by omega, by rw [SZ_eq]; simp; exact h⟩]
  simp
theorem repT_1 (x : D) {n : Nat} (h : n ≤ 1000) : repT (.tup [x]) (.int (n : Nat)) = some (.tup (List.replicate n x)) := by
  simp only [repT]
  rw [if_pos ⟨by omega, by omega, by simp⟩]
  simp
theorem appU_eq {ds : List D} {d : D} (h : ds.length < 16777216) : appU ds d = some (ds ++ [d]) := by
  unfold appU; rw [if_pos (by rw [SZ_eq]; exact h)]
theorem extU_eq {ds es : List D} (h : ds.length + es.length ≤ 16777216) : extU ds (.lst es) = some (ds ++ es) := by
  show (if ds.length + es.length ≤ SZ then some (ds ++ es) else none) = _
  rw [if_pos (by rw [SZ_eq]; exact h)]
/-! enumerate, zip -/
theorem enL_map [EnQ α] (l : List α) : enL (l.map EnQ.e) = l.zipIdx.map fun p => .tup [.int (p.2 : Nat), EnQ.e p.1] := by
  unfold enL
  rw [List.mapIdx_eq_zipIdx_map, List.zipIdx_map, List.map_map]
  rfl
theorem zpL_map [EnQ α] [EnQ β] (l : List α) (m : List β) : zpL (l.map EnQ.e) (m.map EnQ.e) = (l.zip m).map EnQ.e := by
  unfold zpL
  rw [List.zipWith_map]
  induction l generalizing m with
  | nil => rfl
  | cons a l ih => cases m with
    | nil => rfl
    | cons b m => simp [ih m]; rfl
theorem fold_app {γ : Type} (f : α → γ) : ∀ (l : List α) (q : List γ), l.foldl (fun q x => q ++ [f x]) q = q ++ l.map f
  | [], q => by simp
  | a :: l, q => by rw [List.foldl_cons, fold_app f l]; simp
/-! loops over lists of values -/
def lpost (J : Rho → DS → Prop) (QS : Res × Rho → DS → Prop) : Res × Rho → DS → Prop
  | (.nx, ρ), s => J ρ s
  | (.ct, ρ), s => J ρ s
  | (.bk, ρ), s => QS (.nx, ρ) s
  | (.rt d, ρ), s => QS (.rt d, ρ) s
section
variable {J : Rho → DS → Prop} {QS : Res × Rho → DS → Prop} {ρ : Rho} {s : DS} {g : TGt} {body : SF}
@[simp] theorem lpost_nx : lpost J QS (.nx, ρ) s ↔ J ρ s := Iff.rfl
@[simp] theorem lpost_ct : lpost J QS (.ct, ρ) s ↔ J ρ s := Iff.rfl
@[simp] theorem lpost_bk : lpost J QS (.bk, ρ) s ↔ QS (.nx, ρ) s := Iff.rfl
@[simp] theorem lpost_rt {d : D} : lpost J QS (.rt d, ρ) s ↔ QS (.rt d, ρ) s := Iff.rfl
/-- a loop: J st by what is gathered so far (f) -/
theorem wp_fold {σ : Type} (en' : α → D) (f : σ → α → σ) (J : σ → Rho → DS → Prop) (l : List α) (st : σ)
    (h : ∀ x ∈ l, ∀ st ρ s, J st ρ s → ∃ ρ1, g (en' x) ρ = some ρ1 ∧ wp (body ρ1) s (lpost (J (f st x)) QS)) (h0 : ∀ ρ s, J (l.foldl f st) ρ s → QS (.nx, ρ) s) (hJ : J st ρ s) : wp (loopM g body (l.map en') ρ) s QS := by
  induction l generalizing st ρ s with
  | nil => unfold loopM; simp only [List.map_nil]; rw [wp_Mp]; exact h0 ρ s hJ
  | cons x xs ih =>
    obtain ⟨ρ1, e, hw⟩ := h x (by simp) st ρ s hJ
    rw [List.map_cons]
    unfold loopM
    rw [e]
    simp only [wp_Mb]
    refine wp_mono hw fun r s' hr => ?_
    obtain ⟨r, ρ2⟩ := r
    cases r with
    | nx => exact ih (f st x) (fun y hy => h y (by simp [hy])) h0 hr
    | ct => exact ih (f st x) (fun y hy => h y (by simp [hy])) h0 hr
    | bk => rw [wp_Mp]; exact hr
    | rt d => rw [wp_Mp]; exact hr
/-- a loop: J rest by what is left -/
theorem wp_rest (en' : α → D) (J : List α → Rho → DS → Prop) (l : List α)
    (h : ∀ x xs ρ s, J (x :: xs) ρ s → ∃ ρ1, g (en' x) ρ = some ρ1 ∧ wp (body ρ1) s (lpost (J xs) QS)) (h0 : ∀ ρ s, J [] ρ s → QS (.nx, ρ) s) (hJ : J l ρ s) : wp (loopM g body (l.map en') ρ) s QS := by
  induction l generalizing ρ s with
  | nil => unfold loopM; simp only [List.map_nil]; rw [wp_Mp]; exact h0 ρ s hJ
  | cons x xs ih =>
    obtain ⟨ρ1, e, hw⟩ := h x xs ρ s hJ
    rw [List.map_cons]
    unfold loopM
    rw [e]
    simp only [wp_Mb]
    refine wp_mono hw fun r s' hr => ?_
    obtain ⟨r, ρ2⟩ := r
    cases r with
    | nx => exact ih hr
    | ct => exact ih hr
    | bk => rw [wp_Mp]; exact hr
    | rt d => rw [wp_Mp]; exact hr
/-- a loop that keeps J -/
theorem wp_each (en' : α → D) (J : Rho → DS → Prop) (l : List α)
    (h : ∀ x ∈ l, ∀ ρ s, J ρ s → ∃ ρ1, g (en' x) ρ = some ρ1 ∧ wp (body ρ1) s (lpost J QS)) (h0 : ∀ ρ s, J ρ s → QS (.nx, ρ) s) (hJ : J ρ s) : wp (loopM g body (l.map en') ρ) s QS :=
  wp_fold (σ := Unit) en' (fun _ _ => ()) (fun _ => J) l () (fun x hx _ ρ s hj => h x hx ρ s hj) h0 hJ
end
theorem wp_whl {J : Unit} {QS : Res × Rho → DS → Prop} {ρ : Rho} {s : DS} {t : TF} {body : SF} (I : Nat → Rho → DS → Prop) (h : ∀ n ρ s, I n ρ s → wp (t ρ) s fun k s1 => if k = true then wp (body ρ) s1 (lpost (fun ρ2 s' => ∃ m, m < n ∧ I m ρ2 s') QS) else QS (.nx, ρ) s1)
    (n : Nat) (hn : n < FUEL) (hi : I n ρ s) : wp (sWhile t body ρ) s QS :=
  w_sWhile I (fun n ρ s hI => wp_mono (h n ρ s hI) fun k s1 hk => by
    cases k with
    | false => simpa using hk
    | true =>
      simp only [if_true] at hk ⊢
      refine wp_mono hk fun r s' hr => ?_
      obtain ⟨r, ρ2⟩ := r
      cases r <;> exact hr) n hn hi
/-- a comprehension, told by its list -/
theorem wp_compT {gg : TGt} {fe : EF} {ρ : Rho} {s : DS} {QA : List D → DS → Prop} {en' : α → D} {f : α → D} (l : List α)
    (h : ∀ x ∈ l, ∃ ρ1, gg (en' x) ρ = some ρ1 ∧ ∀ s, wp (fe ρ1) s fun y s2 => y = f x ∧ s2 = s) (q : QA (l.map f) s) : wp (compM gg tYes' fe ρ (l.map en')) s QA :=
  (wp_some (comp_mapT l h s)).mpr q
theorem wp_compF {gg : TGt} {ft : TF} {fe : EF} {ρ : Rho} {s : DS} {QA : List D → DS → Prop} {en' : α → D} {p : α → Bool} {f : α → D} (l : List α)
    (h : ∀ x ∈ l, ∃ ρ1, gg (en' x) ρ = some ρ1 ∧ ∀ s, wp (ft ρ1) s (fun b s1 => b = p x ∧ s1 = s) ∧ (p x = true → wp (fe ρ1) s fun y s2 => y = f x ∧ s2 = s)) (q : QA ((l.filter p).map f) s) : wp (compM gg ft fe ρ (l.map en')) s QA :=
  (wp_some (comp_map l h s)).mpr q
/-- a draw, as a natural number -/
theorem wp_take {m : Nat} {s : DS} {Q : D → DS → Prop} (hm : 0 < m) (hm2 : m < 2 ^ 64) (h : s.ok) (q : ∀ (r : Nat) (s' : DS), r < m → s'.ok → Q (.int (r : Nat)) s') : wp (mTake [.rng, .int (m : Nat)]) s Q := by
  refine wp_mono (take_ok (by omega) (by simpa using hm2) h) fun d s' ⟨ok, r, hr, h0, h1⟩ => ?_
  subst hr
  obtain ⟨k, rfl⟩ := Int.eq_ofNat_of_zero_le h0
  exact q k s' (by omega) ok
/-- a comprehension that draws -/
theorem wp_compS {gg : TGt} {fe : EF} {ρ : Rho} {en' : α → D} {QA : List D → DS → Prop} (P : α → D → Prop) (l : List α)
    (h : ∀ x ∈ l, ∀ s, s.ok → ∃ ρ1, gg (en' x) ρ = some ρ1 ∧ wp (fe ρ1) s fun y s2 => s2.ok ∧ P x y) {s : DS} (hs : s.ok) (q : ∀ ys s', s'.ok → ys.length = l.length → (∀ y ∈ ys, ∃ x ∈ l, P x y) → QA ys s') :
    wp (compM gg tYes' fe ρ (l.map en')) s QA := by
  have main : ∀ (l : List α), (∀ x ∈ l, ∀ s, s.ok → ∃ ρ1, gg (en' x) ρ = some ρ1 ∧ wp (fe ρ1) s fun y s2 => s2.ok ∧ P x y) → ∀ s, s.ok → wp (compM gg tYes' fe ρ (l.map en')) s fun ys s' => s'.ok ∧ ys.length = l.length ∧ ∀ y ∈ ys, ∃ x ∈ l, P x y := by
    intro l
    induction l with
    | nil => intro _ s hs; simp [compM, hs]
    | cons x xs ih =>
      intro h s hs
      obtain ⟨ρ1, e, hw⟩ := h x (by simp) s hs
      rw [List.map_cons]
      unfold compM
      rw [e]
      simp only [wp_Mb, w_tYes, if_true]
      refine wp_mono hw fun y s2 ⟨h2, hp⟩ => ?_
      refine wp_mono (ih (fun y hy => h y (by simp [hy])) s2 h2) fun ys s3 ⟨h3, h4, h5⟩ => ?_
      rw [wp_Mp]
      refine ⟨h3, by simp [h4], fun z hz => ?_⟩
      rcases List.mem_cons.mp hz with rfl | hz
      · exact ⟨x, by simp, hp⟩
      · obtain ⟨x', hx', hp'⟩ := h5 z hz; exact ⟨x', by simp [hx'], hp'⟩
  exact wp_mono (main l h s hs) fun ys s' ⟨a, b, c⟩ => q ys s' a b c
/-- a comprehension whose filter draws -/
theorem wp_compSub {gg : TGt} {ft : TF} {fe : EF} {ρ : Rho} {en' f : α → D} {QA : List D → DS → Prop} (l : List α)
    (h : ∀ x ∈ l, ∀ s, s.ok → ∃ ρ1, gg (en' x) ρ = some ρ1 ∧ wp (ft ρ1) s (fun _ s2 => s2.ok) ∧ ∀ s, wp (fe ρ1) s fun y s2 => y = f x ∧ s2 = s) {s : DS} (hs : s.ok) (q : ∀ (l' : List α) s', s'.ok → l'.Sublist l → QA (l'.map f) s') :
    wp (compM gg ft fe ρ (l.map en')) s QA := by
  have main : ∀ (l : List α), (∀ x ∈ l, ∀ s, s.ok → ∃ ρ1, gg (en' x) ρ = some ρ1 ∧ wp (ft ρ1) s (fun _ s2 => s2.ok) ∧ ∀ s, wp (fe ρ1) s fun y s2 => y = f x ∧ s2 = s) → ∀ s, s.ok → wp (compM gg ft fe ρ (l.map en')) s fun ys s' => s'.ok ∧ ∃ l' : List α, l'.Sublist l ∧ ys = l'.map f := by
    intro l
    induction l with
    | nil => intro _ s hs; simp [compM, hs]
    | cons x xs ih =>
      intro h s hs
      obtain ⟨ρ1, e, hw, hf⟩ := h x (by simp) s hs
      rw [List.map_cons]
      unfold compM
      rw [e]
      simp only [wp_Mb, wp_ite]
      refine wp_mono hw fun b s2 h2 => ?_
      have ih' := ih (fun y hy => h y (by simp [hy])) s2 h2
      cases b with
      | true =>
        simp only [if_true, wp_Mb]
        refine wp_mono (hf s2) fun y s3 ⟨e1, e2⟩ => ?_
        subst e1 e2
        refine wp_mono ih' fun ys s4 ⟨h3, l', h4, h5⟩ => ?_
        rw [wp_Mp]
        exact ⟨h3, x :: l', h4.cons₂ x, by rw [h5]; rfl⟩
      | false =>
        simp only [Bool.false_eq_true, if_false]
        exact wp_mono ih' fun ys s4 ⟨h3, l', h4, h5⟩ => ⟨h3, l', h4.cons x, h5⟩
  exact wp_mono (main l h s hs) fun ys s' ⟨a, l', b, c⟩ => by rw [c]; exact q l' s' a b
theorem choose_all {P : α → Prop} {f : α → D} : ∀ {ds : List D}, (∀ d ∈ ds, ∃ a, d = f a ∧ P a) → ∃ l : List α, ds = l.map f ∧ ∀ a ∈ l, P a
  | [], _ => ⟨[], rfl, fun _ h => by cases h⟩
  | d :: ds, h => by
    obtain ⟨a, h1, h2⟩ := h d (by simp)
    obtain ⟨l, h3, h4⟩ := choose_all (ds := ds) fun d hd => h d (by simp [hd])
    exact ⟨a :: l, by rw [h1, h3]; rfl, fun b hb => by rcases List.mem_cons.mp hb with rfl | hb; exact h2; exact h4 b hb⟩
end
end Pu
namespace Pu
open PySem PySem.Spec PyProof.Rows L2
/-! ### a module's name for a built-in function -/
section
variable {ι : Type} {X : ι → Cx} {P : Program} {w : World} {K : PySem.W.Frag} {mg : Str → Option Value} {base : Heap} {N : List Str} {lv : Nat} {pos : Pos} {a b c e : Expr} {es elts : List Expr} {f fa fb fc : EF} {g : AF}
theorem cCallBf (C : Fam X P w K mg base N lv) {x : Str} {p : Pos} {id : String} {r : List V → Hp → VK → Prop} {gg : List D → Option D} (hc : ∀ i, CallR (X i) (.builtin id) r) (hv' : VL K r gg) (hm : mg x = some (.builtin id)) (ha : CAB X K (e :: es) g) (hg : ∀ i, Gl (X i) x := by intro _; rfl)
    (hdb : (x == ("__debug__" : Str)) = false := by decide) (he : ∀ i, starEach (e :: es) (X i).env = (false, eval e (X i).env) :: starEach es (X i).env := by intro _; rfl)
    (hpl : ∀ i, (backTo pos (starEach es (X i).env)).any (·.1) = false := by intro _; rfl) : CE X K (.Call (.Name x p) (e :: es) [] pos) (xL gg g) :=
  let ⟨t, h1, h2⟩ := ha; ⟨_, fun i => pe_callBfun (hc i) (hg i) (by rw [C.m i]; exact hm) (h1 i) hdb (he i) (hpl i), semE_CB hv' h2⟩
def gcdD : List D → Option D
  | [.int a, .int b] => some (.int ((Nat.gcd a.natAbs b.natAbs : Nat) : Int))
  | _ => none
@[simp] theorem gcdD_ii (a b : Int) : gcdD [.int a, .int b] = some (.int ((Nat.gcd a.natAbs b.natAbs : Nat) : Int)) := rfl
theorem v_gcd : VL K rGcd gcdD := fun pd F H xs d vs fh r e Q q => by
  match xs, e with
  | [.int a, .int b], e =>
    cases e
    obtain ⟨v, w, rfl, r1, r2⟩ := r.two
    exact ⟨a, b, by rw [r1.int, r2.int], q _ F H (.refl fh) (by simp [Rep])⟩
end
/-! ### what the top holds, told by one Bool more -/
def bltB (K : PySem.W.Frag) (x : Str) (id : String) : Bool := He.eqO (PySem.W.nsIn K mainGlobals x) (some (some (.builtin id)))
theorem bltB_ok {K : PySem.W.Frag} {h : Heap} {mg : Str → Option Value} {x : Str} {id : String} (X : K.In h) (G : h.Ns mainGlobals mg) (e : bltB K x id = true) : mg x = some (.builtin id) := PySem.W.mg_of X G (He.eqO_ok e)
def intsB : List Value → List Int → Bool
  | [], [] => true
  | .int i _ :: vs, n :: ns => decide (i = n) && intsB vs ns
  | _, _ => false
theorem intsB_ok : ∀ {vs : List Value} {ns : List Int}, intsB vs ns = true → Vals (ns.map V.int) vs
  | [], [], _ => .nil
  | .int i t :: vs, n :: ns, h => by
    simp only [intsB, Bool.and_eq_true, decide_eq_true_eq] at h
    obtain ⟨rfl, h⟩ := h
    exact .cons ⟨t, rfl⟩ (intsB_ok h)
  | [], _ :: _, h => by simp [intsB] at h
  | v :: _, [], h => by cases v <;> simp [intsB] at h
  | .none :: _, _ :: _, h => by simp [intsB] at h
  | .bool _ :: _, _ :: _, h => by simp [intsB] at h
  | .str _ _ :: _, _ :: _, h => by simp [intsB] at h
  | .ref _ :: _, _ :: _, h => by simp [intsB] at h
  | .builtin _ :: _, _ :: _, h => by simp [intsB] at h
  | .type _ :: _, _ :: _, h => by simp [intsB] at h
  | .bytes _ _ :: _, _ :: _, h => by simp [intsB] at h
  | .float _ _ :: _, _ :: _, h => by simp [intsB] at h
  | .ellipsis :: _, _ :: _, h => by simp [intsB] at h
  | .notImplemented :: _, _ :: _, h => by simp [intsB] at h
def tupB (K : PySem.W.Frag) (x : Str) (ns : List Int) : Bool := match PySem.W.nsIn K mainGlobals x with
  | some (some (.ref a)) => (match K.lookup a with
    | some ⟨.type c, _, .seq its _, _⟩ => decide (c = "tuple") && intsB its.toList ns && decide (ns.length ≤ 1000)
    | _ => false)
  | _ => false
theorem tupB_ok {K : PySem.W.Frag} {h : Heap} {mg : Str → Option Value} {x : Str} {ns : List Int} (X : K.In h) (G : h.Ns mainGlobals mg) (e : tupB K x ns = true) : CstOk mg x (.tup (ns.map D.int)) K := by
  unfold tupB at e
  cases q : PySem.W.nsIn K mainGlobals x with
  | none => rw [q] at e; cases e
  | some o =>
    rw [q] at e
    cases o with
    | none => cases e
    | some v =>
      cases v <;> first | (cases e; done) | skip
      rename_i a
      have e : (match K.lookup a with
        | some ⟨.type c, _, .seq its _, _⟩ => decide (c = "tuple") && intsB its.toList ns && decide (ns.length ≤ 1000)
        | _ => false) = true := e
      cases q2 : K.lookup a with
      | none => rw [q2] at e; cases e
      | some ob =>
        rw [q2] at e
        obtain ⟨oc, od, dt, osl⟩ := ob
        cases oc <;> first | (cases e; done) | skip
        cases dt <;> first | (cases e; done) | skip
        rename_i c its n
        have e : (decide (c = "tuple") && intsB its.toList ns && decide (ns.length ≤ 1000)) = true := e
        simp only [Bool.and_eq_true, decide_eq_true_eq] at e
        obtain ⟨⟨rfl, h1⟩, h2⟩ := e
        have hv := intsB_ok h1
        have hl : its.toList.length = ns.length := by rw [← hv.length, List.length_map]
        refine ⟨.ref a, _, PySem.W.mg_of X G q, rfl, fun pd F => ?_⟩
        simp only [Rep]
        refine ⟨a, ns.map V.int, rfl, .inr ⟨_, its, n, q2, rfl, rfl, ?_, hv⟩, ?_, RepL.ofInts ns⟩
        · rw [← Array.length_toList, hl]; exact Nat.le_trans h2 (by decide)
        · rw [List.length_map]; exact Nat.le_trans h2 (by decide)
end Pu
namespace Pu
open PySem PySem.Spec PyProof.Rows L2
/-! ### sorted(list) -/
def isTupN : D → Bool
  | .tup (_ :: _) => true
  | _ => false
def notTup : D → Bool
  | .tup _ => false
  | _ => true
def sortB (ds : List D) : Bool := allCmp ds && (ds.all isTupN || ds.all notTup)
def sortL (ds : List D) : List D := ds.mergeSort fun x y => !PySem.W.dataLt (toP y) (toP x)
def sortO : List D → Option (List D)
  | [.lst ds] => if sortB ds = true then some (sortL ds) else none
  | _ => none
def rSortA (K : PySem.W.Frag) : List V → Hp → VK → Prop := fun vs H Q => ∃ (a : Addr) (xs : List V) (ds : List D), vs = [V.ref a] ∧ SqL K H a xs ∧ ds.length = xs.length ∧ DpAll K H xs (toPs ds) ∧ sortB ds = true ∧
  ∀ (zs : List (V × D)) (p : Addr), zs.Perm (xs.zip ds) → zs.map Prod.snd = sortL ds → H p = none → Q (.ref p) (L2.upd H p (.lst (zs.map Prod.fst)))
theorem each_zip {R : Value → V × D → Prop} : ∀ {us : List Value} {xs : List V} {ds : List D}, us.length = xs.length → ds.length = xs.length → (∀ (i : Nat) (u : Value) (x : V) (d : D), us[i]? = some u → xs[i]? = some x → ds[i]? = some d → R u (x, d)) → PySem.W.EachIs R us (xs.zip ds)
  | [], [], [], _, _, _ => .nil
  | u :: us, x :: xs, d :: ds, h1, h2, h => .cons (h 0 u x d rfl rfl rfl) (each_zip (by simpa using h1) (by simpa using h2) fun i u x d a b c => h (i + 1) u x d a b c)
  | [], _ :: _, _, h, _, _ => by simp at h
  | _ :: _, [], _, h, _, _ => by simp at h
  | _, [], _ :: _, _, h, _ => by simp at h
  | _, _ :: _, [], _, h, _ => by simp at h
theorem each_vals : ∀ {us : List Value} {zs : List (V × D)}, PySem.W.EachIs (fun u z => L2.RelV z.1 u) us zs → Vals (zs.map Prod.fst) us
  | _, _, .nil => .nil
  | _, _, .cons h t => .cons h (each_vals t)
theorem c_sorted {X : Cx} {K : PySem.W.Frag} (hk : X.K = K) (hu : X.A.units + 200 < cLine) : CallR X (.builtin "sorted") (rSortA K) := by
  subst hk
  intro pins s σ H vs us Q I r h
  obtain ⟨a, xs, ds, rfl, hs, hlen, hd, hb, q⟩ := h
  obtain ⟨its, rv, hl, hz⟩ := I.list hs
  rw [Vals.ref1 r]
  unfold sortB at hb
  simp only [Bool.and_eq_true, Bool.or_eq_true, List.all_eq_true] at hb
  obtain ⟨hc, ht⟩ := hb
  obtain ⟨m1, m2⟩ := allCmp_mem hc
  obtain ⟨as, ra⟩ := Dp.readsAll I (toPs ds) xs its hd rv
  have hlv := rv.length
  have henc : (xs.zip ds).map (fun z : V × D => toP z.2) = ds.map toP := by
    have : (xs.zip ds).map Prod.snd = ds := List.map_snd_zip (by omega)
    show (xs.zip ds).map (toP ∘ Prod.snd) = _
    rw [← List.map_map, this]
  have hal : PySem.W.AllAlike ((xs.zip ds).map fun z : V × D => toP z.2) := by
    rw [henc]
    intro d hd d' hd'
    obtain ⟨x, hx, rfl⟩ := List.mem_map.mp hd
    obtain ⟨y, hy, rfl⟩ := List.mem_map.mp hd'
    exact m2 x hx y hy
  have hsort : PySem.W.Sortable ((xs.zip ds).map fun z : V × D => toP z.2) := by
    rw [henc]
    rcases ht with ht | ht
    · refine .inl fun d hd => ?_
      obtain ⟨x, hx, rfl⟩ := List.mem_map.mp hd
      have := ht x hx
      cases x <;> first | (cases this; done) | skip
      rename_i l
      cases l with
      | nil => cases this
      | cons y ys => exact ⟨toP y, toPs ys, by simp [toP, toPs]⟩
    · refine .inr fun d hd => ?_
      obtain ⟨x, hx, rfl⟩ := List.mem_map.mp hd
      have h1 := ht x hx
      have h2 := (m1 x hx).2.2
      cases x <;> simp [notTup, isNonD, toP] at h1 h2 ⊢
  have hread : PySem.W.EachIs (fun v (z : V × D) => ∃ as, Reads s.heap v (toP z.2) as) its (xs.zip ds) := each_zip hlv.symm hlen fun i u x d h1 h2 h3 => by
    obtain ⟨d', bs, e1, e2⟩ := readsAll_get ra h1
    rw [toPs_eq, List.getElem?_map, h3] at e1
    cases e1
    exact ⟨bs, e2⟩
  refine PySem.W.sorted_data (R := fun u z => L2.RelV z.1 u) (enc := fun z : V × D => toP z.2) (vs := its) (bs := xs.zip ds) hl.isList (each_zip hlv.symm hlen fun i u x d h1 h2 h3 => ?_) hread hal hsort (by simp; omega) (fun b hb => ?_) fun out ho eo => ?_
  · obtain ⟨u', e1, e2⟩ := rv.get h2
    rw [h1] at e1; cases e1
    exact e2
  · have hbm := (List.of_mem_zip (show (b.1, b.2) ∈ xs.zip ds from hb)).2
    have := SeqAt.depth_of_shaped (m1 _ hbm).2.1
    omega
  · obtain ⟨n, hn⟩ := sortedAll_at s.heap its out.toArray
    have hperm : ((xs.zip ds).mergeSort (PySem.W.dataLe false fun z : V × D => toP z.2)).Perm (xs.zip ds) := List.mergeSort_perm _ _
    refine ⟨.ref _, _, I.laid (t' := s.toks) (o := .lst (((xs.zip ds).mergeSort (PySem.W.dataLe false fun z : V × D => toP z.2)).map Prod.fst)) (fun b ob q => sortedAll_old q) (Nat.le_succ _) ⟨?_, out, n, each_vals eo, hn⟩, rfl, q _ _ hperm ?_ (I.hok.fresh (Nat.le_succ _))⟩
    · rw [List.length_map, hperm.length_eq, List.length_zip]; omega
    · have hsnd : (xs.zip ds).map Prod.snd = ds := List.map_snd_zip (by omega)
      rw [List.map_mergeSort (r := PySem.W.dataLe false fun z : V × D => toP z.2) (s := fun x y => !PySem.W.dataLt (toP y) (toP x)) (f := Prod.snd) (fun a _ b _ => rfl), hsnd]
      rfl
theorem rep_zip {K : PySem.W.Frag} {pd : Option PD} {F : Hp} : ∀ {ds : List D} {xs : List V}, RepL K pd F ds xs → ∀ z ∈ xs.zip ds, Rep K pd F z.2 z.1
  | [], _, h, z, hz => by have := h.cases0; subst this; simp at hz
  | d :: ds, _, h, z, hz => by
    obtain ⟨y, ys, rfl, h1, h2⟩ := h.cases
    rw [List.zip_cons_cons] at hz
    rcases List.mem_cons.mp hz with rfl | hz
    · exact h1
    · exact rep_zip h2 z hz
theorem rep_unzip {K : PySem.W.Frag} {pd : Option PD} {F : Hp} : ∀ {zs : List (V × D)}, (∀ z ∈ zs, Rep K pd F z.2 z.1) → RepL K pd F (zs.map Prod.snd) (zs.map Prod.fst)
  | [], _ => .nil
  | z :: zs, h => .cons (h z (by simp)) (rep_unzip fun y hy => h y (by simp [hy]))
theorem v_sorted {K : PySem.W.Frag} : VLO K (rSortA K) sortO := fun pd F H xs ds vs fh r e Q q => by
  match xs, e with
  | [.lst as], e =>
    simp only [sortO] at e
    split at e
    · rename_i hb
      cases e
      cases r with
      | cons r0 rt =>
        cases rt
        have hcl : cleanL as = true := by
          unfold sortB at hb
          simp only [Bool.and_eq_true] at hb
          exact cleanL_all.mpr fun z hz => ((allCmp_mem hb.1).1 z hz).1
        obtain ⟨a, ys, rfl, h3, hl, h4⟩ := r0.lst fh
        refine ⟨a, ys, as, rfl, .of h3, h4.length.symm, RepL.dp fh hcl h4, hb, fun zs p hp hs n => ?_⟩
        refine q p _ F _ (Ext.own fh n) n (nF_of fh n) upd_same ?_ ?_
        · have : (sortL as).length = as.length := List.length_mergeSort _
          rw [this]; exact hl
        · rw [← hs]
          exact rep_unzip fun z hz => rep_zip h4 z (hp.mem_iff.mp hz)
    · cases e
end Pu
/-! The head of a program with imports at its top, for an open law with facts. -/
noncomputable section
namespace Pu
open PySem PySem.W PySem.Calls PyProof.Rows HandSHeadRun
/-- the whole run's equation at a world -/
def RunEqI (r : OpenRow) (q : Program) (H : Hook) (ob : SharedT → H.α) (M : Nat) (loose : List PySem.Str) (w : World) : Prop :=
  (wholeF (fun p => stepQ (denQ tabQ) p w) fenceQ M r.prog).map (fun x => (looksF r.prog x.1.heap x.2.abs, seenQ q loose (importedModules r.prog.main.body) (fun s => xlAt q [] s && recOk r.toRowW.records s) x.2.abs, ob x.2)) = some (true, openGood q loose, H.val w)
theorem head_anyI {r : OpenRow} {q : Program} {H : Hook} {ob : SharedT → H.α} {M : Nat} {loose : List PySem.Str} {d : DefRec} {kwd : List (PySem.Str × PySem.Expr)} (ho : ∀ s : SharedT, ob s = H.obs s.abs) (run : ∀ w, RunEqI r q H ob M loose w)
    (hdef : defOf q r.name = some (d, kwd)) (hp : r.prog.theDef r.name = some (d.params, d.body, d.scope)) (hk : kwWritten? d.params.kwonlyargs d.params.kw_defaults = some kwd)
    (hwr : (!r.writes || r.records.isEmpty) = true) (k1 : r.wellSaid = true) (ok : (chainsOk q && opensWell r.prog && (frees r.toRowW && r.within.isEmpty)) = true) (hb : r.prog.bare) (hw : r.toRowW.promised)
    (call : WalkO q loose (XL q []) H.says r.toRowW d kwd fun f vs => PySem.call f vs) : r.Holds := by
  have left : LeftO r.prog q loose (fun s => xlAt q [] s && recOk r.toRowW.records s) H.obs H.val M true :=
    left_imp fun w => by
      have z := run w
      have eo : ob = fun s => H.obs s.abs := funext ho
      unfold RunEqI at z
      rw [eo] at z
      rw [wholeQ_eq]
      simp only [seenQ_eq]
      exact z
  exact holds_open (r := r) (q := q) (loose := loose) (XP := XL q []) (YP := H.says) (d := d) (kwd := kwd) left H.of H.keeps (fun s z => xl_of s (Bool.and_eq_true_iff.mp z).1) XL.keeps hdef hp hk (fun s z => recFacts_of (Bool.and_eq_true_iff.mp z).2) hwr k1 ok hb hw call
end Pu
namespace Pu
open PySem PySem.Spec PyProof.Rows L2
/-! ### x.append(y.pop(e)) -/
def sAppPop (i j : Nat) (f : EF) : SF := fun ρ => Mb (f ρ) fun d => onInt d fun k => onOw ρ[j]? fun ds => onSome (ixN ds.length k) fun n => onSome ds[n]? fun y =>
  onOw ρ[i]? fun es => onSome (appU es y) fun es' => Mp (.nx, (ρ.set j (.ow (ds.eraseIdx n))).set i (.ow es'))
section
variable {ι : Type} {X : ι → Cx} {P : Program} {w : World} {K : PySem.W.Frag} {mg : Str → Option Value} {base : Heap} {N : List Str} {lv : Nat} {pos cpos apos cpos2 apos2 : Pos} {e : Expr} {f : EF}
theorem cAppPop (C : Fam X P w K mg base N lv) (i j : Nat) {x y : Str} {p2 p3 : Pos} (h : CE X K e f) (hij : i ≠ j := by decide) (hN : N[i]? = some x := by rfl) (hM : N[j]? = some y := by rfl)
    (hv : ∀ l, Vis (X l).env.scope x := by intro _; first | exact Or.inl rfl | exact Or.inr (Or.inl rfl) | exact Or.inr (Or.inr rfl))
    (hv2 : ∀ l, Vis (X l).env.scope y := by intro _; first | exact Or.inl rfl | exact Or.inr (Or.inl rfl) | exact Or.inr (Or.inr rfl))
    (hd : (x == ("__debug__" : Str)) = false := by decide) (hcd : (x == ("__classdict__" : Str)) = false := by decide)
    (hd2 : (y == ("__debug__" : Str)) = false := by decide) (hcd2 : (y == ("__classdict__" : Str)) = false := by decide)
    (hbase : ∀ l, attributeBase (.Name x p2) "append" (X l).env (eval (.Name x p2) (X l).env) = eval (.Name x p2) (X l).env := by intro _; rfl)
    (hbase2 : ∀ l, attributeBase (.Name y p3) "pop" (X l).env (eval (.Name y p3) (X l).env) = eval (.Name y p3) (X l).env := by intro _; rfl)
    (hfew : ∀ l, ((backTo cpos (starEach [.Call (.Attribute (.Name y p3) "pop" apos2) [e] [] cpos2] (X l).env)).all (fun x => !x.1) && (backToKw cpos (keywordEach [] (X l).env)).all (fun x => x.1.isSome)
      && decide (([.Call (.Attribute (.Name y p3) "pop" apos2) [e] [] cpos2] : List Expr).length + ([] : List Keyword).length + (if ([] : List Keyword).isEmpty then 0 else 1) < 30)) = true := by intro _; rfl)
    (hfew2 : ∀ l, ((backTo cpos2 (starEach [e] (X l).env)).all (fun x => !x.1) && (backToKw cpos2 (keywordEach [] (X l).env)).all (fun x => x.1.isSome)
      && decide (([e] : List Expr).length + ([] : List Keyword).length + (if ([] : List Keyword).isEmpty then 0 else 1) < 30)) = true := by intro _; rfl)
    (hline : (apos.endLine == cpos.line) = true := by rfl) (hline2 : (apos2.endLine == cpos2.line) = true := by rfl)
    (hs : ∀ l, starEach [.Call (.Attribute (.Name y p3) "pop" apos2) [e] [] cpos2] (X l).env = (false, eval (.Call (.Attribute (.Name y p3) "pop" apos2) [e] [] cpos2) (X l).env) :: starEach [] (X l).env := by intro _; rfl)
    (hs2 : ∀ l, starEach [e] (X l).env = (false, eval e (X l).env) :: starEach [] (X l).env := by intro _; rfl)
    (hplain : ∀ l, (backTo cpos (starEach [] (X l).env)).any (·.1) = false := by intro _; rfl) (hplain2 : ∀ l, (backTo cpos2 (starEach [] (X l).env)).any (·.1) = false := by intro _; rfl)
    (hsw : ∀ l, swapsWith (.Call (.Attribute (.Name x p2) "append" apos) [.Call (.Attribute (.Name y p3) "pop" apos2) [e] [] cpos2] [] cpos) none pos.line (X l).env = pure false := by intro _; rfl) :
    CS X K (.Expr (.Call (.Attribute (.Name x p2) "append" apos) [.Call (.Attribute (.Name y p3) "pop" apos2) [e] [] cpos2] [] cpos) pos) (sAppPop i j f) := by
  obtain ⟨t, h1, h2⟩ := h
  refine ⟨tDrop (tBM K "list" rAppend (tVar i) (tCons (tBM K "list" rPopAt (tVar j) (tCons t tNil)) tNil)), fun l => ps_expr (by
    have inner := pe_bm (X := X l) (cpos := cpos2) (apos := apos2) PySem.F.plainAttrs_list PySem.F.slot_list_pop PySem.F.type_list_pop mt_popAt (pe_var (pos := p3) (by rw [C.n l]; exact hM) (hv2 l) hd2 hcd2) (pa_cons (h1 l) pa_nil (hs2 l)) (hbase2 l) (hfew2 l) hline2 (hs2 l) (hplain2 l)
    have := pe_bm (X := X l) (cpos := cpos) (apos := apos) PySem.F.plainAttrs_list PySem.F.slot_list_append PySem.F.type_list_append mt_append (pe_var (pos := p2) (by rw [C.n l]; exact hN) (hv l) hd hcd) (pa_cons inner pa_nil (hs l)) (hbase l) (hfew l) hline (hs l) (hplain l)
    rw [C.k l] at this
    exact this) (hsw l), ?_⟩
  intro pd F0 H0 F H ρ σ s r' ρ' s' o e E q
  obtain ⟨d, s1, e1, e⟩ := Mb_eq e
  obtain ⟨k, rfl, e⟩ := onInt_eq e
  obtain ⟨ds, hds, e⟩ := onOw_eq e
  obtain ⟨n, hn, e⟩ := onSome_eq e
  obtain ⟨dy, hy, e⟩ := onSome_eq e
  obtain ⟨es, hes, e⟩ := onOw_eq e
  obtain ⟨es', hu, e⟩ := onSome_eq e
  obtain ⟨a, rfl⟩ := Mp_eq e
  cases a
  obtain ⟨z, a1, p, xs, rfl, a2, a3, a4, a5, a6, a7⟩ := o.env.at' i _ hes
  obtain ⟨z, b1, q', ys, rfl, b2, b3, b4, b5, b6, b7⟩ := o.env.at' j _ hds
  refine ⟨.ref p, a1, .inl ⟨rfl, xs, .of a5⟩, ?_⟩
  refine ⟨.ref q', b1, .inl ⟨rfl, ys, .of b5⟩, h2 pd F0 H0 F H _ σ s _ _ o e1 _ fun v F1 H1 x1 d1 r1 => ?_⟩
  have o1 := o.step x1 d1
  simp only [Rep] at r1
  subst r1
  have b7' := b7.mono x1.ff
  obtain ⟨i1, i2, i3, i4⟩ := ixN_seq hn
  obtain ⟨yv, hyv, ry⟩ := b7'.get hy
  have hSZ : SZ = 16777216 := by decide
  refine ⟨q', ys, k, n, yv, rfl, rfl, x1.hh _ _ b5 b4, by omega, by omega, by rw [b7.length]; exact i1, hyv, ?_⟩
  have o2 := o1.upd hds b1 (es' := ds.eraseIdx n) (ys := ys.eraseIdx n) (by have := List.length_eraseIdx_le ds n; omega) (b7'.eraseIdx n)
  have hes2 : (ρ.set j (.ow (ds.eraseIdx n)))[i]? = some (.ow es) := by rw [List.getElem?_set_ne (fun z => hij z.symm)]; exact hes
  obtain ⟨z, c1, p', zs, hz, c2, c3, c4, c5, c6, c7⟩ := o2.env.at' i _ hes2
  rw [a1] at c1
  cases c1
  cases hz
  exact v_app pd F1 _ p zs es dy yv es' o2.fh c5 c7 c6 ry hu (fun _ Hn => E.nx σ Hn) fun ys' hl ry' => q σ F1 _ x1.ff (o2.upd hes2 a1 hl ry')
end
@[simp] theorem w_sAppPop {QS : Res × Rho → DS → Prop} {ρ : Rho} {s : DS} (i j : Nat) (f : EF) : wp (sAppPop i j f ρ) s QS ↔ wp (f ρ) s fun d s1 => ∃ k, d = .int k ∧ ∃ ds, ρ[j]? = some (.ow ds) ∧ ∃ n, ixN ds.length k = some n ∧ ∃ y, ds[n]? = some y ∧
    ∃ es, ρ[i]? = some (.ow es) ∧ ∃ es', appU es y = some es' ∧ QS (.nx, (ρ.set j (.ow (ds.eraseIdx n))).set i (.ow es')) s1 := by unfold sAppPop; simp
end Pu
namespace Pu
open PySem PySem.Spec PyProof.Rows L2
theorem iop_mulW {X : Cx} : OpR X (inplaceOp .Mult) (rI CMulW fun i j => .int (i * j)) := opI fun _ _ _ _ _ _ _ hc q => imul_int q hc.ok
/-! ### sorted(tuple) -/
section
open PySem.Calls
variable {prog : Program} {w : World} {A : Around} {E : Value → Shared → Prop} {s : Shared}
theorem collectT {a : Addr} {us : List Value} {Q : List Value → Shared → Prop} (hT : IsTup s.heap a us.toArray) (hz : us.length ≤ sizeLine)
    (q : Q us { s with heap := (s.heap.push (seqObj "list" #[] 0)).update s.heap.objs.size (Obj.mapSeq (· ++ us.toArray)) }) : wpAny (model prog w) A (collect (.ref a)) Q E s := by
  obtain ⟨ob, hob, hcl, m, hdt⟩ := id hT
  unfold collect
  refine wpAny_bind (wpAny_runValue (codeAny_builtin entry_proto_collect' ?_))
  show wpAny (model prog w) _ (do again (.builtin "list.__iadd__" ⟨[← newList [], .ref a], []⟩)) _ _ s
  refine wpAny_bind (wpAny_newList (wpAny_pure ⟨Code.quiet_builtin _ (by decide +kernel), codeAny_builtin entry_list_iadd' ?_⟩))
  show wpAny (model prog w) _ (Builtin.List.listExtendWith (.ref s.heap.objs.size) (.ref a) (.ref s.heap.objs.size)) _ _ { s with heap := s.heap.push (seqObj "list" #[] 0) }
  unfold Builtin.List.listExtendWith
  have hob' : (s.heap.push (seqObj "list" #[] 0)).get? a = some ob := Heap.get?_push_of_some _ hob
  have hnew : (s.heap.push (seqObj "list" #[] 0)).get? s.heap.objs.size = some (seqObj "list" #[] 0) := Heap.get?_push_size _ rfl
  refine wpAny_bind (wpAny_typeOf (T := "tuple") ⟨ob, hob', hcl⟩ ?_)
  rw [if_pos (by rw [show (Value.type "tuple" == Value.type "tuple") = true from rfl]; simp)]
  refine wpAny_bind (listItems_at hob' hdt ?_)
  refine wpAny_bind (listItems_at (xs := #[]) (n := 0) hnew rfl ?_)
  rw [if_neg (by simp)]
  refine wpAny_bind (listUpdate_at (xs := #[]) (n := 0) hnew rfl ?_ (Nat.zero_le _) (by show (#[] ++ us.toArray).size ≤ sizeLine + 1; simp only [Array.size_append, List.size_toArray, List.length_nil]; omega))
  refine wpAny_pure ?_
  show wpAny (model prog w) A (do
      let ob ← load s.heap.objs.size
      match ob.data with
      | .seq ys _ => pure ys.toList
      | _ => unsupported "internal:collect") Q E { s with heap := (s.heap.push (seqObj "list" #[] 0)).update s.heap.objs.size (Obj.mapSeq (· ++ us.toArray)) }
  refine wpAny_bind (wpAny_load (get?_update_seq hnew _) ?_)
  show wpAny (model prog w) _ (pure ((#[] : Array Value) ++ us.toArray).toList) Q E _
  rw [show ((#[] : Array Value) ++ us.toArray).toList = us by simp]
  exact wpAny_pure q
theorem sortedT_of {a : Addr} {us : List Value} {Q : Value → Shared → Prop} (hT : IsTup s.heap a us.toArray) (hz : us.length ≤ sizeLine)
    (body : ∀ E' : Value → Shared → Prop, wpAny (model prog w) A.in1.in1 (Builtin.«list.sort» ⟨[.ref (s.heap.objs.size + 1)], []⟩) (fun f s' => f = .done (.ret .none) ∧ Q (.ref (s.heap.objs.size + 1)) s') E' { s with heap := PySem.W.copyHeap s.heap us }) :
    wpAny (model prog w) A (call (.builtin "sorted") [.ref a] []) Q E s := by
  refine call_function_entry_kw kind_sorted plain_sorted entry_sorted (args_sorted1 _) ?_
  unfold Builtin.«sorted»
  refine wpAny_bind (m := checkCount "sorted" 1 1 _) (wpAny_pure ?_)
  refine wpAny_bind (collectT hT hz ?_)
  refine wpAny_bind (wpAny_newList ?_ hz)
  have hsz : ((s.heap.push (seqObj "list" #[] 0)).update s.heap.objs.size (Obj.mapSeq (· ++ us.toArray))).objs.size = s.heap.objs.size + 1 := by rw [Heap.size_update, size_push']
  show wpAny (model prog w) _ _ _ _ { s with heap := PySem.W.copyHeap s.heap us }
  rw [hsz]
  refine wpAny_bind (wpAny_holding (wpAny_call_entry_kw slot_list_sort ⟨_, PySem.W.copyHeap_at s.heap us, rfl⟩ entry_list_sort ?body (args_list_sort _)))
  case body =>
    show wpAny (model prog w) A.in1.in1 (Builtin.«list.sort» ⟨[.ref (s.heap.objs.size + 1)], []⟩) _ _ _
    refine wpAny_mono (body _) (fun f s' hf => ?_) fun _ _ e => e
    obtain ⟨rfl, hq⟩ := hf
    exact ⟨_, rfl, wpAny_pure ⟨_, rfl, hq⟩⟩
theorem sortedT_data {β : Type} {us : List Value} {bs : List β} {enc : β → PyData} {R : Value → β → Prop} {a : Addr} {Q : Value → Shared → Prop} (hT : IsTup s.heap a us.toArray) (e : PySem.W.EachIs R us bs) (er : PySem.W.EachIs (fun v b => ∃ as, Reads s.heap v (enc b) as) us bs)
    (hal : PySem.W.AllAlike (bs.map enc)) (hk : PySem.W.Sortable (bs.map enc)) (hL : bs.length ≤ sizeLine) (hu : ∀ b, b ∈ bs → A.units + 2 + (enc b).depth < cLine)
    (h : ∀ out, out.length = bs.length → PySem.W.EachIs R out (bs.mergeSort (PySem.W.dataLe false enc)) → Q (.ref (s.heap.objs.size + 1)) { s with heap := sortedAll s.heap us (List.toArray out) }) :
    wpAny (model prog w) A (call (.builtin "sorted") [.ref a] []) Q E s := by
  have er' : PySem.W.EachIs (fun v b => ∃ as, Reads (PySem.W.sortingHeap (PySem.W.copyHeap s.heap us) (s.heap.objs.size + 1) us) v (enc b) as) us bs := er.mono fun _ _ ⟨as, r⟩ => ⟨as, PyProof.Rows.Reads.keeps (fun _ _ => PySem.W.sorting_copy_old) r⟩
  have hl : us.length ≤ sizeLine := by rw [e.length]; exact hL
  refine sortedT_of hT hl fun E' => ?_
  have S := PySem.W.SortsAt.data (prog := prog) (w := w) (A := A.in1.in1) (s := { s with heap := PySem.W.sortingHeap (PySem.W.copyHeap s.heap us) (s.heap.objs.size + 1) us }) (PySem.W.each_map (R := fun v d => ∃ as, Reads (PySem.W.sortingHeap (PySem.W.copyHeap s.heap us) (s.heap.objs.size + 1) us) v d as) enc er') hal hk (PySem.W.bound_map hu)
  exact PySem.W.list_sort_vals (s := { s with heap := PySem.W.copyHeap s.heap us }) (PySem.W.copyHeap_at s.heap us) S hl ⟨rfl, h _ (by rw [PySem.W.sortVals_length false rfl]; exact e.length) (PySem.W.sortVals_data false e er' hal)⟩
end
/-- sorted of a list or of a tuple -/
def sortX : List D → Option (List D)
  | [.lst ds] => if sortB ds = true then some (sortL ds) else none
  | [.tup ds] => if sortB ds = true then some (sortL ds) else none
  | _ => none
def rSortX (K : PySem.W.Frag) : List V → Hp → VK → Prop := fun vs H Q => rSortA K vs H Q ∨ ∃ (a : Addr) (xs : List V) (ds : List D), vs = [V.ref a] ∧ SqT K H a xs ∧ ds.length = xs.length ∧ DpAll K H xs (toPs ds) ∧ sortB ds = true ∧
  ∀ (zs : List (V × D)) (p : Addr), zs.Perm (xs.zip ds) → zs.map Prod.snd = sortL ds → H p = none → Q (.ref p) (L2.upd H p (.lst (zs.map Prod.fst)))
theorem c_sortedX {X : Cx} {K : PySem.W.Frag} (hk : X.K = K) (hu : X.A.units + 200 < cLine) : CallR X (.builtin "sorted") (rSortX K) := by
  intro pins s σ H vs us Q I r h
  rcases h with h | h
  · exact c_sorted hk hu pins s σ H vs us Q I r h
  subst hk
  obtain ⟨a, xs, ds, rfl, hs, hlen, hd, hb, q⟩ := h
  obtain ⟨its, rv, hl, hz⟩ := I.tuple hs
  rw [Vals.ref1 r]
  unfold sortB at hb
  simp only [Bool.and_eq_true, Bool.or_eq_true, List.all_eq_true] at hb
  obtain ⟨hc, ht⟩ := hb
  obtain ⟨m1, m2⟩ := allCmp_mem hc
  obtain ⟨as, ra⟩ := Dp.readsAll I (toPs ds) xs its hd rv
  have hlv := rv.length
  have henc : (xs.zip ds).map (fun z : V × D => toP z.2) = ds.map toP := by
    have : (xs.zip ds).map Prod.snd = ds := List.map_snd_zip (by omega)
    show (xs.zip ds).map (toP ∘ Prod.snd) = _
    rw [← List.map_map, this]
  have hal : PySem.W.AllAlike ((xs.zip ds).map fun z : V × D => toP z.2) := by
    rw [henc]
    intro d hd d' hd'
    obtain ⟨x, hx, rfl⟩ := List.mem_map.mp hd
    obtain ⟨y, hy, rfl⟩ := List.mem_map.mp hd'
    exact m2 x hx y hy
  have hsort : PySem.W.Sortable ((xs.zip ds).map fun z : V × D => toP z.2) := by
    rw [henc]
    rcases ht with ht | ht
    · refine .inl fun d hd => ?_
      obtain ⟨x, hx, rfl⟩ := List.mem_map.mp hd
      have := ht x hx
      cases x <;> first | (cases this; done) | skip
      rename_i l
      cases l with
      | nil => cases this
      | cons y ys => exact ⟨toP y, toPs ys, by simp [toP, toPs]⟩
    · refine .inr fun d hd => ?_
      obtain ⟨x, hx, rfl⟩ := List.mem_map.mp hd
      have h1 := ht x hx
      have h2 := (m1 x hx).2.2
      cases x <;> simp [notTup, isNonD, toP] at h1 h2 ⊢
  have hread : PySem.W.EachIs (fun v (z : V × D) => ∃ as, Reads s.heap v (toP z.2) as) its (xs.zip ds) := each_zip hlv.symm hlen fun i u x d h1 h2 h3 => by
    obtain ⟨d', bs, e1, e2⟩ := readsAll_get ra h1
    rw [toPs_eq, List.getElem?_map, h3] at e1
    cases e1
    exact ⟨bs, e2⟩
  refine sortedT_data (R := fun u z => L2.RelV z.1 u) (enc := fun z : V × D => toP z.2) (us := its) (bs := xs.zip ds) hl (each_zip hlv.symm hlen fun i u x d h1 h2 h3 => ?_) hread hal hsort (by simp; omega) (fun b hb => ?_) fun out ho eo => ?_
  · obtain ⟨u', e1, e2⟩ := rv.get h2
    rw [h1] at e1; cases e1
    exact e2
  · have hbm := (List.of_mem_zip (show (b.1, b.2) ∈ xs.zip ds from hb)).2
    have := SeqAt.depth_of_shaped (m1 _ hbm).2.1
    omega
  · obtain ⟨n, hn⟩ := sortedAll_at s.heap its out.toArray
    have hperm : ((xs.zip ds).mergeSort (PySem.W.dataLe false fun z : V × D => toP z.2)).Perm (xs.zip ds) := List.mergeSort_perm _ _
    refine ⟨.ref _, _, I.laid (t' := s.toks) (o := .lst (((xs.zip ds).mergeSort (PySem.W.dataLe false fun z : V × D => toP z.2)).map Prod.fst)) (fun b ob q => sortedAll_old q) (Nat.le_succ _) ⟨?_, out, n, each_vals eo, hn⟩, rfl, q _ _ hperm ?_ (I.hok.fresh (Nat.le_succ _))⟩
    · rw [List.length_map, hperm.length_eq, List.length_zip]; omega
    · have hsnd : (xs.zip ds).map Prod.snd = ds := List.map_snd_zip (by omega)
      rw [List.map_mergeSort (r := PySem.W.dataLe false fun z : V × D => toP z.2) (s := fun x y => !PySem.W.dataLt (toP y) (toP x)) (f := Prod.snd) (fun a _ b _ => rfl), hsnd]
      rfl
theorem v_sortedX {K : PySem.W.Frag} : VLO K (rSortX K) sortX := fun pd F H xs ds vs fh r e Q q => by
  match xs, e with
  | [.lst as], e => exact .inl (v_sorted pd F H [.lst as] ds vs fh r e Q q)
  | [.tup as], e =>
    refine .inr ?_
    simp only [sortX] at e
    split at e
    · rename_i hb
      cases e
      obtain ⟨v, rfl, rb⟩ := r.one
      have hcl : cleanL as = true := by
        unfold sortB at hb
        simp only [Bool.and_eq_true] at hb
        exact cleanL_all.mpr fun z hz => ((allCmp_mem hb.1).1 z hz).1
      obtain ⟨a, ys, rfl, h3, h3', hl, h4⟩ := rb.tup fh
      refine ⟨a, ys, as, rfl, h3, h4.length.symm, RepL.dp fh hcl h4, hb, fun zs p hp hs n => ?_⟩
      refine q p _ F _ (Ext.own fh n) n (nF_of fh n) upd_same ?_ ?_
      · have : (sortL as).length = as.length := List.length_mergeSort _
        rw [this]; exact hl
      · rw [← hs]
        exact rep_unzip fun z hz => rep_zip h4 z (hp.mem_iff.mp hz)
    · cases e
end Pu
namespace Pu
open PySem PySem.Spec PyProof.Rows L2
/-! ### x.insert(k, e) -/
def sIns (i : Nat) (fk f : EF) : SF := fun ρ => Mb (fk ρ) fun k => Mb (f ρ) fun d => onOw ρ[i]? fun ds => onInt k fun k => if 0 ≤ k ∧ k ≤ (ds.length : Int) ∧ ds.length < SZ then Mp (.nx, ρ.set i (.ow (ds.take k.toNat ++ d :: ds.drop k.toNat))) else Mf
section
variable {ι : Type} {X : ι → Cx} {P : Program} {w : World} {K : PySem.W.Frag} {mg : Str → Option Value} {base : Heap} {N : List Str} {lv : Nat} {pos cpos apos : Pos} {e ek : Expr} {f fk : EF}
theorem cIns (C : Fam X P w K mg base N lv) (i : Nat) {x : Str} {p2 : Pos} (hk : CE X K ek fk) (h : CE X K e f) (hN : N[i]? = some x := by rfl)
    (hv : ∀ j, Vis (X j).env.scope x := by intro _; first | exact Or.inl rfl | exact Or.inr (Or.inl rfl) | exact Or.inr (Or.inr rfl))
    (hd : (x == ("__debug__" : Str)) = false := by decide) (hcd : (x == ("__classdict__" : Str)) = false := by decide)
    (hbase : ∀ j, attributeBase (.Name x p2) "insert" (X j).env (eval (.Name x p2) (X j).env) = eval (.Name x p2) (X j).env := by intro _; rfl)
    (hfew : ∀ j, ((backTo cpos (starEach [ek, e] (X j).env)).all (fun x => !x.1) && (backToKw cpos (keywordEach [] (X j).env)).all (fun x => x.1.isSome)
      && decide (([ek, e] : List Expr).length + ([] : List Keyword).length + (if ([] : List Keyword).isEmpty then 0 else 1) < 30)) = true := by intro _; rfl)
    (hline : (apos.endLine == cpos.line) = true := by rfl) (hs : ∀ j, starEach [ek, e] (X j).env = (false, eval ek (X j).env) :: starEach [e] (X j).env := by intro _; rfl)
    (hs2 : ∀ j, starEach [e] (X j).env = (false, eval e (X j).env) :: starEach [] (X j).env := by intro _; rfl) (hplain : ∀ j, (backTo cpos (starEach [e] (X j).env)).any (·.1) = false := by intro _; rfl)
    (hsw : ∀ j, swapsWith (.Call (.Attribute (.Name x p2) "insert" apos) [ek, e] [] cpos) none pos.line (X j).env = pure false := by intro _; rfl) :
    CS X K (.Expr (.Call (.Attribute (.Name x p2) "insert" apos) [ek, e] [] cpos) pos) (sIns i fk f) := by
  obtain ⟨tk, k1, k2⟩ := hk
  obtain ⟨t, h1, h2⟩ := h
  refine ⟨tDrop (tBM K "list" _ (tVar i) (tCons tk (tCons t tNil))), fun j => ps_expr (by
    have := pe_bm (X := X j) (cpos := cpos) (apos := apos) PySem.F.plainAttrs_list PySem.F.slot_list_insert PySem.F.type_list_insert mt_insert (pe_var (pos := p2) (by rw [C.n j]; exact hN) (hv j) hd hcd) (pa_cons (k1 j) (pa_cons (h1 j) pa_nil (hs2 j)) (hs j)) (hbase j) (hfew j) hline (hs j) (hplain j)
    rw [C.k j] at this
    exact this) (hsw j), ?_⟩
  intro pd F0 H0 F H ρ σ s r' ρ' s' o e E q
  obtain ⟨kd, s1, e1, e⟩ := Mb_eq e
  obtain ⟨d, s2, e2, e⟩ := Mb_eq e
  obtain ⟨es, hes, e⟩ := onOw_eq e
  obtain ⟨k, rfl, e⟩ := onInt_eq e
  by_cases hk : 0 ≤ k ∧ k ≤ (es.length : Int) ∧ es.length < SZ
  · have e' : (if 0 ≤ k ∧ k ≤ (es.length : Int) ∧ es.length < SZ then Mp (.nx, ρ.set i (.ow (es.take k.toNat ++ d :: es.drop k.toNat))) else Mf : M (Res × Rho)) s2 = some ((r', ρ'), s') := e
    rw [if_pos hk] at e'
    obtain ⟨a, rfl⟩ := Mp_eq e'
    clear e e'
    cases a
    obtain ⟨z, a1, p, xs, rfl, a2, a3, a4, a5, a6, a7⟩ := o.env.at' i _ hes
    refine ⟨.ref p, a1, .inl ⟨rfl, xs, .of a5⟩, k2 pd F0 H0 F H _ σ s _ _ o e1 _ fun kv F1 H1 x1 d1 r1 => ?_⟩
    have o1 := o.step x1 d1
    refine h2 pd F0 H0 F1 H1 _ σ s1 d _ o1 e2 _ fun v F2 H2 x2 d2 r2 => ?_
    have o2 := o1.step x2 d2
    simp only [Rep] at r1
    subst r1
    have a7' := (a7.mono x1.ff).mono x2.ff
    have hl := a7'.length
    have hh := x2.hh _ _ (x1.hh _ _ a5 a4) a4
    have hSZ : SZ = 16777216 := by decide
    have e3 : xs.take k.toNat ++ [v] ++ xs.drop k.toNat = xs.take k.toNat ++ (v :: xs.drop k.toNat) := by simp
    refine ⟨p, xs, k, v, rfl, rfl, hh, by rw [hl]; exact hk.2.2, hk.1, by omega, ?_⟩
    rw [e3]
    refine q σ F2 _ (x1.ff.trans x2.ff) (o2.upd hes a1 ?_ ((a7'.take _).append (.cons r2 (a7'.drop _))))
    simp
    omega
  · have e' : (if 0 ≤ k ∧ k ≤ (es.length : Int) ∧ es.length < SZ then Mp (.nx, ρ.set i (.ow (es.take k.toNat ++ d :: es.drop k.toNat))) else Mf : M (Res × Rho)) s2 = some ((r', ρ'), s') := e
    rw [if_neg hk] at e'
    cases e'
end
/-! ### a dict of texts, never changed -/
def valD : List Key → List D → Key → Option D
  | k :: ks, d :: ds, x => if k = x then some d else valD ks ds x
  | _, _, _ => none
def dixD : D → D → Option D
  | .dic ks ds, .str x => valD ks ds (.inr x)
  | .dic ks ds, .int x => valD ks ds (.inl x)
  | _, _ => none
theorem valD_rep {K : PySem.W.Frag} {pd : Option PD} {F : Hp} {x : Key} : ∀ {ds : List D} {xs : List (Key × V)} {d : D}, RepL K pd F ds (xs.map Prod.snd) → valD (xs.map Prod.fst) ds x = some d → ∃ v, valV xs x = some v ∧ Rep K pd F d v
  | [], xs, d, h, e => by cases xs <;> simp [valD] at e
  | c :: ds, [], d, h, e => by simp [valD] at e
  | c :: ds, p :: xs, d, h, e => by
    obtain ⟨y, ys, h0, h1, h2⟩ := h.cases
    simp only [List.map_cons, List.cons.injEq] at h0
    obtain ⟨rfl, rfl⟩ := h0
    simp only [List.map_cons, valD] at e
    by_cases hp : p.1 = x
    · rw [if_pos hp] at e
      cases e
      exact ⟨p.2, valV_pos hp, h1⟩
    · rw [if_neg hp] at e
      obtain ⟨v, e1, e2⟩ := valD_rep h2 e
      exact ⟨v, by rw [valV_neg hp]; exact e1, e2⟩
section
variable {ι : Type} {X : ι → Cx} {P : Program} {w : World} {K : PySem.W.Frag} {mg : Str → Option Value} {base : Heap} {N : List Str} {lv : Nat} {pos : Pos} {a b : Expr} {fa fb : EF}
theorem cDGet (C : Fam X P w K mg base N lv) (ha : CE X K a fa) (hb : CE X K b fb) (hs : NoSl b := by intro _ _; rfl) : CE X K (.Subscript a b pos) (x2 dixD fa fb) := by
  obtain ⟨ta, a1, a2⟩ := ha
  obtain ⟨tb, b1, b2⟩ := hb
  refine ⟨tDGet ta tb, fun i => pe_dget (by have := roomU (C.r i); omega) (a1 i) (b1 i) hs, fun pd F0 H0 F H ρ σ s d s' o e Q q => ?_⟩
  obtain ⟨x, s1, e1, e⟩ := Mb_eq e
  obtain ⟨y, s2, e2, e⟩ := Mb_eq e
  obtain ⟨e3, rfl⟩ := Mo_eq e
  refine a2 pd F0 H0 F H ρ σ s x s1 o e1 _ fun v F1 H1 x1 d1 r1 => ?_
  have o1 := o.step x1 d1
  refine b2 pd F0 H0 F1 H1 ρ σ s1 y s2 o1 e2 _ fun u F2 H2 x2 d2 r2 => ?_
  have o2 := o1.step x2 d2
  cases x <;> first | (cases e3; done) | skip
  rename_i ks ds
  simp only [Rep] at r1
  obtain ⟨p, xs, rfl, h1, rfl, hl, h2⟩ := r1
  have hF2 := x2.ff _ _ h1
  have hH2 := o2.fh _ _ hF2
  cases y <;> first | (cases e3; done) | skip
  · rename_i j
    simp only [Rep] at r2
    subst r2
    obtain ⟨v, v1, v2⟩ := valD_rep (h2.mono x2.ff) e3
    exact ⟨p, v, rfl, .inl ⟨xs, .inl j, .inl hH2, rfl, v1.symm⟩, q v F2 H2 (x1.trans x2) d2 v2⟩
  · rename_i j
    simp only [Rep] at r2
    subst r2
    obtain ⟨v, v1, v2⟩ := valD_rep (h2.mono x2.ff) e3
    exact ⟨p, v, rfl, .inl ⟨xs, .inr j, .inl hH2, rfl, v1.symm⟩, q v F2 H2 (x1.trans x2) d2 v2⟩
/-- the pairs of a display of texts -/
def CDp (X : ι → Cx) (pos : Pos) (keys : List (Option Expr)) (values : List Expr) (kvs : List (Key × V)) : Prop :=
  ∃ trs, (∀ i, PPs (X i) pos keys values trs) ∧ ∀ (σ : L2.St) (H : Hp) (Q : List (V × V) → Hp → Prop), Q (kvs.map fun kv => (kV kv.1, kv.2)) H → tPairs trs σ H Q
theorem cdNil {pos : Pos} : CDp X pos [] [] [] := ⟨[], fun i => pps_nil, fun _ _ _ h => h⟩
theorem cdCons {pos p1 p2 : Pos} {k v : Str} {kd1 kd2} {keys : List (Option Expr)} {values : List Expr} {kvs : List (Key × V)} (h : CDp X pos keys values kvs) :
    CDp X pos (some (.Constant (.str k) kd1 p1) :: keys) (.Constant (.str v) kd2 p2 :: values) ((.inr k, .str v) :: kvs) := by
  obtain ⟨trs, h1, h2⟩ := h
  exact ⟨(tC (.str k), tC (.str v)) :: trs, fun i => pps_cons pe_str pe_str (h1 i), fun σ H Q q => h2 σ H _ q⟩
theorem repL_strs {K : PySem.W.Frag} {pd : Option PD} {F : Hp} : ∀ ss : List Str, RepL K pd F (ss.map D.str) (ss.map V.str)
  | [] => .nil
  | x :: ss => .cons (by simp [Rep]) (repL_strs ss)
theorem cDisp (C : Fam X P w K mg base N lv) {keys : List (Option Expr)} {values : List Expr} {kvs : List (Key × V)} {ks : List Key} {ds : List D} (h : CDp X pos keys values kvs) (hm : mergeK [] kvs = kvs) (hk : kvs.map Prod.fst = ks)
    (hd : ∀ (pd : Option PD) (F : Hp), RepL K pd F ds (kvs.map Prod.snd)) (hall : keys.all (·.isSome) = true := by rfl) (hl : keys.length = values.length := by rfl) (h0 : keys ≠ [] := by simp) (h15 : keys.length ≤ 15 := by decide) (h15' : kvs.length ≤ 15 := by decide) (hds : ds.length ≤ 15 := by decide) :
    CE X K (.Dict keys values pos) (xC (.dic ks ds)) := by
  obtain ⟨trs, h1, h2⟩ := h
  refine ⟨tDisp trs, fun i => pe_disp (h1 i) hall hl h0 h15, fun pd F0 H0 F H ρ σ s d s' o e Q q => ?_⟩
  obtain ⟨rfl, rfl⟩ := Mp_eq e
  intro p hp
  refine h2 σ _ _ ⟨upd_same, kvs, rfl, h15', ?_⟩
  rw [hm, upd_upd]
  have x := Ext.new (o := .dK kvs) o.fh hp
  refine q _ _ _ x.lift (o.dok.grow x) ?_
  simp only [Rep]
  have hSZ : SZ = 16777216 := by decide
  exact ⟨p, kvs, rfl, upd_same, hk, by omega, hd _ _⟩
end
@[simp] theorem w_sIns {QS : Res × Rho → DS → Prop} {ρ : Rho} {s : DS} (i : Nat) (fk f : EF) : wp (sIns i fk f ρ) s QS ↔ wp (fk ρ) s fun kd s1 => wp (f ρ) s1 fun d s2 => ∃ ds, ρ[i]? = some (.ow ds) ∧ ∃ k, kd = .int k ∧ (0 ≤ k ∧ k ≤ (ds.length : Int) ∧ ds.length < SZ) ∧
    QS (.nx, ρ.set i (.ow (ds.take k.toNat ++ d :: ds.drop k.toNat))) s2 := by
  unfold sIns
  simp only [wp_Mb, wp_onOw, wp_onInt, wp_ite, wp_Mp, wp_Mf, ite_F]
end Pu
set_option maxHeartbeats 4000000
namespace Lw
open PySem PySem.Spec PyProof.Rows L2 Pu
def topS (i : Nat) : Stmt := PySem.Challenge.pw_marketguild_k70_whole_claims_together.main.body.getD i (.Pass ⟨0, 0, 0, 0⟩)
def c_ZERO : D := (.tup [(.int 0), (.int 1)])
def c_MOST_CLAIMS : D := (.int 6)
section
variable {P : Program} {w : World} {K : PySem.W.Frag} {mg : Str → Option Value} {base : Heap}
abbrev s_fraction : Stmt := topS 7
theorem sc_fraction : FnScope ["numerator", "denominator", "common"] ["numerator", "denominator"] (defScope s_fraction) := ⟨rfl, rfl, rfl, by decide +kernel, rfl, by decide +kernel, by decide +kernel⟩
def g_fraction : SF := sSeq (sIf (tV (x2 eqD (xNm 1) (xC (.int 0)))) (sFail) (sNext)) (sSeq (sIf (tV (x2 ltA (xNm 1) (xC (.int 0)))) (sSeq (sSet 0 (x1 negD (xNm 0))) (sSet 1 (x1 negD (xNm 1)))) (sNext)) (sSeq (sSet 2 (xL gcdD (aC (xNm 0) (aC (xNm 1) (aN))))) (sRet (xTup (aC (x2 divD (xNm 0) (xNm 2)) (aC (x2 divD (xNm 1) (xNm 2)) (aN)))))))
def m_fraction : List D → M D := runDef 3 2 g_fraction
theorem ok_fraction (B : Bi mg) (h_gcd : mg "gcd" = some (.builtin "math.gcd")) {f : Addr} {fd : FuncData} (F : FnP K "fraction" s_fraction f fd) (hm : mg "fraction" = some (.ref f)) (hb : Binds K fd ["numerator", "denominator"] []) : DefOk P w K mg base "fraction" 1 ["numerator", "denominator"] m_fraction :=
  have C := Fam.ent (P := P) (w := w) (K := K) (mg := mg) (base := base) (N := ["numerator", "denominator", "common"]) (k := 0) (qual := "fraction") (scope := defScope s_fraction) (f := f) sc_fraction.nd
  def_ok F sc_fraction (show CSs _ K (defBody s_fraction) g_fraction from ssCons (cIfS (tCmp (fun i => op_eqA (C.k i) (roomU (C.r i))) v_eq (cNm C 1) (CE.brw (cInt)) (nomark _)) (ssOne (cNever)) (ssNil)) (ssCons (cIfS (tCmp (fun i => op_ltA (C.k i) (roomU (C.r i))) v_ltA (cNm C 1) (CE.brw (cInt)) (nomark _)) (ssCons (cSet C 0 (cUn (fun _ => un_neg) v_neg (cNm C 0))) (ssOne (cSet C 1 (cUn (fun _ => un_neg) v_neg (cNm C 1))))) (ssNil)) (ssCons (cSet C 2 (cCallBf C (fun _ => cr_gcd) v_gcd h_gcd (cbCons (cNm C 0) (cbCons (cNm C 1) (cbNil))))) (ssOne (cRet (cTup (caCons (cBin (fun _ => op_fdivW) v_div (cNm C 0) (cNm C 2)) (caCons (cBin (fun _ => op_fdivW) v_div (cNm C 1) (cNm C 2)) (caNil))))))))) hm hb 3 2
abbrev s_plus : Stmt := topS 8
theorem sc_plus : FnScope ["a", "b"] ["a", "b"] (defScope s_plus) := ⟨rfl, rfl, rfl, by decide +kernel, rfl, by decide +kernel, by decide +kernel⟩
def g_plus : SF := sRet (xCall m_fraction (aC (x2 addD (x2 mulD (x2 ixD (xNm 0) (xC (.int 0))) (x2 ixD (xNm 1) (xC (.int 1)))) (x2 mulD (x2 ixD (xNm 1) (xC (.int 0))) (x2 ixD (xNm 0) (xC (.int 1))))) (aC (x2 mulD (x2 ixD (xNm 0) (xC (.int 1))) (x2 ixD (xNm 1) (xC (.int 1)))) (aN))))
def m_plus : List D → M D := runDef 2 2 g_plus
theorem ok_plus (B : Bi mg) (d_fraction : DefOk P w K mg base "fraction" 1 ["numerator", "denominator"] m_fraction) {f : Addr} {fd : FuncData} (F : FnP K "plus" s_plus f fd) (hm : mg "plus" = some (.ref f)) (hb : Binds K fd ["a", "b"] []) : DefOk P w K mg base "plus" 2 ["a", "b"] m_plus :=
  have C := Fam.ent (P := P) (w := w) (K := K) (mg := mg) (base := base) (N := ["a", "b"]) (k := 1) (qual := "plus") (scope := defScope s_plus) (f := f) sc_plus.nd
  def_ok F sc_plus (show CSs _ K (defBody s_plus) g_plus from ssOne (cRet (cCall C d_fraction (by decide) (caCons (cBin (fun i => op_addAll (C.k i)) v_add (CE.brw (cBin (fun _ => op_mulW) v_mul (CE.brw (cIx (fun i => ix_both (C.k i)) v_ix (cNm C 0) (CE.brw (cInt)) (fun _ _ => rfl))) (CE.brw (cIx (fun i => ix_both (C.k i)) v_ix (cNm C 1) (CE.brw (cInt)) (fun _ _ => rfl))))) (CE.brw (cBin (fun _ => op_mulW) v_mul (CE.brw (cIx (fun i => ix_both (C.k i)) v_ix (cNm C 1) (CE.brw (cInt)) (fun _ _ => rfl))) (CE.brw (cIx (fun i => ix_both (C.k i)) v_ix (cNm C 0) (CE.brw (cInt)) (fun _ _ => rfl)))))) (caCons (cBin (fun _ => op_mulW) v_mul (CE.brw (cIx (fun i => ix_both (C.k i)) v_ix (cNm C 0) (CE.brw (cInt)) (fun _ _ => rfl))) (CE.brw (cIx (fun i => ix_both (C.k i)) v_ix (cNm C 1) (CE.brw (cInt)) (fun _ _ => rfl)))) (caNil)))))) hm hb 2 2
abbrev s_minus : Stmt := topS 9
theorem sc_minus : FnScope ["a", "b"] ["a", "b"] (defScope s_minus) := ⟨rfl, rfl, rfl, by decide +kernel, rfl, by decide +kernel, by decide +kernel⟩
def g_minus : SF := sRet (xCall m_fraction (aC (x2 subD (x2 mulD (x2 ixD (xNm 0) (xC (.int 0))) (x2 ixD (xNm 1) (xC (.int 1)))) (x2 mulD (x2 ixD (xNm 1) (xC (.int 0))) (x2 ixD (xNm 0) (xC (.int 1))))) (aC (x2 mulD (x2 ixD (xNm 0) (xC (.int 1))) (x2 ixD (xNm 1) (xC (.int 1)))) (aN))))
def m_minus : List D → M D := runDef 2 2 g_minus
theorem ok_minus (B : Bi mg) (d_fraction : DefOk P w K mg base "fraction" 1 ["numerator", "denominator"] m_fraction) {f : Addr} {fd : FuncData} (F : FnP K "minus" s_minus f fd) (hm : mg "minus" = some (.ref f)) (hb : Binds K fd ["a", "b"] []) : DefOk P w K mg base "minus" 2 ["a", "b"] m_minus :=
  have C := Fam.ent (P := P) (w := w) (K := K) (mg := mg) (base := base) (N := ["a", "b"]) (k := 1) (qual := "minus") (scope := defScope s_minus) (f := f) sc_minus.nd
  def_ok F sc_minus (show CSs _ K (defBody s_minus) g_minus from ssOne (cRet (cCall C d_fraction (by decide) (caCons (cBin (fun _ => op_sub) v_sub (CE.brw (cBin (fun _ => op_mulW) v_mul (CE.brw (cIx (fun i => ix_both (C.k i)) v_ix (cNm C 0) (CE.brw (cInt)) (fun _ _ => rfl))) (CE.brw (cIx (fun i => ix_both (C.k i)) v_ix (cNm C 1) (CE.brw (cInt)) (fun _ _ => rfl))))) (CE.brw (cBin (fun _ => op_mulW) v_mul (CE.brw (cIx (fun i => ix_both (C.k i)) v_ix (cNm C 1) (CE.brw (cInt)) (fun _ _ => rfl))) (CE.brw (cIx (fun i => ix_both (C.k i)) v_ix (cNm C 0) (CE.brw (cInt)) (fun _ _ => rfl)))))) (caCons (cBin (fun _ => op_mulW) v_mul (CE.brw (cIx (fun i => ix_both (C.k i)) v_ix (cNm C 0) (CE.brw (cInt)) (fun _ _ => rfl))) (CE.brw (cIx (fun i => ix_both (C.k i)) v_ix (cNm C 1) (CE.brw (cInt)) (fun _ _ => rfl)))) (caNil)))))) hm hb 2 2
abbrev s_over : Stmt := topS 10
theorem sc_over : FnScope ["a", "b"] ["a", "b"] (defScope s_over) := ⟨rfl, rfl, rfl, by decide +kernel, rfl, by decide +kernel, by decide +kernel⟩
def g_over : SF := sRet (xCall m_fraction (aC (x2 mulD (x2 ixD (xNm 0) (xC (.int 0))) (x2 ixD (xNm 1) (xC (.int 1)))) (aC (x2 mulD (x2 ixD (xNm 0) (xC (.int 1))) (x2 ixD (xNm 1) (xC (.int 0)))) (aN))))
def m_over : List D → M D := runDef 2 2 g_over
theorem ok_over (B : Bi mg) (d_fraction : DefOk P w K mg base "fraction" 1 ["numerator", "denominator"] m_fraction) {f : Addr} {fd : FuncData} (F : FnP K "over" s_over f fd) (hm : mg "over" = some (.ref f)) (hb : Binds K fd ["a", "b"] []) : DefOk P w K mg base "over" 2 ["a", "b"] m_over :=
  have C := Fam.ent (P := P) (w := w) (K := K) (mg := mg) (base := base) (N := ["a", "b"]) (k := 1) (qual := "over") (scope := defScope s_over) (f := f) sc_over.nd
  def_ok F sc_over (show CSs _ K (defBody s_over) g_over from ssOne (cRet (cCall C d_fraction (by decide) (caCons (cBin (fun _ => op_mulW) v_mul (CE.brw (cIx (fun i => ix_both (C.k i)) v_ix (cNm C 0) (CE.brw (cInt)) (fun _ _ => rfl))) (CE.brw (cIx (fun i => ix_both (C.k i)) v_ix (cNm C 1) (CE.brw (cInt)) (fun _ _ => rfl)))) (caCons (cBin (fun _ => op_mulW) v_mul (CE.brw (cIx (fun i => ix_both (C.k i)) v_ix (cNm C 0) (CE.brw (cInt)) (fun _ _ => rfl))) (CE.brw (cIx (fun i => ix_both (C.k i)) v_ix (cNm C 1) (CE.brw (cInt)) (fun _ _ => rfl)))) (caNil)))))) hm hb 2 2
abbrev s_compare : Stmt := topS 11
theorem sc_compare : FnScope ["a", "b", "left", "right"] ["a", "b"] (defScope s_compare) := ⟨rfl, rfl, rfl, by decide +kernel, rfl, by decide +kernel, by decide +kernel⟩
def g_compare : SF := sSeq (sSet 2 (x2 mulD (x2 ixD (xNm 0) (xC (.int 0))) (x2 ixD (xNm 1) (xC (.int 1))))) (sSeq (sSet 3 (x2 mulD (x2 ixD (xNm 1) (xC (.int 0))) (x2 ixD (xNm 0) (xC (.int 1))))) (sSeq (sIf (tV (x2 ltA (xNm 2) (xNm 3))) (sRet (x1 negD (xC (.int 1)))) (sNext)) (sSeq (sIf (tV (x2 gtA (xNm 2) (xNm 3))) (sRet (xC (.int 1))) (sNext)) (sRet (xC (.int 0))))))
def m_compare : List D → M D := runDef 4 2 g_compare
theorem ok_compare (B : Bi mg)  {f : Addr} {fd : FuncData} (F : FnP K "compare" s_compare f fd) (hm : mg "compare" = some (.ref f)) (hb : Binds K fd ["a", "b"] []) : DefOk P w K mg base "compare" 1 ["a", "b"] m_compare :=
  have C := Fam.ent (P := P) (w := w) (K := K) (mg := mg) (base := base) (N := ["a", "b", "left", "right"]) (k := 0) (qual := "compare") (scope := defScope s_compare) (f := f) sc_compare.nd
  def_ok F sc_compare (show CSs _ K (defBody s_compare) g_compare from ssCons (cSet C 2 (cBin (fun _ => op_mulW) v_mul (CE.brw (cIx (fun i => ix_both (C.k i)) v_ix (cNm C 0) (CE.brw (cInt)) (fun _ _ => rfl))) (CE.brw (cIx (fun i => ix_both (C.k i)) v_ix (cNm C 1) (CE.brw (cInt)) (fun _ _ => rfl))))) (ssCons (cSet C 3 (cBin (fun _ => op_mulW) v_mul (CE.brw (cIx (fun i => ix_both (C.k i)) v_ix (cNm C 1) (CE.brw (cInt)) (fun _ _ => rfl))) (CE.brw (cIx (fun i => ix_both (C.k i)) v_ix (cNm C 0) (CE.brw (cInt)) (fun _ _ => rfl))))) (ssCons (cIfS (tCmp (fun i => op_ltA (C.k i) (roomU (C.r i))) v_ltA (cNm C 2) (cNm C 3) (nomark _)) (ssOne (cRet (cUn (fun _ => un_neg) v_neg (CE.brw (cInt))))) (ssNil)) (ssCons (cIfS (tCmp (fun i => op_gtA (C.k i) (roomU (C.r i))) v_gtA (cNm C 2) (cNm C 3) (nomark _)) (ssOne (cRet (cInt))) (ssNil)) (ssOne (cRet (cInt))))))) hm hb 4 2
abbrev s_total : Stmt := topS 12
theorem sc_total : FnScope ["items", "result", "item"] ["items"] (defScope s_total) := ⟨rfl, rfl, rfl, by decide +kernel, rfl, by decide +kernel, by decide +kernel⟩
def g_total : SF := sSeq (sSet 1 (xC c_ZERO)) (sSeq (sFor (iSq (xSh 0)) (gNm 2) (sSet 1 (xCall m_plus (aC (xSh 1) (aC (xSh 2) (aN)))))) (sRet (xSh 1)))
def m_total : List D → M D := runDef 3 1 g_total
theorem ok_total (B : Bi mg) (k_ZERO : CstOk mg "ZERO" c_ZERO K) (d_plus : DefOk P w K mg base "plus" 2 ["a", "b"] m_plus) {f : Addr} {fd : FuncData} (F : FnP K "total" s_total f fd) (hm : mg "total" = some (.ref f)) (hb : Binds K fd ["items"] []) : DefOk P w K mg base "total" 3 ["items"] m_total :=
  have C := Fam.ent (P := P) (w := w) (K := K) (mg := mg) (base := base) (N := ["items", "result", "item"]) (k := 2) (qual := "total") (scope := defScope s_total) (f := f) sc_total.nd
  def_ok F sc_total (show CSs _ K (defBody s_total) g_total from ssCons (cSet C 1 (k_ZERO.ce C)) (ssCons (cFor C (fun _ => PassesOwn.never) (iSeqE C (cSh C 0)) (gName' C 2) (ssOne (cSet C 1 (cCall C d_plus (by decide) (caCons (cSh C 1) (caCons (cSh C 2) (caNil))))))) (ssOne (cRet (cSh C 1))))) hm hb 3 1
abbrev s_check_claims : Stmt := topS 15
theorem sc_check_claims : FnScope ["estate", "claims"] ["estate", "claims"] (defScope s_check_claims) := ⟨rfl, rfl, rfl, by decide +kernel, rfl, by decide +kernel, by decide +kernel⟩
def g_check_claims : SF := sSeq (sIf (tNot (tV (xCh leA leA (xC (.int 1)) (xL lenD (aC (xNm 1) (aN))) (xC c_MOST_CLAIMS)))) (sFail) (sNext)) (sSeq (sIf (tV (x2 ltA (xL minD (aC (xNm 1) (aN))) (xC (.int 0)))) (sFail) (sNext)) (sIf (tNot (tV (xCh leA leA (xC (.int 0)) (xNm 0) (xL sumD (aC (xNm 1) (aN)))))) (sFail) (sNext)))
def m_check_claims : List D → M D := runDef 2 2 g_check_claims
theorem ok_check_claims (B : Bi mg) (k_MOST_CLAIMS : CstOk mg "MOST_CLAIMS" c_MOST_CLAIMS K) {f : Addr} {fd : FuncData} (F : FnP K "check_claims" s_check_claims f fd) (hm : mg "check_claims" = some (.ref f)) (hb : Binds K fd ["estate", "claims"] []) : DefOk P w K mg base "check_claims" 1 ["estate", "claims"] m_check_claims :=
  have C := Fam.ent (P := P) (w := w) (K := K) (mg := mg) (base := base) (N := ["estate", "claims"]) (k := 0) (qual := "check_claims") (scope := defScope s_check_claims) (f := f) sc_check_claims.nd
  def_ok F sc_check_claims (show CSs _ K (defBody s_check_claims) g_check_claims from ssCons (cIfS (tNotR (tChainR (fun i => op_leA (C.k i) (roomU (C.r i))) (fun i => op_leA (C.k i) (roomU (C.r i))) v_leA v_leA (CE.brw (cInt)) (CE.brw (cCallB C (fun i => c_len (C.k i)) v_len B.len bt_len (cbCons (cNm C 1) (cbNil)))) (CE.brw (k_MOST_CLAIMS.ce C)))) (ssOne (cNever)) (ssNil)) (ssCons (cIfS (tCmp (fun i => op_ltA (C.k i) (roomU (C.r i))) v_ltA (CE.brw (cCallB C (fun i => c_min (C.k i) (C.c i) (roomU (C.r i))) v_min B.min bt_min (cbCons (cNm C 1) (cbNil)))) (CE.brw (cInt)) (nomark _)) (ssOne (cNever)) (ssNil)) (ssOne (cIfS (tNotR (tChainR (fun i => op_leA (C.k i) (roomU (C.r i))) (fun i => op_leA (C.k i) (roomU (C.r i))) v_leA v_leA (CE.brw (cInt)) (cNm C 0) (CE.brw (cCallB C (fun i => c_sum (C.k i) (C.c i)) v_sum B.sum bt_sum (cbCons (cNm C 1) (cbNil)))))) (ssOne (cNever)) (ssNil))))) hm hb 2 2
abbrev s_by_parts : Stmt := topS 16
theorem sc_by_parts : FnScope ["estate", "claims", "claim"] ["estate", "claims"] (defScope s_by_parts) := ⟨rfl, rfl, rfl, by decide +kernel, rfl, by decide +kernel, by decide +kernel⟩
def g_by_parts : SF := sSeq (sDrop (xCall m_check_claims (aC (xSh 0) (aC (xSh 1) (aN))))) (sSeq (sIf (tV (x2 eqD (xL sumD (aC (xNm 1) (aN))) (xC (.int 0)))) (sRet (x2 repT (xTup (aC (xC c_ZERO) (aN))) (xL lenD (aC (xNm 1) (aN))))) (sNext)) (sRet (xL tupD (aC (xOf (oComp (iSq (xNm 1)) (gNm 2) (tYes') (xCall m_fraction (aC (x2 mulD (xNm 0) (xNm 2)) (aC (xL sumD (aC (xNm 1) (aN))) (aN)))) [2])) (aN)))))
def m_by_parts : List D → M D := runDef 3 2 g_by_parts
theorem ok_by_parts (B : Bi mg) (k_ZERO : CstOk mg "ZERO" c_ZERO K) (d_check_claims : DefOk P w K mg base "check_claims" 1 ["estate", "claims"] m_check_claims) (d_fraction : DefOk P w K mg base "fraction" 1 ["numerator", "denominator"] m_fraction) {f : Addr} {fd : FuncData} (F : FnP K "by_parts" s_by_parts f fd) (hm : mg "by_parts" = some (.ref f)) (hb : Binds K fd ["estate", "claims"] []) : DefOk P w K mg base "by_parts" 2 ["estate", "claims"] m_by_parts :=
  have C := Fam.ent (P := P) (w := w) (K := K) (mg := mg) (base := base) (N := ["estate", "claims", "claim"]) (k := 1) (qual := "by_parts") (scope := defScope s_by_parts) (f := f) sc_by_parts.nd
  def_ok F sc_by_parts (show CSs _ K (defBody s_by_parts) g_by_parts from ssCons (cExpr (cCall C d_check_claims (by decide) (caCons (cSh C 0) (caCons (cSh C 1) (caNil))))) (ssCons (cIfS (tCmp (fun i => op_eqA (C.k i) (roomU (C.r i))) v_eq (CE.brw (cCallB C (fun i => c_sum (C.k i) (C.c i)) v_sum B.sum bt_sum (cbCons (cNm C 1) (cbNil)))) (CE.brw (cInt)) (nomark _)) (ssOne (cRet (cBin (fun i => op_repTA (C.k i)) v_repT (CE.brw (cTup (caCons (k_ZERO.ce C) (caNil)))) (CE.brw (cCallB C (fun i => c_len (C.k i)) v_len B.len bt_len (cbCons (cNm C 1) (cbNil))))))) (ssNil)) (ssOne (cRet (cCallT C (fun i => c_tup (C.k i)) v_tup B.tuple bt_tuple (cbCons (CE.brw (CO.frz (oLc C [("claim", 2)] (iSeqB C (cNm C 1)) (fun _ => blkOk_by (by rw [ent_sc]; decide +kernel)) (gName' (C.blk _) 2) (ctNone) (cCall (C.blk _) d_fraction (by decide) (caCons (cBin (fun _ => op_mulW) v_mul (cNm (C.blk _) 0) (cNm (C.blk _) 2)) (caCons (cCallB (C.blk _) (fun i => c_sum ((C.blk _).k i) ((C.blk _).c i)) v_sum B.sum bt_sum (cbCons (cNm (C.blk _) 1) (cbNil))) (caNil))))))) (cbNil))))))) hm hb 3 2
abbrev s_least_of : Stmt := topS 17
theorem sc_least_of : FnScope ["one", "other"] ["one", "other"] (defScope s_least_of) := ⟨rfl, rfl, rfl, by decide +kernel, rfl, by decide +kernel, by decide +kernel⟩
def g_least_of : SF := sRet (xIf (tV (x2 leA (xCall m_compare (aC (xSh 0) (aC (xSh 1) (aN)))) (xC (.int 0)))) (xSh 0) (xSh 1))
def m_least_of : List D → M D := runDef 2 2 g_least_of
theorem ok_least_of (B : Bi mg) (d_compare : DefOk P w K mg base "compare" 1 ["a", "b"] m_compare) {f : Addr} {fd : FuncData} (F : FnP K "least_of" s_least_of f fd) (hm : mg "least_of" = some (.ref f)) (hb : Binds K fd ["one", "other"] []) : DefOk P w K mg base "least_of" 2 ["one", "other"] m_least_of :=
  have C := Fam.ent (P := P) (w := w) (K := K) (mg := mg) (base := base) (N := ["one", "other"]) (k := 1) (qual := "least_of") (scope := defScope s_least_of) (f := f) sc_least_of.nd
  def_ok F sc_least_of (show CSs _ K (defBody s_least_of) g_least_of from ssOne (cRet (cIf (tCmp (fun i => op_leA (C.k i) (roomU (C.r i))) v_leA (CE.brw (cCall C d_compare (by decide) (caCons (cSh C 0) (caCons (cSh C 1) (caNil))))) (CE.brw (cInt)) (nomark _)) (cSh C 0) (cSh C 1)))) hm hb 2 2
abbrev s_ascending : Stmt := topS 18
theorem sc_ascending : FnScope ["claims", "found", "claim", "place"] ["claims"] (defScope s_ascending) := ⟨rfl, rfl, rfl, by decide +kernel, rfl, by decide +kernel, by decide +kernel⟩
def g_ascending : SF := sSeq (sOwn 1 (oLst (aN))) (sSeq (sFor (iSq (xSh 0)) (gNm 2) (sSeq (sSet 3 (xC (.int 0))) (sSeq (sWhile (tAnd (tV (x2 ltA (xNm 3) (xL lenD (aC (xNm 1) (aN))))) (tV (x2 leA (xCall m_compare (aC (x2 ixD (xNm 1) (xNm 3)) (aC (xSh 2) (aN)))) (xC (.int 0))))) (sAug 3 addI (xC (.int 1)))) (sIns 1 (xSh 3) (xSh 2))))) (sRetOw 1))
def m_ascending : List D → M D := runDef 4 1 g_ascending
theorem ok_ascending (B : Bi mg) (d_compare : DefOk P w K mg base "compare" 1 ["a", "b"] m_compare) {f : Addr} {fd : FuncData} (F : FnP K "ascending" s_ascending f fd) (hm : mg "ascending" = some (.ref f)) (hb : Binds K fd ["claims"] []) : DefOk P w K mg base "ascending" 2 ["claims"] m_ascending :=
  have C := Fam.ent (P := P) (w := w) (K := K) (mg := mg) (base := base) (N := ["claims", "found", "claim", "place"]) (k := 1) (qual := "ascending") (scope := defScope s_ascending) (f := f) sc_ascending.nd
  def_ok F sc_ascending (show CSs _ K (defBody s_ascending) g_ascending from ssCons (cOwn C 1 (oList (caNil))) (ssCons (cFor C (fun _ => PassesOwn.never) (iSeqE C (cSh C 0)) (gName' C 2) (ssCons (cSet C 3 (cInt)) (ssCons (cWhile (fun _ => PassesOwn.never) (CW.t (wAnd (tCmp (fun i => op_ltA (C.k i) (roomU (C.r i))) v_ltA (cNm C 3) (CE.brw (cCallB C (fun i => c_len (C.k i)) v_len B.len bt_len (cbCons (cNm C 1) (cbNil)))) (nomark _)) (wAnd1 (tCmp (fun i => op_leA (C.k i) (roomU (C.r i))) v_leA (CE.brw (cCall C d_compare (by decide) (caCons (cIx (fun i => ix_both (C.k i)) v_ix (cNm C 1) (cNm C 3) (fun _ _ => rfl)) (caCons (cSh C 2) (caNil))))) (CE.brw (cInt)) (nomark _))))) (ssOne (cAug C 3 (fun _ => iop_add) v_iadd (cInt)))) (ssOne (cIns C 1 (cSh C 3) (cSh C 2)))))) (ssOne (cRetOw C 1)))) hm hb 4 1
abbrev s_leveled : Stmt := topS 19
theorem sc_leveled : FnScope ["estate", "claims", "rows", "left", "k", "claim", "height", "one"] ["estate", "claims"] (defScope s_leveled) := ⟨rfl, rfl, rfl, by decide +kernel, rfl, by decide +kernel, by decide +kernel⟩
def g_leveled : SF := sSeq (sSet 2 (xCall m_ascending (aC (xSh 1) (aN)))) (sSeq (sSet 3 (xSh 0)) (sSeq (sFor (iRg enD (aC (xSh 2) (aN))) (gTp [gNm 4, gNm 5]) (sSeq (sSet 6 (xCall m_over (aC (xSh 3) (aC (xCall m_fraction (aC (x2 subD (xL lenD (aC (xNm 2) (aN))) (xNm 4)) (aC (xC (.int 1)) (aN)))) (aN))))) (sSeq (sIf (tV (x2 leA (xCall m_compare (aC (xSh 6) (aC (xSh 5) (aN)))) (xC (.int 0)))) (sRet (xL tupD (aC (xOf (oComp (iSq (xNm 1)) (gNm 7) (tYes') (xCall m_least_of (aC (xSh 7) (aC (xSh 6) (aN)))) [7])) (aN)))) (sNext)) (sSet 3 (xCall m_minus (aC (xSh 3) (aC (xSh 5) (aN)))))))) (sRet (xL tupD (aC (xNm 1) (aN))))))
def m_leveled : List D → M D := runDef 8 2 g_leveled
theorem ok_leveled (B : Bi mg) (d_ascending : DefOk P w K mg base "ascending" 2 ["claims"] m_ascending) (d_over : DefOk P w K mg base "over" 2 ["a", "b"] m_over) (d_minus : DefOk P w K mg base "minus" 2 ["a", "b"] m_minus) (d_fraction : DefOk P w K mg base "fraction" 1 ["numerator", "denominator"] m_fraction) (d_compare : DefOk P w K mg base "compare" 1 ["a", "b"] m_compare) (d_least_of : DefOk P w K mg base "least_of" 2 ["one", "other"] m_least_of) {f : Addr} {fd : FuncData} (F : FnP K "leveled" s_leveled f fd) (hm : mg "leveled" = some (.ref f)) (hb : Binds K fd ["estate", "claims"] []) : DefOk P w K mg base "leveled" 3 ["estate", "claims"] m_leveled :=
  have C := Fam.ent (P := P) (w := w) (K := K) (mg := mg) (base := base) (N := ["estate", "claims", "rows", "left", "k", "claim", "height", "one"]) (k := 2) (qual := "leveled") (scope := defScope s_leveled) (f := f) sc_leveled.nd
  def_ok F sc_leveled (show CSs _ K (defBody s_leveled) g_leveled from ssCons (cSet C 2 (cCall C d_ascending (by decide) (caCons (cSh C 1) (caNil)))) (ssCons (cSet C 3 (cSh C 0)) (ssCons (cFor C (fun _ => PassesOwn.never) (iEnE C B.enumerate (caCons (cSh C 2) (caNil))) (gTup' C (gsCons (gName' C 4) (gsCons (gName' C 5) (gsNil)))) (ssCons (cSet C 6 (cCall C d_over (by decide) (caCons (cSh C 3) (caCons (cCall C d_fraction (by decide) (caCons (cBin (fun _ => op_sub) v_sub (CE.brw (cCallB C (fun i => c_len (C.k i)) v_len B.len bt_len (cbCons (cNm C 2) (cbNil)))) (cNm C 4)) (caCons (cInt) (caNil)))) (caNil))))) (ssCons (cIfS (tCmp (fun i => op_leA (C.k i) (roomU (C.r i))) v_leA (CE.brw (cCall C d_compare (by decide) (caCons (cSh C 6) (caCons (cSh C 5) (caNil))))) (CE.brw (cInt)) (nomark _)) (ssOne (cRet (cCallT C (fun i => c_tup (C.k i)) v_tup B.tuple bt_tuple (cbCons (CE.brw (CO.frz (oLc C [("one", 7)] (iSeqB C (cNm C 1)) (fun _ => blkOk_by (by rw [ent_sc]; decide +kernel)) (gName' (C.blk _) 7) (ctNone) (cCall (C.blk _) d_least_of (by decide) (caCons (cSh (C.blk _) 7) (caCons (cSh (C.blk _) 6) (caNil))))))) (cbNil))))) (ssNil)) (ssOne (cSet C 3 (cCall C d_minus (by decide) (caCons (cSh C 3) (caCons (cSh C 5) (caNil))))))))) (ssOne (cRet (cCallT C (fun i => c_tup (C.k i)) v_tup B.tuple bt_tuple (cbCons (cNm C 1) (cbNil)))))))) hm hb 8 2
abbrev s_alike : Stmt := topS 20
theorem sc_alike : FnScope ["estate", "claims", "claim"] ["estate", "claims"] (defScope s_alike) := ⟨rfl, rfl, rfl, by decide +kernel, rfl, by decide +kernel, by decide +kernel⟩
def g_alike : SF := sSeq (sDrop (xCall m_check_claims (aC (xSh 0) (aC (xSh 1) (aN))))) (sRet (xCall m_leveled (aC (xCall m_fraction (aC (xSh 0) (aC (xC (.int 1)) (aN)))) (aC (xL tupD (aC (xOf (oComp (iSq (xNm 1)) (gNm 2) (tYes') (xCall m_fraction (aC (xSh 2) (aC (xC (.int 1)) (aN)))) [2])) (aN))) (aN)))))
def m_alike : List D → M D := runDef 3 2 g_alike
theorem ok_alike (B : Bi mg) (d_check_claims : DefOk P w K mg base "check_claims" 1 ["estate", "claims"] m_check_claims) (d_leveled : DefOk P w K mg base "leveled" 3 ["estate", "claims"] m_leveled) (d_fraction : DefOk P w K mg base "fraction" 1 ["numerator", "denominator"] m_fraction) {f : Addr} {fd : FuncData} (F : FnP K "alike" s_alike f fd) (hm : mg "alike" = some (.ref f)) (hb : Binds K fd ["estate", "claims"] []) : DefOk P w K mg base "alike" 4 ["estate", "claims"] m_alike :=
  have C := Fam.ent (P := P) (w := w) (K := K) (mg := mg) (base := base) (N := ["estate", "claims", "claim"]) (k := 3) (qual := "alike") (scope := defScope s_alike) (f := f) sc_alike.nd
  def_ok F sc_alike (show CSs _ K (defBody s_alike) g_alike from ssCons (cExpr (cCall C d_check_claims (by decide) (caCons (cSh C 0) (caCons (cSh C 1) (caNil))))) (ssOne (cRet (cCall C d_leveled (by decide) (caCons (cCall C d_fraction (by decide) (caCons (cSh C 0) (caCons (cInt) (caNil)))) (caCons (cCallT C (fun i => c_tup (C.k i)) v_tup B.tuple bt_tuple (cbCons (CE.brw (CO.frz (oLc C [("claim", 2)] (iSeqB C (cNm C 1)) (fun _ => blkOk_by (by rw [ent_sc]; decide +kernel)) (gName' (C.blk _) 2) (ctNone) (cCall (C.blk _) d_fraction (by decide) (caCons (cSh (C.blk _) 2) (caCons (cInt) (caNil))))))) (cbNil))) (caNil))))))) hm hb 3 2
abbrev s_alike_losses : Stmt := topS 21
theorem sc_alike_losses : FnScope ["estate", "claims", "rows", "losses", "claim", "row", "loss"] ["estate", "claims"] (defScope s_alike_losses) := ⟨rfl, rfl, rfl, by decide +kernel, rfl, by decide +kernel, by decide +kernel⟩
def g_alike_losses : SF := sSeq (sDrop (xCall m_check_claims (aC (xSh 0) (aC (xSh 1) (aN))))) (sSeq (sSet 2 (xL tupD (aC (xOf (oComp (iSq (xNm 1)) (gNm 4) (tYes') (xCall m_fraction (aC (xSh 4) (aC (xC (.int 1)) (aN)))) [4])) (aN)))) (sSeq (sSet 3 (xCall m_leveled (aC (xCall m_fraction (aC (x2 subD (xL sumD (aC (xNm 1) (aN))) (xNm 0)) (aC (xC (.int 1)) (aN)))) (aC (xSh 2) (aN))))) (sRet (xL tupD (aC (xOf (oComp (iRg zpD (aC (xNm 2) (aC (xNm 3) (aN)))) (gTp [gNm 5, gNm 6]) (tYes') (xCall m_minus (aC (xSh 5) (aC (xSh 6) (aN)))) [5, 6])) (aN))))))
def m_alike_losses : List D → M D := runDef 7 2 g_alike_losses
theorem ok_alike_losses (B : Bi mg) (d_check_claims : DefOk P w K mg base "check_claims" 1 ["estate", "claims"] m_check_claims) (d_leveled : DefOk P w K mg base "leveled" 3 ["estate", "claims"] m_leveled) (d_fraction : DefOk P w K mg base "fraction" 1 ["numerator", "denominator"] m_fraction) (d_minus : DefOk P w K mg base "minus" 2 ["a", "b"] m_minus) {f : Addr} {fd : FuncData} (F : FnP K "alike_losses" s_alike_losses f fd) (hm : mg "alike_losses" = some (.ref f)) (hb : Binds K fd ["estate", "claims"] []) : DefOk P w K mg base "alike_losses" 4 ["estate", "claims"] m_alike_losses :=
  have C := Fam.ent (P := P) (w := w) (K := K) (mg := mg) (base := base) (N := ["estate", "claims", "rows", "losses", "claim", "row", "loss"]) (k := 3) (qual := "alike_losses") (scope := defScope s_alike_losses) (f := f) sc_alike_losses.nd
  def_ok F sc_alike_losses (show CSs _ K (defBody s_alike_losses) g_alike_losses from ssCons (cExpr (cCall C d_check_claims (by decide) (caCons (cSh C 0) (caCons (cSh C 1) (caNil))))) (ssCons (cSet C 2 (cCallT C (fun i => c_tup (C.k i)) v_tup B.tuple bt_tuple (cbCons (CE.brw (CO.frz (oLc C [("claim", 4)] (iSeqB C (cNm C 1)) (fun _ => blkOk_by (by rw [ent_sc]; decide +kernel)) (gName' (C.blk _) 4) (ctNone) (cCall (C.blk _) d_fraction (by decide) (caCons (cSh (C.blk _) 4) (caCons (cInt) (caNil))))))) (cbNil)))) (ssCons (cSet C 3 (cCall C d_leveled (by decide) (caCons (cCall C d_fraction (by decide) (caCons (cBin (fun _ => op_sub) v_sub (CE.brw (cCallB C (fun i => c_sum (C.k i) (C.c i)) v_sum B.sum bt_sum (cbCons (cNm C 1) (cbNil)))) (cNm C 0)) (caCons (cInt) (caNil)))) (caCons (cSh C 2) (caNil))))) (ssOne (cRet (cCallT C (fun i => c_tup (C.k i)) v_tup B.tuple bt_tuple (cbCons (CE.brw (CO.frz (oLc C [("row", 5), ("loss", 6)] (iZpB C B.zip (cbCons (cNm C 2) (cbCons (cNm C 3) (cbNil)))) (fun _ => blkOk_by (by rw [ent_sc]; decide +kernel)) (gTup' (C.blk _) (gsCons (gName' (C.blk _) 5) (gsCons (gName' (C.blk _) 6) (gsNil)))) (ctNone) (cCall (C.blk _) d_minus (by decide) (caCons (cSh (C.blk _) 5) (caCons (cSh (C.blk _) 6) (caNil))))))) (cbNil)))))))) hm hb 7 2
abbrev s_halves : Stmt := topS 22
theorem sc_halves : FnScope ["estate", "claims", "rows", "losses", "claim", "loss"] ["estate", "claims"] (defScope s_halves) := ⟨rfl, rfl, rfl, by decide +kernel, rfl, by decide +kernel, by decide +kernel⟩
def g_halves : SF := sSeq (sDrop (xCall m_check_claims (aC (xSh 0) (aC (xSh 1) (aN))))) (sSeq (sSet 2 (xL tupD (aC (xOf (oComp (iSq (xNm 1)) (gNm 4) (tYes') (xCall m_fraction (aC (xSh 4) (aC (xC (.int 2)) (aN)))) [4])) (aN)))) (sSeq (sIf (tV (x2 leA (x2 mulD (xC (.int 2)) (xNm 0)) (xL sumD (aC (xNm 1) (aN))))) (sRet (xCall m_leveled (aC (xCall m_fraction (aC (xSh 0) (aC (xC (.int 1)) (aN)))) (aC (xSh 2) (aN))))) (sNext)) (sSeq (sSet 3 (xCall m_leveled (aC (xCall m_fraction (aC (x2 subD (xL sumD (aC (xNm 1) (aN))) (xNm 0)) (aC (xC (.int 1)) (aN)))) (aC (xSh 2) (aN))))) (sRet (xL tupD (aC (xOf (oComp (iRg zpD (aC (xNm 1) (aC (xNm 3) (aN)))) (gTp [gNm 4, gNm 5]) (tYes') (xCall m_minus (aC (xCall m_fraction (aC (xSh 4) (aC (xC (.int 1)) (aN)))) (aC (xSh 5) (aN)))) [4, 5])) (aN)))))))
def m_halves : List D → M D := runDef 6 2 g_halves
theorem ok_halves (B : Bi mg) (d_check_claims : DefOk P w K mg base "check_claims" 1 ["estate", "claims"] m_check_claims) (d_leveled : DefOk P w K mg base "leveled" 3 ["estate", "claims"] m_leveled) (d_fraction : DefOk P w K mg base "fraction" 1 ["numerator", "denominator"] m_fraction) (d_minus : DefOk P w K mg base "minus" 2 ["a", "b"] m_minus) {f : Addr} {fd : FuncData} (F : FnP K "halves" s_halves f fd) (hm : mg "halves" = some (.ref f)) (hb : Binds K fd ["estate", "claims"] []) : DefOk P w K mg base "halves" 4 ["estate", "claims"] m_halves :=
  have C := Fam.ent (P := P) (w := w) (K := K) (mg := mg) (base := base) (N := ["estate", "claims", "rows", "losses", "claim", "loss"]) (k := 3) (qual := "halves") (scope := defScope s_halves) (f := f) sc_halves.nd
  def_ok F sc_halves (show CSs _ K (defBody s_halves) g_halves from ssCons (cExpr (cCall C d_check_claims (by decide) (caCons (cSh C 0) (caCons (cSh C 1) (caNil))))) (ssCons (cSet C 2 (cCallT C (fun i => c_tup (C.k i)) v_tup B.tuple bt_tuple (cbCons (CE.brw (CO.frz (oLc C [("claim", 4)] (iSeqB C (cNm C 1)) (fun _ => blkOk_by (by rw [ent_sc]; decide +kernel)) (gName' (C.blk _) 4) (ctNone) (cCall (C.blk _) d_fraction (by decide) (caCons (cSh (C.blk _) 4) (caCons (cInt) (caNil))))))) (cbNil)))) (ssCons (cIfS (tCmp (fun i => op_leA (C.k i) (roomU (C.r i))) v_leA (CE.brw (cBin (fun _ => op_mulW) v_mul (CE.brw (cInt)) (cNm C 0))) (CE.brw (cCallB C (fun i => c_sum (C.k i) (C.c i)) v_sum B.sum bt_sum (cbCons (cNm C 1) (cbNil)))) (nomark _)) (ssOne (cRet (cCall C d_leveled (by decide) (caCons (cCall C d_fraction (by decide) (caCons (cSh C 0) (caCons (cInt) (caNil)))) (caCons (cSh C 2) (caNil)))))) (ssNil)) (ssCons (cSet C 3 (cCall C d_leveled (by decide) (caCons (cCall C d_fraction (by decide) (caCons (cBin (fun _ => op_sub) v_sub (CE.brw (cCallB C (fun i => c_sum (C.k i) (C.c i)) v_sum B.sum bt_sum (cbCons (cNm C 1) (cbNil)))) (cNm C 0)) (caCons (cInt) (caNil)))) (caCons (cSh C 2) (caNil))))) (ssOne (cRet (cCallT C (fun i => c_tup (C.k i)) v_tup B.tuple bt_tuple (cbCons (CE.brw (CO.frz (oLc C [("claim", 4), ("loss", 5)] (iZpB C B.zip (cbCons (cNm C 1) (cbCons (cNm C 3) (cbNil)))) (fun _ => blkOk_by (by rw [ent_sc]; decide +kernel)) (gTup' (C.blk _) (gsCons (gName' (C.blk _) 4) (gsCons (gName' (C.blk _) 5) (gsNil)))) (ctNone) (cCall (C.blk _) d_minus (by decide) (caCons (cCall (C.blk _) d_fraction (by decide) (caCons (cSh (C.blk _) 4) (caCons (cInt) (caNil)))) (caCons (cSh (C.blk _) 5) (caNil))))))) (cbNil))))))))) hm hb 6 2
abbrev s_orders_of : Stmt := topS 23
theorem sc_orders_of : FnScope ["many", "found", "_", "longer", "row", "number"] ["many"] (defScope s_orders_of) := ⟨rfl, rfl, rfl, by decide +kernel, rfl, by decide +kernel, by decide +kernel⟩
def g_orders_of : SF := sSeq (sSet 1 (xOf (oLst (aC (xTup (aN)) (aN))))) (sSeq (sFor (iRg rng1D (aC (xSh 0) (aN))) (gNm 2) (sSeq (sOwn 3 (oLst (aN))) (sSeq (sFor (iSq (xSh 1)) (gNm 4) (sMeth 3 extU (xOf (oComp (iRg rng1D (aC (xSh 0) (aN))) (gNm 5) (tV (x2 ninD (xNm 5) (xNm 4))) (x2 addD (xNm 4) (xTup (aC (xSh 5) (aN)))) [5])))) (sMove 3 1)))) (sRet (xSh 1)))
def m_orders_of : List D → M D := runDef 6 1 g_orders_of
theorem ok_orders_of (B : Bi mg)  {f : Addr} {fd : FuncData} (F : FnP K "orders_of" s_orders_of f fd) (hm : mg "orders_of" = some (.ref f)) (hb : Binds K fd ["many"] []) : DefOk P w K mg base "orders_of" 1 ["many"] m_orders_of :=
  have C := Fam.ent (P := P) (w := w) (K := K) (mg := mg) (base := base) (N := ["many", "found", "_", "longer", "row", "number"]) (k := 0) (qual := "orders_of") (scope := defScope s_orders_of) (f := f) sc_orders_of.nd
  def_ok F sc_orders_of (show CSs _ K (defBody s_orders_of) g_orders_of from ssCons (cSet C 1 (CO.frz (oList (caCons (cTup (caNil)) (caNil))))) (ssCons (cFor C (fun _ => PassesOwn.never) (iRng1E C B.range (caCons (cSh C 0) (caNil))) (gName' C 2) (ssCons (cOwn C 3 (oList (caNil))) (ssCons (cFor C (fun _ => PassesOwn.never) (iSeqE C (cSh C 1)) (gName' C 4) (ssOne (cExt C 3 (CE.brw (CO.frz (oLc C [("number", 5)] (CI.w (iRng1E C B.range (caCons (cSh C 0) (caNil)))) (fun _ => blkOk_by (by rw [ent_sc]; decide +kernel)) (gName' (C.blk _) 5) (ctOne (tCmp (fun i => op_ninA ((C.blk _).k i) (roomU ((C.blk _).r i))) v_nin (cNm (C.blk _) 5) (cNm (C.blk _) 4) rfl)) (cBin (fun i => op_addAll ((C.blk _).k i)) v_add (cNm (C.blk _) 4) (CE.brw (cTup (caCons (cSh (C.blk _) 5) (caNil))))))))))) (ssOne (cMove C 3 1))))) (ssOne (cRet (cSh C 1))))) hm hb 6 1
abbrev s_by_orders : Stmt := topS 24
theorem sc_by_orders : FnScope ["estate", "claims", "sums", "orders", "order", "left", "number", "award", "one"] ["estate", "claims"] (defScope s_by_orders) := ⟨rfl, rfl, rfl, by decide +kernel, rfl, by decide +kernel, by decide +kernel⟩
def g_by_orders : SF := sSeq (sDrop (xCall m_check_claims (aC (xSh 0) (aC (xSh 1) (aN))))) (sSeq (sOwn 2 (o2 repO (xOf (oLst (aC (xC (.int 0)) (aN)))) (xL lenD (aC (xNm 1) (aN))))) (sSeq (sSet 3 (xCall m_orders_of (aC (xL lenD (aC (xNm 1) (aN))) (aN)))) (sSeq (sFor (iSq (xSh 3)) (gNm 4) (sSeq (sSet 5 (xSh 0)) (sFor (iSq (xSh 4)) (gNm 6) (sSeq (sSet 7 (xL min2D (aC (xNm 5) (aC (x2 ixD (xNm 1) (xNm 6)) (aN))))) (sSeq (sAugIx 2 addI (xSh 6) (xSh 7)) (sAug 5 subD (xSh 7))))))) (sRet (xL tupD (aC (xOf (oComp (iSq (xNm 2)) (gNm 8) (tYes') (xCall m_fraction (aC (xSh 8) (aC (xL lenD (aC (xNm 3) (aN))) (aN)))) [8])) (aN)))))))
def m_by_orders : List D → M D := runDef 9 2 g_by_orders
theorem ok_by_orders (B : Bi mg) (d_check_claims : DefOk P w K mg base "check_claims" 1 ["estate", "claims"] m_check_claims) (d_orders_of : DefOk P w K mg base "orders_of" 1 ["many"] m_orders_of) (d_fraction : DefOk P w K mg base "fraction" 1 ["numerator", "denominator"] m_fraction) {f : Addr} {fd : FuncData} (F : FnP K "by_orders" s_by_orders f fd) (hm : mg "by_orders" = some (.ref f)) (hb : Binds K fd ["estate", "claims"] []) : DefOk P w K mg base "by_orders" 2 ["estate", "claims"] m_by_orders :=
  have C := Fam.ent (P := P) (w := w) (K := K) (mg := mg) (base := base) (N := ["estate", "claims", "sums", "orders", "order", "left", "number", "award", "one"]) (k := 1) (qual := "by_orders") (scope := defScope s_by_orders) (f := f) sc_by_orders.nd
  def_ok F sc_by_orders (show CSs _ K (defBody s_by_orders) g_by_orders from ssCons (cExpr (cCall C d_check_claims (by decide) (caCons (cSh C 0) (caCons (cSh C 1) (caNil))))) (ssCons (cOwn C 2 (oBin (fun _ => op_rep) v_repO (CE.brw (CO.frz (oList (caCons (cInt) (caNil))))) (CE.brw (cCallB C (fun i => c_len (C.k i)) v_len B.len bt_len (cbCons (cNm C 1) (cbNil)))))) (ssCons (cSet C 3 (cCall C d_orders_of (by decide) (caCons (cCallB C (fun i => c_len (C.k i)) v_len B.len bt_len (cbCons (cNm C 1) (cbNil))) (caNil)))) (ssCons (cFor C (fun _ => PassesOwn.never) (iSeqE C (cSh C 3)) (gName' C 4) (ssCons (cSet C 5 (cSh C 0)) (ssOne (cFor C (fun _ => PassesOwn.never) (iSeqE C (cSh C 4)) (gName' C 6) (ssCons (cSet C 7 (cCallB C (fun i => call_min2 (C.c i)) v_min2 B.min bt_min (cbCons (cNm C 5) (cbCons (CE.brw (cIx (fun i => ix_both (C.k i)) v_ix (cNm C 1) (cNm C 6) (fun _ _ => rfl))) (cbNil))))) (ssCons (cAugIx C 2 (fun _ => iop_add) v_iadd (cSh C 6) (cSh C 7)) (ssOne (cAug C 5 (fun _ => iop_sub) v_sub (cSh C 7))))))))) (ssOne (cRet (cCallT C (fun i => c_tup (C.k i)) v_tup B.tuple bt_tuple (cbCons (CE.brw (CO.frz (oLc C [("one", 8)] (iSeqB C (cNm C 2)) (fun _ => blkOk_by (by rw [ent_sc]; decide +kernel)) (gName' (C.blk _) 8) (ctNone) (cCall (C.blk _) d_fraction (by decide) (caCons (cSh (C.blk _) 8) (caCons (cCallB (C.blk _) (fun i => c_len ((C.blk _).k i)) v_len B.len bt_len (cbCons (cNm (C.blk _) 3) (cbNil))) (caNil))))))) (cbNil))))))))) hm hb 9 2
abbrev s_settled : Stmt := topS 25
theorem sc_settled : FnScope ["rule", "estate", "claims"] ["rule", "estate", "claims"] (defScope s_settled) := ⟨rfl, rfl, rfl, by decide +kernel, rfl, by decide +kernel, by decide +kernel⟩
def g_settled : SF := sSeq (sIf (tV (x2 eqD (xNm 0) (xC (.str "parts")))) (sRet (xCall m_by_parts (aC (xSh 1) (aC (xSh 2) (aN))))) (sNext)) (sSeq (sIf (tV (x2 eqD (xNm 0) (xC (.str "alike")))) (sRet (xCall m_alike (aC (xSh 1) (aC (xSh 2) (aN))))) (sNext)) (sSeq (sIf (tV (x2 eqD (xNm 0) (xC (.str "losses")))) (sRet (xCall m_alike_losses (aC (xSh 1) (aC (xSh 2) (aN))))) (sNext)) (sSeq (sIf (tV (x2 eqD (xNm 0) (xC (.str "halves")))) (sRet (xCall m_halves (aC (xSh 1) (aC (xSh 2) (aN))))) (sNext)) (sSeq (sIf (tV (x2 eqD (xNm 0) (xC (.str "orders")))) (sRet (xCall m_by_orders (aC (xSh 1) (aC (xSh 2) (aN))))) (sNext)) (sFail)))))
def m_settled : List D → M D := runDef 3 3 g_settled
theorem ok_settled (B : Bi mg) (d_by_parts : DefOk P w K mg base "by_parts" 2 ["estate", "claims"] m_by_parts) (d_alike : DefOk P w K mg base "alike" 4 ["estate", "claims"] m_alike) (d_alike_losses : DefOk P w K mg base "alike_losses" 4 ["estate", "claims"] m_alike_losses) (d_halves : DefOk P w K mg base "halves" 4 ["estate", "claims"] m_halves) (d_by_orders : DefOk P w K mg base "by_orders" 2 ["estate", "claims"] m_by_orders) {f : Addr} {fd : FuncData} (F : FnP K "settled" s_settled f fd) (hm : mg "settled" = some (.ref f)) (hb : Binds K fd ["rule", "estate", "claims"] []) : DefOk P w K mg base "settled" 5 ["rule", "estate", "claims"] m_settled :=
  have C := Fam.ent (P := P) (w := w) (K := K) (mg := mg) (base := base) (N := ["rule", "estate", "claims"]) (k := 4) (qual := "settled") (scope := defScope s_settled) (f := f) sc_settled.nd
  def_ok F sc_settled (show CSs _ K (defBody s_settled) g_settled from ssCons (cIfS (tCmp (fun i => op_eqA (C.k i) (roomU (C.r i))) v_eq (cNm C 0) (CE.brw (cStr)) (nomark _)) (ssOne (cRet (cCall C d_by_parts (by decide) (caCons (cSh C 1) (caCons (cSh C 2) (caNil)))))) (ssNil)) (ssCons (cIfS (tCmp (fun i => op_eqA (C.k i) (roomU (C.r i))) v_eq (cNm C 0) (CE.brw (cStr)) (nomark _)) (ssOne (cRet (cCall C d_alike (by decide) (caCons (cSh C 1) (caCons (cSh C 2) (caNil)))))) (ssNil)) (ssCons (cIfS (tCmp (fun i => op_eqA (C.k i) (roomU (C.r i))) v_eq (cNm C 0) (CE.brw (cStr)) (nomark _)) (ssOne (cRet (cCall C d_alike_losses (by decide) (caCons (cSh C 1) (caCons (cSh C 2) (caNil)))))) (ssNil)) (ssCons (cIfS (tCmp (fun i => op_eqA (C.k i) (roomU (C.r i))) v_eq (cNm C 0) (CE.brw (cStr)) (nomark _)) (ssOne (cRet (cCall C d_halves (by decide) (caCons (cSh C 1) (caCons (cSh C 2) (caNil)))))) (ssNil)) (ssCons (cIfS (tCmp (fun i => op_eqA (C.k i) (roomU (C.r i))) v_eq (cNm C 0) (CE.brw (cStr)) (nomark _)) (ssOne (cRet (cCall C d_by_orders (by decide) (caCons (cSh C 1) (caCons (cSh C 2) (caNil)))))) (ssNil)) (ssOne (cNever))))))) hm hb 3 3
abbrev s_is_right : Stmt := topS 26
theorem sc_is_right : FnScope ["estate", "claims", "awards", "rows", "award", "claim"] ["estate", "claims", "awards"] (defScope s_is_right) := ⟨rfl, rfl, rfl, by decide +kernel, rfl, by decide +kernel, by decide +kernel⟩
def g_is_right : SF := sSeq (sDrop (xCall m_check_claims (aC (xSh 0) (aC (xSh 1) (aN))))) (sSeq (sIf (tOr (tV (x2 neD (xL lenD (aC (xNm 2) (aN))) (xL lenD (aC (xNm 1) (aN))))) (tV (x2 neD (xCall m_total (aC (xSh 2) (aN))) (xCall m_fraction (aC (xSh 0) (aC (xC (.int 1)) (aN))))))) (sRet (xC (.bl false))) (sNext)) (sSeq (sSet 3 (xOf (oComp (iRg zpD (aC (xNm 2) (aC (xNm 1) (aN)))) (gTp [gNm 4, gNm 5]) (tYes') (xTup (aC (xSh 4) (aC (xCall m_fraction (aC (xSh 5) (aC (xC (.int 1)) (aN)))) (aN)))) [4, 5]))) (sRet (xL allD (aC (xOf (oComp (iSq (xNm 3)) (gTp [gNm 4, gNm 5]) (tYes') (xAnd (x2 leA (xCall m_compare (aC (xC c_ZERO) (aC (xSh 4) (aN)))) (xC (.int 0))) (x2 leA (xCall m_compare (aC (xSh 4) (aC (xSh 5) (aN)))) (xC (.int 0)))) [4, 5])) (aN))))))
def m_is_right : List D → M D := runDef 6 3 g_is_right
theorem ok_is_right (B : Bi mg) (k_ZERO : CstOk mg "ZERO" c_ZERO K) (d_check_claims : DefOk P w K mg base "check_claims" 1 ["estate", "claims"] m_check_claims) (d_total : DefOk P w K mg base "total" 3 ["items"] m_total) (d_fraction : DefOk P w K mg base "fraction" 1 ["numerator", "denominator"] m_fraction) (d_compare : DefOk P w K mg base "compare" 1 ["a", "b"] m_compare) {f : Addr} {fd : FuncData} (F : FnP K "is_right" s_is_right f fd) (hm : mg "is_right" = some (.ref f)) (hb : Binds K fd ["estate", "claims", "awards"] []) : DefOk P w K mg base "is_right" 4 ["estate", "claims", "awards"] m_is_right :=
  have C := Fam.ent (P := P) (w := w) (K := K) (mg := mg) (base := base) (N := ["estate", "claims", "awards", "rows", "award", "claim"]) (k := 3) (qual := "is_right") (scope := defScope s_is_right) (f := f) sc_is_right.nd
  def_ok F sc_is_right (show CSs _ K (defBody s_is_right) g_is_right from ssCons (cExpr (cCall C d_check_claims (by decide) (caCons (cSh C 0) (caCons (cSh C 1) (caNil))))) (ssCons (cIfS (CW.t (wOr (tCmp (fun i => op_neA (C.k i) (roomU (C.r i))) v_ne (CE.brw (cCallB C (fun i => c_len (C.k i)) v_len B.len bt_len (cbCons (cNm C 2) (cbNil)))) (CE.brw (cCallB C (fun i => c_len (C.k i)) v_len B.len bt_len (cbCons (cNm C 1) (cbNil)))) (nomark _)) (wOr1 (tCmp (fun i => op_neA (C.k i) (roomU (C.r i))) v_ne (CE.brw (cCall C d_total (by decide) (caCons (cSh C 2) (caNil)))) (CE.brw (cCall C d_fraction (by decide) (caCons (cSh C 0) (caCons (cInt) (caNil))))) (nomark _))))) (ssOne (cRet (cBl))) (ssNil)) (ssCons (cSetLc C 3 [("award", 4), ("claim", 5)] (iZpB C B.zip (cbCons (cNm C 2) (cbCons (cNm C 1) (cbNil)))) (fun _ => blkOk_by (by rw [ent_sc]; decide +kernel)) (gTup' (C.blk _) (gsCons (gName' (C.blk _) 4) (gsCons (gName' (C.blk _) 5) (gsNil)))) (ctNone) (cTup (caCons (cSh (C.blk _) 4) (caCons (cCall (C.blk _) d_fraction (by decide) (caCons (cSh (C.blk _) 5) (caCons (cInt) (caNil)))) (caNil))))) (ssOne (cRet (cCallB C (fun i => c_all (C.k i) (C.c i)) v_all B.all bt_all (cbCons (CE.brw (CO.frz (oLc C [("award", 4), ("claim", 5)] (iSeqB C (cNm C 3)) (fun _ => blkOk_by (by rw [ent_sc]; decide +kernel)) (gTup' (C.blk _) (gsCons (gName' (C.blk _) 4) (gsCons (gName' (C.blk _) 5) (gsNil)))) (ctNone) (cAnd (cCmp (fun i => op_leA ((C.blk _).k i) (roomU ((C.blk _).r i))) v_leA (CE.brw (cCall (C.blk _) d_compare (by decide) (caCons (k_ZERO.ce (C.blk _)) (caCons (cSh (C.blk _) 4) (caNil))))) (CE.brw (cInt)) (nomark _)) (cOne (cCmp (fun i => op_leA ((C.blk _).k i) (roomU ((C.blk _).r i))) v_leA (CE.brw (cCall (C.blk _) d_compare (by decide) (caCons (cSh (C.blk _) 4) (caCons (cSh (C.blk _) 5) (caNil))))) (CE.brw (cInt)) (nomark _))))))) (cbNil)))))))) hm hb 6 3
abbrev s_max_of : Stmt := topS 28
theorem sc_max_of : FnScope ["one", "other"] ["one", "other"] (defScope s_max_of) := ⟨rfl, rfl, rfl, by decide +kernel, rfl, by decide +kernel, by decide +kernel⟩
def g_max_of : SF := sRet (xIf (tV (x2 geA (xCall m_compare (aC (xSh 0) (aC (xSh 1) (aN)))) (xC (.int 0)))) (xSh 0) (xSh 1))
def m_max_of : List D → M D := runDef 2 2 g_max_of
theorem ok_max_of (B : Bi mg) (d_compare : DefOk P w K mg base "compare" 1 ["a", "b"] m_compare) {f : Addr} {fd : FuncData} (F : FnP K "max_of" s_max_of f fd) (hm : mg "max_of" = some (.ref f)) (hb : Binds K fd ["one", "other"] []) : DefOk P w K mg base "max_of" 2 ["one", "other"] m_max_of :=
  have C := Fam.ent (P := P) (w := w) (K := K) (mg := mg) (base := base) (N := ["one", "other"]) (k := 1) (qual := "max_of") (scope := defScope s_max_of) (f := f) sc_max_of.nd
  def_ok F sc_max_of (show CSs _ K (defBody s_max_of) g_max_of from ssOne (cRet (cIf (tCmp (fun i => op_geA (C.k i) (roomU (C.r i))) v_geA (CE.brw (cCall C d_compare (by decide) (caCons (cSh C 0) (caCons (cSh C 1) (caNil))))) (CE.brw (cInt)) (nomark _)) (cSh C 0) (cSh C 1)))) hm hb 2 2
abbrev s_pair_of : Stmt := topS 27
theorem sc_pair_of : FnScope ["one", "other", "whole", "first", "second", "rest"] ["one", "other", "whole"] (defScope s_pair_of) := ⟨rfl, rfl, rfl, by decide +kernel, rfl, by decide +kernel, by decide +kernel⟩
def g_pair_of : SF := sSeq (sSet 3 (xCall m_max_of (aC (xCall m_minus (aC (xSh 2) (aC (xSh 1) (aN)))) (aC (xC c_ZERO) (aN))))) (sSeq (sSet 4 (xCall m_max_of (aC (xCall m_minus (aC (xSh 2) (aC (xSh 0) (aN)))) (aC (xC c_ZERO) (aN))))) (sSeq (sSet 5 (xCall m_minus (aC (xCall m_minus (aC (xSh 2) (aC (xSh 3) (aN)))) (aC (xSh 4) (aN))))) (sRet (xTup (aC (xCall m_plus (aC (xSh 3) (aC (xCall m_over (aC (xSh 5) (aC (xTup (aC (xC (.int 2)) (aC (xC (.int 1)) (aN)))) (aN)))) (aN)))) (aC (xCall m_plus (aC (xSh 4) (aC (xCall m_over (aC (xSh 5) (aC (xTup (aC (xC (.int 2)) (aC (xC (.int 1)) (aN)))) (aN)))) (aN)))) (aN)))))))
def m_pair_of : List D → M D := runDef 6 3 g_pair_of
theorem ok_pair_of (B : Bi mg) (k_ZERO : CstOk mg "ZERO" c_ZERO K) (d_max_of : DefOk P w K mg base "max_of" 2 ["one", "other"] m_max_of) (d_minus : DefOk P w K mg base "minus" 2 ["a", "b"] m_minus) (d_plus : DefOk P w K mg base "plus" 2 ["a", "b"] m_plus) (d_over : DefOk P w K mg base "over" 2 ["a", "b"] m_over) {f : Addr} {fd : FuncData} (F : FnP K "pair_of" s_pair_of f fd) (hm : mg "pair_of" = some (.ref f)) (hb : Binds K fd ["one", "other", "whole"] []) : DefOk P w K mg base "pair_of" 3 ["one", "other", "whole"] m_pair_of :=
  have C := Fam.ent (P := P) (w := w) (K := K) (mg := mg) (base := base) (N := ["one", "other", "whole", "first", "second", "rest"]) (k := 2) (qual := "pair_of") (scope := defScope s_pair_of) (f := f) sc_pair_of.nd
  def_ok F sc_pair_of (show CSs _ K (defBody s_pair_of) g_pair_of from ssCons (cSet C 3 (cCall C d_max_of (by decide) (caCons (cCall C d_minus (by decide) (caCons (cSh C 2) (caCons (cSh C 1) (caNil)))) (caCons (k_ZERO.ce C) (caNil))))) (ssCons (cSet C 4 (cCall C d_max_of (by decide) (caCons (cCall C d_minus (by decide) (caCons (cSh C 2) (caCons (cSh C 0) (caNil)))) (caCons (k_ZERO.ce C) (caNil))))) (ssCons (cSet C 5 (cCall C d_minus (by decide) (caCons (cCall C d_minus (by decide) (caCons (cSh C 2) (caCons (cSh C 3) (caNil)))) (caCons (cSh C 4) (caNil))))) (ssOne (cRet (cTup (caCons (cCall C d_plus (by decide) (caCons (cSh C 3) (caCons (cCall C d_over (by decide) (caCons (cSh C 5) (caCons (cTup (caCons (cInt) (caCons (cInt) (caNil)))) (caNil)))) (caNil)))) (caCons (cCall C d_plus (by decide) (caCons (cSh C 4) (caCons (cCall C d_over (by decide) (caCons (cSh C 5) (caCons (cTup (caCons (cInt) (caCons (cInt) (caNil)))) (caNil)))) (caNil)))) (caNil))))))))) hm hb 6 3
abbrev s_unlike_pair : Stmt := topS 29
theorem sc_unlike_pair : FnScope ["estate", "claims", "awards", "one", "other", "whole", "due"] ["estate", "claims", "awards"] (defScope s_unlike_pair) := ⟨rfl, rfl, rfl, by decide +kernel, rfl, by decide +kernel, by decide +kernel⟩
def g_unlike_pair : SF := sSeq (sDrop (xCall m_check_claims (aC (xSh 0) (aC (xSh 1) (aN))))) (sSeq (sIf (tV (x2 neD (xL lenD (aC (xNm 2) (aN))) (xL lenD (aC (xNm 1) (aN))))) (sFail) (sNext)) (sSeq (sFor (iRg rng1D (aC (xL lenD (aC (xNm 1) (aN))) (aN))) (gNm 3) (sFor (iRg rng2D (aC (x2 addD (xNm 3) (xC (.int 1))) (aC (xL lenD (aC (xNm 1) (aN))) (aN)))) (gNm 4) (sSeq (sSet 5 (xCall m_plus (aC (x2 ixD (xNm 2) (xNm 3)) (aC (x2 ixD (xNm 2) (xNm 4)) (aN))))) (sSeq (sSet 6 (xCall m_pair_of (aC (xCall m_fraction (aC (x2 ixD (xNm 1) (xNm 3)) (aC (xC (.int 1)) (aN)))) (aC (xCall m_fraction (aC (x2 ixD (xNm 1) (xNm 4)) (aC (xC (.int 1)) (aN)))) (aC (xSh 5) (aN)))))) (sIf (tV (x2 neD (xNm 6) (xTup (aC (x2 ixD (xNm 2) (xNm 3)) (aC (x2 ixD (xNm 2) (xNm 4)) (aN)))))) (sRet (xTup (aC (xSh 3) (aC (xSh 4) (aN))))) (sNext)))))) (sRet (xC .non))))
def m_unlike_pair : List D → M D := runDef 7 3 g_unlike_pair
theorem ok_unlike_pair (B : Bi mg) (d_check_claims : DefOk P w K mg base "check_claims" 1 ["estate", "claims"] m_check_claims) (d_plus : DefOk P w K mg base "plus" 2 ["a", "b"] m_plus) (d_pair_of : DefOk P w K mg base "pair_of" 3 ["one", "other", "whole"] m_pair_of) (d_fraction : DefOk P w K mg base "fraction" 1 ["numerator", "denominator"] m_fraction) {f : Addr} {fd : FuncData} (F : FnP K "unlike_pair" s_unlike_pair f fd) (hm : mg "unlike_pair" = some (.ref f)) (hb : Binds K fd ["estate", "claims", "awards"] []) : DefOk P w K mg base "unlike_pair" 4 ["estate", "claims", "awards"] m_unlike_pair :=
  have C := Fam.ent (P := P) (w := w) (K := K) (mg := mg) (base := base) (N := ["estate", "claims", "awards", "one", "other", "whole", "due"]) (k := 3) (qual := "unlike_pair") (scope := defScope s_unlike_pair) (f := f) sc_unlike_pair.nd
  def_ok F sc_unlike_pair (show CSs _ K (defBody s_unlike_pair) g_unlike_pair from ssCons (cExpr (cCall C d_check_claims (by decide) (caCons (cSh C 0) (caCons (cSh C 1) (caNil))))) (ssCons (cIfS (tCmp (fun i => op_neA (C.k i) (roomU (C.r i))) v_ne (CE.brw (cCallB C (fun i => c_len (C.k i)) v_len B.len bt_len (cbCons (cNm C 2) (cbNil)))) (CE.brw (cCallB C (fun i => c_len (C.k i)) v_len B.len bt_len (cbCons (cNm C 1) (cbNil)))) (nomark _)) (ssOne (cNever)) (ssNil)) (ssCons (cFor C (fun _ => PassesOwn.never) (iRng1E C B.range (caCons (cCallB C (fun i => c_len (C.k i)) v_len B.len bt_len (cbCons (cNm C 1) (cbNil))) (caNil))) (gName' C 3) (ssOne (cFor C (fun _ => PassesOwn.never) (iRng2E C B.range (caCons (cBin (fun i => op_addAll (C.k i)) v_add (cNm C 3) (CE.brw (cInt))) (caCons (cCallB C (fun i => c_len (C.k i)) v_len B.len bt_len (cbCons (cNm C 1) (cbNil))) (caNil)))) (gName' C 4) (ssCons (cSet C 5 (cCall C d_plus (by decide) (caCons (cIx (fun i => ix_both (C.k i)) v_ix (cNm C 2) (cNm C 3) (fun _ _ => rfl)) (caCons (cIx (fun i => ix_both (C.k i)) v_ix (cNm C 2) (cNm C 4) (fun _ _ => rfl)) (caNil))))) (ssCons (cSet C 6 (cCall C d_pair_of (by decide) (caCons (cCall C d_fraction (by decide) (caCons (cIx (fun i => ix_both (C.k i)) v_ix (cNm C 1) (cNm C 3) (fun _ _ => rfl)) (caCons (cInt) (caNil)))) (caCons (cCall C d_fraction (by decide) (caCons (cIx (fun i => ix_both (C.k i)) v_ix (cNm C 1) (cNm C 4) (fun _ _ => rfl)) (caCons (cInt) (caNil)))) (caCons (cSh C 5) (caNil)))))) (ssOne (cIfS (tCmp (fun i => op_neA (C.k i) (roomU (C.r i))) v_ne (cNm C 6) (CE.brw (cTup (caCons (cIx (fun i => ix_both (C.k i)) v_ix (cNm C 2) (cNm C 3) (fun _ _ => rfl)) (caCons (cIx (fun i => ix_both (C.k i)) v_ix (cNm C 2) (cNm C 4) (fun _ _ => rfl)) (caNil))))) (nomark _)) (ssOne (cRet (cTup (caCons (cSh C 3) (caCons (cSh C 4) (caNil)))))) (ssNil)))))))) (ssOne (cRet (cNon)))))) hm hb 7 3
abbrev s__law_begin : Stmt := topS 31
theorem sc__law_begin : FnScope ["script", "seed", "cell"] ["script"] (defScope s__law_begin) := ⟨rfl, rfl, rfl, by decide +kernel, rfl, by decide +kernel, by decide +kernel⟩
theorem rd_begin {k : Nat} {f : Addr} (B : Bi mg) (i : EntI k "_law_begin" (defScope s__law_begin) f) : PSs (entF P w K mg base ["script", "seed", "cell"] k "_law_begin" (defScope s__law_begin) f i) (defBody s__law_begin) (tBegin K (tBeginL K)) :=
  pss_cons (ps_set (i := 1) sc__law_begin.nd rfl (.inl rfl) pe_int)
    (pss_cons (ps_for PassesOwn.never rfl (pi_list (pv 0)) (pg_name (i := 2) sc__law_begin.nd rfl (.inl rfl)) (pss_one (ps_set (i := 1) sc__law_begin.nd rfl (.inl rfl) (pe_op op_mod (pe_op (op_addAll rfl) (pe_op (op_addAll rfl) (pe_op op_mulW (pv 1) pe_int) (pe_op op_mod (pe_callTy call_int1 (by rfl) B.int bt_int (pa_cons (pv 2) pa_nil)) pe_int)) pe_int) pe_int))))
      (pss_one (ps_ret (pe_lst (pa_cons (pe_callTy call_list_of (by rfl) B.list bt_list (pa_cons (pv 0) pa_nil)) (pa_cons pe_int (pa_cons pe_int (pa_cons (pv 1) pa_nil))))))))
theorem ok_begin (B : Bi mg) {f : Addr} {fd : FuncData} (F : FnP K "_law_begin" s__law_begin f fd) : FnOk P w K mg base CX0 1 f fd ["script"] (spBegin K) := begin_ok F sc__law_begin fun i => rd_begin B i
abbrev s__law_take : Stmt := topS 32
theorem sc__law_take : FnScope ["d", "many", "digit", "small"] ["d", "many"] (defScope s__law_take) := ⟨rfl, rfl, rfl, by decide +kernel, rfl, by decide +kernel, by decide +kernel⟩
def g__law_take : SF := sSeq (sIf (tAnd (tV (x2 eqD (xRd 0 2) (xC (.int 0)))) (tV (x2 ltA (xRd 0 1) (xL lenD (aC (xRd 0 0) (aN)))))) (sSeq (sWr 0 2 (xL absD (aC (xL intD (aC (x2 ixD (xRd 0 0) (xRd 0 1)) (aN))) (aN)))) (sSeq (sWr 0 1 (x2 addD (xRd 0 1) (xC (.int 1)))) (sIf (tV (x2 ltA (xRd 0 2) (x2 powD (xC (.int 10)) (xC (.int 18))))) (sSeq (sSet 3 (xL intD (aC (xRd 0 2) (aN)))) (sSeq (sWr 0 2 (xC (.int 0))) (sRet (x2 modD (xNm 3) (xNm 1))))) (sNext)))) (sNext)) (sSeq (sIf (tV (x2 gtA (xRd 0 2) (xC (.int 0)))) (sSeq (sSet 2 (x2 modD (xL intD (aC (xRd 0 2) (aN))) (xNm 1))) (sSeq (sWr 0 2 (x2 divD (xL intD (aC (xRd 0 2) (aN))) (xNm 1))) (sRet (xSh 2)))) (sNext)) (sSeq (sWr 0 3 (x2 modD (xL intD (aC (x2 addD (x2 mulD (xRd 0 3) (xC (.int 48271))) (xC (.int 11))) (aN))) (xC (.int 2147483647)))) (sRet (x2 modD (xL intD (aC (x2 divD (xRd 0 3) (xC (.int 3))) (aN))) (xNm 1)))))
def m__law_take : List D → M D := runDef 4 2 g__law_take
theorem ok__law_take (B : Bi mg)  {f : Addr} {fd : FuncData} (F : FnP K "_law_take" s__law_take f fd) (hm : mg "_law_take" = some (.ref f)) (hb : Binds K fd ["d", "many"] []) : DefOk P w K mg base "_law_take" 1 ["d", "many"] m__law_take :=
  have C := Fam.ent (P := P) (w := w) (K := K) (mg := mg) (base := base) (N := ["d", "many", "digit", "small"]) (k := 0) (qual := "_law_take") (scope := defScope s__law_take) (f := f) sc__law_take.nd
  def_ok F sc__law_take (show CSs _ K (defBody s__law_take) g__law_take from ssCons (cIfS (CW.t (wAnd (tCmp (fun i => op_eqA (C.k i) (roomU (C.r i))) v_eq (CE.brw (cRd C 0 2 (by decide))) (CE.brw (cInt)) (nomark _)) (wAnd1 (tCmp (fun i => op_ltA (C.k i) (roomU (C.r i))) v_ltA (CE.brw (cRd C 0 1 (by decide))) (CE.brw (cCallB C (fun i => c_len (C.k i)) v_len B.len bt_len (cbCons (CE.brw (cRd C 0 0 (by decide))) (cbNil)))) (nomark _))))) (ssCons (cWr C 0 2 (cCallB C (fun i => call_abs) v_abs B.abs bt_abs (cbCons (CE.brw (cCallT C (fun i => call_int1) v_int B.int bt_int (cbCons (CE.brw (cIx (fun i => ix_both (C.k i)) v_ix (CE.brw (cRd C 0 0 (by decide))) (CE.brw (cRd C 0 1 (by decide))) (fun _ _ => rfl))) (cbNil)))) (cbNil))) (by decide)) (ssCons (cWr C 0 1 (cBin (fun i => op_addAll (C.k i)) v_add (CE.brw (cRd C 0 1 (by decide))) (CE.brw (cInt))) (by decide)) (ssOne (cIfS (tCmp (fun i => op_ltA (C.k i) (roomU (C.r i))) v_ltA (CE.brw (cRd C 0 2 (by decide))) (CE.brw (cBin (fun _ => op_pow) v_pow (CE.brw (cInt)) (CE.brw (cInt)))) (nomark _)) (ssCons (cSet C 3 (cCallT C (fun i => call_int1) v_int B.int bt_int (cbCons (CE.brw (cRd C 0 2 (by decide))) (cbNil)))) (ssCons (cWr C 0 2 (cInt) (by decide)) (ssOne (cRet (cBin (fun _ => op_mod) v_mod (cNm C 3) (cNm C 1)))))) (ssNil))))) (ssNil)) (ssCons (cIfS (tCmp (fun i => op_gtA (C.k i) (roomU (C.r i))) v_gtA (CE.brw (cRd C 0 2 (by decide))) (CE.brw (cInt)) (nomark _)) (ssCons (cSet C 2 (cBin (fun _ => op_mod) v_mod (CE.brw (cCallT C (fun i => call_int1) v_int B.int bt_int (cbCons (CE.brw (cRd C 0 2 (by decide))) (cbNil)))) (cNm C 1))) (ssCons (cWr C 0 2 (cBin (fun _ => op_fdivW) v_div (CE.brw (cCallT C (fun i => call_int1) v_int B.int bt_int (cbCons (CE.brw (cRd C 0 2 (by decide))) (cbNil)))) (cNm C 1)) (by decide)) (ssOne (cRet (cSh C 2))))) (ssNil)) (ssCons (cWr C 0 3 (cBin (fun _ => op_mod) v_mod (CE.brw (cCallT C (fun i => call_int1) v_int B.int bt_int (cbCons (CE.brw (cBin (fun i => op_addAll (C.k i)) v_add (CE.brw (cBin (fun _ => op_mulW) v_mul (CE.brw (cRd C 0 3 (by decide))) (CE.brw (cInt)))) (CE.brw (cInt)))) (cbNil)))) (CE.brw (cInt))) (by decide)) (ssOne (cRet (cBin (fun _ => op_mod) v_mod (CE.brw (cCallT C (fun i => call_int1) v_int B.int bt_int (cbCons (CE.brw (cBin (fun _ => op_fdivW) v_div (CE.brw (cRd C 0 3 (by decide))) (CE.brw (cInt)))) (cbNil)))) (cNm C 1))))))) hm hb 4 2
abbrev s_law : Stmt := topS 33
theorem sc_law : FnScope ("script" :: "d" :: "claims" :: "estate" :: "rest" :: "many" :: "whole" :: "turned" :: "rule" :: "scale" :: "k" :: "some" :: "halves_v" :: "factor" :: "awards" :: "others" :: "one" :: "first" :: "second" :: "left" :: "other" :: "more" :: "part" :: "again" :: "claim" :: "award" :: []) ["script"] (defScope s_law) := ⟨rfl, rfl, rfl, by decide +kernel, rfl, by decide +kernel, by decide +kernel⟩
def g_law : SF := sSeq (sSet 2 (xL tupD (aC (xOf (oComp (iRg rng1D (aC (x2 addD (xC (.int 1)) (xCall m__law_take (aC (xSh 1) (aC (xC (.int 4)) (aN))))) (aN))) (gNm 10) (tYes') (xCall m__law_take (aC (xSh 1) (aC (xC (.int 13)) (aN)))) [10])) (aN)))) (sSeq (sSet 3 (xCall m__law_take (aC (xSh 1) (aC (x2 addD (xL sumD (aC (xNm 2) (aN))) (xC (.int 1))) (aN))))) (sSeq (sSet 4 (x2 subD (xL sumD (aC (xNm 2) (aN))) (xNm 3))) (sSeq (sSet 5 (xL lenD (aC (xNm 2) (aN)))) (sSeq (sSet 6 (xL tupD (aC (xOf (oComp (iSq (xNm 2)) (gNm 24) (tYes') (xCall m_fraction (aC (xSh 24) (aC (xC (.int 1)) (aN)))) [24])) (aN)))) (sSeq (sSet 7 (xC (.dic [.inr "parts", .inr "alike", .inr "losses", .inr "halves", .inr "orders"] [.str "parts", .str "losses", .str "alike", .str "halves", .str "orders"]))) (sSeq (sFor (iSq (xTup (aC (xC (.str "parts")) (aC (xC (.str "alike")) (aC (xC (.str "losses")) (aC (xC (.str "halves")) (aC (xC (.str "orders")) (aN)))))))) (gNm 8) (sSeq (sSet 14 (xCall m_settled (aC (xSh 8) (aC (xSh 3) (aC (xSh 2) (aN)))))) (sSeq (sSet 15 (xCall m_settled (aC (x2 dixD (xSh 7) (xSh 8)) (aC (xSh 4) (aC (xSh 2) (aN)))))) (sSeq (sIf (tV (x2 neD (xL tupD (aC (xOf (oComp (iRg rng1D (aC (xSh 5) (aN))) (gNm 10) (tYes') (xCall m_minus (aC (x2 ixD (xNm 6) (xNm 10)) (aC (x2 ixD (xNm 15) (xNm 10)) (aN)))) [10])) (aN))) (xNm 14))) (sRet (xC (.bl false))) (sNext)) (sSeq (sIf (tOr (tV (x2 neD (xCall m_total (aC (xSh 14) (aN))) (xCall m_fraction (aC (xSh 3) (aC (xC (.int 1)) (aN)))))) (tV (x2 isNotBD (xCall m_is_right (aC (xSh 3) (aC (xSh 2) (aC (xSh 14) (aN))))) (xC (.bl true))))) (sRet (xC (.bl false))) (sNext)) (sSeq (sFor (iRg rng1D (aC (xSh 5) (aN))) (gNm 16) (sFor (iRg rng1D (aC (xSh 5) (aN))) (gNm 20) (sIf (tV (x2 geA (x2 ixD (xNm 2) (xNm 16)) (x2 ixD (xNm 2) (xNm 20)))) (sIf (tOr (tV (x2 ltA (xCall m_compare (aC (x2 ixD (xNm 14) (xNm 16)) (aC (x2 ixD (xNm 14) (xNm 20)) (aN)))) (xC (.int 0)))) (tV (x2 ltA (xCall m_compare (aC (xCall m_minus (aC (x2 ixD (xNm 6) (xNm 16)) (aC (x2 ixD (xNm 14) (xNm 16)) (aN)))) (aC (xCall m_minus (aC (x2 ixD (xNm 6) (xNm 20)) (aC (x2 ixD (xNm 14) (xNm 20)) (aN)))) (aN)))) (xC (.int 0))))) (sRet (xC (.bl false))) (sNext)) (sNext)))) (sIf (tV (x2 ltA (xNm 3) (xL sumD (aC (xNm 2) (aN))))) (sSeq (sSet 21 (xCall m_settled (aC (xSh 8) (aC (x2 addD (xNm 3) (xC (.int 1))) (aC (xSh 2) (aN)))))) (sIf (tV (x2 gtA (xL lenD (aC (xOf (oComp (iRg rng1D (aC (xSh 5) (aN))) (gNm 10) (tV (x2 ltA (xCall m_compare (aC (x2 ixD (xNm 21) (xNm 10)) (aC (x2 ixD (xNm 14) (xNm 10)) (aN)))) (xC (.int 0)))) (xSh 10) [10])) (aN))) (xC (.int 0)))) (sRet (xC (.bl false))) (sNext))) (sNext)))))))) (sSeq (sSet 9 (xC (.int 1))) (sSeq (sFor (iRg rng2D (aC (xC (.int 2)) (aC (x2 addD (xNm 5) (xC (.int 1))) (aN)))) (gNm 10) (sSet 9 (x2 mulD (xNm 9) (xNm 10)))) (sSeq (sSet 9 (x2 mulD (x2 mulD (xNm 9) (xC (.int 2))) (xL max2D (aC (xC (.int 1)) (aC (xL sumD (aC (xNm 2) (aN))) (aN)))))) (sSeq (sSet 11 (xOf (oComp (iRg rng1D (aC (xSh 5) (aN))) (gNm 10) (tV (x2 eqD (xCall m__law_take (aC (xSh 1) (aC (xC (.int 2)) (aN)))) (xC (.int 0)))) (xSh 10) [10]))) (sSeq (sIf (tV (x2 gtA (xL lenD (aC (xNm 11) (aN))) (xC (.int 0)))) (sFor (iSq (xTup (aC (xC (.str "parts")) (aC (xC (.str "alike")) (aC (xC (.str "losses")) (aC (xC (.str "halves")) (aN))))))) (gNm 8) (sSeq (sSet 14 (xCall m_settled (aC (xSh 8) (aC (xSh 3) (aC (xSh 2) (aN)))))) (sSeq (sSet 22 (xCall m_total (aC (xOf (oComp (iSq (xNm 11)) (gNm 10) (tYes') (x2 ixD (xNm 14) (xNm 10)) [10])) (aN)))) (sSeq (sIf (tV (x2 neD (x2 modD (xL intD (aC (x2 mulD (xNm 9) (x2 ixD (xNm 22) (xC (.int 0)))) (aN))) (x2 ixD (xNm 22) (xC (.int 1)))) (xC (.int 0)))) (sRet (xC (.bl false))) (sNext)) (sSeq (sSet 23 (xCall m_settled (aC (xSh 8) (aC (x2 divD (x2 mulD (xNm 9) (x2 ixD (xNm 22) (xC (.int 0)))) (x2 ixD (xNm 22) (xC (.int 1)))) (aC (xL tupD (aC (xOf (oComp (iSq (xNm 11)) (gNm 10) (tYes') (x2 mulD (xNm 9) (x2 ixD (xNm 2) (xNm 10))) [10])) (aN))) (aN)))))) (sIf (tV (x2 neD (xNm 23) (xL tupD (aC (xOf (oComp (iSq (xNm 11)) (gNm 10) (tYes') (xCall m_fraction (aC (x2 mulD (xNm 9) (x2 ixD (x2 ixD (xNm 14) (xNm 10)) (xC (.int 0)))) (aC (x2 ixD (x2 ixD (xNm 14) (xNm 10)) (xC (.int 1))) (aN)))) [10])) (aN))))) (sRet (xC (.bl false))) (sNext))))))) (sNext)) (sSeq (sSet 12 (xCall m_settled (aC (xC (.str "halves")) (aC (xSh 3) (aC (xSh 2) (aN)))))) (sSeq (sIf (tV (x2 isNotD (xCall m_unlike_pair (aC (xSh 3) (aC (xSh 2) (aC (xSh 12) (aN))))) (xC .non))) (sRet (xC (.bl false))) (sNext)) (sSeq (sIf (tV (x2 eqD (xNm 5) (xC (.int 2)))) (sSeq (sSet 17 (xL max2D (aC (xC (.int 0)) (aC (x2 subD (xNm 3) (x2 ixD (xNm 2) (xC (.int 1)))) (aN))))) (sSeq (sSet 18 (xL max2D (aC (xC (.int 0)) (aC (x2 subD (xNm 3) (x2 ixD (xNm 2) (xC (.int 0)))) (aN))))) (sSeq (sSet 19 (xCall m_fraction (aC (x2 subD (x2 subD (xNm 3) (xNm 17)) (xNm 18)) (aC (xC (.int 2)) (aN))))) (sIf (tOr (tV (x2 neD (xNm 12) (xTup (aC (xCall m_plus (aC (xCall m_fraction (aC (xSh 17) (aC (xC (.int 1)) (aN)))) (aC (xSh 19) (aN)))) (aC (xCall m_plus (aC (xCall m_fraction (aC (xSh 18) (aC (xC (.int 1)) (aN)))) (aC (xSh 19) (aN)))) (aN)))))) (tV (x2 neD (xCall m_settled (aC (xC (.str "orders")) (aC (xSh 3) (aC (xSh 2) (aN))))) (xNm 12)))) (sRet (xC (.bl false))) (sNext))))) (sNext)) (sSeq (sSet 13 (x2 addD (xC (.int 1)) (xCall m__law_take (aC (xSh 1) (aC (xC (.int 5)) (aN)))))) (sSeq (sFor (iSq (xTup (aC (xC (.str "parts")) (aC (xC (.str "alike")) (aC (xC (.str "losses")) (aC (xC (.str "halves")) (aC (xC (.str "orders")) (aN)))))))) (gNm 8) (sIf (tV (x2 neD (xCall m_settled (aC (xSh 8) (aC (x2 mulD (xNm 13) (xNm 3)) (aC (xL tupD (aC (xOf (oComp (iSq (xNm 2)) (gNm 24) (tYes') (x2 mulD (xNm 13) (xNm 24)) [24])) (aN))) (aN))))) (xL tupD (aC (xOf (oComp (iSq (xCall m_settled (aC (xSh 8) (aC (xSh 3) (aC (xSh 2) (aN)))))) (gNm 25) (tYes') (xCall m_fraction (aC (x2 mulD (xNm 13) (x2 ixD (xNm 25) (xC (.int 0)))) (aC (x2 ixD (xNm 25) (xC (.int 1))) (aN)))) [25])) (aN))))) (sRet (xC (.bl false))) (sNext))) (sRet (xAnd (x2 eqD (xCall m_settled (aC (xC (.str "alike")) (aC (xC (.int 0)) (aC (xSh 2) (aN))))) (x2 repT (xTup (aC (xTup (aC (xC (.int 0)) (aC (xC (.int 1)) (aN)))) (aN))) (xNm 5))) (x2 eqD (xCall m_settled (aC (xC (.str "halves")) (aC (xL sumD (aC (xNm 2) (aN))) (aC (xSh 2) (aN))))) (xNm 6))))))))))))))))))))
theorem ok_law (B : Bi mg) (d__law_take : DefOk P w K mg base "_law_take" 1 ["d", "many"] m__law_take) (d_settled : DefOk P w K mg base "settled" 5 ["rule", "estate", "claims"] m_settled) (d_unlike_pair : DefOk P w K mg base "unlike_pair" 4 ["estate", "claims", "awards"] m_unlike_pair) (d_fraction : DefOk P w K mg base "fraction" 1 ["numerator", "denominator"] m_fraction) (d_total : DefOk P w K mg base "total" 3 ["items"] m_total) (d_is_right : DefOk P w K mg base "is_right" 4 ["estate", "claims", "awards"] m_is_right) (d_minus : DefOk P w K mg base "minus" 2 ["a", "b"] m_minus) (d_plus : DefOk P w K mg base "plus" 2 ["a", "b"] m_plus) (d_compare : DefOk P w K mg base "compare" 1 ["a", "b"] m_compare) {f fB : Addr} {fd fdB : FuncData} (F : FnP K "law" s_law f fd) (FB : FnOk P w K mg base CX0 1 fB fdB ["script"] (spBegin K)) (bB : Binds K fdB ["script"] []) (gB : mg "_law_begin" = some (.ref fB)) (kpB : PySem.W.keepIn K (.ref fB) = true) : FnOk P w K mg base CX0 6 f fd ["script"] (spLaw K 26 g_law) :=
  have C := Fam.ent (P := P) (w := w) (K := K) (mg := mg) (base := base) (N := ("script" :: "d" :: "claims" :: "estate" :: "rest" :: "many" :: "whole" :: "turned" :: "rule" :: "scale" :: "k" :: "some" :: "halves_v" :: "factor" :: "awards" :: "others" :: "one" :: "first" :: "second" :: "left" :: "other" :: "more" :: "part" :: "again" :: "claim" :: "award" :: [])) (k := 5) (qual := "law") (scope := defScope s_law) (f := f) sc_law.nd
  law_ok F sc_law FB (by decide) bB gB kpB rfl (show CSs _ K ((defBody s_law).drop 1) g_law from ssCons (cSet C 2 (cCallT C (fun i => c_tup (C.k i)) v_tup B.tuple bt_tuple (cbCons (CE.brw (CO.frz (oLc C [("k", 10)] (CI.w (iRng1E C B.range (caCons (cBin (fun i => op_addAll (C.k i)) v_add (CE.brw (cInt)) (CE.brw (cCall C d__law_take (by decide) (caCons (cSh C 1) (caCons (cInt) (caNil)))))) (caNil)))) (fun _ => blkOk_by (by rw [ent_sc]; decide +kernel)) (gName' (C.blk _) 10) (ctNone) (cCall (C.blk _) d__law_take (by decide) (caCons (cSh (C.blk _) 1) (caCons (cInt) (caNil))))))) (cbNil)))) (ssCons (cSet C 3 (cCall C d__law_take (by decide) (caCons (cSh C 1) (caCons (cBin (fun i => op_addAll (C.k i)) v_add (CE.brw (cCallB C (fun i => c_sum (C.k i) (C.c i)) v_sum B.sum bt_sum (cbCons (cNm C 2) (cbNil)))) (CE.brw (cInt))) (caNil))))) (ssCons (cSet C 4 (cBin (fun _ => op_sub) v_sub (CE.brw (cCallB C (fun i => c_sum (C.k i) (C.c i)) v_sum B.sum bt_sum (cbCons (cNm C 2) (cbNil)))) (cNm C 3))) (ssCons (cSet C 5 (cCallB C (fun i => c_len (C.k i)) v_len B.len bt_len (cbCons (cNm C 2) (cbNil)))) (ssCons (cSet C 6 (cCallT C (fun i => c_tup (C.k i)) v_tup B.tuple bt_tuple (cbCons (CE.brw (CO.frz (oLc C [("claim", 24)] (iSeqB C (cNm C 2)) (fun _ => blkOk_by (by rw [ent_sc]; decide +kernel)) (gName' (C.blk _) 24) (ctNone) (cCall (C.blk _) d_fraction (by decide) (caCons (cSh (C.blk _) 24) (caCons (cInt) (caNil))))))) (cbNil)))) (ssCons (cSet C 7 (cDisp C (ks := [.inr "parts", .inr "alike", .inr "losses", .inr "halves", .inr "orders"]) (ds := [.str "parts", .str "losses", .str "alike", .str "halves", .str "orders"]) (cdCons (cdCons (cdCons (cdCons (cdCons (cdNil)))))) (by kernel_rfl) rfl (fun _ _ => repL_strs ["parts", "losses", "alike", "halves", "orders"]))) (ssCons (cFor C (fun _ => PassesOwn.never) (iSeqE C (cTup (caCons (cStr) (caCons (cStr) (caCons (cStr) (caCons (cStr) (caCons (cStr) (caNil)))))))) (gName' C 8) (ssCons (cSet C 14 (cCall C d_settled (by decide) (caCons (cSh C 8) (caCons (cSh C 3) (caCons (cSh C 2) (caNil)))))) (ssCons (cSet C 15 (cCall C d_settled (by decide) (caCons (cDGet C (cSh C 7) (cSh C 8)) (caCons (cSh C 4) (caCons (cSh C 2) (caNil)))))) (ssCons (cIfS (tCmp (fun i => op_neA (C.k i) (roomU (C.r i))) v_ne (CE.brw (cCallT C (fun i => c_tup (C.k i)) v_tup B.tuple bt_tuple (cbCons (CE.brw (CO.frz (oLc C [("k", 10)] (CI.w (iRng1E C B.range (caCons (cSh C 5) (caNil)))) (fun _ => blkOk_by (by rw [ent_sc]; decide +kernel)) (gName' (C.blk _) 10) (ctNone) (cCall (C.blk _) d_minus (by decide) (caCons (cIx (fun i => ix_both ((C.blk _).k i)) v_ix (cNm (C.blk _) 6) (cNm (C.blk _) 10) (fun _ _ => rfl)) (caCons (cIx (fun i => ix_both ((C.blk _).k i)) v_ix (cNm (C.blk _) 15) (cNm (C.blk _) 10) (fun _ _ => rfl)) (caNil))))))) (cbNil)))) (cNm C 14) (nomark _)) (ssOne (cRet (cBl))) (ssNil)) (ssCons (cIfS (CW.t (wOr (tCmp (fun i => op_neA (C.k i) (roomU (C.r i))) v_ne (CE.brw (cCall C d_total (by decide) (caCons (cSh C 14) (caNil)))) (CE.brw (cCall C d_fraction (by decide) (caCons (cSh C 3) (caCons (cInt) (caNil))))) (nomark _)) (wOr1 (tCmp (fun _ => op_notBl) v_isNotB (CE.brw (cCall C d_is_right (by decide) (caCons (cSh C 3) (caCons (cSh C 2) (caCons (cSh C 14) (caNil)))))) (CE.brw (cBl)) (nomark _))))) (ssOne (cRet (cBl))) (ssNil)) (ssCons (cFor C (fun _ => PassesOwn.never) (iRng1E C B.range (caCons (cSh C 5) (caNil))) (gName' C 16) (ssOne (cFor C (fun _ => PassesOwn.never) (iRng1E C B.range (caCons (cSh C 5) (caNil))) (gName' C 20) (ssOne (cIfS (tCmp (fun i => op_geA (C.k i) (roomU (C.r i))) v_geA (CE.brw (cIx (fun i => ix_both (C.k i)) v_ix (cNm C 2) (cNm C 16) (fun _ _ => rfl))) (CE.brw (cIx (fun i => ix_both (C.k i)) v_ix (cNm C 2) (cNm C 20) (fun _ _ => rfl))) (nomark _)) (ssOne (cIfS (CW.t (wOr (tCmp (fun i => op_ltA (C.k i) (roomU (C.r i))) v_ltA (CE.brw (cCall C d_compare (by decide) (caCons (cIx (fun i => ix_both (C.k i)) v_ix (cNm C 14) (cNm C 16) (fun _ _ => rfl)) (caCons (cIx (fun i => ix_both (C.k i)) v_ix (cNm C 14) (cNm C 20) (fun _ _ => rfl)) (caNil))))) (CE.brw (cInt)) (nomark _)) (wOr1 (tCmp (fun i => op_ltA (C.k i) (roomU (C.r i))) v_ltA (CE.brw (cCall C d_compare (by decide) (caCons (cCall C d_minus (by decide) (caCons (cIx (fun i => ix_both (C.k i)) v_ix (cNm C 6) (cNm C 16) (fun _ _ => rfl)) (caCons (cIx (fun i => ix_both (C.k i)) v_ix (cNm C 14) (cNm C 16) (fun _ _ => rfl)) (caNil)))) (caCons (cCall C d_minus (by decide) (caCons (cIx (fun i => ix_both (C.k i)) v_ix (cNm C 6) (cNm C 20) (fun _ _ => rfl)) (caCons (cIx (fun i => ix_both (C.k i)) v_ix (cNm C 14) (cNm C 20) (fun _ _ => rfl)) (caNil)))) (caNil))))) (CE.brw (cInt)) (nomark _))))) (ssOne (cRet (cBl))) (ssNil))) (ssNil)))))) (ssOne (cIfS (tCmp (fun i => op_ltA (C.k i) (roomU (C.r i))) v_ltA (cNm C 3) (CE.brw (cCallB C (fun i => c_sum (C.k i) (C.c i)) v_sum B.sum bt_sum (cbCons (cNm C 2) (cbNil)))) (nomark _)) (ssCons (cSet C 21 (cCall C d_settled (by decide) (caCons (cSh C 8) (caCons (cBin (fun i => op_addAll (C.k i)) v_add (cNm C 3) (CE.brw (cInt))) (caCons (cSh C 2) (caNil)))))) (ssOne (cIfS (tCmp (fun i => op_gtA (C.k i) (roomU (C.r i))) v_gtA (CE.brw (cCallB C (fun i => c_len (C.k i)) v_len B.len bt_len (cbCons (CE.brw (CO.frz (oLc C [("k", 10)] (CI.w (iRng1E C B.range (caCons (cSh C 5) (caNil)))) (fun _ => blkOk_by (by rw [ent_sc]; decide +kernel)) (gName' (C.blk _) 10) (ctOne (tCmp (fun i => op_ltA ((C.blk _).k i) (roomU ((C.blk _).r i))) v_ltA (CE.brw (cCall (C.blk _) d_compare (by decide) (caCons (cIx (fun i => ix_both ((C.blk _).k i)) v_ix (cNm (C.blk _) 21) (cNm (C.blk _) 10) (fun _ _ => rfl)) (caCons (cIx (fun i => ix_both ((C.blk _).k i)) v_ix (cNm (C.blk _) 14) (cNm (C.blk _) 10) (fun _ _ => rfl)) (caNil))))) (CE.brw (cInt)) (nomark _))) (cSh (C.blk _) 10)))) (cbNil)))) (CE.brw (cInt)) (nomark _)) (ssOne (cRet (cBl))) (ssNil)))) (ssNil))))))))) (ssCons (cSet C 9 (cInt)) (ssCons (cFor C (fun _ => PassesOwn.never) (iRng2E C B.range (caCons (cInt) (caCons (cBin (fun i => op_addAll (C.k i)) v_add (cNm C 5) (CE.brw (cInt))) (caNil)))) (gName' C 10) (ssOne (cSet C 9 (cBin (fun _ => op_mulW) v_mul (cNm C 9) (cNm C 10))))) (ssCons (cSet C 9 (cBin (fun _ => op_mulW) v_mul (CE.brw (cBin (fun _ => op_mulW) v_mul (cNm C 9) (CE.brw (cInt)))) (CE.brw (cCallB C (fun i => call_max2 (C.c i)) v_max2 B.max bt_max (cbCons (CE.brw (cInt)) (cbCons (CE.brw (cCallB C (fun i => c_sum (C.k i) (C.c i)) v_sum B.sum bt_sum (cbCons (cNm C 2) (cbNil)))) (cbNil))))))) (ssCons (cSetLc C 11 [("k", 10)] (CI.w (iRng1E C B.range (caCons (cSh C 5) (caNil)))) (fun _ => blkOk_by (by rw [ent_sc]; decide +kernel)) (gName' (C.blk _) 10) (ctOne (tCmp (fun i => op_eqA ((C.blk _).k i) (roomU ((C.blk _).r i))) v_eq (CE.brw (cCall (C.blk _) d__law_take (by decide) (caCons (cSh (C.blk _) 1) (caCons (cInt) (caNil))))) (CE.brw (cInt)) (nomark _))) (cSh (C.blk _) 10)) (ssCons (cIfS (tCmp (fun i => op_gtA (C.k i) (roomU (C.r i))) v_gtA (CE.brw (cCallB C (fun i => c_len (C.k i)) v_len B.len bt_len (cbCons (cNm C 11) (cbNil)))) (CE.brw (cInt)) (nomark _)) (ssOne (cFor C (fun _ => PassesOwn.never) (iSeqE C (cTup (caCons (cStr) (caCons (cStr) (caCons (cStr) (caCons (cStr) (caNil))))))) (gName' C 8) (ssCons (cSet C 14 (cCall C d_settled (by decide) (caCons (cSh C 8) (caCons (cSh C 3) (caCons (cSh C 2) (caNil)))))) (ssCons (cSet C 22 (cCall C d_total (by decide) (caCons (CO.frz (oLc C [("k", 10)] (iSeqB C (cNm C 11)) (fun _ => blkOk_by (by rw [ent_sc]; decide +kernel)) (gName' (C.blk _) 10) (ctNone) (cIx (fun i => ix_both ((C.blk _).k i)) v_ix (cNm (C.blk _) 14) (cNm (C.blk _) 10) (fun _ _ => rfl)))) (caNil)))) (ssCons (cIfS (tCmp (fun i => op_neA (C.k i) (roomU (C.r i))) v_ne (CE.brw (cBin (fun _ => op_mod) v_mod (CE.brw (cCallT C (fun i => call_int1) v_int B.int bt_int (cbCons (CE.brw (cBin (fun _ => op_mulW) v_mul (cNm C 9) (CE.brw (cIx (fun i => ix_both (C.k i)) v_ix (cNm C 22) (CE.brw (cInt)) (fun _ _ => rfl))))) (cbNil)))) (CE.brw (cIx (fun i => ix_both (C.k i)) v_ix (cNm C 22) (CE.brw (cInt)) (fun _ _ => rfl))))) (CE.brw (cInt)) (nomark _)) (ssOne (cRet (cBl))) (ssNil)) (ssCons (cSet C 23 (cCall C d_settled (by decide) (caCons (cSh C 8) (caCons (cBin (fun _ => op_fdivW) v_div (CE.brw (cBin (fun _ => op_mulW) v_mul (cNm C 9) (CE.brw (cIx (fun i => ix_both (C.k i)) v_ix (cNm C 22) (CE.brw (cInt)) (fun _ _ => rfl))))) (CE.brw (cIx (fun i => ix_both (C.k i)) v_ix (cNm C 22) (CE.brw (cInt)) (fun _ _ => rfl)))) (caCons (cCallT C (fun i => c_tup (C.k i)) v_tup B.tuple bt_tuple (cbCons (CE.brw (CO.frz (oLc C [("k", 10)] (iSeqB C (cNm C 11)) (fun _ => blkOk_by (by rw [ent_sc]; decide +kernel)) (gName' (C.blk _) 10) (ctNone) (cBin (fun _ => op_mulW) v_mul (cNm (C.blk _) 9) (CE.brw (cIx (fun i => ix_both ((C.blk _).k i)) v_ix (cNm (C.blk _) 2) (cNm (C.blk _) 10) (fun _ _ => rfl))))))) (cbNil))) (caNil)))))) (ssOne (cIfS (tCmp (fun i => op_neA (C.k i) (roomU (C.r i))) v_ne (cNm C 23) (CE.brw (cCallT C (fun i => c_tup (C.k i)) v_tup B.tuple bt_tuple (cbCons (CE.brw (CO.frz (oLc C [("k", 10)] (iSeqB C (cNm C 11)) (fun _ => blkOk_by (by rw [ent_sc]; decide +kernel)) (gName' (C.blk _) 10) (ctNone) (cCall (C.blk _) d_fraction (by decide) (caCons (cBin (fun _ => op_mulW) v_mul (cNm (C.blk _) 9) (CE.brw (cIx (fun i => ix_both ((C.blk _).k i)) v_ix (CE.brw (cIx (fun i => ix_both ((C.blk _).k i)) v_ix (cNm (C.blk _) 14) (cNm (C.blk _) 10) (fun _ _ => rfl))) (CE.brw (cInt)) (fun _ _ => rfl)))) (caCons (cIx (fun i => ix_both ((C.blk _).k i)) v_ix (CE.brw (cIx (fun i => ix_both ((C.blk _).k i)) v_ix (cNm (C.blk _) 14) (cNm (C.blk _) 10) (fun _ _ => rfl))) (CE.brw (cInt)) (fun _ _ => rfl)) (caNil))))))) (cbNil)))) (nomark _)) (ssOne (cRet (cBl))) (ssNil))))))))) (ssNil)) (ssCons (cSet C 12 (cCall C d_settled (by decide) (caCons (cStr) (caCons (cSh C 3) (caCons (cSh C 2) (caNil)))))) (ssCons (cIfS (tCmp (fun _ => op_notN) v_isNot (CE.brw (cCall C d_unlike_pair (by decide) (caCons (cSh C 3) (caCons (cSh C 2) (caCons (cSh C 12) (caNil)))))) (CE.brw (cNon)) (nomark _)) (ssOne (cRet (cBl))) (ssNil)) (ssCons (cIfS (tCmp (fun i => op_eqA (C.k i) (roomU (C.r i))) v_eq (cNm C 5) (CE.brw (cInt)) (nomark _)) (ssCons (cSet C 17 (cCallB C (fun i => call_max2 (C.c i)) v_max2 B.max bt_max (cbCons (CE.brw (cInt)) (cbCons (CE.brw (cBin (fun _ => op_sub) v_sub (cNm C 3) (CE.brw (cIx (fun i => ix_both (C.k i)) v_ix (cNm C 2) (CE.brw (cInt)) (fun _ _ => rfl))))) (cbNil))))) (ssCons (cSet C 18 (cCallB C (fun i => call_max2 (C.c i)) v_max2 B.max bt_max (cbCons (CE.brw (cInt)) (cbCons (CE.brw (cBin (fun _ => op_sub) v_sub (cNm C 3) (CE.brw (cIx (fun i => ix_both (C.k i)) v_ix (cNm C 2) (CE.brw (cInt)) (fun _ _ => rfl))))) (cbNil))))) (ssCons (cSet C 19 (cCall C d_fraction (by decide) (caCons (cBin (fun _ => op_sub) v_sub (CE.brw (cBin (fun _ => op_sub) v_sub (cNm C 3) (cNm C 17))) (cNm C 18)) (caCons (cInt) (caNil))))) (ssOne (cIfS (CW.t (wOr (tCmp (fun i => op_neA (C.k i) (roomU (C.r i))) v_ne (cNm C 12) (CE.brw (cTup (caCons (cCall C d_plus (by decide) (caCons (cCall C d_fraction (by decide) (caCons (cSh C 17) (caCons (cInt) (caNil)))) (caCons (cSh C 19) (caNil)))) (caCons (cCall C d_plus (by decide) (caCons (cCall C d_fraction (by decide) (caCons (cSh C 18) (caCons (cInt) (caNil)))) (caCons (cSh C 19) (caNil)))) (caNil))))) (nomark _)) (wOr1 (tCmp (fun i => op_neA (C.k i) (roomU (C.r i))) v_ne (CE.brw (cCall C d_settled (by decide) (caCons (cStr) (caCons (cSh C 3) (caCons (cSh C 2) (caNil)))))) (cNm C 12) (nomark _))))) (ssOne (cRet (cBl))) (ssNil)))))) (ssNil)) (ssCons (cSet C 13 (cBin (fun i => op_addAll (C.k i)) v_add (CE.brw (cInt)) (CE.brw (cCall C d__law_take (by decide) (caCons (cSh C 1) (caCons (cInt) (caNil))))))) (ssCons (cFor C (fun _ => PassesOwn.never) (iSeqE C (cTup (caCons (cStr) (caCons (cStr) (caCons (cStr) (caCons (cStr) (caCons (cStr) (caNil)))))))) (gName' C 8) (ssOne (cIfS (tCmp (fun i => op_neA (C.k i) (roomU (C.r i))) v_ne (CE.brw (cCall C d_settled (by decide) (caCons (cSh C 8) (caCons (cBin (fun _ => op_mulW) v_mul (cNm C 13) (cNm C 3)) (caCons (cCallT C (fun i => c_tup (C.k i)) v_tup B.tuple bt_tuple (cbCons (CE.brw (CO.frz (oLc C [("claim", 24)] (iSeqB C (cNm C 2)) (fun _ => blkOk_by (by rw [ent_sc]; decide +kernel)) (gName' (C.blk _) 24) (ctNone) (cBin (fun _ => op_mulW) v_mul (cNm (C.blk _) 13) (cNm (C.blk _) 24))))) (cbNil))) (caNil)))))) (CE.brw (cCallT C (fun i => c_tup (C.k i)) v_tup B.tuple bt_tuple (cbCons (CE.brw (CO.frz (oLc C [("award", 25)] (iSeqB C (CE.brw (cCall C d_settled (by decide) (caCons (cSh C 8) (caCons (cSh C 3) (caCons (cSh C 2) (caNil))))))) (fun _ => blkOk_by (by rw [ent_sc]; decide +kernel)) (gName' (C.blk _) 25) (ctNone) (cCall (C.blk _) d_fraction (by decide) (caCons (cBin (fun _ => op_mulW) v_mul (cNm (C.blk _) 13) (CE.brw (cIx (fun i => ix_both ((C.blk _).k i)) v_ix (cNm (C.blk _) 25) (CE.brw (cInt)) (fun _ _ => rfl)))) (caCons (cIx (fun i => ix_both ((C.blk _).k i)) v_ix (cNm (C.blk _) 25) (CE.brw (cInt)) (fun _ _ => rfl)) (caNil))))))) (cbNil)))) (nomark _)) (ssOne (cRet (cBl))) (ssNil)))) (ssOne (cRet (cAnd (cCmp (fun i => op_eqA (C.k i) (roomU (C.r i))) v_eq (CE.brw (cCall C d_settled (by decide) (caCons (cStr) (caCons (cInt) (caCons (cSh C 2) (caNil)))))) (CE.brw (cBin (fun i => op_repTA (C.k i)) v_repT (CE.brw (cTup (caCons (cTup (caCons (cInt) (caCons (cInt) (caNil)))) (caNil)))) (cNm C 5))) (nomark _)) (cOne (cCmp (fun i => op_eqA (C.k i) (roomU (C.r i))) v_eq (CE.brw (cCall C d_settled (by decide) (caCons (cStr) (caCons (cCallB C (fun i => c_sum (C.k i) (C.c i)) v_sum B.sum bt_sum (cbCons (cNm C 2) (cbNil))) (caCons (cSh C 2) (caNil)))))) (cNm C 6) (nomark _))))))))))))))))))))))) rfl rfl 26
end
end Lw
set_option maxHeartbeats 1000000
namespace Lw
open PySem PySem.Spec PyProof.Rows L2 Pu
theorem take_eq : m__law_take = mTake := rfl
/-! ### fractions -/
@[reducible] instance : EnQ Rat where
  e q := EnQ.e ((q.num, q.den) : Int × Nat)
  k := EnQ.k (Int × Nat)
  cl _ := EnQ.cl _
  lay _ := EnQ.lay _
  dp _ := EnQ.dp _
  eqv a b := by
    rw [EnQ.eqv]
    constructor
    · intro h; exact Rat.ext (congrArg Prod.fst h) (congrArg Prod.snd h)
    · intro h; rw [h]
def qD (q : Rat) : D := .tup [.int q.num, .int (q.den : Nat)]
theorem e_Q (q : Rat) : (EnQ.e q : D) = qD q := rfl
theorem q_self (a : Rat) : (a.num : Rat) / ((a.den : Nat) : Rat) = a := by rw [← Rat.mkRat_eq_div, Rat.mkRat_self]
theorem den_ne (a : Rat) : ((a.den : Nat) : Rat) ≠ 0 := by
  have := a.den_nz
  intro h
  exact this (by exact_mod_cast h)
theorem frac_nd (n : Int) {d : Nat} (hd : d ≠ 0) : ((n : Rat) / (d : Rat)).num = n / ((Nat.gcd n.natAbs d : Nat) : Int) ∧ ((n : Rat) / (d : Rat)).den = d / Nat.gcd n.natAbs d := by
  rw [← Rat.mkRat_eq_div, ← Rat.normalize_eq_mkRat hd, Rat.normalize_eq hd]
  exact ⟨rfl, rfl⟩
/-- sizes -/
def Sz (k : Nat) (q : Rat) : Prop := q.num.natAbs < 2 ^ k ∧ q.den < 2 ^ k
theorem frac_le (n : Int) {d : Int} (hd : d ≠ 0) : ((n : Rat) / (d : Rat)).num.natAbs ≤ n.natAbs ∧ ((n : Rat) / (d : Rat)).den ≤ d.natAbs := by
  have key : ∀ (n : Int) {d : Nat}, d ≠ 0 → ((n : Rat) / (d : Rat)).num.natAbs ≤ n.natAbs ∧ ((n : Rat) / (d : Rat)).den ≤ d := fun n d hd => by
    obtain ⟨h1, h2⟩ := frac_nd n hd
    rw [h1, h2]
    exact ⟨Int.natAbs_ediv_le_natAbs _ _, Nat.div_le_self _ _⟩
  rcases Int.lt_or_gt_of_ne hd with h | h
  · obtain ⟨e, he⟩ : ∃ e : Nat, d = -(e : Int) := ⟨d.natAbs, by omega⟩
    subst he
    have := key (-n) (d := e) (by omega)
    have e2 : ((n : Rat) / ((-(e : Int) : Int) : Rat)) = (((-n : Int) : Rat)) / (e : Rat) := by
      have : (e : Rat) ≠ 0 := by intro z; have : e = 0 := by exact_mod_cast z
                                 omega
      push_cast
      grind
    rw [e2]
    simpa using this
  · obtain ⟨e, he⟩ : ∃ e : Nat, d = (e : Int) := ⟨d.natAbs, by omega⟩
    subst he
    have := key n (d := e) (by omega)
    rw [Rat.intCast_natCast]
    simpa using this
theorem frac_eq (n : Int) {d : Int} (hd : d ≠ 0) (h2 : d.natAbs < 2 ^ 8500) (s : DS) : m_fraction [.int n, .int d] s = some (EnQ.e ((n : Rat) / (d : Rat)), s) := by
  refine def_eq (fun s => ?_) s
  refine wp_def rfl ?_
  have key : ∀ (n : Int) {d : Nat}, d ≠ 0 → d < 2 ^ 8500 → divD (.int n) (.int ((Nat.gcd n.natAbs d : Nat) : Int)) = some (.int ((n : Rat) / (d : Rat)).num) ∧ divD (.int (d : Nat)) (.int ((Nat.gcd n.natAbs d : Nat) : Int)) = some (.int ((((n : Rat) / (d : Rat)).den : Nat) : Int)) := fun n d hd h2 => by
    obtain ⟨e1, e2⟩ := frac_nd n hd
    have hg : 0 < Nat.gcd n.natAbs d := Nat.gcd_pos_of_pos_right _ (by omega)
    have hl : Nat.gcd n.natAbs d ≤ d := Nat.gcd_le_right _ (by omega)
    rw [e1, e2]
    have hdv : ∀ x : Int, divD (.int x) (.int ((Nat.gcd n.natAbs d : Nat) : Int)) = some (.int (x / (Nat.gcd n.natAbs d : Nat))) := fun x => divD_sm x 8500 (by omega) (Nat.lt_of_le_of_lt hl h2)
    rw [hdv, hdv]
    exact ⟨rfl, by simp⟩
  rcases Int.lt_or_gt_of_ne hd with h | h
  · obtain ⟨e, he⟩ : ∃ e : Nat, d = -(e : Int) := ⟨d.natAbs, by omega⟩
    subst he
    have he0 : e ≠ 0 := by omega
    obtain ⟨k1, k2⟩ := key (-n) he0 (by simpa using h2)
    have e2 : ((n : Rat) / ((-(e : Int) : Int) : Rat)) = (((-n : Int) : Rat)) / (e : Rat) := by
      have : (e : Rat) ≠ 0 := by intro z; have : e = 0 := by exact_mod_cast z
                                 omega
      push_cast
      grind
    rw [e2]
    have hlt : -(e : Int) < 0 := by omega
    simp at k1 k2
    simp [g_fraction, List.replicate, he0, hlt, k1, k2, SZ_eq, e_Q, qD]
    omega
  · obtain ⟨e, he⟩ : ∃ e : Nat, d = (e : Int) := ⟨d.natAbs, by omega⟩
    subst he
    have he0 : e ≠ 0 := by omega
    obtain ⟨k1, k2⟩ := key n he0 (by simpa using h2)
    have hlt : ¬ ((e : Int) < 0) := by omega
    rw [Rat.intCast_natCast]
    simp [g_fraction, List.replicate, he0, hlt, k1, k2, SZ_eq, e_Q, qD]
theorem Sz.mono {k l : Nat} {q : Rat} (h : Sz k q) (hl : k ≤ l) : Sz l q := ⟨Nat.lt_of_lt_of_le h.1 (Nat.pow_le_pow_right (by decide) hl), Nat.lt_of_lt_of_le h.2 (Nat.pow_le_pow_right (by decide) hl)⟩
theorem Sz.int {k : Nat} {n : Int} (h : n.natAbs < 2 ^ k) (hk : 1 ≤ k) : Sz k (n : Rat) := ⟨by simpa using h, by
  have : 2 ^ 1 ≤ 2 ^ k := Nat.pow_le_pow_right (by decide) hk
  simp; omega⟩
theorem mul2 {k l a b : Nat} (h : a < 2 ^ k) (g : b < 2 ^ l) : a * b < 2 ^ (k + l) := by rw [Nat.pow_add]; exact Nat.mul_lt_mul'' h g
theorem add_frac (a b : Rat) : a + b = ((a.num * (b.den : Nat) + b.num * (a.den : Nat) : Int) : Rat) / (((a.den : Nat) * (b.den : Nat) : Int) : Rat) := by
  have h1 := q_self a
  have h2 := q_self b
  have d1 := den_ne a
  have d2 := den_ne b
  rw [Rat.intCast_add, Rat.intCast_mul, Rat.intCast_mul, Rat.intCast_mul, Rat.intCast_natCast, Rat.intCast_natCast]
  generalize ((a.den : Nat) : Rat) = x at *
  generalize ((b.den : Nat) : Rat) = y at *
  generalize ((a.num : Int) : Rat) = u at *
  generalize ((b.num : Int) : Rat) = v at *
  rw [← h1, ← h2]
  grind
theorem sub_frac (a b : Rat) : a - b = ((a.num * (b.den : Nat) - b.num * (a.den : Nat) : Int) : Rat) / (((a.den : Nat) * (b.den : Nat) : Int) : Rat) := by
  have h1 := q_self a
  have h2 := q_self b
  have d1 := den_ne a
  have d2 := den_ne b
  rw [Rat.intCast_sub, Rat.intCast_mul, Rat.intCast_mul, Rat.intCast_mul, Rat.intCast_natCast, Rat.intCast_natCast]
  generalize ((a.den : Nat) : Rat) = x at *
  generalize ((b.den : Nat) : Rat) = y at *
  generalize ((a.num : Int) : Rat) = u at *
  generalize ((b.num : Int) : Rat) = v at *
  rw [← h1, ← h2]
  grind
theorem mul_frac (a b : Rat) : a * b = ((a.num * b.num : Int) : Rat) / (((a.den : Nat) * (b.den : Nat) : Int) : Rat) := by
  have h1 := q_self a
  have h2 := q_self b
  have d1 := den_ne a
  have d2 := den_ne b
  rw [Rat.intCast_mul, Rat.intCast_mul, Rat.intCast_natCast, Rat.intCast_natCast]
  generalize ((a.den : Nat) : Rat) = x at *
  generalize ((b.den : Nat) : Rat) = y at *
  generalize ((a.num : Int) : Rat) = u at *
  generalize ((b.num : Int) : Rat) = v at *
  rw [← h1, ← h2]
  grind
theorem num_ne {b : Rat} (h : b ≠ 0) : b.num ≠ 0 := fun z => h (Rat.num_eq_zero.mp z)
theorem div_frac (a : Rat) {b : Rat} (hb : b ≠ 0) : a / b = ((a.num * (b.den : Nat) : Int) : Rat) / (((a.den : Nat) * b.num : Int) : Rat) := by
  have h1 := q_self a
  have h2 := q_self b
  have d1 := den_ne a
  have d2 := den_ne b
  have d3 : ((b.num : Int) : Rat) ≠ 0 := fun z => num_ne hb (by exact_mod_cast z)
  rw [Rat.intCast_mul, Rat.intCast_mul, Rat.intCast_natCast, Rat.intCast_natCast]
  generalize ((a.den : Nat) : Rat) = x at *
  generalize ((b.den : Nat) : Rat) = y at *
  generalize ((a.num : Int) : Rat) = u at *
  generalize ((b.num : Int) : Rat) = v at *
  rw [← h1, ← h2]
  grind
theorem dd_ne (a b : Rat) : ((a.den : Nat) * (b.den : Nat) : Int) ≠ 0 := by
  have := a.den_nz
  have := b.den_nz
  exact Int.mul_ne_zero (by omega) (by omega)
theorem Sz.add {k l : Nat} {a b : Rat} (h : Sz k a) (g : Sz l b) : Sz (k + l + 1) (a + b) := by
  obtain ⟨e1, e2⟩ := frac_le (a.num * (b.den : Nat) + b.num * (a.den : Nat)) (dd_ne a b)
  rw [← add_frac] at e1 e2
  have m1 := mul2 h.1 g.2
  have m2 := mul2 g.1 h.2
  have m3 := mul2 h.2 g.2
  have t := Int.natAbs_add_le (a.num * (b.den : Nat)) (b.num * (a.den : Nat))
  rw [Int.natAbs_mul, Int.natAbs_mul] at t
  rw [Int.natAbs_mul] at e2
  rw [Nat.add_comm l k] at m2
  simp only [Int.natAbs_natCast] at t e2
  unfold Sz
  rw [Nat.pow_succ]
  exact ⟨by omega, by omega⟩
theorem Sz.sub {k l : Nat} {a b : Rat} (h : Sz k a) (g : Sz l b) : Sz (k + l + 1) (a - b) := by
  obtain ⟨e1, e2⟩ := frac_le (a.num * (b.den : Nat) - b.num * (a.den : Nat)) (dd_ne a b)
  rw [← sub_frac] at e1 e2
  have m1 := mul2 h.1 g.2
  have m2 := mul2 g.1 h.2
  have m3 := mul2 h.2 g.2
  have t := Int.natAbs_sub_le (a.num * (b.den : Nat)) (b.num * (a.den : Nat))
  rw [Int.natAbs_mul, Int.natAbs_mul] at t
  rw [Int.natAbs_mul] at e2
  rw [Nat.add_comm l k] at m2
  simp only [Int.natAbs_natCast] at t e2
  unfold Sz
  rw [Nat.pow_succ]
  exact ⟨by omega, by omega⟩
theorem Sz.mul {k l : Nat} {a b : Rat} (h : Sz k a) (g : Sz l b) : Sz (k + l) (a * b) := by
  obtain ⟨e1, e2⟩ := frac_le (a.num * b.num) (dd_ne a b)
  rw [← mul_frac] at e1 e2
  have m1 := mul2 h.1 g.1
  have m3 := mul2 h.2 g.2
  rw [Int.natAbs_mul] at e1 e2
  simp only [Int.natAbs_natCast] at e2
  exact ⟨by omega, by omega⟩
theorem dn_ne (a : Rat) {b : Rat} (hb : b ≠ 0) : ((a.den : Nat) * b.num : Int) ≠ 0 := by
  have := a.den_nz
  exact Int.mul_ne_zero (by omega) (num_ne hb)
theorem Sz.div {k l : Nat} {a b : Rat} (h : Sz k a) (g : Sz l b) (hb : b ≠ 0) : Sz (k + l) (a / b) := by
  obtain ⟨e1, e2⟩ := frac_le (a.num * (b.den : Nat)) (dn_ne a hb)
  rw [← div_frac a hb] at e1 e2
  have m1 := mul2 h.1 g.2
  have m3 := mul2 h.2 g.1
  rw [Int.natAbs_mul] at e1 e2
  simp only [Int.natAbs_natCast] at e1 e2
  exact ⟨by omega, by omega⟩
theorem ixq0 (a : Rat) : ixD (qD a) (.int 0) = some (.int a.num) := rfl
theorem ixq1 (a : Rat) : ixD (qD a) (.int 1) = some (.int (a.den : Nat)) := rfl
theorem mulS {x y : Int} (h : x.natAbs < 2 ^ 4000) (g : y.natAbs < 2 ^ 4000) : mulD (.int x) (.int y) = some (.int (x * y)) := mulD_sm 4000 h g
theorem big {a b : Nat} (h : a < 2 ^ 4000) (g : b < 2 ^ 4000) : a * b < 2 ^ 8500 := Nat.lt_of_lt_of_le (mul2 h g) (Nat.pow_le_pow_right (by decide) (by decide))
theorem plus_eq {a b : Rat} (h : Sz 4000 a) (g : Sz 4000 b) (s : DS) : m_plus [qD a, qD b] s = some (qD (a + b), s) := by
  refine def_eq (fun s => ?_) s
  refine wp_def rfl ?_
  have hb : ((a.den : Nat) * (b.den : Nat) : Int).natAbs < 2 ^ 8500 := by rw [Int.natAbs_mul]; exact big h.2 g.2
  have e := frac_eq (a.num * (b.den : Nat) + b.num * (a.den : Nat)) (dd_ne a b) hb
  rw [← add_frac, e_Q] at e
  have m1 := mulS h.1 (y := (b.den : Nat)) g.2
  have m2 := mulS g.1 (y := (a.den : Nat)) h.2
  have m3 := mulS (x := (a.den : Nat)) h.2 (y := (b.den : Nat)) g.2
  simp [g_plus, List.replicate, ixq0, ixq1, m1, m2, m3, -ixD_tn]
  exact wp_eq e |>.mpr ⟨rfl, rfl⟩
theorem minus_eq {a b : Rat} (h : Sz 4000 a) (g : Sz 4000 b) (s : DS) : m_minus [qD a, qD b] s = some (qD (a - b), s) := by
  refine def_eq (fun s => ?_) s
  refine wp_def rfl ?_
  have hb : ((a.den : Nat) * (b.den : Nat) : Int).natAbs < 2 ^ 8500 := by rw [Int.natAbs_mul]; exact big h.2 g.2
  have e := frac_eq (a.num * (b.den : Nat) - b.num * (a.den : Nat)) (dd_ne a b) hb
  rw [← sub_frac, e_Q] at e
  have m1 := mulS h.1 (y := (b.den : Nat)) g.2
  have m2 := mulS g.1 (y := (a.den : Nat)) h.2
  have m3 := mulS (x := (a.den : Nat)) h.2 (y := (b.den : Nat)) g.2
  simp [g_minus, List.replicate, ixq0, ixq1, m1, m2, m3, -ixD_tn]
  exact wp_eq e |>.mpr ⟨rfl, rfl⟩
theorem over_eq {a b : Rat} (h : Sz 4000 a) (g : Sz 4000 b) (hn : b ≠ 0) (s : DS) : m_over [qD a, qD b] s = some (qD (a / b), s) := by
  refine def_eq (fun s => ?_) s
  refine wp_def rfl ?_
  have hb : ((a.den : Nat) * b.num : Int).natAbs < 2 ^ 8500 := by rw [Int.natAbs_mul]; exact big h.2 g.1
  have e := frac_eq (a.num * (b.den : Nat)) (dn_ne a hn) hb
  rw [← div_frac a hn, e_Q] at e
  have m1 := mulS h.1 (y := (b.den : Nat)) g.2
  have m3 := mulS (x := (a.den : Nat)) h.2 g.1
  simp [g_over, List.replicate, ixq0, ixq1, m1, m3, -ixD_tn]
  exact wp_eq e |>.mpr ⟨rfl, rfl⟩
def cmpR (a b : Rat) : Int := if a < b then -1 else if b < a then 1 else 0
theorem cmp_eq {a b : Rat} (h : Sz 4000 a) (g : Sz 4000 b) (s : DS) : m_compare [qD a, qD b] s = some (.int (cmpR a b), s) := by
  refine def_eq (fun s => ?_) s
  refine wp_def rfl ?_
  have m1 := mulS h.1 (y := (b.den : Nat)) g.2
  have m2 := mulS g.1 (y := (a.den : Nat)) h.2
  have c1 := Rat.lt_iff a b
  have c2 := Rat.lt_iff b a
  simp [g_compare, List.replicate, ixq0, ixq1, m1, m2, -ixD_tn]
  unfold cmpR
  by_cases h1 : a < b
  · have := c1.mp h1
    simp [h1, this]
  · have n1 : ¬ a.num * (b.den : Nat) < b.num * (a.den : Nat) := fun z => h1 (c1.mpr z)
    by_cases h2 : b < a
    · have := c2.mp h2
      simp [h1, h2, n1, this]
      omega
    · have n2 : ¬ b.num * (a.den : Nat) < a.num * (b.den : Nat) := fun z => h2 (c2.mpr z)
      simp [h1, h2, n1, n2]
      omega
theorem cZ : c_ZERO = qD 0 := rfl
theorem one_lt : (1 : Nat) < 2 ^ 8500 := Nat.one_lt_two_pow (by decide)
theorem frac1 (n : Int) (s : DS) : m_fraction [.int n, .int 1] s = some (qD (n : Rat), s) := by
  have := frac_eq n (d := 1) (by decide) one_lt s
  rw [this]
  have : ((n : Rat) / ((1 : Int) : Rat)) = (n : Rat) := by grind
  rw [this, e_Q]
theorem Sz0 : Sz 1 0 := ⟨by decide, by decide⟩
theorem Sz1 : Sz 1 1 := ⟨by decide, by decide⟩
def BdT : Rat → List Rat → Prop
  | _, [] => True
  | acc, x :: xs => Sz 4000 acc ∧ Sz 4000 x ∧ BdT (acc + x) xs
theorem total_eq {l : List Rat} (h : BdT 0 l) {d : D} (hd : seqD d = some (l.map qD)) (s : DS) : m_total [d] s = some (qD (l.foldl (· + ·) 0), s) := by
  refine def_eq (fun s => ?_) s
  refine wp_def rfl ?_
  simp [g_total, List.replicate, cZ, hd]
  refine wp_rest qD (fun rest ρ s' => s' = s ∧ ∃ (acc : Rat) (x2 : Slot), BdT acc rest ∧ rest.foldl (· + ·) acc = l.foldl (· + ·) 0 ∧ ρ = [.sh d, .sh (qD acc), x2]) l
    (fun x xs ρ s' hJ => ?_) (fun ρ s' hJ => ?_) ⟨rfl, 0, .un, h, rfl, rfl⟩
  · obtain ⟨rfl, acc, x2, hb, hf, rfl⟩ := hJ
    obtain ⟨b1, b2, b3⟩ := hb
    refine ⟨_, rfl, ?_⟩
    simp [wp_eq (plus_eq b1 b2)]
    exact ⟨_, b3, hf, rfl⟩
  · obtain ⟨rfl, acc, x2, hb, hf, rfl⟩ := hJ
    have hf : acc = l.foldl (· + ·) 0 := hf
    subst hf
    simp
theorem cmp_lt0 (a b : Rat) : cmpR a b < 0 ↔ a < b := by
  unfold cmpR
  by_cases h : a < b
  · simp [h]
  · by_cases h2 : b < a <;> simp [h, h2]
theorem cmp_gt0 (a b : Rat) : 0 < cmpR a b ↔ b < a := by
  unfold cmpR
  by_cases h : a < b
  · have : ¬ b < a := by grind
    simp [h, this]
  · by_cases h2 : b < a <;> simp [h, h2]
theorem cmp_e0 (a b : Rat) : cmpR a b = 0 ↔ a = b := by
  unfold cmpR
  by_cases h : a < b
  · have : ¬ a = b := by grind
    simp [h, this]
  · by_cases h2 : b < a
    · have : ¬ a = b := by grind
      simp [h, h2, this]
    · have : a = b := by grind
      simp [h, h2, this]
theorem cmp_3 (a b : Rat) : cmpR a b = -1 ∨ cmpR a b = 0 ∨ cmpR a b = 1 := by
  unfold cmpR; split; exact .inl rfl; split; exact .inr (.inr rfl); exact .inr (.inl rfl)
theorem ne_Q (a b : Rat) : neD (qD a) (qD b) = some (.bl (!decide (a = b))) := ne_en (α := Rat) (by decide) a b
theorem eq_Q (a b : Rat) : eqD (qD a) (qD b) = some (.bl (decide (a = b))) := eq_en (α := Rat) (by decide) a b
end Lw
set_option maxHeartbeats 1000000
namespace Lw
/-! ### sums of fractions -/
def RS : Nat → (Nat → Rat) → Rat
  | 0, _ => 0
  | n + 1, f => RS n f + f n
theorem RS_congr : ∀ {n : Nat} {f g : Nat → Rat}, (∀ k, k < n → f k = g k) → RS n f = RS n g
  | 0, _, _, _ => rfl
  | n + 1, f, g, h => by show RS n f + f n = RS n g + g n; rw [RS_congr fun k hk => h k (by omega), h n (by omega)]
theorem RS_le : ∀ {n : Nat} {f g : Nat → Rat}, (∀ k, k < n → f k ≤ g k) → RS n f ≤ RS n g
  | 0, _, _, _ => by show (0 : Rat) ≤ 0; grind
  | n + 1, f, g, h => by
    have a := RS_le (n := n) fun k hk => h k (by omega)
    have b := h n (by omega)
    show RS n f + f n ≤ RS n g + g n
    grind
theorem RS_eq : ∀ {n : Nat} {f g : Nat → Rat}, (∀ k, k < n → f k ≤ g k) → RS n f = RS n g → ∀ k, k < n → f k = g k
  | 0, _, _, _, _ => fun k hk => by omega
  | n + 1, f, g, h, e => by
    have a := RS_le (n := n) fun k hk => h k (by omega)
    have b := h n (by omega)
    have e : RS n f + f n = RS n g + g n := e
    have e1 : RS n f = RS n g := by grind
    have e2 : f n = g n := by grind
    intro k hk
    by_cases c : k = n
    · subst c; exact e2
    · exact RS_eq (fun k hk => h k (by omega)) e1 k (by omega)
theorem RS_sub : ∀ (n : Nat) (f g : Nat → Rat), RS n (fun k => f k - g k) = RS n f - RS n g
  | 0, _, _ => by show (0 : Rat) = 0 - 0; grind
  | n + 1, f, g => by show RS n _ + (f n - g n) = (RS n f + f n) - (RS n g + g n); rw [RS_sub n f g]; grind
theorem RS_mul (c : Rat) : ∀ (n : Nat) (f : Nat → Rat), RS n (fun k => c * f k) = c * RS n f
  | 0, _ => by show (0 : Rat) = c * 0; grind
  | n + 1, f => by show RS n _ + c * f n = c * (RS n f + f n); rw [RS_mul c n f]; grind
theorem RS_zero : ∀ n, RS n (fun _ => 0) = 0
  | 0 => rfl
  | n + 1 => by show RS n _ + 0 = 0; rw [RS_zero n]; grind
/-! ### alike, as far as the claims go -/
def mn (q h : Rat) : Rat := if q ≤ h then q else h
theorem mn_le (q h : Rat) : mn q h ≤ q := by unfold mn; split <;> grind
theorem mn_le2 (q h : Rat) : mn q h ≤ h := by unfold mn; split <;> grind
theorem mn_mono {q h h' : Rat} (l : h ≤ h') : mn q h ≤ mn q h' := by unfold mn; split <;> split <;> grind
def IsL (n : Nat) (q : Nat → Rat) (e : Rat) (a : Nat → Rat) : Prop := (∃ h, ∀ k, k < n → a k = mn (q k) h) ∧ RS n a = e
theorem IsL.mono {n : Nat} {q a b : Nat → Rat} {e e' : Rat} (ha : IsL n q e a) (hb : IsL n q e' b) (h : e ≤ e') : ∀ k, k < n → a k ≤ b k := by
  obtain ⟨⟨g, hg⟩, sa⟩ := ha
  obtain ⟨⟨g', hg'⟩, sb⟩ := hb
  by_cases c : g ≤ g'
  · intro k hk
    rw [hg k hk, hg' k hk]; exact mn_mono c
  · have hle : ∀ k, k < n → b k ≤ a k := fun k hk => by rw [hg k hk, hg' k hk]; exact mn_mono (by grind)
    have hs := RS_le hle
    have := RS_eq hle (by grind)
    intro k hk
    rw [this k hk]; grind
theorem IsL.uniq {n : Nat} {q a b : Nat → Rat} {e : Rat} (ha : IsL n q e a) (hb : IsL n q e b) : ∀ k, k < n → a k = b k := fun k hk => by
  have h1 := ha.mono hb (by grind) k hk
  have h2 := hb.mono ha (by grind) k hk
  grind
theorem IsL.le {n : Nat} {q a : Nat → Rat} {e : Rat} (ha : IsL n q e a) : ∀ k, k < n → a k ≤ q k := fun k hk => by
  obtain ⟨⟨g, hg⟩, sa⟩ := ha
  rw [hg k hk]; exact mn_le _ _
theorem IsL.nn {n : Nat} {q a : Nat → Rat} {e : Rat} (ha : IsL n q e a) (he : 0 ≤ e) (hq : ∀ k, k < n → 0 ≤ q k) : ∀ k, k < n → 0 ≤ a k := fun k hk => by
  have hz : IsL n q 0 (fun _ => 0) := ⟨⟨0, fun k hk => by unfold mn; have := hq k hk; split <;> grind⟩, RS_zero n⟩
  exact hz.mono ha he k hk
theorem IsL.order {n : Nat} {q a : Nat → Rat} {e : Rat} (ha : IsL n q e a) {i j : Nat} (hi : i < n) (hj : j < n) (h : q j ≤ q i) : a j ≤ a i ∧ q j - a j ≤ q i - a i := by
  obtain ⟨⟨g, hg⟩, sa⟩ := ha
  rw [hg i hi, hg j hj]
  unfold mn
  constructor <;> split <;> split <;> grind
theorem IsL.full {n : Nat} {q : Nat → Rat} : IsL n q (RS n q) q := by
  obtain ⟨g, hg⟩ : ∃ g, ∀ k, k < n → q k ≤ g := by
    induction n with
    | zero => exact ⟨0, fun k hk => by omega⟩
    | succ n ih =>
      obtain ⟨g, hg⟩ := ih
      by_cases c : q n ≤ g
      · exact ⟨g, fun k hk => by
          by_cases e : k = n
          · subst e; exact c
          · exact hg k (by omega)⟩
      · exact ⟨q n, fun k hk => by
          by_cases e : k = n
          · subst e; grind
          · have := hg k (by omega); grind⟩
  exact ⟨⟨g, fun k hk => by unfold mn; rw [if_pos (hg k hk)]⟩, rfl⟩
theorem IsL.part {n m : Nat} {q a : Nat → Rat} {e t : Rat} (ht : 0 < t) (ha : IsL n q e a) {g : Nat → Nat} (hg : ∀ k, k < m → g k < n) : IsL m (fun k => t * q (g k)) (t * RS m fun k => a (g k)) (fun k => t * a (g k)) := by
  obtain ⟨⟨h, hh⟩, sa⟩ := ha
  refine ⟨⟨t * h, fun k hk => ?_⟩, RS_mul t m _⟩
  show t * a (g k) = mn (t * q (g k)) (t * h)
  rw [hh _ (hg k hk)]
  unfold mn
  by_cases c : q (g k) ≤ h
  · rw [if_pos c, if_pos (Rat.mul_le_mul_of_nonneg_left c (Rat.le_of_lt ht))]
  · have := Rat.mul_lt_mul_of_pos_left (show h < q (g k) by grind) ht
    rw [if_neg c, if_neg (by grind)]
/-- the two of a pair -/
def pf (a b w : Rat) : Rat × Rat :=
  let x := if 0 ≤ w - b then w - b else 0
  let y := if 0 ≤ w - a then w - a else 0
  (x + (w - x - y) / 2, y + (w - x - y) / 2)
theorem pair_half {a b h : Rat} (ha : 0 ≤ a) (hb : 0 ≤ b) (hh : 0 ≤ h) : pf a b (mn (a / 2) h + mn (b / 2) h) = (mn (a / 2) h, mn (b / 2) h) := by
  unfold pf mn
  split <;> split <;> (ext <;> (simp only; split <;> split <;> grind))
theorem pair_loss {a b h : Rat} (ha : 0 ≤ a) (hb : 0 ≤ b) (hh : 0 ≤ h) : pf a b ((a - mn (a / 2) h) + (b - mn (b / 2) h)) = (a - mn (a / 2) h, b - mn (b / 2) h) := by
  unfold pf mn
  split <;> split <;> (ext <;> (simp only; split <;> split <;> grind))
end Lw
set_option maxHeartbeats 1000000
namespace Lw
/-! ### the rules that are told by what they come to -/
inductive Ru | parts | alike | losses | halves deriving DecidableEq
def Ru.dual : Ru → Ru
  | .parts => .parts
  | .alike => .losses
  | .losses => .alike
  | .halves => .halves
def Is (p : Ru) (n : Nat) (c : Nat → Rat) (e : Rat) (a : Nat → Rat) : Prop := match p with
  | .parts => ∀ k, k < n → a k = if RS n c = 0 then 0 else e * c k / RS n c
  | .alike => IsL n c e a
  | .losses => IsL n c (RS n c - e) (fun k => c k - a k)
  | .halves => if 2 * e ≤ RS n c then IsL n (fun k => c k / 2) e a else IsL n (fun k => c k / 2) (RS n c - e) (fun k => c k - a k)
structure Cl (n : Nat) (c : Nat → Rat) (e : Rat) : Prop where
  nn : ∀ k, k < n → 0 ≤ c k
  e0 : 0 ≤ e
  e1 : e ≤ RS n c
theorem RS_half (n : Nat) (c : Nat → Rat) : RS n (fun k => c k / 2) = RS n c / 2 := by
  rw [RS_congr (g := fun k => (1 / 2 : Rat) * c k) (fun k _ => by grind), RS_mul]; grind
theorem RS_nn {n : Nat} {c : Nat → Rat} (h : ∀ k, k < n → 0 ≤ c k) : 0 ≤ RS n c := by rw [← RS_zero n]; exact RS_le h
theorem RS_z {n : Nat} {c : Nat → Rat} (h : ∀ k, k < n → 0 ≤ c k) (e : RS n c = 0) : ∀ k, k < n → c k = 0 := fun k hk => (RS_eq (f := fun _ => 0) h (by rw [RS_zero, e]) k hk).symm
theorem Is.sum {p : Ru} {n : Nat} {c a : Nat → Rat} {e : Rat} (W : Cl n c e) (h : Is p n c e a) : RS n a = e := by
  have w0 := W.e0
  have w1 := W.e1
  cases p with
  | parts =>
    have h : ∀ k, k < n → a k = if RS n c = 0 then 0 else e * c k / RS n c := h
    by_cases z : RS n c = 0
    · rw [RS_congr (g := fun _ => 0) (fun k hk => by rw [h k hk, if_pos z]), RS_zero]; grind
    · rw [RS_congr (g := fun k => e / RS n c * c k) (fun k hk => by rw [h k hk, if_neg z]; grind), RS_mul]; grind
  | alike => exact h.2
  | losses =>
    have h2 := h.2
    rw [RS_sub] at h2
    grind
  | halves =>
    have h : if 2 * e ≤ RS n c then IsL n (fun k => c k / 2) e a else IsL n (fun k => c k / 2) (RS n c - e) (fun k => c k - a k) := h
    split at h
    · exact h.2
    · have h2 := h.2
      rw [RS_sub] at h2
      grind
theorem half_nn {n : Nat} {c : Nat → Rat} (h : ∀ k, k < n → 0 ≤ c k) : ∀ k, k < n → 0 ≤ c k / 2 := fun k hk => by have := h k hk; grind
theorem Is.bounds {p : Ru} {n : Nat} {c a : Nat → Rat} {e : Rat} (W : Cl n c e) (h : Is p n c e a) : ∀ k, k < n → 0 ≤ a k ∧ a k ≤ c k := by
  have w0 := W.e0
  have w1 := W.e1
  intro k hk
  have wk := W.nn k hk
  cases p with
  | parts =>
    have h : ∀ k, k < n → a k = if RS n c = 0 then 0 else e * c k / RS n c := h
    rw [h k hk]
    by_cases z : RS n c = 0
    · rw [if_pos z]; grind
    · rw [if_neg z]
      have hp : 0 < RS n c := by have := RS_nn W.nn; grind
      have hi : 0 < (RS n c)⁻¹ := Rat.inv_pos.mpr hp
      have h1 := Rat.mul_nonneg (Rat.mul_nonneg w0 wk) (Rat.le_of_lt hi)
      have h2 := Rat.mul_le_mul_of_nonneg_right (Rat.mul_le_mul_of_nonneg_right w1 wk) (Rat.le_of_lt hi)
      have e1 : RS n c * c k * (RS n c)⁻¹ = c k := by grind
      rw [Rat.div_def]
      grind
  | alike => exact ⟨IsL.nn h w0 W.nn k hk, IsL.le h k hk⟩
  | losses =>
    have a1 := IsL.nn h (by grind) W.nn k hk
    have a2 := IsL.le h k hk
    grind
  | halves =>
    have h : if 2 * e ≤ RS n c then IsL n (fun k => c k / 2) e a else IsL n (fun k => c k / 2) (RS n c - e) (fun k => c k - a k) := h
    split at h
    · have a1 := h.nn w0 (half_nn W.nn) k hk
      have a2 := h.le k hk
      grind
    · have a1 := h.nn (by grind) (half_nn W.nn) k hk
      have a2 := h.le k hk
      grind
theorem IsL.cong {n : Nat} {q q' a a' : Nat → Rat} {e e' : Rat} (h : IsL n q e a) (hq : ∀ k, k < n → q' k = q k) (ha : ∀ k, k < n → a' k = a k) (he : e' = e) : IsL n q' e' a' := by
  obtain ⟨⟨g, hg⟩, s⟩ := h
  exact ⟨⟨g, fun k hk => by rw [ha k hk, hq k hk]; exact hg k hk⟩, by rw [he, ← s]; exact RS_congr ha⟩
theorem Is.uniq {p : Ru} {n : Nat} {c a b : Nat → Rat} {e : Rat} (h : Is p n c e a) (g : Is p n c e b) : ∀ k, k < n → a k = b k := by
  intro k hk
  cases p with
  | parts => exact (h k hk).trans (g k hk).symm
  | alike => exact IsL.uniq h g k hk
  | losses => have := IsL.uniq h g k hk; grind
  | halves =>
    have h : if 2 * e ≤ RS n c then IsL n (fun k => c k / 2) e a else IsL n (fun k => c k / 2) (RS n c - e) (fun k => c k - a k) := h
    have g : if 2 * e ≤ RS n c then IsL n (fun k => c k / 2) e b else IsL n (fun k => c k / 2) (RS n c - e) (fun k => c k - b k) := g
    by_cases z : 2 * e ≤ RS n c
    · rw [if_pos z] at h g; exact h.uniq g k hk
    · rw [if_neg z] at h g; have := h.uniq g k hk; grind
theorem Is.dual {p : Ru} {n : Nat} {c a : Nat → Rat} {e : Rat} (W : Cl n c e) (h : Is p n c e a) : Is p.dual n c (RS n c - e) (fun k => c k - a k) := by
  have w0 := W.e0
  have w1 := W.e1
  cases p with
  | parts =>
    have h : ∀ k, k < n → a k = if RS n c = 0 then 0 else e * c k / RS n c := h
    intro k hk
    show c k - a k = if RS n c = 0 then 0 else (RS n c - e) * c k / RS n c
    rw [h k hk]
    by_cases z : RS n c = 0
    · rw [if_pos z, if_pos z, RS_z W.nn z k hk]; grind
    · rw [if_neg z, if_neg z]; grind
  | alike => exact IsL.cong h (fun _ _ => rfl) (fun k _ => by grind) (by grind)
  | losses => exact h
  | halves =>
    have h : if 2 * e ≤ RS n c then IsL n (fun k => c k / 2) e a else IsL n (fun k => c k / 2) (RS n c - e) (fun k => c k - a k) := h
    show if 2 * (RS n c - e) ≤ RS n c then IsL n (fun k => c k / 2) (RS n c - e) (fun k => c k - a k) else IsL n (fun k => c k / 2) (RS n c - (RS n c - e)) (fun k => c k - (c k - a k))
    by_cases z : 2 * e ≤ RS n c
    · rw [if_pos z] at h
      by_cases y : 2 * (RS n c - e) ≤ RS n c
      · rw [if_pos y]
        have hf := IsL.full (n := n) (q := fun k => c k / 2)
        rw [RS_half, show RS n c / 2 = e by grind] at hf
        have := h.uniq hf
        exact hf.cong (fun _ _ => rfl) (fun k hk => by have := this k hk; grind) (by grind)
      · rw [if_neg y]
        exact h.cong (fun _ _ => rfl) (fun k _ => by grind) (by grind)
    · rw [if_neg z] at h
      rw [if_pos (by grind)]
      exact h
theorem Is.order {p : Ru} {n : Nat} {c a : Nat → Rat} {e : Rat} (W : Cl n c e) (h : Is p n c e a) {i j : Nat} (hi : i < n) (hj : j < n) (hij : c j ≤ c i) : a j ≤ a i ∧ c j - a j ≤ c i - a i := by
  have w0 := W.e0
  have w1 := W.e1
  cases p with
  | parts =>
    have h : ∀ k, k < n → a k = if RS n c = 0 then 0 else e * c k / RS n c := h
    rw [h i hi, h j hj]
    by_cases z : RS n c = 0
    · rw [if_pos z, if_pos z]; grind
    · rw [if_neg z, if_neg z]
      have hp : 0 < RS n c := by have := RS_nn W.nn; grind
      have hv : 0 < (RS n c)⁻¹ := Rat.inv_pos.mpr hp
      have f0 : 0 ≤ e * (RS n c)⁻¹ := Rat.mul_nonneg w0 (Rat.le_of_lt hv)
      have f1 : 0 ≤ (RS n c - e) * (RS n c)⁻¹ := Rat.mul_nonneg (by grind) (Rat.le_of_lt hv)
      have m0 := Rat.mul_nonneg f0 (show 0 ≤ c i - c j by grind)
      have m1 := Rat.mul_nonneg f1 (show 0 ≤ c i - c j by grind)
      have e1 : RS n c * (RS n c)⁻¹ = 1 := by grind
      rw [Rat.div_def, Rat.div_def]
      generalize (RS n c)⁻¹ = v at *
      generalize RS n c = s at *
      have e2 : (s - e) * v * (c i - c j) = (c i - c j) - (e * c i * v - e * c j * v) := by
        have : (s - e) * v * (c i - c j) = s * v * (c i - c j) - e * v * (c i - c j) := by grind
        rw [this, e1]; grind
      rw [e2] at m1
      constructor <;> grind
  | alike => exact IsL.order h hi hj hij
  | losses =>
    obtain ⟨h1, h2⟩ := IsL.order h hi hj hij
    constructor <;> grind
  | halves =>
    have h : if 2 * e ≤ RS n c then IsL n (fun k => c k / 2) e a else IsL n (fun k => c k / 2) (RS n c - e) (fun k => c k - a k) := h
    have hh : c j / 2 ≤ c i / 2 := by grind
    by_cases z : 2 * e ≤ RS n c
    · rw [if_pos z] at h
      obtain ⟨h1, h2⟩ := h.order hi hj hh
      constructor <;> grind
    · rw [if_neg z] at h
      obtain ⟨h1, h2⟩ := h.order hi hj hh
      constructor <;> grind
theorem Is.mono {p : Ru} {n : Nat} {c a b : Nat → Rat} {e e' : Rat} (W : Cl n c e) (W' : Cl n c e') (h : Is p n c e a) (g : Is p n c e' b) (he : e ≤ e') : ∀ k, k < n → a k ≤ b k := by
  intro k hk
  have wk := W.nn k hk
  cases p with
  | parts =>
    have h : ∀ k, k < n → a k = if RS n c = 0 then 0 else e * c k / RS n c := h
    have g : ∀ k, k < n → b k = if RS n c = 0 then 0 else e' * c k / RS n c := g
    rw [h k hk, g k hk]
    by_cases z : RS n c = 0
    · rw [if_pos z, if_pos z]; grind
    · rw [if_neg z, if_neg z]
      have hp : 0 < RS n c := by have := RS_nn W.nn; grind
      have hv : 0 < (RS n c)⁻¹ := Rat.inv_pos.mpr hp
      rw [Rat.div_def, Rat.div_def]
      exact Rat.mul_le_mul_of_nonneg_right (Rat.mul_le_mul_of_nonneg_right he wk) (Rat.le_of_lt hv)
  | alike => exact IsL.mono h g he k hk
  | losses => have := IsL.mono g h (by grind) k hk; grind
  | halves =>
    have h : if 2 * e ≤ RS n c then IsL n (fun k => c k / 2) e a else IsL n (fun k => c k / 2) (RS n c - e) (fun k => c k - a k) := h
    have g : if 2 * e' ≤ RS n c then IsL n (fun k => c k / 2) e' b else IsL n (fun k => c k / 2) (RS n c - e') (fun k => c k - b k) := g
    by_cases z : 2 * e ≤ RS n c
    · rw [if_pos z] at h
      by_cases y : 2 * e' ≤ RS n c
      · rw [if_pos y] at g; exact h.mono g he k hk
      · rw [if_neg y] at g
        have a1 := h.le k hk
        have a2 := g.le k hk
        grind
    · rw [if_neg z] at h
      rw [if_neg (by grind)] at g
      have := g.mono h (by grind) k hk
      grind
theorem Is.part {p : Ru} {n m : Nat} {c a : Nat → Rat} {e t : Rat} (W : Cl n c e) (ht : 0 < t) (h : Is p n c e a) {g : Nat → Nat} (hg : ∀ k, k < m → g k < n) : Is p m (fun k => t * c (g k)) (t * RS m fun k => a (g k)) (fun k => t * a (g k)) := by
  have hC : RS m (fun k => t * c (g k)) = t * RS m fun k => c (g k) := RS_mul t m _
  have hnn : ∀ k, k < m → 0 ≤ c (g k) := fun k hk => W.nn _ (hg k hk)
  cases p with
  | parts =>
    have h : ∀ k, k < n → a k = if RS n c = 0 then 0 else e * c k / RS n c := h
    intro k hk
    show t * a (g k) = if RS m (fun k => t * c (g k)) = 0 then 0 else t * RS m (fun k => a (g k)) * (t * c (g k)) / RS m (fun k => t * c (g k))
    rw [hC]
    by_cases z : RS n c = 0
    · have hz := RS_z W.nn z
      rw [h _ (hg k hk), if_pos z, RS_congr (f := fun k => c (g k)) (g := fun _ => 0) (fun k hk => hz _ (hg k hk)), RS_zero]
      rw [if_pos (by grind)]; grind
    · rw [h _ (hg k hk), if_neg z, RS_congr (f := fun k => a (g k)) (g := fun k => e / RS n c * c (g k)) (fun k hk => by rw [h _ (hg k hk), if_neg z]; grind), RS_mul]
      by_cases y : RS m (fun k => c (g k)) = 0
      · rw [y, if_pos (by grind), RS_z hnn y k hk]; grind
      · rw [if_neg (by grind)]; grind
  | alike => exact IsL.part ht h hg
  | losses =>
    refine IsL.cong (IsL.part ht h hg) (fun _ _ => rfl) (fun k _ => by grind) ?_
    rw [hC, RS_sub]; grind
  | halves =>
    have h : if 2 * e ≤ RS n c then IsL n (fun k => c k / 2) e a else IsL n (fun k => c k / 2) (RS n c - e) (fun k => c k - a k) := h
    show if 2 * (t * RS m fun k => a (g k)) ≤ RS m (fun k => t * c (g k)) then IsL m (fun k => t * c (g k) / 2) (t * RS m fun k => a (g k)) (fun k => t * a (g k)) else IsL m (fun k => t * c (g k) / 2) (RS m (fun k => t * c (g k)) - t * RS m fun k => a (g k)) (fun k => t * c (g k) - t * a (g k))
    rw [hC]
    by_cases z : 2 * e ≤ RS n c
    · rw [if_pos z] at h
      have hl : RS m (fun k => a (g k)) ≤ RS m (fun k => c (g k) / 2) := RS_le fun k hk => h.le _ (hg k hk)
      rw [RS_half m fun k => c (g k)] at hl
      have := Rat.mul_le_mul_of_nonneg_left hl (Rat.le_of_lt ht)
      rw [if_pos (by grind)]
      exact (h.part ht hg).cong (fun k _ => by grind) (fun _ _ => rfl) rfl
    · rw [if_neg z] at h
      have hle : ∀ k, k < m → c (g k) / 2 ≤ a (g k) := fun k hk => by have := h.le _ (hg k hk); grind
      have hl : RS m (fun k => c (g k) / 2) ≤ RS m (fun k => a (g k)) := RS_le hle
      by_cases y : 2 * (t * RS m fun k => a (g k)) ≤ t * RS m fun k => c (g k)
      · rw [if_pos y]
        have e2 : RS m (fun k => c (g k) / 2) = RS m (fun k => a (g k)) := by
          refine Rat.le_antisymm hl (Rat.not_lt.mp fun q => ?_)
          have := Rat.mul_lt_mul_of_pos_left q ht
          rw [RS_half m fun k => c (g k)] at this
          grind
        have he := RS_eq hle e2
        have hf := IsL.full (n := m) (q := fun k => t * c (g k) / 2)
        refine hf.cong (fun _ _ => rfl) (fun k hk => by rw [← he k hk]; grind) ?_
        rw [← e2, ← RS_mul]
        exact RS_congr fun k _ => by grind
      · rw [if_neg y]
        refine (h.part ht hg).cong (fun k _ => by grind) (fun k _ => by grind) ?_
        rw [RS_sub]; grind
end Lw
set_option maxHeartbeats 1000000
set_option exponentiation.threshold 64
namespace Lw
open PySem PySem.Spec PyProof.Rows L2 Pu
theorem least_eq {a b : Rat} (h : Sz 4000 a) (g : Sz 4000 b) (s : DS) : m_least_of [qD a, qD b] s = some (qD (mn a b), s) := by
  refine def_eq (fun s => ?_) s
  refine wp_def rfl ?_
  have c := cmp_eq h g
  simp [g_least_of, List.replicate, wp_eq c]
  unfold mn
  by_cases l : a ≤ b
  · have : cmpR a b ≤ 0 := Int.not_lt.mp fun z => by have := (cmp_gt0 _ _).mp z; grind
    simp [this, l]
  · have : ¬ cmpR a b ≤ 0 := by have := (cmp_gt0 a b).mpr (by grind); omega
    simp [this, l]
    omega
/-! ### ascending -/
def Asc (l : List Rat) : Prop := l.Pairwise (· ≤ ·)
theorem ixqL (l : List Rat) {k : Nat} (h : k < l.length) : ixD (.lst (l.map qD)) (.int (k : Nat)) = some (qD l[k]) := by
  rw [ixD_ln, List.getElem?_map, List.getElem?_eq_getElem h]; rfl
theorem asc_ins {l : List Rat} (h : Asc l) {x : Rat} {p : Nat} (h1 : ∀ i (hi : i < l.length), i < p → l[i] ≤ x) (h2 : ∀ hp : p < l.length, x < l[p]) (hp : p ≤ l.length) : Asc (l.take p ++ x :: l.drop p) := by
  have hA := List.pairwise_iff_getElem.mp h
  have a1 : ∀ y ∈ l.take p, y ≤ x := fun y hy => by
    obtain ⟨i, hi, e⟩ := List.getElem_of_mem hy
    rw [List.length_take] at hi
    rw [List.getElem_take] at e
    rw [← e]; exact h1 i (by omega) (by omega)
  have a2 : ∀ y ∈ l.drop p, x ≤ y := fun y hy => by
    obtain ⟨i, hi, e⟩ := List.getElem_of_mem hy
    rw [List.length_drop] at hi
    rw [List.getElem_drop] at e
    have b1 := h2 (by omega)
    by_cases c : i = 0
    · subst c; rw [← e]; simp only [Nat.add_zero]; grind
    · have := hA p (p + i) (by omega) (by omega) (by omega)
      rw [← e]; grind
  refine List.pairwise_append.mpr ⟨List.Pairwise.sublist (List.take_sublist p l) h, List.pairwise_cons.mpr ⟨a2, List.Pairwise.sublist (List.drop_sublist p l) h⟩, fun y hy z hz => ?_⟩
  have b1 := a1 y hy
  rcases List.mem_cons.mp hz with rfl | hz
  · exact b1
  · have := a2 z hz; grind
theorem asc_eq {qs : List Rat} (hq : ∀ q ∈ qs, Sz 4000 q) (hl : qs.length ≤ 1000) (s : DS) : wp (m_ascending [.tup (qs.map qD)]) s fun d s' => s' = s ∧ ∃ r : List Rat, d = .lst (r.map qD) ∧ r.Perm qs ∧ Asc r := by
  refine wp_def rfl ?_
  simp [g_ascending, List.replicate, SZ_eq]
  refine wp_rest qD (fun rest ρ s' => s' = s ∧ (∀ q ∈ rest, q ∈ qs) ∧ ∃ (r : List Rat) (x2 x3 : Slot), (r ++ rest).Perm qs ∧ Asc r ∧ ρ = [.sh (.tup (qs.map qD)), .ow (r.map qD), x2, x3]) qs
    (fun x xs ρ s' hJ => ?_) (fun ρ s' hJ => ?_) ⟨rfl, fun q h => h, [], .un, .un, by simp, List.Pairwise.nil, rfl⟩
  · obtain ⟨rfl, hm, r, x2, x3, hp, ha, rfl⟩ := hJ
    have hx := hq x (hm x (by simp))
    have hlen := hp.length_eq
    rw [List.length_append, List.length_cons] at hlen
    have hrq : ∀ y ∈ r, Sz 4000 y := fun y hy => hq y (hp.mem_iff.mp (by simp [hy]))
    refine ⟨_, rfl, ?_⟩
    simp
    refine wp_whl (J := ()) (fun n ρ s'' => s'' = s' ∧ ∃ p : Nat, n = r.length - p ∧ p ≤ r.length ∧ (∀ i (hi : i < r.length), i < p → r[i] ≤ x) ∧ ρ = [.sh (.tup (qs.map qD)), .ow (r.map qD), .sh (qD x), .sh (.int (p : Nat))]) (fun n ρ s'' hI => ?_) r.length (by show r.length < FUEL; unfold FUEL; omega) ⟨rfl, 0, rfl, Nat.zero_le _, fun i hi h => by omega, rfl⟩
    obtain ⟨rfl, p, hn, hpl, hlt, rfl⟩ := hI
    have fin : ∀ hc : (∀ hp : p < r.length, x < r[p]), (r.take p ++ x :: r.drop p ++ xs).Perm qs ∧ Asc (r.take p ++ x :: r.drop p) := fun hc => by
      refine ⟨List.Perm.trans ?_ hp, asc_ins ha hlt hc hpl⟩
      have e : r.take p ++ x :: r.drop p ++ xs = r.take p ++ (x :: (r.drop p ++ xs)) := by simp
      rw [e]
      refine List.perm_middle.trans ?_
      rw [← List.append_assoc, List.take_append_drop]
      exact List.perm_middle.symm
    have hxs : ∀ q ∈ xs, q ∈ qs := fun q hq => hm q (by simp [hq])
    have emap : (r.take p ++ x :: r.drop p).map qD = (r.map qD).take p ++ qD x :: (r.map qD).drop p := by simp
    by_cases hpr : p < r.length
    · have hpr' : (p : Int) < (r.length : Nat) := by omega
      have ix := ixqL r hpr
      have c := cmp_eq (hrq _ (List.getElem_mem hpr)) hx
      by_cases hle : r[p] ≤ x
      · have c1 : cmpR r[p] x ≤ 0 := Int.not_lt.mp fun z => by have := (cmp_gt0 _ _).mp z; grind
        simp [hpr, hpr', ix, wp_eq c, c1, -ixD_ln]
        refine ⟨r.length - (p + 1), by omega, p + 1, rfl, by omega, fun i hi h => ?_, rfl⟩
        by_cases e : i = p
        · subst e; exact hle
        · exact hlt i hi (by omega)
      · have c1 : ¬ cmpR r[p] x ≤ 0 := by have := (cmp_gt0 r[p] x).mpr (by grind); omega
        simp [hpr, hpr', ix, wp_eq c, c1, -ixD_ln]
        have f := fin fun _ => by grind
        exact ⟨⟨hpl, by rw [SZ_eq]; omega⟩, hxs, _, f.1, f.2, emap.symm⟩
    · have hpr' : ¬ (p : Int) < (r.length : Nat) := by omega
      simp [hpr, hpr']
      have f := fin fun z => by omega
      exact ⟨⟨hpl, by rw [SZ_eq]; omega⟩, hxs, _, f.1, f.2, emap.symm⟩
  · obtain ⟨rfl, hm, r, x2, x3, hp, ha, rfl⟩ := hJ
    rw [List.append_nil] at hp
    simp
    exact ⟨r, rfl, hp, ha⟩
/-! ### leveled -/
def ls : List Rat → Rat
  | [] => 0
  | x :: l => x + ls l
theorem ls_app : ∀ (l m : List Rat), ls (l ++ m) = ls l + ls m
  | [], m => by show ls m = 0 + ls m; grind
  | x :: l, m => by show x + ls (l ++ m) = x + ls l + ls m; rw [ls_app l m]; grind
theorem ls_perm {l m : List Rat} (h : l.Perm m) : ls l = ls m := by
  induction h with
  | nil => rfl
  | cons x _ ih => show x + _ = x + _; rw [ih]
  | swap x y l => show y + (x + ls l) = x + (y + ls l); grind
  | trans _ _ h1 h2 => rw [h1, h2]
def Lv (qs : List Rat) (e : Rat) (h : Rat) : Prop := ls (qs.map fun q => mn q h) = e
theorem ls_min {h : Rat} : ∀ {l : List Rat}, (∀ x ∈ l, h ≤ x) → ls (l.map fun q => mn q h) = (l.length : Rat) * h
  | [], _ => by show (0 : Rat) = ((0 : Nat) : Rat) * h; have : ((0 : Nat) : Rat) = 0 := rfl; rw [this]; grind
  | x :: l, hx => by
    have ih := ls_min (l := l) fun y hy => hx y (by simp [hy])
    have e : ((x :: l).length : Rat) = (l.length : Rat) + 1 := Rat.natCast_add l.length 1
    have hm : mn x h = h := by have := hx x (by simp); unfold mn; split <;> grind
    show mn x h + ls _ = _
    rw [ih, e, hm]; grind
theorem ls_max {h : Rat} : ∀ {l : List Rat}, (∀ x ∈ l, x ≤ h) → ls (l.map fun q => mn q h) = ls l
  | [], _ => rfl
  | x :: l, hx => by
    have ih := ls_max (l := l) fun y hy => hx y (by simp [hy])
    have hm : mn x h = x := by unfold mn; rw [if_pos (hx x (by simp))]
    show mn x h + ls _ = x + ls l
    rw [ih, hm]
theorem nat_pos {m : Nat} (h : 0 < m) : (0 : Rat) < (m : Rat) := by
  have h1 : (0 : Rat) ≤ (m : Rat) := by rw [← Rat.intCast_natCast]; exact Rat.intCast_nonneg.mpr (by omega)
  have h2 : (m : Rat) ≠ 0 := fun z => by
    rw [← Rat.intCast_natCast] at z
    have : ((m : Nat) : Int) = 0 := Rat.intCast_inj.mp z
    omega
  grind
theorem leveled_eq {qs : List Rat} (hq : ∀ q ∈ qs, Sz 24 q) (hl : qs.length ≤ 6) (h1 : 1 ≤ qs.length) {e : Rat} (he : Sz 24 e) (hle : e ≤ ls qs) (s : DS) :
    wp (m_leveled [qD e, .tup (qs.map qD)]) s fun d s' => s' = s ∧ ∃ h, Sz 200 h ∧ Lv qs e h ∧ d = .tup ((qs.map fun q => mn q h).map qD) := by
  refine wp_def rfl ?_
  simp [g_leveled, List.replicate]
  refine wp_mono (asc_eq (fun q h => (hq q h).mono (by decide)) (by omega) s) fun d s' h => ?_
  obtain ⟨rfl, rows, rfl, hp, ha⟩ := h
  have hrl := hp.length_eq
  have hr24 : ∀ y ∈ rows, Sz 24 y := fun y hy => hq y (hp.mem_iff.mp hy)
  have hen : enD [.lst (rows.map qD)] = some ((List.range rows.length).map fun k => D.tup [.int (k : Nat), qD (rows.getD k 0)]) := by
    show some (enL (rows.map qD)) = _
    rw [show rows.map qD = rows.map EnQ.e from rfl, enL_map]
    congr 1
    refine List.ext_getElem (by simp) fun i h1 h2 => ?_
    have h : i < rows.length := by simpa using h1
    simp [h, e_Q]
  simp [hen]
  rw [List.range_eq_range']
  refine wp_rest (fun k : Nat => D.tup [.int (k : Nat), qD (rows.getD k 0)]) (fun rest ρ s'' => s'' = s' ∧ ∃ (k : Nat) (left : Rat) (x4 x5 x6 x7 : Slot), rest = List.range' k (rows.length - k) ∧ k ≤ rows.length ∧ left = e - ls (rows.take k) ∧ Sz (24 + 25 * k) left ∧ (∀ x ∈ rows.take k, x * ((rows.length - k : Nat) : Rat) < left) ∧
    ρ = [.sh (qD e), .sh (.tup (qs.map qD)), .sh (.lst (rows.map qD)), .sh (qD left), x4, x5, x6, x7]) (List.range' 0 rows.length)
    (fun k0 ks ρ s'' hJ => ?_) (fun ρ s'' hJ => ?_) ⟨rfl, 0, e, _, _, _, _, rfl, Nat.zero_le _, by show e = e - 0; grind, he, by simp, rfl⟩
  · obtain ⟨rfl, k, left, x4, x5, x6, x7, hrest, hkl, hleft, hsz, hinv, rfl⟩ := hJ
    have htl : k < rows.length := by
      refine Nat.lt_of_le_of_ne hkl fun z => ?_
      rw [z, Nat.sub_self] at hrest; simp at hrest
    obtain ⟨q, hqq⟩ : ∃ q, rows.length - k = q + 1 := ⟨rows.length - k - 1, by omega⟩
    rw [hqq, List.range'_succ] at hrest
    obtain ⟨rfl, rfl⟩ := List.cons.inj hrest
    have hrk : rows.getD k0 0 = rows[k0] := by rw [List.getD_eq_getElem?_getD, List.getElem?_eq_getElem htl]; rfl
    have hr := hr24 _ (List.getElem_mem htl)
    obtain ⟨N, hN⟩ : ∃ N : Int, N = ((q + 1 : Nat) : Int) := ⟨_, rfl⟩
    have hsub : (rows.length : Int) - (k0 : Int) = N := by omega
    have hq1 : (N : Rat) = ((q + 1 : Nat) : Rat) := by rw [hN]; exact Rat.intCast_natCast _
    have hqp := nat_pos (show 0 < q + 1 by omega)
    have hqz : Sz 4 (N : Rat) := Sz.int (by omega) (by decide)
    have hN0 : (N : Rat) ≠ 0 := by rw [hq1]; grind
    have ov := over_eq (hsz.mono (by omega : 24 + 25 * k0 ≤ 4000)) (hqz.mono (by decide : 4 ≤ 4000)) hN0
    have hhz : Sz (24 + 25 * k0 + 4) (left / (N : Rat)) := hsz.div hqz hN0
    have f1 := frac1 N
    have cm := cmp_eq (hhz.mono (by omega : 24 + 25 * k0 + 4 ≤ 4000)) (hr.mono (by decide : 24 ≤ 4000))
    have mi := minus_eq (hsz.mono (by omega : 24 + 25 * k0 ≤ 4000)) (hr.mono (by decide : 24 ≤ 4000))
    have hsplit : rows = rows.take k0 ++ rows[k0] :: rows.drop (k0 + 1) := by rw [← List.drop_eq_getElem_cons htl, List.take_append_drop]
    have hA := List.pairwise_iff_getElem.mp ha
    have hge : ∀ y ∈ rows[k0] :: rows.drop (k0 + 1), rows[k0] ≤ y := fun y hy => by
      rcases List.mem_cons.mp hy with rfl | hy
      · grind
      · obtain ⟨i, hi, e⟩ := List.getElem_of_mem hy
        rw [List.length_drop] at hi
        rw [List.getElem_drop] at e
        rw [← e]; exact hA k0 (k0 + 1 + i) htl (by omega) (by omega)
    have hlow : ∀ y ∈ rows.take k0, y ≤ rows[k0] := fun y hy => by
      obtain ⟨i, hi, e⟩ := List.getElem_of_mem hy
      rw [List.length_take] at hi
      rw [List.getElem_take] at e
      rw [← e]; exact hA i k0 (by omega) htl (by omega)
    rw [hqq] at hinv
    have hmul : left / (N : Rat) * ((q + 1 : Nat) : Rat) = left := by rw [← hq1]; exact Rat.div_mul_cancel hN0
    refine ⟨_, rfl, ?_⟩
    simp only [hrk]
    simp [hsub, wp_eq f1, wp_eq ov, wp_eq cm]
    generalize left / (N : Rat) = H at *
    have hq2 : ((q + 1 : Nat) : Rat) = (q : Rat) + 1 := Rat.natCast_add q 1
    by_cases hH : H ≤ rows[k0]
    · have c1 : cmpR H rows[k0] ≤ 0 := Int.not_lt.mp fun z => by have := (cmp_gt0 _ _).mp z; grind
      have c1' : ¬ 0 < cmpR H rows[k0] := Int.not_lt.mpr c1
      simp [c1, c1', wipeR]
      refine wp_compT (f := fun x : Rat => qD (mn x H)) _ (fun x hx => ⟨_, rfl, fun s => ?_⟩) ?_
      · have t := least_eq ((hq x hx).mono (by decide : 24 ≤ 4000)) (hhz.mono (by omega : 24 + 25 * k0 + 4 ≤ 4000))
        simp [wp_eq t]
      · refine ⟨rfl, H, hhz.mono (by omega), ?_, rfl⟩
        unfold Lv
        rw [← ls_perm (hp.map _), hsplit, List.map_append, ls_app]
        have l1 : ls ((rows.take k0).map fun q => mn q H) = ls (rows.take k0) := ls_max fun y hy => by
          have h3 := hinv y hy
          refine Rat.not_lt.mp fun z => ?_
          have := Rat.mul_lt_mul_of_pos_right z hqp
          grind
        have l2 : ls ((rows[k0] :: rows.drop (k0 + 1)).map fun q => mn q H) = ((q + 1 : Nat) : Rat) * H := by
          rw [ls_min fun y hy => by have := hge y hy; grind]
          rw [show (rows[k0] :: rows.drop (k0 + 1)).length = q + 1 by simp; omega]
        rw [l1, l2]
        grind
    · have c1 : ¬ cmpR H rows[k0] ≤ 0 := by have := (cmp_gt0 H rows[k0]).mpr (by grind); omega
      have htk : rows.take (k0 + 1) = rows.take k0 ++ [rows[k0]] := by rw [List.take_succ_eq_append_getElem htl]
      have e1 : left - rows[k0] = e - ls (rows.take (k0 + 1)) := by
        rw [htk, ls_app, hleft]
        show _ = e - (ls (rows.take k0) + (rows[k0] + 0))
        grind
      have hq3 : rows.length - (k0 + 1) = q := by omega
      have hm : rows[k0] * ((q : Rat) + 1) < left := by
        have := Rat.mul_lt_mul_of_pos_right (show rows[k0] < H by grind) hqp
        rw [hq2] at this hmul
        grind
      have hqn : (0 : Rat) ≤ (q : Rat) := by rw [← Rat.intCast_natCast]; exact Rat.intCast_nonneg.mpr (by omega)
      have c1' : 0 < cmpR H rows[k0] := by omega
      simp [c1, c1']
      refine (wp_eq mi).mpr ?_
      refine ⟨rfl, k0 + 1, ⟨by omega, .inr rfl⟩, by omega, by rw [← e1]; exact (hsz.sub hr).mono (by omega), fun x hx => ?_, by rw [e1]⟩
      rw [hq3, ← e1]
      have key : x ≤ rows[k0] := by
        rw [htk] at hx
        rcases List.mem_append.mp hx with hx | hx
        · exact hlow x hx
        · rw [List.mem_singleton.mp hx]; grind
      have := Rat.mul_le_mul_of_nonneg_right key hqn
      grind
  · obtain ⟨rfl, k, left, x4, x5, x6, x7, hrest, hkl, hleft, hsz, hinv, rfl⟩ := hJ
    exfalso
    have : k = rows.length := by
      have := congrArg List.length hrest
      simp at this
      omega
    subst this
    rw [List.take_length] at hleft hinv
    obtain ⟨x, hx⟩ : ∃ x, x ∈ rows := List.exists_mem_of_length_pos (by omega)
    have h2 := hinv x hx
    rw [Nat.sub_self] at h2
    have : ((0 : Nat) : Rat) = 0 := rfl
    rw [this] at h2
    rw [ls_perm hp] at hleft
    grind
end Lw
set_option maxHeartbeats 1000000
set_option exponentiation.threshold 64
namespace Lw
open PySem PySem.Spec PyProof.Rows L2 Pu
abbrev rD (r : List Nat) : D := .tup (r.map EnQ.e)
def at0 (d : List Nat) (k : Nat) : Nat := d.getD k 0
def cv (cs : List Nat) (k : Nat) : Rat := (((at0 cs k : Nat) : Int) : Rat)
def aD (n : Nat) (a : Nat → Rat) : D := .tup ((List.range n).map fun k => qD (a k))
structure Cs (cs : List Nat) (n E : Nat) : Prop where
  len : cs.length = n
  h1 : 1 ≤ n
  h6 : n ≤ 6
  sm : ∀ c ∈ cs, c < 2 ^ 20
  le : E ≤ cs.sum
theorem sumN (l : List Nat) : sumD [rD l] = some (.int (l.sum : Nat)) := by
  have := sumT_f (fun x : Nat => (x : Int)) l
  rw [show (l.map fun x : Nat => D.int (x : Int)) = l.map EnQ.e from rfl] at this
  rw [this]
  congr 2
  clear this
  induction l with
  | nil => rfl
  | cons a l ih => simp [ih]
theorem map_at0 {α : Type} (cs : List Nat) (f : Nat → α) : cs.map f = (List.range cs.length).map fun k => f (at0 cs k) := by
  refine List.ext_getElem (by simp) fun i h1 h2 => ?_
  have h : i < cs.length := by simpa using h1
  simp [at0, h]
theorem ls_range (f : Nat → Rat) : ∀ n, ls ((List.range n).map f) = RS n f
  | 0 => rfl
  | n + 1 => by
    rw [List.range_succ, List.map_append, ls_app, ls_range f n]
    show RS n f + (f n + 0) = RS n f + f n
    grind
theorem cv_sum (cs : List Nat) : RS cs.length (cv cs) = (((cs.sum : Nat) : Int) : Rat) := by
  rw [← ls_range]
  have : (List.range cs.length).map (cv cs) = cs.map fun c : Nat => (((c : Nat) : Int) : Rat) := (map_at0 cs fun c : Nat => (((c : Nat) : Int) : Rat)).symm
  rw [this]
  clear this
  induction cs with
  | nil => rfl
  | cons c cs ih =>
    show (((c : Nat) : Int) : Rat) + ls _ = _
    rw [ih, List.sum_cons, ← Rat.intCast_add]; rfl
theorem at0_mem {l : List Nat} {k : Nat} (h : k < l.length) : at0 l k ∈ l := by
  unfold at0
  rw [List.getD_eq_getElem?_getD, List.getElem?_eq_getElem h]
  exact List.getElem_mem h
theorem cv_nn (cs : List Nat) (k : Nat) : 0 ≤ cv cs k := Rat.intCast_nonneg.mpr (by omega)
theorem Cs.cl {cs : List Nat} {n E : Nat} (W : Cs cs n E) : Cl n (cv cs) (((E : Nat) : Int) : Rat) := ⟨fun k _ => cv_nn cs k, Rat.intCast_nonneg.mpr (by omega), by
  rw [← W.len, cv_sum]
  have := W.le
  exact Rat.intCast_le_intCast.mpr (by omega)⟩
theorem Cs.sum_sm {cs : List Nat} {n E : Nat} (W : Cs cs n E) : cs.sum < 2 ^ 23 := by
  have key : ∀ l : List Nat, (∀ c ∈ l, c < 2 ^ 20) → l.sum ≤ l.length * 2 ^ 20 := fun l => by
    induction l with
    | nil => intro _; simp
    | cons a l ih =>
      intro h
      have h1 := ih fun c hc => h c (by simp [hc])
      have h2 := h a (by simp)
      rw [List.sum_cons, List.length_cons, Nat.add_mul]; omega
  have h := key cs W.sm
  have := W.len
  have := W.h6
  have h2 : cs.length * 2 ^ 20 ≤ 6 * 2 ^ 20 := Nat.mul_le_mul_right _ (by omega)
  omega
theorem check_eq {cs : List Nat} {n E : Nat} (W : Cs cs n E) (s : DS) : m_check_claims [.int (E : Nat), rD cs] s = some (.non, s) := by
  refine def_eq (fun s => ?_) s
  refine wp_def rfl ?_
  have hl := W.len
  have h1 := W.h1
  have h6 := W.h6
  have hle := W.le
  have hm : ∃ z : Nat, minD [rD cs] = some (.int (z : Nat)) := by
    cases hc : cs with
    | nil => rw [hc] at hl; simp at hl; omega
    | cons z zs => exact ⟨_, min_seq (α := Nat) (by decide) rfl⟩
  obtain ⟨z, hm⟩ := hm
  simp [g_check_claims, List.replicate, c_MOST_CLAIMS, hl, hm, sumN]
  omega
theorem cv_sz {cs : List Nat} {n E : Nat} (W : Cs cs n E) {k : Nat} (hk : k < n) : Sz 20 (cv cs k) := Sz.int (by have := W.sm _ (at0_mem (l := cs) (k := k) (by rw [W.len]; exact hk)); simpa using this) (by decide)
theorem zp_range (n : Nat) (f g : Nat → D) : zpL ((List.range n).map f) ((List.range n).map g) = (List.range n).map fun k => .tup [f k, g k] := by
  have key : ∀ l : List Nat, zpL (l.map f) (l.map g) = l.map fun k => .tup [f k, g k] := fun l => by
    induction l with
    | nil => rfl
    | cons a l ih => simp [zpL, ih]
  exact key _
theorem mn_sz {a b : Rat} {k : Nat} (h : Sz k a) (g : Sz k b) : Sz k (mn a b) := by unfold mn; split <;> assumption
/-- what a rule comes to -/
def RO (p : Ru) (cs : List Nat) (n E : Nat) (d : D) : Prop := ∃ a, Is p n (cv cs) (((E : Nat) : Int) : Rat) a ∧ (∀ k, k < n → Sz 300 (a k)) ∧ d = aD n a
/-- leveled, of claims -/
theorem lev_of {n : Nat} (h1 : 1 ≤ n) (h6 : n ≤ 6) {q : Nat → Rat} (hq : ∀ k, k < n → Sz 24 (q k)) {e : Rat} (he : Sz 24 e) (hle : e ≤ RS n q) (s : DS) :
    wp (m_leveled [qD e, aD n q]) s fun d s' => s' = s ∧ ∃ a, IsL n q e a ∧ (∀ k, k < n → Sz 200 (a k)) ∧ d = aD n a := by
  have ea : aD n q = .tup (((List.range n).map q).map qD) := by unfold aD; rw [List.map_map]; rfl
  rw [ea]
  refine wp_mono (leveled_eq (qs := (List.range n).map q) (fun x hx => by
    obtain ⟨k, hk, rfl⟩ := List.mem_map.mp hx
    exact hq k (List.mem_range.mp hk)) (by simpa using h6) (by simpa using h1) he (by rw [ls_range]; exact hle) s) fun d s' h => ?_
  obtain ⟨rfl, g, hz, hL, rfl⟩ := h
  refine ⟨rfl, fun k => mn (q k) g, ⟨⟨g, fun k _ => rfl⟩, ?_⟩, fun k hk => mn_sz ((hq k hk).mono (by decide)) hz, ?_⟩
  · unfold Lv at hL
    rw [List.map_map] at hL
    rw [← hL, ← ls_range]; rfl
  · unfold aD
    rw [List.map_map, List.map_map]; rfl
theorem e_sz {E : Nat} (h : E < 2 ^ 23) : Sz 24 (((E : Nat) : Int) : Rat) := Sz.int (by simp; omega) (by decide)
theorem parts_ok {cs : List Nat} {n E : Nat} (W : Cs cs n E) (s : DS) : wp (m_by_parts [.int (E : Nat), rD cs]) s fun d s' => s' = s ∧ RO .parts cs n E d := by
  refine wp_def rfl ?_
  have hl := W.len
  have h6 := W.h6
  have hsm := W.sum_sm
  have hle := W.le
  have hcs := cv_sum cs
  rw [hl] at hcs
  by_cases h0 : cs.sum = 0
  · have hrep : repT (.tup [c_ZERO]) (.int (n : Nat)) = some (.tup (List.replicate n c_ZERO)) := repT_1 _ (by omega)
    simp [g_by_parts, List.replicate, wp_eq (check_eq W), sumN, h0, hl, hrep, SZ_eq]
    refine ⟨fun _ => 0, fun k _ => ?_, fun _ _ => Sz0.mono (by decide), ?_⟩
    · rw [hcs, h0]; exact (if_pos rfl).symm
    · unfold aD
      rw [List.map_const', List.length_range]; rfl
  · have h0' : ¬ ((cs.sum : Nat) : Int) = 0 := by omega
    simp [g_by_parts, List.replicate, wp_eq (check_eq W), sumN, h0, h0', wipeR]
    refine wp_compT (f := fun c : Nat => qD ((((E : Nat) : Int) : Rat) * (((c : Nat) : Int) : Rat) / (((cs.sum : Nat) : Int) : Rat))) _ (fun c hc => ⟨_, rfl, fun s => ?_⟩) ?_
    · have hc20 := W.sm c hc
      have m1 : mulD (.int (E : Nat)) (.int (c : Nat)) = some (.int ((E : Int) * (c : Nat))) := mulD_sm 64 (by simp; omega) (by simp; omega)
      have hlt : ((cs.sum : Nat) : Int).natAbs < 2 ^ 8500 := Nat.lt_of_lt_of_le (show cs.sum < 2 ^ 23 by omega) (Nat.pow_le_pow_right (by decide) (by decide))
      have fr := frac_eq ((E : Int) * (c : Nat)) (d := ((cs.sum : Nat) : Int)) (by omega) hlt
      simp only [e_N]
      simp [m1, sumN, -Int.natCast_mul]
      rw [Rat.intCast_mul] at fr
      exact (wp_eq fr).mpr ⟨rfl, rfl⟩
    · refine ⟨rfl, fun k => (((E : Nat) : Int) : Rat) * cv cs k / (((cs.sum : Nat) : Int) : Rat), fun k _ => ?_, fun k hk => (((e_sz (by omega)).mul (cv_sz W hk)).div (e_sz hsm) fun z => h0' (Rat.intCast_inj.mp z)).mono (by decide), ?_⟩
      · rw [hcs, if_neg]
        exact fun z => h0' (Rat.intCast_inj.mp z)
      · unfold aD
        rw [map_at0 cs, hl]
        congr 1
theorem ixA {n : Nat} (a : Nat → Rat) {k : Nat} (h : k < n) : ixD (aD n a) (.int (k : Nat)) = some (qD (a k)) := by
  unfold aD
  rw [ixD_tn, List.getElem?_map, List.getElem?_range h]; rfl
theorem cv_list {cs : List Nat} {n : Nat} (hl : cs.length = n) {f : Nat → Rat} (hf : ∀ k, k < n → f k = cv cs k) : .tup (cs.map fun c : Nat => qD (((c : Nat) : Int) : Rat)) = aD n f := by
  unfold aD
  rw [map_at0 cs, hl]
  congr 1
  exact List.map_congr_left fun k hk => by rw [hf k (List.mem_range.mp hk)]; rfl
theorem alike_ok {cs : List Nat} {n E : Nat} (W : Cs cs n E) (s : DS) : wp (m_alike [.int (E : Nat), rD cs]) s fun d s' => s' = s ∧ RO .alike cs n E d := by
  refine wp_def rfl ?_
  have hsm := W.sum_sm
  have hle := W.le
  simp [g_alike, List.replicate, wp_eq (check_eq W), wp_eq (frac1 ((E : Nat) : Int)), wipeR]
  refine wp_compT (f := fun c : Nat => qD (((c : Nat) : Int) : Rat)) _ (fun c hc => ⟨_, rfl, fun s => ?_⟩) ?_
  · simp only [e_N]
    simp [wp_eq (frac1 ((c : Nat) : Int))]
  · rw [cv_list W.len (f := cv cs) (fun _ _ => rfl)]
    refine wp_mono (lev_of W.h1 W.h6 (fun k hk => (cv_sz W hk).mono (by decide)) (e_sz (by omega)) W.cl.e1 s) fun d s' h => ?_
    obtain ⟨rfl, a, h1, h2, rfl⟩ := h
    exact ⟨rfl, a, h1, fun k hk => (h2 k hk).mono (by decide), rfl⟩
theorem losses_ok {cs : List Nat} {n E : Nat} (W : Cs cs n E) (s : DS) : wp (m_alike_losses [.int (E : Nat), rD cs]) s fun d s' => s' = s ∧ RO .losses cs n E d := by
  refine wp_def rfl ?_
  have hsm := W.sum_sm
  have hle := W.le
  have hcs := cv_sum cs
  rw [W.len] at hcs
  have hsub : (cs.sum : Int) - (E : Int) = ((cs.sum - E : Nat) : Int) := by omega
  have e1 : ((((cs.sum - E : Nat) : Nat) : Int) : Rat) = RS n (cv cs) - (((E : Nat) : Int) : Rat) := by rw [hcs, ← hsub, Rat.intCast_sub]
  have hz := e_sz (E := cs.sum - E) (by omega)
  simp [g_alike_losses, List.replicate, wp_eq (check_eq W), sumN, wipeR]
  refine wp_compT (f := fun c : Nat => qD (((c : Nat) : Int) : Rat)) _ (fun c hc => ⟨_, rfl, fun s => ?_⟩) ?_
  · simp only [e_N]
    simp [wp_eq (frac1 ((c : Nat) : Int))]
  · rw [cv_list W.len (f := cv cs) (fun _ _ => rfl), hsub]
    simp [wp_eq (frac1 ((cs.sum - E : Nat) : Int))]
    rw [e1] at hz ⊢
    refine wp_mono (lev_of W.h1 W.h6 (fun k hk => (cv_sz W hk).mono (by decide)) hz (by have := W.cl.e0; grind) s) fun d s' h => ?_
    obtain ⟨rfl, l, hL, hlz, rfl⟩ := h
    have hzp : zpD [aD n (cv cs), aD n l] = some ((List.range n).map fun k => .tup [qD (cv cs k), qD (l k)]) := by
      show some (zpL _ _) = _
      rw [zp_range]
    simp [hzp, wipeR]
    refine wp_compT (f := fun k : Nat => qD (cv cs k - l k)) _ (fun k hk => ⟨_, rfl, fun s => ?_⟩) ?_
    · have hk := List.mem_range.mp hk
      have t := minus_eq ((cv_sz W hk).mono (by decide : 20 ≤ 4000)) ((hlz k hk).mono (by decide : 200 ≤ 4000))
      simp [wp_eq t]
    · refine ⟨rfl, fun k => cv cs k - l k, hL.cong (fun _ _ => rfl) (fun k _ => by grind) rfl, fun k hk => ((cv_sz W hk).sub (hlz k hk)).mono (by decide), rfl⟩
theorem halves_ok {cs : List Nat} {n E : Nat} (W : Cs cs n E) (s : DS) : wp (m_halves [.int (E : Nat), rD cs]) s fun d s' => s' = s ∧ RO .halves cs n E d := by
  refine wp_def rfl ?_
  have hsm := W.sum_sm
  have hle := W.le
  have hcs := cv_sum cs
  rw [W.len] at hcs
  have hsub : (cs.sum : Int) - (E : Int) = ((cs.sum - E : Nat) : Int) := by omega
  have e1 : ((((cs.sum - E : Nat) : Nat) : Int) : Rat) = RS n (cv cs) - (((E : Nat) : Int) : Rat) := by rw [hcs, ← hsub, Rat.intCast_sub]
  have hz := e_sz (E := cs.sum - E) (by omega)
  have hq : ∀ k, k < n → Sz 24 (cv cs k / 2) := fun k hk => ((cv_sz W hk).div (Sz.int (k := 2) (n := 2) (by decide) (by decide)) (by decide)).mono (by decide)
  have hm : mulD (.int 2) (.int (E : Nat)) = some (.int (2 * (E : Nat))) := mulD_sm 64 (by decide) (by simp; omega)
  have hlist : .tup (cs.map fun c : Nat => qD ((((c : Nat) : Int) : Rat) / 2)) = aD n fun k => cv cs k / 2 := by
    unfold aD
    rw [map_at0 cs, W.len]
    rfl
  simp [g_halves, List.replicate, wp_eq (check_eq W), sumN, wipeR]
  refine wp_compT (f := fun c : Nat => qD ((((c : Nat) : Int) : Rat) / 2)) _ (fun c hc => ⟨_, rfl, fun s => ?_⟩) ?_
  · have f := frac_eq ((c : Nat) : Int) (d := 2) (by decide) (Nat.lt_of_lt_of_le (show 2 < 2 ^ 2 by decide) (Nat.pow_le_pow_right (by decide) (by decide)))
    simp only [e_N]
    simp
    exact (wp_eq f).mpr ⟨rfl, rfl⟩
  · rw [hlist]
    have hRS := RS_half n (cv cs)
    by_cases hb : 2 * E ≤ cs.sum
    · have hb' : (2 : Int) * (E : Int) ≤ (cs.sum : Int) := by omega
      have hbR : 2 * (((E : Nat) : Int) : Rat) ≤ RS n (cv cs) := by
        rw [hcs]
        have : ((2 * (E : Int) : Int) : Rat) ≤ (((cs.sum : Nat) : Int) : Rat) := Rat.intCast_le_intCast.mpr hb'
        rw [Rat.intCast_mul] at this
        exact this
      simp [hm, hb', wp_eq (frac1 ((E : Nat) : Int))]
      refine wp_mono (lev_of W.h1 W.h6 hq (e_sz (by omega)) (by rw [hRS]; grind) s) fun d s' h => ?_
      obtain ⟨rfl, a, h1, h2, rfl⟩ := h
      refine ⟨rfl, a, ?_, fun k hk => (h2 k hk).mono (by decide), rfl⟩
      show if _ then _ else _
      rw [if_pos hbR]; exact h1
    · have hb' : ¬ (2 : Int) * (E : Int) ≤ (cs.sum : Int) := by omega
      have hbR : ¬ 2 * (((E : Nat) : Int) : Rat) ≤ RS n (cv cs) := fun z => by
        rw [hcs] at z
        have : ((2 * (E : Int) : Int) : Rat) ≤ (((cs.sum : Nat) : Int) : Rat) := by rw [Rat.intCast_mul]; exact z
        exact hb' (Rat.intCast_le_intCast.mp this)
      simp [hm, hb', hsub, wp_eq (frac1 ((cs.sum - E : Nat) : Int))]
      rw [e1] at hz ⊢
      refine wp_mono (lev_of W.h1 W.h6 hq hz (by rw [hRS]; grind) s) fun d s' h => ?_
      obtain ⟨rfl, l, hL, hlz, rfl⟩ := h
      have hzp : zpD [rD cs, aD n l] = some ((List.range n).map fun k => .tup [.int (at0 cs k : Nat), qD (l k)]) := by
        show some (zpL (cs.map EnQ.e) _) = _
        rw [map_at0 cs, W.len, zp_range]; rfl
      simp [hzp, wipeR]
      refine wp_compT (f := fun k : Nat => qD (cv cs k - l k)) _ (fun k hk => ⟨_, rfl, fun s => ?_⟩) ?_
      · have hk := List.mem_range.mp hk
        have t := minus_eq ((cv_sz W hk).mono (by decide : 20 ≤ 4000)) ((hlz k hk).mono (by decide : 200 ≤ 4000))
        simp [wp_eq (frac1 ((at0 cs k : Nat) : Int))]
        exact (wp_eq t).mpr ⟨rfl, rfl⟩
      · refine ⟨rfl, fun k => cv cs k - l k, ?_, fun k hk => ((cv_sz W hk).sub (hlz k hk)).mono (by decide), rfl⟩
        show if _ then _ else _
        rw [if_neg hbR]
        exact hL.cong (fun _ _ => rfl) (fun k _ => by grind) rfl
end Lw
set_option maxHeartbeats 1000000
set_option exponentiation.threshold 64
namespace Lw
open PySem PySem.Spec PyProof.Rows L2 Pu
/-! ### one after the other, in all orders -/
def ordS (n : Nat) : Nat → List (List Nat)
  | 0 => [[]]
  | m + 1 => (ordS n m).flatMap fun row => ((List.range n).filter fun k => decide (k ∉ row)).map fun k => row ++ [k]
def ord (n : Nat) : List (List Nat) := ordS n n
def sw (i j x : Nat) : Nat := if x = i then j else if x = j then i else x
def ckOrd (n : Nat) : Bool := ((ord n).all fun o => o.isPerm (List.range n)) && ((ord n).map List.reverse).isPerm (ord n) && ((List.range n).all fun i => (List.range n).all fun j => ((ord n).map fun o => o.map (sw i j)).isPerm (ord n)) && decide (0 < (ord n).length) && decide ((ord n).length ≤ 24)
theorem ck4 : (List.range 5).all ckOrd = true := by decide +kernel
theorem ord_ok {n : Nat} (h : n ≤ 4) : (∀ o ∈ ord n, o.Perm (List.range n)) ∧ ((ord n).map List.reverse).Perm (ord n) ∧ (∀ i, i < n → ∀ j, j < n → ((ord n).map fun o => o.map (sw i j)).Perm (ord n)) ∧ 0 < (ord n).length ∧ (ord n).length ≤ 24 := by
  have hk := List.all_eq_true.mp ck4 n (List.mem_range.mpr (by omega))
  unfold ckOrd at hk
  simp only [Bool.and_eq_true, List.all_eq_true, decide_eq_true_eq] at hk
  obtain ⟨⟨⟨⟨h1, h2⟩, h3⟩, h4⟩, h5⟩ := hk
  exact ⟨fun o ho => List.isPerm_iff.mp (h1 o ho), List.isPerm_iff.mp h2, fun i hi j hj => List.isPerm_iff.mp (h3 i (List.mem_range.mpr hi) j (List.mem_range.mpr hj)), h4, h5⟩
/-- what number k gets in an order -/
def awF (c : Nat → Nat) : Nat → List Nat → Nat → Nat
  | _, [], _ => 0
  | left, x :: o, k => (if x = k then min left (c x) else 0) + awF c (left - min left (c x)) o k
def sc (c : Nat → Nat) (o : List Nat) : Nat := (o.map c).sum
theorem awF_no (c : Nat → Nat) (k : Nat) : ∀ (o : List Nat) (left : Nat), k ∉ o → awF c left o k = 0
  | [], _, _ => rfl
  | x :: o, left, h => by
    have h1 : ¬ x = k := fun z => h (by simp [z])
    show (if x = k then _ else 0) + _ = 0
    rw [if_neg h1, awF_no c k o _ (fun z => h (by simp [z]))]
theorem awF_at (c : Nat → Nat) (k : Nat) (q : List Nat) (hq : k ∉ q) : ∀ (p : List Nat) (left : Nat), k ∉ p → awF c left (p ++ k :: q) k = min (left - sc c p) (c k)
  | [], left, _ => by
    show (if k = k then min left (c k) else 0) + awF c _ q k = _
    rw [if_pos rfl, awF_no c k q _ hq]
    show _ = min (left - 0) (c k)
    omega
  | x :: p, left, h => by
    have h1 : ¬ x = k := fun z => h (by simp [z])
    show (if x = k then _ else 0) + awF c _ (p ++ k :: q) k = _
    rw [if_neg h1, awF_at c k q hq p _ (fun z => h (by simp [z]))]
    show _ = min (left - ((c x :: p.map c).sum)) (c k)
    rw [List.sum_cons]
    show 0 + min (left - min left (c x) - sc c p) (c k) = min (left - (c x + sc c p)) (c k)
    omega
theorem awF_all (c : Nat → Nat) : ∀ (o : List Nat) (left n : Nat), (∀ x ∈ o, x < n) → ((List.range n).map (awF c left o)).sum = min left (sc c o)
  | [], left, n, _ => by
    have : (List.range n).map (awF c left []) = List.replicate n 0 := by
      rw [show awF c left [] = fun _ => 0 from rfl, List.map_const', List.length_range]
    rw [this]
    simp [sc]
  | x :: o, left, n, h => by
    have ih := awF_all c o (left - min left (c x)) n fun y hy => h y (by simp [hy])
    have hx := h x (by simp)
    have e : ∀ m, x < m → ((List.range m).map fun k => (if x = k then min left (c x) else 0) + awF c (left - min left (c x)) o k).sum = min left (c x) + ((List.range m).map (awF c (left - min left (c x)) o)).sum := by
      have e0 : ∀ m, m ≤ x → ((List.range m).map fun k => (if x = k then min left (c x) else 0) + awF c (left - min left (c x)) o k).sum = ((List.range m).map (awF c (left - min left (c x)) o)).sum := by
        intro m
        induction m with
        | zero => intro _; rfl
        | succ m ih2 =>
          intro hm
          rw [List.range_succ, List.map_append, List.map_append, List.sum_append, List.sum_append, ih2 (by omega)]
          simp only [List.map_cons, List.map_nil, List.sum_cons, List.sum_nil, if_neg (show ¬ x = m by omega)]
          omega
      intro m
      induction m with
      | zero => intro hm; omega
      | succ m ih2 =>
        intro hm
        rw [List.range_succ, List.map_append, List.map_append, List.sum_append, List.sum_append]
        simp only [List.map_cons, List.map_nil, List.sum_cons, List.sum_nil]
        by_cases hxm : x = m
        · rw [if_pos hxm, e0 m (by omega)]; omega
        · rw [if_neg hxm, ih2 (by omega)]; omega
    show ((List.range n).map fun k => (if x = k then min left (c x) else 0) + awF c (left - min left (c x)) o k).sum = min left ((c x :: o.map c).sum)
    rw [e n hx, ih, List.sum_cons]
    show min left (c x) + min (left - min left (c x)) (sc c o) = min left (c x + sc c o)
    omega
theorem split_at {o : List Nat} {n k : Nat} (h : o.Perm (List.range n)) (hk : k < n) : ∃ p q, o = p ++ k :: q ∧ k ∉ p ∧ k ∉ q := by
  have hm : k ∈ o := h.mem_iff.mpr (List.mem_range.mpr hk)
  have hnd : o.Nodup := h.nodup_iff.mpr List.nodup_range
  obtain ⟨p, q, rfl⟩ := List.append_of_mem hm
  rw [List.nodup_append] at hnd
  obtain ⟨_, h2, h3⟩ := hnd
  exact ⟨p, q, rfl, fun z => h3 k z k (by simp) rfl, (List.nodup_cons.mp h2).1⟩
theorem sc_perm {c : Nat → Nat} {o m : List Nat} (h : o.Perm m) : sc c o = sc c m := (h.map c).sum_nat
theorem sc_app (c : Nat → Nat) (p q : List Nat) : sc c (p ++ q) = sc c p + sc c q := by unfold sc; rw [List.map_append, List.sum_append]
theorem sc_cons (c : Nat → Nat) (x : Nat) (q : List Nat) : sc c (x :: q) = c x + sc c q := by unfold sc; rw [List.map_cons, List.sum_cons]
def Csum (c : Nat → Nat) (n : Nat) : Nat := sc c (List.range n)
theorem aw_dual {c : Nat → Nat} {n k E : Nat} {o : List Nat} (h : o.Perm (List.range n)) (hk : k < n) (hE : E ≤ Csum c n) : awF c E o k + awF c (Csum c n - E) o.reverse k = c k := by
  obtain ⟨p, q, rfl, hp, hq⟩ := split_at h hk
  have hs := sc_perm (c := c) h
  rw [sc_app, sc_cons] at hs
  have e : (p ++ k :: q).reverse = q.reverse ++ k :: p.reverse := by simp
  rw [e, awF_at c k q hq p E hp, awF_at c k p.reverse (by simpa using hp) q.reverse _ (by simpa using hq), sc_perm (List.reverse_perm q)]
  unfold Csum at *
  omega
theorem aw_mono {c : Nat → Nat} {n k E E' : Nat} {o : List Nat} (h : o.Perm (List.range n)) (hk : k < n) (hE : E ≤ E') : awF c E o k ≤ awF c E' o k := by
  obtain ⟨p, q, rfl, hp, hq⟩ := split_at h hk
  rw [awF_at c k q hq p E hp, awF_at c k q hq p E' hp]
  omega
theorem aw_le {c : Nat → Nat} {n k E : Nat} {o : List Nat} (h : o.Perm (List.range n)) (hk : k < n) : awF c E o k ≤ c k := by
  obtain ⟨p, q, rfl, hp, hq⟩ := split_at h hk
  rw [awF_at c k q hq p E hp]
  omega
theorem aw_mul {c : Nat → Nat} {n k E t : Nat} {o : List Nat} (h : o.Perm (List.range n)) (hk : k < n) : awF (fun x => t * c x) (t * E) o k = t * awF c E o k := by
  obtain ⟨p, q, rfl, hp, hq⟩ := split_at h hk
  have e : sc (fun x => t * c x) p = t * sc c p := by
    clear h hp
    induction p with
    | nil => simp [sc]
    | cons x p ih => rw [sc_cons, sc_cons, ih, Nat.mul_add]
  rw [awF_at c k q hq p E hp, awF_at _ k q hq p _ hp, e, ← Nat.mul_sub]
  show min (t * (E - sc c p)) (t * c k) = _
  rw [Nat.mul_min_mul_left]
theorem sw_sc {c : Nat → Nat} {i j : Nat} : ∀ {p : List Nat}, j ∉ p → p.Nodup → (i ∉ p → sc c (p.map (sw i j)) = sc c p) ∧ (i ∈ p → sc c (p.map (sw i j)) + c i = sc c p + c j)
  | [], _, _ => ⟨fun _ => rfl, fun h => by cases h⟩
  | x :: p, hj, hn => by
    obtain ⟨n1, n2⟩ := List.nodup_cons.mp hn
    obtain ⟨h1, h2⟩ := sw_sc (c := c) (i := i) (j := j) (p := p) (fun z => hj (by simp [z])) n2
    have hxj : x ≠ j := fun z => hj (by simp [z])
    rw [List.map_cons, sc_cons, sc_cons]
    refine ⟨fun hi => ?_, fun hi => ?_⟩
    · have hxi : x ≠ i := fun z => hi (by simp [z])
      have e : sw i j x = x := by unfold sw; rw [if_neg hxi, if_neg hxj]
      rw [e, h1 fun z => hi (by simp [z])]
    · by_cases hxi : x = i
      · subst hxi
        have e : sw x j x = j := by unfold sw; rw [if_pos rfl]
        rw [e, h1 n1]; omega
      · have e : sw i j x = x := by unfold sw; rw [if_neg hxi, if_neg hxj]
        have hip : i ∈ p := by
          rcases List.mem_cons.mp hi with z | z
          · exact absurd z.symm hxi
          · exact z
        have := h2 hip
        rw [e]; omega
theorem aw_swap {c : Nat → Nat} {n i j E : Nat} {o : List Nat} (h : o.Perm (List.range n)) (hi : i < n) (hj : j < n) (hc : c j ≤ c i) : awF c E o j ≤ awF c E (o.map (sw i j)) i ∧ c j + awF c E (o.map (sw i j)) i ≤ c i + awF c E o j := by
  have hnd : o.Nodup := h.nodup_iff.mpr List.nodup_range
  obtain ⟨p, q, rfl, hp, hq⟩ := split_at h hj
  have hpn : p.Nodup := (List.nodup_append.mp hnd).1
  have swi : ∀ l : List Nat, j ∉ l → i ∉ l.map (sw i j) := fun l hl z => by
    obtain ⟨y, hy, e⟩ := List.mem_map.mp z
    unfold sw at e
    by_cases h1 : y = i
    · rw [if_pos h1] at e; subst h1; exact hl (by rw [e]; exact hy)
    · rw [if_neg h1] at e
      by_cases h2 : y = j
      · exact hl (by rw [← h2]; exact hy)
      · rw [if_neg h2] at e; exact h1 e
  have e : (p ++ j :: q).map (sw i j) = p.map (sw i j) ++ i :: q.map (sw i j) := by
    rw [List.map_append, List.map_cons]
    have : sw i j j = i := by
      unfold sw
      by_cases z : j = i
      · rw [if_pos z]; exact z
      · rw [if_neg z, if_pos rfl]
    rw [this]
  rw [e, awF_at c j q hq p E hp, awF_at c i _ (swi q hq) _ E (swi p hp)]
  obtain ⟨s1, s2⟩ := sw_sc (c := c) (i := i) hp hpn
  by_cases hip : i ∈ p
  · have := s2 hip
    have hle : c i ≤ sc c p := by
      obtain ⟨u, v, rfl⟩ := List.append_of_mem hip
      rw [sc_app, sc_cons]; omega
    omega
  · rw [s1 hip]; omega
end Lw
set_option maxHeartbeats 1000000
set_option exponentiation.threshold 64
namespace Lw
open PySem PySem.Spec PyProof.Rows L2 Pu
def sm (c : Nat → Nat) (E n k : Nat) : Nat := ((ord n).map fun o => awF c E o k).sum
theorem sum_le {α : Type} {f g : α → Nat} : ∀ {l : List α}, (∀ x ∈ l, f x ≤ g x) → (l.map f).sum ≤ (l.map g).sum
  | [], _ => Nat.le_refl _
  | x :: l, h => by
    rw [List.map_cons, List.map_cons, List.sum_cons, List.sum_cons]
    exact Nat.add_le_add (h x (by simp)) (sum_le fun y hy => h y (by simp [hy]))
theorem sum_const (c : Nat) {α : Type} : ∀ l : List α, (l.map fun _ => c).sum = l.length * c
  | [] => by simp
  | x :: l => by rw [List.map_cons, List.sum_cons, sum_const c l, List.length_cons, Nat.add_mul]; omega
theorem sum_add {α : Type} (f g : α → Nat) : ∀ l : List α, (l.map fun x => f x + g x).sum = (l.map f).sum + (l.map g).sum
  | [] => rfl
  | x :: l => by rw [List.map_cons, List.map_cons, List.map_cons, List.sum_cons, List.sum_cons, List.sum_cons, sum_add f g l]; omega
theorem sum_congr {α : Type} {f g : α → Nat} {l : List α} (h : ∀ x ∈ l, f x = g x) : (l.map f).sum = (l.map g).sum := by rw [List.map_congr_left h]
theorem sum_mul {α : Type} (t : Nat) (f : α → Nat) : ∀ l : List α, (l.map fun x => t * f x).sum = t * (l.map f).sum
  | [] => by simp
  | x :: l => by rw [List.map_cons, List.map_cons, List.sum_cons, List.sum_cons, sum_mul t f l, Nat.mul_add]
theorem sm_dual {c : Nat → Nat} {E n k : Nat} (h4 : n ≤ 4) (hk : k < n) (hE : E ≤ Csum c n) : sm c E n k + sm c (Csum c n - E) n k = (ord n).length * c k := by
  obtain ⟨h1, h2, h3, h5, _⟩ := ord_ok h4
  have e : sm c (Csum c n - E) n k = ((ord n).map fun o => awF c (Csum c n - E) o.reverse k).sum := by
    unfold sm
    rw [← (h2.map fun o => awF c (Csum c n - E) o k).sum_nat, List.map_map]; rfl
  rw [e]
  unfold sm
  rw [← sum_add, sum_congr (g := fun _ => c k) (fun o ho => aw_dual (h1 o ho) hk hE), sum_const]
theorem sm_mono {c : Nat → Nat} {E E' n k : Nat} (h4 : n ≤ 4) (hk : k < n) (hE : E ≤ E') : sm c E n k ≤ sm c E' n k := sum_le fun o ho => aw_mono ((ord_ok h4).1 o ho) hk hE
theorem sm_le {c : Nat → Nat} {E n k : Nat} (h4 : n ≤ 4) (hk : k < n) : sm c E n k ≤ (ord n).length * c k := by
  rw [← sum_const]; exact sum_le fun o ho => aw_le ((ord_ok h4).1 o ho) hk
theorem sm_mul {c : Nat → Nat} {E n k t : Nat} (h4 : n ≤ 4) (hk : k < n) : sm (fun x => t * c x) (t * E) n k = t * sm c E n k := by
  unfold sm
  rw [← sum_mul]
  exact sum_congr fun o ho => aw_mul ((ord_ok h4).1 o ho) hk
theorem sm_order {c : Nat → Nat} {E n i j : Nat} (h4 : n ≤ 4) (hi : i < n) (hj : j < n) (hc : c j ≤ c i) : sm c E n j ≤ sm c E n i ∧ (ord n).length * c j + sm c E n i ≤ (ord n).length * c i + sm c E n j := by
  obtain ⟨h1, h2, h3, h5, _⟩ := ord_ok h4
  have e : sm c E n i = ((ord n).map fun o => awF c E (o.map (sw i j)) i).sum := by
    unfold sm
    rw [← ((h3 i hi j hj).map fun o => awF c E o i).sum_nat, List.map_map]; rfl
  rw [e]
  unfold sm
  refine ⟨sum_le fun o ho => (aw_swap (h1 o ho) hi hj hc).1, ?_⟩
  rw [← sum_const (c j) (ord n), ← sum_const (c i) (ord n), ← sum_add, ← sum_add]
  exact sum_le fun o ho => (aw_swap (h1 o ho) hi hj hc).2
theorem sm_sum {c : Nat → Nat} {E n : Nat} (h4 : n ≤ 4) (hE : E ≤ Csum c n) : ((List.range n).map (sm c E n)).sum = (ord n).length * E := by
  obtain ⟨h1, _⟩ := ord_ok h4
  have key : ∀ l : List (List Nat), (∀ o ∈ l, o.Perm (List.range n)) → ((List.range n).map fun k => (l.map fun o => awF c E o k).sum).sum = l.length * E := by
    intro l
    induction l with
    | nil => intro _; rw [show (fun k => (([] : List (List Nat)).map fun o => awF c E o k).sum) = fun _ => 0 from rfl, sum_const]; simp
    | cons o l ih =>
      intro h
      have ho := h o (by simp)
      rw [sum_congr (g := fun k => awF c E o k + (l.map fun o => awF c E o k).sum) (fun k _ => by rw [List.map_cons, List.sum_cons]), sum_add, ih fun o' ho' => h o' (by simp [ho'])]
      have := awF_all c o E n fun x hx => List.mem_range.mp (ho.mem_iff.mp hx)
      rw [this, sc_perm ho, List.length_cons, Nat.add_mul]
      unfold Csum at hE
      omega
  exact key (ord n) h1
theorem at0_sum (cs : List Nat) : Csum (at0 cs) cs.length = cs.sum := by
  unfold Csum sc
  rw [← map_at0 cs fun x => x, List.map_id']
/-! ### the orders, evaluated -/
theorem row_items (r : List Nat) (l : List Nat) : l.map (fun k : Nat => (EnQ.e (r ++ [k]) : D)) = (l.map fun k => r ++ [k]).map EnQ.e := by rw [List.map_map]; rfl
theorem ordS_ck : ((List.range 5).all fun n => (List.range 5).all fun m => decide ((ordS n m).length ≤ 256) && (ordS n m).all fun r => decide (r.length = m)) = true := by decide +kernel
theorem ordS_ok {n m : Nat} (h : n ≤ 4) (hm : m ≤ 4) : (ordS n m).length ≤ 256 ∧ ∀ r ∈ ordS n m, r.length = m := by
  have h1 := List.all_eq_true.mp (List.all_eq_true.mp ordS_ck n (List.mem_range.mpr (by omega))) m (List.mem_range.mpr (by omega))
  simp only [Bool.and_eq_true, List.all_eq_true, decide_eq_true_eq] at h1
  exact h1
theorem orders_of_eq {n : Nat} (h4 : n ≤ 4) (s : DS) : m_orders_of [.int (n : Nat)] s = some (.lst ((ord n).map EnQ.e), s) := by
  refine def_eq (fun s => ?_) s
  refine wp_def rfl ?_
  have hr : rng1D [.int (n : Nat)] = some ((List.range n).map EnQ.e) := rng1_n (by omega)
  simp [g_orders_of, List.replicate, SZ_eq, hr]
  refine wp_rest EnQ.e (fun rest ρ s' => s' = s ∧ ∃ (m : Nat) (x2 x3 x4 x5 : Slot), m + rest.length = n ∧ ρ = [.sh (.int (n : Nat)), .sh (.lst ((ordS n m).map EnQ.e)), x2, x3, x4, x5]) (List.range n)
    (fun x xs ρ s' hJ => ?_) (fun ρ s' hJ => ?_) ⟨rfl, 0, .un, .un, .un, .un, by simp, rfl⟩
  · obtain ⟨rfl, m, x2, x3, x4, x5, hm, rfl⟩ := hJ
    rw [List.length_cons] at hm
    obtain ⟨o1, o2⟩ := ordS_ok (n := n) (m := m) h4 (by omega)
    obtain ⟨o3, o4⟩ := ordS_ok (n := n) (m := m + 1) h4 (by omega)
    refine ⟨_, rfl, ?_⟩
    simp [SZ_eq]
    refine wp_rest EnQ.e (fun rest ρ s'' => s'' = s' ∧ (∀ r ∈ rest, r ∈ ordS n m) ∧ ∃ (longer : List (List Nat)) (x4 x5 : Slot), longer ++ (rest.flatMap fun row => ((List.range n).filter fun k => decide (k ∉ row)).map fun k => row ++ [k]) = ordS n (m + 1) ∧ ρ = [.sh (.int (n : Nat)), .sh (.lst ((ordS n m).map EnQ.e)), .sh (EnQ.e x), .ow (longer.map EnQ.e), x4, x5]) (ordS n m)
      (fun r rs ρ s'' hJ => ?_) (fun ρ s'' hJ => ?_) ⟨rfl, fun r h => h, [], x4, x5, rfl, rfl⟩
    · obtain ⟨rfl, hm2, longer, x4, x5, hl, rfl⟩ := hJ
      have hlen := congrArg List.length hl
      rw [List.length_append, List.flatMap_cons, List.length_append, List.length_map] at hlen
      have hrw := o2 r (hm2 r (by simp))
      refine ⟨_, rfl, ?_⟩
      simp [e_L, hr, wipeR]
      refine wp_compF (p := fun k : Nat => decide (k ∉ r)) (f := fun k : Nat => EnQ.e (r ++ [k])) _ (fun k hk => ⟨_, rfl, fun s => ⟨?_, fun _ => ?_⟩⟩) ?_
      · have z := ninT_en (α := Nat) (by decide) k r
        simp only [e_N] at z ⊢
        simp [z]
        exact Classical.em _
      · have e1 : addD (.tup (r.map EnQ.e)) (.tup [.int (k : Nat)]) = some (.tup (r.map EnQ.e ++ [.int (k : Nat)])) := addD_tt (by simp; omega)
        simp [e_N, e_L, SZ_eq, e1]
      · rw [row_items]
        refine ⟨_, extU_eq (by simp only [List.length_map] at hlen ⊢; omega), rfl, fun r' hr' => hm2 r' (by simp [hr']), longer ++ ((List.range n).filter fun k => decide (k ∉ r)).map (fun k => r ++ [k]), ?_, by rw [List.map_append]⟩
        rw [← hl, List.flatMap_cons, List.append_assoc]
        simp only [decide_not]
    · obtain ⟨rfl, _, longer, x4, x5, hl, rfl⟩ := hJ
      have hl : longer = ordS n (m + 1) := by simpa using hl
      subst hl
      simp
      exact ⟨m + 1, by omega, rfl⟩
  · obtain ⟨rfl, m, x2, x3, x4, x5, hm, rfl⟩ := hJ
    have hm : m = n := by simpa using hm
    subst hm
    simp
    rfl
end Lw
set_option maxHeartbeats 1000000
set_option exponentiation.threshold 64
namespace Lw
open PySem PySem.Spec PyProof.Rows L2 Pu
def fdD (n : Nat) (f : Nat → Nat) : List D := (List.range n).map fun i => D.int (f i : Nat)
theorem fd_ix {n : Nat} (f : Nat → Nat) {i : Nat} (h : i < n) : (fdD n f)[i]? = some (.int (f i : Nat)) := by unfold fdD; rw [List.getElem?_map, List.getElem?_range h]; rfl
theorem fd_len (n : Nat) (f : Nat → Nat) : (fdD n f).length = n := by simp [fdD]
theorem fd_add {n : Nat} (f : Nat → Nat) {x a : Nat} (hx : x < n) : (fdD n f).set x (.int ((f x : Int) + (a : Int))) = fdD n fun k => f k + if x = k then a else 0 := by
  refine List.ext_getElem? fun k => ?_
  rw [List.getElem?_set]
  by_cases h : x = k
  · subst h
    rw [if_pos rfl, if_pos (by rw [fd_len]; exact hx), fd_ix _ hx, if_pos rfl]
    simp
  · rw [if_neg h]
    by_cases hk : k < n
    · rw [fd_ix _ hk, fd_ix _ hk, if_neg h, Nat.add_zero]
    · rw [List.getElem?_eq_none (by rw [fd_len]; omega), List.getElem?_eq_none (by rw [fd_len]; omega)]
theorem ixN' (cs : List Nat) {k : Nat} (h : k < cs.length) : ixD (rD cs) (.int (k : Nat)) = some (.int (at0 cs k : Nat)) := by
  rw [ixD_tn, List.getElem?_map, List.getElem?_eq_getElem h]
  unfold at0
  rw [List.getD_eq_getElem?_getD, List.getElem?_eq_getElem h]; rfl
def oa (cs : List Nat) (n E k : Nat) : Rat := (((sm (at0 cs) E n k : Nat) : Int) : Rat) / ((((ord n).length : Nat) : Int) : Rat)
theorem aw_sm {cs : List Nat} {n E : Nat} (W : Cs cs n E) (h4 : n ≤ 4) {k : Nat} (hk : k < n) : sm (at0 cs) E n k < 2 ^ 25 := by
  have h1 := sm_le (c := at0 cs) (E := E) h4 hk
  have h2 := (ord_ok h4).2.2.2.2
  have h3 := W.sm _ (at0_mem (l := cs) (k := k) (by rw [W.len]; exact hk))
  have : (ord n).length * at0 cs k ≤ 24 * 2 ^ 20 := Nat.mul_le_mul h2 (by omega)
  omega
theorem oa_sz {cs : List Nat} {n E : Nat} (W : Cs cs n E) (h4 : n ≤ 4) {k : Nat} (hk : k < n) : Sz 300 (oa cs n E k) := by
  obtain ⟨_, _, _, h5, h6⟩ := ord_ok h4
  have h := aw_sm W h4 hk
  refine ((Sz.int (k := 25) (by simpa using h) (by decide)).div (Sz.int (k := 5) (n := (((ord n).length : Nat) : Int)) (by simp; omega) (by decide)) fun z => ?_).mono (by decide)
  have : (((ord n).length : Nat) : Int) = 0 := Rat.intCast_inj.mp z
  omega
theorem orders_eq {cs : List Nat} {n E : Nat} (W : Cs cs n E) (h4 : n ≤ 4) (s : DS) : m_by_orders [.int (E : Nat), rD cs] s = some (aD n (oa cs n E), s) := by
  refine def_eq (fun s => ?_) s
  refine wp_def rfl ?_
  have hl := W.len
  obtain ⟨o1, o2, o3, o4, o5⟩ := ord_ok h4
  have hrep : repO (.lst [.int 0]) (.int (n : Nat)) = some (fdD n fun _ => 0) := by
    rw [repO_1 _ (by omega)]
    unfold fdD
    rw [List.map_const', List.length_range]; rfl
  simp [g_by_orders, List.replicate, wp_eq (check_eq W), hl, SZ_eq, hrep, wp_eq (orders_of_eq h4)]
  refine wp_rest EnQ.e (fun rest ρ s' => s' = s ∧ (∀ o ∈ rest, o ∈ ord n) ∧ ∃ (S : Nat → Nat) (x4 x5 x6 x7 x8 : Slot), (∀ k, S k + (rest.map fun o => awF (at0 cs) E o k).sum = sm (at0 cs) E n k) ∧ ρ = [.sh (.int (E : Nat)), .sh (rD cs), .ow (fdD n S), .sh (.lst ((ord n).map EnQ.e)), x4, x5, x6, x7, x8]) (ord n)
    (fun o os ρ s' hJ => ?_) (fun ρ s' hJ => ?_) ⟨rfl, fun o h => h, fun _ => 0, _, _, _, _, _, fun k => by show 0 + _ = _; rw [Nat.zero_add]; rfl, rfl⟩
  · obtain ⟨rfl, hm, S, x4, x5, x6, x7, x8, hS, rfl⟩ := hJ
    have ho := o1 o (hm o (by simp))
    have hos : ∀ y ∈ os, y ∈ ord n := fun y hy => hm y (by simp [hy])
    refine ⟨_, rfl, ?_⟩
    simp [e_L]
    refine wp_rest EnQ.e (fun rest ρ s'' => s'' = s' ∧ (∀ x ∈ rest, x ∈ o) ∧ ∃ (left : Nat) (T : Nat → Nat) (x6 x7 : Slot), (∀ k, T k + awF (at0 cs) left rest k = S k + awF (at0 cs) E o k) ∧ ρ = [.sh (.int (E : Nat)), .sh (rD cs), .ow (fdD n T), .sh (.lst ((ord n).map EnQ.e)), .sh (rD o), .sh (.int (left : Nat)), x6, x7, x8]) o
      (fun x xs ρ s'' hI => ?_) (fun ρ s'' hI => ?_) ⟨rfl, fun x h => h, E, S, _, _, fun k => rfl, rfl⟩
    · obtain ⟨rfl, hmx, left, T, x6, x7, hT, rfl⟩ := hI
      have hx : x < n := List.mem_range.mp (ho.mem_iff.mp (hmx x (by simp)))
      have hxs : ∀ y ∈ xs, y ∈ o := fun y hy => hmx y (by simp [hy])
      have i1 := ixN' cs (k := x) (by omega)
      have hmn : min (left : Int) (at0 cs x : Nat) = (min left (at0 cs x) : Nat) := by omega
      have hsub : (left : Int) - ((min left (at0 cs x) : Nat) : Int) = ((left - min left (at0 cs x) : Nat) : Int) := by omega
      have hset := fd_add T (a := min left (at0 cs x)) hx
      refine ⟨_, rfl, ?_⟩
      simp only [e_N]
      simp [i1, hmn, ixN_nat (n := (fdD n T).length) (k := x) (by rw [fd_len]; exact hx), fd_ix T hx, -ixD_tn]
      refine ⟨hxs, left - min left (at0 cs x), fun k => T k + if x = k then min left (at0 cs x) else 0, fun k => ?_, hset, hsub⟩
      have h1 : T k + ((if x = k then min left (at0 cs x) else 0) + awF (at0 cs) (left - min left (at0 cs x)) xs k) = S k + awF (at0 cs) E o k := hT k
      show T k + (if x = k then min left (at0 cs x) else 0) + awF (at0 cs) (left - min left (at0 cs x)) xs k = _
      omega
    · obtain ⟨rfl, _, left, T, x6, x7, hT, rfl⟩ := hI
      refine ⟨rfl, hos, T, ?_, _, _, _, _, _, rfl⟩
      intro k
      have h1 := hT k
      have h2 := hS k
      rw [List.map_cons, List.sum_cons] at h2
      have h3 : awF (at0 cs) left [] k = 0 := rfl
      omega
  · obtain ⟨rfl, _, S, x4, x5, x6, x7, x8, hS, rfl⟩ := hJ
    have hSk : ∀ k, S k = sm (at0 cs) E n k := fun k => by have := hS k; simpa using this
    have ef : fdD n S = (List.range n).map fun k => D.int (sm (at0 cs) E n k : Nat) := by unfold fdD; exact List.map_congr_left fun k _ => by rw [hSk]
    simp [wipeR]
    rw [ef]
    refine wp_compT (f := fun k : Nat => qD (oa cs n E k)) _ (fun k hk => ⟨_, rfl, fun s => ?_⟩) ?_
    · have hlt : (((ord n).length : Nat) : Int).natAbs < 2 ^ 8500 := Nat.lt_of_lt_of_le (show (ord n).length < 2 ^ 5 by omega) (Nat.pow_le_pow_right (by decide) (by decide))
      have fr := frac_eq ((sm (at0 cs) E n k : Nat) : Int) (d := (((ord n).length : Nat) : Int)) (by omega) hlt
      simp
      exact (wp_eq fr).mpr ⟨rfl, rfl⟩
    · simp
      rfl
end Lw
set_option maxHeartbeats 1000000
set_option exponentiation.threshold 64
namespace Lw
open PySem PySem.Spec PyProof.Rows L2 Pu
/-! ### all rules -/
def nq (x : Nat) : Rat := ((x : Int) : Rat)
theorem nq_add (a b : Nat) : nq (a + b) = nq a + nq b := by unfold nq; rw [Int.natCast_add, Rat.intCast_add]
theorem nq_mul (a b : Nat) : nq (a * b) = nq a * nq b := by unfold nq; rw [Int.natCast_mul, Rat.intCast_mul]
theorem nq_le {a b : Nat} : nq a ≤ nq b ↔ a ≤ b := by unfold nq; rw [Rat.intCast_le_intCast]; omega
theorem nq_0 : nq 0 = 0 := rfl
theorem nq_inj {a b : Nat} (h : nq a = nq b) : a = b := by have := nq_le.mp (show nq a ≤ nq b by grind); have := nq_le.mp (show nq b ≤ nq a by grind); omega
theorem nq_pos {a : Nat} (h : 0 < a) : 0 < nq a := by
  have h1 := nq_le.mpr (show 0 ≤ a by omega)
  have h2 : nq a ≠ nq 0 := fun z => by have := nq_inj z; omega
  rw [nq_0] at h1 h2
  grind
theorem nq_sub {a b : Nat} (h : b ≤ a) : nq (a - b) = nq a - nq b := by
  have := nq_add (a - b) b
  rw [Nat.sub_add_cancel h] at this
  grind
theorem RS_nq (f : Nat → Nat) : ∀ n, RS n (fun k => nq (f k)) = nq ((List.range n).map f).sum
  | 0 => rfl
  | n + 1 => by
    show RS n _ + nq (f n) = _
    rw [RS_nq f n, List.range_succ, List.map_append, List.sum_append, nq_add]
    simp
inductive Rul | base (p : Ru) | orders deriving DecidableEq
def Rul.nm : Rul → String
  | .base .parts => "parts"
  | .base .alike => "alike"
  | .base .losses => "losses"
  | .base .halves => "halves"
  | .orders => "orders"
def Rul.dual : Rul → Rul
  | .base p => .base p.dual
  | .orders => .orders
def Aw (r : Rul) (cs : List Nat) (n E : Nat) (a : Nat → Rat) : Prop := match r with
  | .base p => Is p n (cv cs) (nq E) a
  | .orders => ∀ k, k < n → a k = oa cs n E k
theorem settled_wp {cs : List Nat} {n E : Nat} (W : Cs cs n E) (h4 : n ≤ 4) (r : Rul) (s : DS) : wp (m_settled [.str r.nm, .int (E : Nat), rD cs]) s fun d s' => s' = s ∧ ∃ a, Aw r cs n E a ∧ (∀ k, k < n → Sz 300 (a k)) ∧ d = aD n a := by
  refine wp_def rfl ?_
  rcases r with p | _
  · cases p with
    | parts =>
      have q1 : eqD (.str "parts") (.str "parts") = some (.bl true) := by kernel_rfl
      simp [g_settled, List.replicate, Rul.nm, q1]
      exact wp_mono (parts_ok W s) fun d s' h => h
    | alike =>
      have q1 : eqD (.str "alike") (.str "parts") = some (.bl false) := by kernel_rfl
      have q2 : eqD (.str "alike") (.str "alike") = some (.bl true) := by kernel_rfl
      simp [g_settled, List.replicate, Rul.nm, q1, q2]
      exact wp_mono (alike_ok W s) fun d s' h => h
    | losses =>
      have q1 : eqD (.str "losses") (.str "parts") = some (.bl false) := by kernel_rfl
      have q2 : eqD (.str "losses") (.str "alike") = some (.bl false) := by kernel_rfl
      have q3 : eqD (.str "losses") (.str "losses") = some (.bl true) := by kernel_rfl
      simp [g_settled, List.replicate, Rul.nm, q1, q2, q3]
      exact wp_mono (losses_ok W s) fun d s' h => h
    | halves =>
      have q1 : eqD (.str "halves") (.str "parts") = some (.bl false) := by kernel_rfl
      have q2 : eqD (.str "halves") (.str "alike") = some (.bl false) := by kernel_rfl
      have q3 : eqD (.str "halves") (.str "losses") = some (.bl false) := by kernel_rfl
      have q4 : eqD (.str "halves") (.str "halves") = some (.bl true) := by kernel_rfl
      simp [g_settled, List.replicate, Rul.nm, q1, q2, q3, q4]
      exact wp_mono (halves_ok W s) fun d s' h => h
  · have q1 : eqD (.str "orders") (.str "parts") = some (.bl false) := by kernel_rfl
    have q2 : eqD (.str "orders") (.str "alike") = some (.bl false) := by kernel_rfl
    have q3 : eqD (.str "orders") (.str "losses") = some (.bl false) := by kernel_rfl
    have q4 : eqD (.str "orders") (.str "halves") = some (.bl false) := by kernel_rfl
    have q5 : eqD (.str "orders") (.str "orders") = some (.bl true) := by kernel_rfl
    simp [g_settled, List.replicate, Rul.nm, q1, q2, q3, q4, q5, wp_eq (orders_eq W h4)]
    exact ⟨oa cs n E, fun k _ => rfl, fun k hk => oa_sz W h4 hk, rfl⟩
theorem Aw.uniq {r : Rul} {cs : List Nat} {n E : Nat} {a b : Nat → Rat} (h : Aw r cs n E a) (g : Aw r cs n E b) : ∀ k, k < n → a k = b k := by
  cases r with
  | base p => exact Is.uniq h g
  | orders => exact fun k hk => (h k hk).trans (g k hk).symm
theorem aD_congr {n : Nat} {a b : Nat → Rat} (h : ∀ k, k < n → a k = b k) : aD n a = aD n b := by
  unfold aD
  congr 1
  exact List.map_congr_left fun k hk => by rw [h k (List.mem_range.mp hk)]
theorem aD_inj {n : Nat} {a b : Nat → Rat} : neD (aD n a) (aD n b) = some (.bl (!decide ((List.range n).map a = (List.range n).map b))) := by
  have := ne_en (α := List Rat) (by decide) ((List.range n).map a) ((List.range n).map b)
  simp only [e_L, List.map_map] at this
  exact this
theorem aD_ne {n : Nat} {a b : Nat → Rat} (h : ∀ k, k < n → a k = b k) : neD (aD n a) (aD n b) = some (.bl false) := by
  rw [aD_inj, List.map_congr_left fun k hk => h k (List.mem_range.mp hk)]; simp
theorem aD_eq {n : Nat} {a b : Nat → Rat} (h : ∀ k, k < n → a k = b k) : eqD (aD n a) (aD n b) = some (.bl true) := by
  have := eq_en (α := List Rat) (by decide) ((List.range n).map a) ((List.range n).map b)
  simp only [e_L, List.map_map] at this
  rw [show eqD (aD n a) (aD n b) = _ from this, List.map_congr_left fun k hk => h k (List.mem_range.mp hk)]; simp
theorem settled_ex {cs : List Nat} {n E : Nat} (W : Cs cs n E) (h4 : n ≤ 4) (r : Rul) : ∃ a, Aw r cs n E a ∧ (∀ k, k < n → Sz 300 (a k)) ∧ ∀ s, m_settled [.str r.nm, .int (E : Nat), rD cs] s = some (aD n a, s) := by
  obtain ⟨d, s', _, rfl, a, h1, h2, rfl⟩ := settled_wp W h4 r ⟨[], 0, 0, 0⟩
  refine ⟨a, h1, h2, fun s => ?_⟩
  obtain ⟨d, s', e, rfl, b, g1, g2, rfl⟩ := settled_wp W h4 r s
  rw [e, aD_congr (h1.uniq g1)]
/-! ### what all rules keep -/
theorem cv_nq (cs : List Nat) (k : Nat) : cv cs k = nq (at0 cs k) := rfl
theorem Cs.csum {cs : List Nat} {n E : Nat} (W : Cs cs n E) : Csum (at0 cs) n = cs.sum := by rw [← W.len, at0_sum]
theorem Cs.rs {cs : List Nat} {n E : Nat} (W : Cs cs n E) : RS n (cv cs) = nq cs.sum := by rw [← W.len, cv_sum]; rfl
theorem Cs.dual {cs : List Nat} {n E : Nat} (W : Cs cs n E) : Cs cs n (cs.sum - E) := ⟨W.len, W.h1, W.h6, W.sm, by omega⟩
theorem ord_pos {n : Nat} (h4 : n ≤ 4) : 0 < nq (ord n).length := nq_pos (ord_ok h4).2.2.2.1
theorem oa_def (cs : List Nat) (n E k : Nat) : oa cs n E k = nq (sm (at0 cs) E n k) / nq (ord n).length := rfl
theorem div_mono {a b m : Rat} (hm : 0 < m) (h : a ≤ b) : a / m ≤ b / m := by
  rw [Rat.div_def, Rat.div_def]
  exact Rat.mul_le_mul_of_nonneg_right h (Rat.le_of_lt (Rat.inv_pos.mpr hm))
theorem Aw.sum {r : Rul} {cs : List Nat} {n E : Nat} {a : Nat → Rat} (W : Cs cs n E) (h4 : n ≤ 4) (h : Aw r cs n E a) : RS n a = nq E := by
  cases r with
  | base p => exact Is.sum W.cl h
  | orders =>
    have hp := ord_pos h4
    have h : ∀ k, k < n → a k = oa cs n E k := h
    rw [RS_congr (g := fun k => (1 / nq (ord n).length) * nq (sm (at0 cs) E n k)) (fun k hk => by rw [h k hk, oa_def]; grind), RS_mul, RS_nq, sm_sum h4 (by rw [W.csum]; exact W.le), nq_mul]
    grind
theorem Aw.bounds {r : Rul} {cs : List Nat} {n E : Nat} {a : Nat → Rat} (W : Cs cs n E) (h4 : n ≤ 4) (h : Aw r cs n E a) : ∀ k, k < n → 0 ≤ a k ∧ a k ≤ cv cs k := by
  cases r with
  | base p => exact Is.bounds W.cl h
  | orders =>
    have hp := ord_pos h4
    intro k hk
    rw [h k hk, oa_def, cv_nq]
    have h1 := nq_le.mpr (sm_le (c := at0 cs) (E := E) h4 hk)
    have h2 := nq_le.mpr (show 0 ≤ sm (at0 cs) E n k by omega)
    rw [nq_mul] at h1
    rw [nq_0] at h2
    have g1 := div_mono hp h1
    have g2 := div_mono hp h2
    have e1 : nq (ord n).length * nq (at0 cs k) / nq (ord n).length = nq (at0 cs k) := by grind
    have e2 : 0 / nq (ord n).length = 0 := by grind
    rw [e1] at g1
    rw [e2] at g2
    exact ⟨g2, g1⟩
theorem Aw.dual {r : Rul} {cs : List Nat} {n E : Nat} {a : Nat → Rat} (W : Cs cs n E) (h4 : n ≤ 4) (h : Aw r cs n E a) : Aw r.dual cs n (cs.sum - E) (fun k => cv cs k - a k) := by
  cases r with
  | base p =>
    have := Is.dual W.cl h
    show Is p.dual n (cv cs) (nq (cs.sum - E)) _
    rw [nq_sub W.le, ← W.rs]
    exact this
  | orders =>
    have hp := ord_pos h4
    intro k hk
    show cv cs k - a k = _
    rw [h k hk, oa_def, oa_def, cv_nq]
    have e := congrArg nq (sm_dual (c := at0 cs) h4 hk (by rw [W.csum]; exact W.le))
    rw [W.csum, nq_add, nq_mul] at e
    grind
theorem Aw.order {r : Rul} {cs : List Nat} {n E : Nat} {a : Nat → Rat} (W : Cs cs n E) (h4 : n ≤ 4) (h : Aw r cs n E a) {i j : Nat} (hi : i < n) (hj : j < n) (hij : at0 cs j ≤ at0 cs i) : a j ≤ a i ∧ cv cs j - a j ≤ cv cs i - a i := by
  cases r with
  | base p => exact Is.order W.cl h hi hj (nq_le.mpr hij)
  | orders =>
    have hp := ord_pos h4
    rw [h i hi, h j hj, oa_def, oa_def, cv_nq, cv_nq]
    obtain ⟨h1, h2⟩ := sm_order (E := E) h4 hi hj hij
    have h1 := nq_le.mpr h1
    have h2 := nq_le.mpr h2
    rw [nq_add, nq_add, nq_mul, nq_mul] at h2
    have g1 := div_mono hp h1
    have g2 := div_mono hp h2
    refine ⟨g1, ?_⟩
    have e1 : (nq (ord n).length * nq (at0 cs j) + nq (sm (at0 cs) E n i)) / nq (ord n).length = nq (at0 cs j) + nq (sm (at0 cs) E n i) / nq (ord n).length := by grind
    have e2 : (nq (ord n).length * nq (at0 cs i) + nq (sm (at0 cs) E n j)) / nq (ord n).length = nq (at0 cs i) + nq (sm (at0 cs) E n j) / nq (ord n).length := by grind
    rw [e1, e2] at g2
    grind
theorem Aw.mono {r : Rul} {cs : List Nat} {n E E' : Nat} {a b : Nat → Rat} (W : Cs cs n E) (W' : Cs cs n E') (h4 : n ≤ 4) (h : Aw r cs n E a) (g : Aw r cs n E' b) (he : E ≤ E') : ∀ k, k < n → a k ≤ b k := by
  cases r with
  | base p => exact Is.mono W.cl W'.cl h g (nq_le.mpr he)
  | orders =>
    have hp := ord_pos h4
    intro k hk
    rw [h k hk, g k hk, oa_def, oa_def]
    exact div_mono hp (nq_le.mpr (sm_mono h4 hk he))
theorem at0_map (cs : List Nat) (t : Nat) : at0 (cs.map (t * ·)) = fun k => t * at0 cs k := by
  funext k
  unfold at0
  rw [List.getD_eq_getElem?_getD, List.getD_eq_getElem?_getD, List.getElem?_map]
  cases cs[k]? <;> simp
theorem Aw.all {r : Rul} {cs : List Nat} {n E t : Nat} {a : Nat → Rat} (W : Cs cs n E) (h4 : n ≤ 4) (ht : 0 < t) (h : Aw r cs n E a) : Aw r (cs.map (t * ·)) n (t * E) (fun k => nq t * a k) := by
  have tp := nq_pos ht
  cases r with
  | base p =>
    have := Is.part (m := n) W.cl tp h (g := fun k => k) (fun k hk => hk)
    have e : RS n a = nq E := Is.sum W.cl h
    rw [e] at this
    show Is p n (cv (cs.map (t * ·))) (nq (t * E)) _
    have e2 : cv (cs.map (t * ·)) = fun k => nq t * cv cs k := by
      funext k
      rw [cv_nq, at0_map, cv_nq, nq_mul]
    rw [nq_mul, e2]
    exact this
  | orders =>
    intro k hk
    show nq t * a k = _
    rw [h k hk, oa_def, oa_def, at0_map, sm_mul h4 hk, nq_mul]
    grind
/-! ### right awards -/
theorem BdT_of : ∀ (l : List Rat), (∀ x ∈ l, Sz 300 x) → ∀ (acc : Rat) (k : Nat), Sz k acc → k + 301 * l.length ≤ 4000 → BdT acc l
  | [], _, _, _, _, _ => trivial
  | x :: l, h, acc, k, ha, hl => by
    rw [List.length_cons] at hl
    have hx := h x (by simp)
    exact ⟨ha.mono (by omega), hx.mono (by decide), BdT_of l (fun y hy => h y (by simp [hy])) (acc + x) (k + 300 + 1) (ha.add hx) (by omega)⟩
theorem fold_ls : ∀ (l : List Rat) (x : Rat), l.foldl (· + ·) x = x + ls l
  | [], x => by show x = x + 0; grind
  | y :: l, x => by
    show l.foldl (· + ·) (x + y) = x + (y + ls l)
    rw [fold_ls l]; grind
theorem total_a {n : Nat} {a : Nat → Rat} (h4 : n ≤ 6) (hz : ∀ k, k < n → Sz 300 (a k)) (s : DS) : m_total [aD n a] s = some (qD (RS n a), s) := by
  have h := total_eq (l := (List.range n).map a) (d := aD n a) (BdT_of _ (fun x hx => by
    obtain ⟨k, hk, rfl⟩ := List.mem_map.mp hx
    exact hz k (List.mem_range.mp hk)) 0 1 Sz0 (by simp; omega)) (by unfold aD; rw [List.map_map]; rfl) s
  rw [h, fold_ls, ls_range]
  congr 3
  grind
theorem right_eq {r : Rul} {cs : List Nat} {n E : Nat} {a : Nat → Rat} (W : Cs cs n E) (h4 : n ≤ 4) (h : Aw r cs n E a) (hz : ∀ k, k < n → Sz 300 (a k)) (s : DS) : m_is_right [.int (E : Nat), rD cs, aD n a] s = some (.bl true, s) := by
  refine def_eq (fun s => ?_) s
  refine wp_def rfl ?_
  have hlen : lenD [aD n a] = some (.int (n : Nat)) := by unfold aD; simp
  have hsum := h.sum W h4
  have hzp : zpD [aD n a, rD cs] = some ((List.range n).map fun k => .tup [qD (a k), .int (at0 cs k : Nat)]) := by
    show some (zpL _ (cs.map EnQ.e)) = _
    rw [map_at0 cs, W.len, zp_range]; rfl
  have hl := W.len
  simp [g_is_right, List.replicate, wp_eq (check_eq W), hlen, hl, ne_en, wp_eq (total_a (a := a) (by omega) hz), wp_eq (frac1 ((E : Nat) : Int)), hsum, ne_Q, hzp, wipeR]
  refine ⟨rfl, ?_⟩
  have hb := h.bounds W h4
  refine wp_compT (f := fun k : Nat => .tup [qD (a k), qD (cv cs k)]) _ (fun k hk => ⟨_, rfl, fun s => ?_⟩) ?_
  · simp [SZ_eq]
    refine (wp_eq (frac1 ((at0 cs k : Nat) : Int))).mpr ?_
    exact ⟨rfl, rfl⟩
  · refine wp_compT (f := fun k : Nat => .bl true) _ (fun k hk => ⟨_, rfl, fun s => ?_⟩) ?_
    · have hk := List.mem_range.mp hk
      obtain ⟨b1, b2⟩ := hb k hk
      have c1 := cmp_eq (a := 0) (b := a k) (Sz0.mono (by decide)) ((hz k hk).mono (by decide))
      have c2 := cmp_eq (a := a k) (b := cv cs k) ((hz k hk).mono (by decide)) ((cv_sz W hk).mono (by decide))
      have d1 := cmp_gt0 0 (a k)
      have d2 := cmp_gt0 (a k) (cv cs k)
      have d1 : cmpR 0 (a k) ≤ 0 := Int.not_lt.mp fun z => by have := d1.mp z; grind
      have d2 : cmpR (a k) (cv cs k) ≤ 0 := Int.not_lt.mp fun z => by have := d2.mp z; grind
      simp [cZ, wp_eq c1, wp_eq c2, d1, d2]
    · simp
theorem max_of_eq {x y : Rat} (hx : Sz 4000 x) (hy : Sz 4000 y) (s : DS) : m_max_of [qD x, qD y] s = some (qD (if y ≤ x then x else y), s) := by
  refine def_eq (fun s => ?_) s
  refine wp_def rfl ?_
  have hc := cmp_lt0 x y
  by_cases h : y ≤ x
  · have : 0 ≤ cmpR x y := Int.not_lt.mp fun z => by have := hc.mp z; grind
    simp [g_max_of, List.replicate, wp_eq (cmp_eq hx hy), this, h]
  · have : cmpR x y < 0 := hc.mpr (by grind)
    have : ¬ 0 ≤ cmpR x y := by omega
    simp [g_max_of, List.replicate, wp_eq (cmp_eq hx hy), this, h]
theorem Sz.ite {k : Nat} {p : Prop} [Decidable p] {x y : Rat} (hx : Sz k x) (hy : Sz k y) : Sz k (if p then x else y) := by split <;> assumption
theorem pair_eq {x y w : Rat} (hx : Sz 20 x) (hy : Sz 20 y) (hw : Sz 700 w) (s : DS) : m_pair_of [qD x, qD y, qD w] s = some (.tup [qD (pf x y w).1, qD (pf x y w).2], s) := by
  refine def_eq (fun s => ?_) s
  refine wp_def rfl ?_
  have s1 := (hw.sub hy).mono (by decide : 721 ≤ 730)
  have s2 := (hw.sub hx).mono (by decide : 721 ≤ 730)
  have z0 := Sz0.mono (by decide : 1 ≤ 4000)
  have s3 : Sz 730 (if 0 ≤ w - y then w - y else 0) := s1.ite (Sz0.mono (by decide))
  have s4 : Sz 730 (if 0 ≤ w - x then w - x else 0) := s2.ite (Sz0.mono (by decide))
  have s5 := (hw.sub s3).mono (by decide : 700 + 730 + 1 ≤ 1500)
  have s6 := (s5.sub s4).mono (by decide : 1500 + 730 + 1 ≤ 2300)
  have h2 : (2 : Rat) ≠ 0 := by decide
  have t2 : Sz 2 (2 : Rat) := Sz.int (k := 2) (n := 2) (by decide) (by decide)
  have s7 := (s6.div t2 h2).mono (by decide : 2302 ≤ 2400)
  have e2 : (.tup [.int 2, .int 1] : D) = qD 2 := rfl
  simp [g_pair_of, List.replicate, cZ, SZ_eq, e2, wp_eq (minus_eq (hw.mono (by decide)) (hy.mono (by decide))), wp_eq (minus_eq (hw.mono (by decide)) (hx.mono (by decide))), wp_eq (max_of_eq (s1.mono (by decide)) z0), wp_eq (max_of_eq (s2.mono (by decide)) z0), wp_eq (minus_eq (hw.mono (by decide)) (s3.mono (by decide))), wp_eq (minus_eq (s5.mono (by decide)) (s4.mono (by decide))), wp_eq (over_eq (s6.mono (by decide)) (t2.mono (by decide)) h2), wp_eq (plus_eq (s3.mono (by decide)) (s7.mono (by decide))), wp_eq (plus_eq (s4.mono (by decide)) (s7.mono (by decide)))]
  exact ⟨rfl, rfl⟩
theorem half_pair {n : Nat} {c a : Nat → Rat} {e : Rat} (W : Cl n c e) (h : Is .halves n c e a) {i j : Nat} (hi : i < n) (hj : j < n) : pf (c i) (c j) (a i + a j) = (a i, a j) := by
  have hb := Is.bounds W h
  have w1 := W.e1
  have ci := W.nn i hi
  have cj := W.nn j hj
  have h : if 2 * e ≤ RS n c then IsL n (fun k => c k / 2) e a else IsL n (fun k => c k / 2) (RS n c - e) (fun k => c k - a k) := h
  split at h
  · obtain ⟨⟨g, hg⟩, _⟩ := h
    have g0 : 0 ≤ g := by
      have h1 := (hb i hi).1
      rw [hg i hi] at h1
      have := mn_le2 (c i / 2) g
      grind
    rw [hg i hi, hg j hj]
    exact pair_half ci cj g0
  · obtain ⟨⟨g, hg⟩, _⟩ := h
    have hi2 : c i - a i = mn (c i / 2) g := hg i hi
    have hj2 : c j - a j = mn (c j / 2) g := hg j hj
    have g0 : 0 ≤ g := by
      have h1 := (hb i hi).2
      have := mn_le2 (c i / 2) g
      grind
    have ei : a i = c i - mn (c i / 2) g := by grind
    have ej : a j = c j - mn (c j / 2) g := by grind
    rw [ei, ej]
    exact pair_loss ci cj g0
theorem unlike_eq {cs : List Nat} {n E : Nat} {a : Nat → Rat} (W : Cs cs n E) (h4 : n ≤ 4) (h : Aw (.base .halves) cs n E a) (hz : ∀ k, k < n → Sz 300 (a k)) (s : DS) : m_unlike_pair [.int (E : Nat), rD cs, aD n a] s = some (.non, s) := by
  refine def_eq (fun s => ?_) s
  refine wp_def rfl ?_
  have hlen : lenD [aD n a] = some (.int (n : Nat)) := by unfold aD; simp
  have hl := W.len
  have hr : rng1D [.int (n : Nat)] = some ((List.range n).map EnQ.e) := rng1_n (by omega)
  have ne0 : neD (.int (n : Nat)) (.int (n : Nat)) = some (.bl false) := by
    have := ne_en (α := Nat) (by decide) n n
    simpa using this
  simp [g_unlike_pair, List.replicate, wp_eq (check_eq W), hlen, hl, hr, ne0]
  refine wp_each EnQ.e (fun ρ s' => s' = s ∧ ∃ x3 x4 x5 x6, ρ = [.sh (.int (E : Nat)), .sh (rD cs), .sh (aD n a), x3, x4, x5, x6]) (List.range n)
    (fun i hi ρ s' hJ => ?_) (fun ρ s' hJ => ?_) ⟨rfl, _, _, _, _, rfl⟩
  · obtain ⟨rfl, x3, x4, x5, x6, rfl⟩ := hJ
    have hi := List.mem_range.mp hi
    refine ⟨_, rfl, ?_⟩
    simp only [e_N]
    have h2 := rng2_n (a := i + 1) (b := n) (by omega) (by omega)
    have e1 : ((i + 1 : Nat) : Int) = (i : Int) + 1 := rfl
    rw [e1] at h2
    simp [hl, h2]
    have ii := ixA a hi
    have ci := ixN' cs (k := i) (by omega)
    refine wp_each EnQ.e (fun ρ s'' => s'' = s' ∧ ∃ x4 x5 x6, ρ = [.sh (.int (E : Nat)), .sh (rD cs), .sh (aD n a), .sh (.int (i : Nat)), x4, x5, x6]) (List.range' (i + 1) (n - (i + 1)))
      (fun j hj ρ s'' hJ => ?_) (fun ρ s'' hJ => ?_) ⟨rfl, _, _, _, rfl⟩
    · obtain ⟨rfl, x4, x5, x6, rfl⟩ := hJ
      have hj : j < n := by have := List.mem_range'_1.mp hj; omega
      have ij := ixA a hj
      have cj := ixN' cs (k := j) (by omega)
      have zi := hz i hi
      have zj := hz j hj
      have hp := half_pair W.cl h hi hj
      have fi := frac1 ((at0 cs i : Nat) : Int)
      have fj := frac1 ((at0 cs j : Nat) : Int)
      have pe := pair_eq (cv_sz W hi) (cv_sz W hj) ((zi.add zj).mono (by decide : 601 ≤ 700))
      rw [hp] at pe
      have t1 := ne_en (α := Rat × Rat) (by decide) (a i, a j) (a i, a j)
      have t2 : (EnQ.e (a i, a j) : D) = .tup [qD (a i), qD (a j)] := rfl
      rw [t2] at t1
      refine ⟨_, rfl, ?_⟩
      simp only [e_N]
      simp [ii, ij, ci, cj, wp_eq (plus_eq (zi.mono (by decide)) (zj.mono (by decide))), wp_eq fi, wp_eq fj, -ixD_tn]
      refine (wp_eq pe).mpr ?_
      simp [ii, ij, t1, SZ_eq, -ixD_tn]
    · obtain ⟨rfl, x4, x5, x6, rfl⟩ := hJ
      exact ⟨rfl, _, _, _, _, rfl⟩
  · obtain ⟨rfl, x3, x4, x5, x6, rfl⟩ := hJ
    simp
end Lw
set_option maxHeartbeats 1000000
set_option exponentiation.threshold 64
namespace Lw
open PySem PySem.Spec PyProof.Rows L2 Pu
/-! ### whole numbers -/
def In (x : Rat) : Prop := ∃ z : Int, x = (z : Rat)
theorem In.add {x y : Rat} (h : In x) (g : In y) : In (x + y) := by
  obtain ⟨z, rfl⟩ := h; obtain ⟨w, rfl⟩ := g; exact ⟨z + w, by rw [Rat.intCast_add]⟩
theorem In.sub {x y : Rat} (h : In x) (g : In y) : In (x - y) := by
  obtain ⟨z, rfl⟩ := h; obtain ⟨w, rfl⟩ := g; exact ⟨z - w, by rw [Rat.intCast_sub]⟩
theorem In.mul {x y : Rat} (h : In x) (g : In y) : In (x * y) := by
  obtain ⟨z, rfl⟩ := h; obtain ⟨w, rfl⟩ := g; exact ⟨z * w, by rw [Rat.intCast_mul]⟩
theorem In.nq (x : Nat) : In (nq x) := ⟨(x : Int), rfl⟩
theorem In.rs : ∀ {n : Nat} {f : Nat → Rat}, (∀ k, k < n → In (f k)) → In (RS n f)
  | 0, _, _ => ⟨0, rfl⟩
  | n + 1, f, h => by
    show In (RS n f + f n)
    exact (In.rs fun k hk => h k (by omega)).add (h n (by omega))
theorem lev_sum {q : Nat → Rat} {h : Rat} : ∀ {n : Nat}, (∀ k, k < n → In (q k)) → ∃ (m : Nat) (z : Int), m ≤ n ∧ RS n (fun k => mn (q k) h) = (z : Rat) + nq m * h ∧ (m = 0 → ∀ k, k < n → q k ≤ h)
  | 0, _ => ⟨0, 0, by omega, by show (0 : Rat) = _; rw [nq_0]; show (0 : Rat) = 0 + 0 * h; grind, fun _ k hk => by omega⟩
  | n + 1, hq => by
    obtain ⟨m, z, h1, h2, h3⟩ := lev_sum (h := h) (n := n) fun k hk => hq k (by omega)
    obtain ⟨w, hw⟩ := hq n (by omega)
    by_cases c : q n ≤ h
    · refine ⟨m, z + w, by omega, ?_, fun m0 k hk => ?_⟩
      · show RS n _ + mn (q n) h = _
        rw [h2, Rat.intCast_add]
        unfold mn
        rw [if_pos c, hw]; grind
      · by_cases e : k = n
        · subst e; exact c
        · exact h3 m0 k (by omega)
    · refine ⟨m + 1, z, by omega, ?_, fun m0 => by omega⟩
      show RS n _ + mn (q n) h = _
      rw [h2, nq_add]
      unfold mn
      rw [if_neg c]
      have : nq 1 = 1 := rfl
      rw [this]; grind
theorem IsL.int {n F : Nat} {q a : Nat → Rat} {e : Rat} (h : IsL n q e a) (hq : ∀ k, k < n → In (q k)) (he : In e) (hF : ∀ m, 1 ≤ m → m ≤ n → m ∣ F) : ∀ k, k < n → In (nq F * a k) := by
  obtain ⟨⟨g, hg⟩, hs⟩ := h
  intro k hk
  obtain ⟨m, z, h1, h2, h3⟩ := lev_sum (h := g) hq
  rw [RS_congr hg] at hs
  rw [hg k hk]
  by_cases c : q k ≤ g
  · have : mn (q k) g = q k := by unfold mn; rw [if_pos c]
    rw [this]; exact (In.nq F).mul (hq k hk)
  · have m0 : m ≠ 0 := fun z => c (h3 z k hk)
    have : mn (q k) g = g := by unfold mn; rw [if_neg c]
    rw [this]
    obtain ⟨t, ht⟩ := hF m (by omega) h1
    rw [ht, nq_mul]
    have e2 : nq m * nq t * g = nq t * (e - (z : Rat)) := by rw [← hs, h2]; grind
    rw [e2]
    exact (In.nq t).mul (he.sub ⟨z, rfl⟩)
theorem IsL.two {n : Nat} {q a : Nat → Rat} {e : Rat} (h : IsL n q e a) : IsL n (fun k => 2 * q k) (2 * e) (fun k => 2 * a k) := by
  have := IsL.part (t := 2) (m := n) (by decide) h (g := fun k => k) (fun k hk => hk)
  exact this.cong (fun _ _ => rfl) (fun _ _ => rfl) (by rw [h.2])
def scl (n C F : Nat) : Nat := F * 2 * max 1 C
theorem In.two {x : Rat} (h : In x) : In (2 * x) := In.mul ⟨2, rfl⟩ h
theorem Is.int {p : Ru} {cs : List Nat} {n E F : Nat} {a : Nat → Rat} (W : Cs cs n E) (h : Is p n (cv cs) (nq E) a) (hF : ∀ m, 1 ≤ m → m ≤ n → m ∣ F) : ∀ k, k < n → In (nq (scl n cs.sum F) * a k) := by
  intro k hk
  have e1 : nq (scl n cs.sum F) = nq F * 2 * nq (max 1 cs.sum) := by unfold scl; rw [nq_mul, nq_mul]; rfl
  have hcv : ∀ k, In (cv cs k) := fun k => In.nq _
  have hrs := W.rs
  have hE := In.nq E
  have iM := In.nq (max 1 cs.sum)
  have iF := In.nq F
  rw [e1]
  cases p with
  | parts =>
    have h := h k hk
    rw [hrs] at h
    rw [h]
    by_cases z : nq cs.sum = 0
    · rw [if_pos z]
      have : nq F * 2 * nq (max 1 cs.sum) * 0 = ((0 : Int) : Rat) := by show _ = (0 : Rat); grind
      exact ⟨0, this⟩
    · rw [if_neg z]
      have hp : 1 ≤ cs.sum := by
        rcases Nat.eq_zero_or_pos cs.sum with h | h
        · rw [h] at z; exact absurd nq_0 z
        · exact h
      rw [Nat.max_eq_right hp]
      have : nq F * 2 * nq cs.sum * (nq E * cv cs k / nq cs.sum) = nq F * (2 * (nq E * cv cs k)) := by grind
      rw [this]
      exact iF.mul (hE.mul (hcv k)).two
  | alike =>
    have := IsL.int h (fun k _ => hcv k) hE hF k hk
    have e2 : nq F * 2 * nq (max 1 cs.sum) * a k = nq (max 1 cs.sum) * (2 * (nq F * a k)) := by grind
    rw [e2]; exact iM.mul this.two
  | losses =>
    have := IsL.int h (fun k _ => hcv k) (by rw [hrs]; exact (In.nq _).sub hE) hF k hk
    have e2 : nq F * 2 * nq (max 1 cs.sum) * a k = nq (max 1 cs.sum) * (2 * (nq F * cv cs k - nq F * (cv cs k - a k))) := by grind
    rw [e2]; exact iM.mul ((iF.mul (hcv k)).sub this).two
  | halves =>
    have h : if 2 * nq E ≤ RS n (cv cs) then IsL n (fun k => cv cs k / 2) (nq E) a else IsL n (fun k => cv cs k / 2) (RS n (cv cs) - nq E) (fun k => cv cs k - a k) := h
    have hh : ∀ k, k < n → In (2 * (cv cs k / 2)) := fun k _ => by
      have : 2 * (cv cs k / 2) = cv cs k := by grind
      rw [this]; exact hcv k
    by_cases c : 2 * nq E ≤ RS n (cv cs)
    · rw [if_pos c] at h
      have := IsL.int h.two hh hE.two hF k hk
      have e2 : nq F * 2 * nq (max 1 cs.sum) * a k = nq (max 1 cs.sum) * (nq F * (2 * a k)) := by grind
      rw [e2]; exact iM.mul this
    · rw [if_neg c] at h
      have := IsL.int h.two hh (by rw [hrs]; exact ((In.nq _).sub hE).two) hF k hk
      have e2 : nq F * 2 * nq (max 1 cs.sum) * a k = nq (max 1 cs.sum) * (2 * (nq F * cv cs k) - nq F * (2 * (cv cs k - a k))) := by grind
      rw [e2]; exact iM.mul ((iF.mul (hcv k)).two.sub this)
/-! ### some of the hands -/
theorem in_mod {t : Nat} {x : Rat} (h : In (nq t * x)) : ((t : Int) * x.num) % ((x.den : Nat) : Int) = 0 ∧ (((((t : Int) * x.num) / ((x.den : Nat) : Int) : Int)) : Rat) = nq t * x := by
  obtain ⟨z, hz⟩ := h
  have hd := x.den_nz
  have e1 : (t : Int) * x.num = z * (x.den : Nat) := by
    have : (((t : Int) * x.num : Int) : Rat) = ((z * ((x.den : Nat) : Int) : Int) : Rat) := by
      rw [Rat.intCast_mul, Rat.intCast_mul, ← hz, Rat.intCast_natCast]
      have h1 := q_self x
      have h2 := den_ne x
      have h3 : nq t * (x.num : Rat) = nq t * x * ((x.den : Nat) : Rat) := by
        generalize nq t = u at *
        generalize ((x.den : Nat) : Rat) = v at *
        generalize ((x.num : Int) : Rat) = w at *
        subst h1
        grind
      exact h3
    exact Rat.intCast_inj.mp this
  rw [e1]
  refine ⟨Int.mul_emod_left _ _, ?_⟩
  rw [Int.mul_ediv_cancel _ (by omega), hz]
theorem part_all {r : Ru} {cs : List Nat} {n E t : Nat} {a : Nat → Rat} (W : Cs cs n E) (h : Is r n (cv cs) (nq E) a) (ht : 0 < t) (ht2 : t ≤ 30000) (hc : ∀ c ∈ cs, c ≤ 30) {S : List Nat} (hS : ∀ k ∈ S, k < n) (hne : S ≠ []) (hlen : S.length ≤ 6) {E' : Nat} (hE' : nq E' = nq t * RS S.length fun k => a (at0 S k)) :
    Cs (S.map fun k => t * at0 cs k) S.length E' ∧ Is r S.length (cv (S.map fun k => t * at0 cs k)) (nq E') (fun k => nq t * a (at0 S k)) := by
  have hg : ∀ k, k < S.length → at0 S k < n := fun k hk => hS _ (at0_mem hk)
  have ecv : ∀ k, k < S.length → cv (S.map fun k => t * at0 cs k) k = nq t * cv cs (at0 S k) := fun k hk => by
    rw [cv_nq, cv_nq, ← nq_mul]
    congr 1
    have e1 : at0 S k = S[k] := by unfold at0; rw [List.getD_eq_getElem?_getD, List.getElem?_eq_getElem hk]; rfl
    have e2 : at0 (S.map fun k => t * at0 cs k) k = t * at0 cs S[k] := by
      show (S.map fun k => t * at0 cs k).getD k 0 = _
      rw [List.getD_eq_getElem?_getD, List.getElem?_map, List.getElem?_eq_getElem hk]; rfl
    rw [e1, e2]
  have hb := Is.bounds W.cl h
  have tp := nq_pos ht
  have hC : Cs (S.map fun k => t * at0 cs k) S.length E' := by
    refine ⟨by simp, ?_, hlen, fun c hc' => ?_, ?_⟩
    · cases S with
      | nil => exact absurd rfl hne
      | cons x xs => simp
    · obtain ⟨k, hk, rfl⟩ := List.mem_map.mp hc'
      have := hc _ (at0_mem (l := cs) (k := k) (by rw [W.len]; exact hS k hk))
      have : t * at0 cs k ≤ 30000 * 30 := Nat.mul_le_mul ht2 this
      omega
    · have e := cv_sum (S.map fun k => t * at0 cs k)
      rw [List.length_map] at e
      have e : RS S.length (cv (S.map fun k => t * at0 cs k)) = nq (S.map fun k => t * at0 cs k).sum := e
      refine nq_le.mp ?_
      rw [← e, hE', ← RS_mul]
      refine RS_le fun k hk => ?_
      rw [ecv k hk]
      exact Rat.mul_le_mul_of_nonneg_left (hb _ (hg k hk)).2 (Rat.le_of_lt tp)
  refine ⟨hC, ?_⟩
  have := Is.part (m := S.length) W.cl tp h (g := fun k => at0 S k) hg
  rw [← hE'] at this
  have cong : ∀ {p : Ru} {m : Nat} {c c' : Nat → Rat} {e : Rat} {b : Nat → Rat}, (∀ k, k < m → c' k = c k) → Is p m c e b → Is p m c' e b := fun {p m c c' e b} hcc h => by
    have hr := RS_congr hcc
    cases p with
    | parts =>
      intro k hk
      have := h k hk
      rw [this, hr, hcc k hk]
    | alike => exact IsL.cong h hcc (fun _ _ => rfl) rfl
    | losses => exact IsL.cong h hcc (fun k hk => by rw [hcc k hk]) (by rw [hr])
    | halves =>
      have h : if 2 * e ≤ RS m c then IsL m (fun k => c k / 2) e b else IsL m (fun k => c k / 2) (RS m c - e) (fun k => c k - b k) := h
      show if 2 * e ≤ RS m c' then IsL m (fun k => c' k / 2) e b else IsL m (fun k => c' k / 2) (RS m c' - e) (fun k => c' k - b k)
      rw [hr]
      by_cases z : 2 * e ≤ RS m c
      · rw [if_pos z] at h ⊢
        exact h.cong (fun k hk => by rw [hcc k hk]) (fun _ _ => rfl) rfl
      · rw [if_neg z] at h ⊢
        exact h.cong (fun k hk => by rw [hcc k hk]) (fun k hk => by rw [hcc k hk]) rfl
  exact cong ecv this
/-! ### two claims -/
theorem two_half {cs : List Nat} {E : Nat} {a : Nat → Rat} (W : Cs cs 2 E) (h : Is .halves 2 (cv cs) (nq E) a) :
    a 0 = ((max 0 ((E : Int) - at0 cs 1) : Int) : Rat) + (((E : Int) - max 0 ((E : Int) - at0 cs 1) - max 0 ((E : Int) - at0 cs 0) : Int) : Rat) / 2 ∧ a 1 = ((max 0 ((E : Int) - at0 cs 0) : Int) : Rat) + (((E : Int) - max 0 ((E : Int) - at0 cs 1) - max 0 ((E : Int) - at0 cs 0) : Int) : Rat) / 2 := by
  have hs : RS 2 a = nq E := Is.sum W.cl h
  have hs : 0 + a 0 + a 1 = nq E := hs
  have hs : a 0 + a 1 = nq E := by grind
  have hp := half_pair W.cl h (i := 0) (j := 1) (by omega) (by omega)
  rw [hs] at hp
  have mx : ∀ c : Nat, ((max 0 ((E : Int) - c) : Int) : Rat) = if 0 ≤ nq E - nq c then nq E - nq c else 0 := fun c => by
    by_cases z : c ≤ E
    · rw [show max 0 ((E : Int) - c) = (E : Int) - c by omega, if_pos, Rat.intCast_sub]
      · rfl
      · have := nq_le.mpr z; grind
    · rw [show max 0 ((E : Int) - c) = 0 by omega, if_neg]
      · rfl
      · intro y
        exact z (nq_le.mp (show nq c ≤ nq E by grind))
  rw [Rat.intCast_sub, Rat.intCast_sub, mx, mx]
  rw [cv_nq, cv_nq] at hp
  unfold pf at hp
  have h0 := congrArg Prod.fst hp
  have h1 := congrArg Prod.snd hp
  exact ⟨h0.symm, h1.symm⟩
theorem two_orders {cs : List Nat} {E : Nat} {a : Nat → Rat} (W : Cs cs 2 E) (h : Is .halves 2 (cv cs) (nq E) a) : ∀ k, k < 2 → oa cs 2 E k = a k := by
  obtain ⟨h0, h1⟩ := two_half W h
  have hle : E ≤ at0 cs 0 + at0 cs 1 := by
    have := W.csum
    have e : Csum (at0 cs) 2 = at0 cs 0 + (at0 cs 1 + 0) := rfl
    have := W.le
    omega
  have s0 : sm (at0 cs) E 2 0 = (min E (at0 cs 0) + (0 + 0)) + (0 + (min (E - min E (at0 cs 1)) (at0 cs 0) + 0) + 0) := rfl
  have s1 : sm (at0 cs) E 2 1 = (0 + (min (E - min E (at0 cs 0)) (at0 cs 1) + 0)) + (min E (at0 cs 1) + (0 + 0) + 0) := rfl
  have ol : nq (ord 2).length = 2 := by
    have : (ord 2).length = 2 := by decide +kernel
    rw [this]; rfl
  intro k hk
  rw [oa_def, ol]
  have key : ∀ (x : Nat) (y z w : Int), (x : Int) = 2 * y + (z - y - w) → nq x / 2 = ((y : Int) : Rat) + ((z - y - w : Int) : Rat) / 2 := fun x y z w e => by
    unfold nq
    rw [e, Rat.intCast_add, Rat.intCast_mul, show ((2 : Int) : Rat) = 2 from rfl]; grind
  rcases (show k = 0 ∨ k = 1 by omega) with rfl | rfl
  · rw [h0]
    refine key _ _ _ _ ?_
    rw [s0]; omega
  · rw [h1, show (E : Int) - max 0 ((E : Int) - at0 cs 1) - max 0 ((E : Int) - at0 cs 0) = (E : Int) - max 0 ((E : Int) - at0 cs 0) - max 0 ((E : Int) - at0 cs 1) by omega]
    refine key _ _ _ _ ?_
    rw [s1]; omega
end Lw
namespace Lw
open PySem PySem.Spec PyProof.Rows L2 Pu
def gl17 : SF := sRet (xAnd (x2 eqD (xCall m_settled (aC (xC (.str "alike")) (aC (xC (.int 0)) (aC (xSh 2) (aN))))) (x2 repT (xTup (aC (xTup (aC (xC (.int 0)) (aC (xC (.int 1)) (aN)))) (aN))) (xNm 5))) (x2 eqD (xCall m_settled (aC (xC (.str "halves")) (aC (xL sumD (aC (xNm 2) (aN))) (aC (xSh 2) (aN))))) (xNm 6)))
def gl16 : SF := sSeq (sFor (iSq (xTup (aC (xC (.str "parts")) (aC (xC (.str "alike")) (aC (xC (.str "losses")) (aC (xC (.str "halves")) (aC (xC (.str "orders")) (aN)))))))) (gNm 8) (sIf (tV (x2 neD (xCall m_settled (aC (xSh 8) (aC (x2 mulD (xNm 13) (xNm 3)) (aC (xL tupD (aC (xOf (oComp (iSq (xNm 2)) (gNm 24) (tYes') (x2 mulD (xNm 13) (xNm 24)) [24])) (aN))) (aN))))) (xL tupD (aC (xOf (oComp (iSq (xCall m_settled (aC (xSh 8) (aC (xSh 3) (aC (xSh 2) (aN)))))) (gNm 25) (tYes') (xCall m_fraction (aC (x2 mulD (xNm 13) (x2 ixD (xNm 25) (xC (.int 0)))) (aC (x2 ixD (xNm 25) (xC (.int 1))) (aN)))) [25])) (aN))))) (sRet (xC (.bl false))) (sNext))) gl17
def gl15 : SF := sSeq (sSet 13 (x2 addD (xC (.int 1)) (xCall m__law_take (aC (xSh 1) (aC (xC (.int 5)) (aN)))))) gl16
def gl14 : SF := sSeq (sIf (tV (x2 eqD (xNm 5) (xC (.int 2)))) (sSeq (sSet 17 (xL max2D (aC (xC (.int 0)) (aC (x2 subD (xNm 3) (x2 ixD (xNm 2) (xC (.int 1)))) (aN))))) (sSeq (sSet 18 (xL max2D (aC (xC (.int 0)) (aC (x2 subD (xNm 3) (x2 ixD (xNm 2) (xC (.int 0)))) (aN))))) (sSeq (sSet 19 (xCall m_fraction (aC (x2 subD (x2 subD (xNm 3) (xNm 17)) (xNm 18)) (aC (xC (.int 2)) (aN))))) (sIf (tOr (tV (x2 neD (xNm 12) (xTup (aC (xCall m_plus (aC (xCall m_fraction (aC (xSh 17) (aC (xC (.int 1)) (aN)))) (aC (xSh 19) (aN)))) (aC (xCall m_plus (aC (xCall m_fraction (aC (xSh 18) (aC (xC (.int 1)) (aN)))) (aC (xSh 19) (aN)))) (aN)))))) (tV (x2 neD (xCall m_settled (aC (xC (.str "orders")) (aC (xSh 3) (aC (xSh 2) (aN))))) (xNm 12)))) (sRet (xC (.bl false))) (sNext))))) (sNext)) gl15
def gl13 : SF := sSeq (sIf (tV (x2 isNotD (xCall m_unlike_pair (aC (xSh 3) (aC (xSh 2) (aC (xSh 12) (aN))))) (xC .non))) (sRet (xC (.bl false))) (sNext)) gl14
def gl12 : SF := sSeq (sSet 12 (xCall m_settled (aC (xC (.str "halves")) (aC (xSh 3) (aC (xSh 2) (aN)))))) gl13
def gl11 : SF := sSeq (sIf (tV (x2 gtA (xL lenD (aC (xNm 11) (aN))) (xC (.int 0)))) (sFor (iSq (xTup (aC (xC (.str "parts")) (aC (xC (.str "alike")) (aC (xC (.str "losses")) (aC (xC (.str "halves")) (aN))))))) (gNm 8) (sSeq (sSet 14 (xCall m_settled (aC (xSh 8) (aC (xSh 3) (aC (xSh 2) (aN)))))) (sSeq (sSet 22 (xCall m_total (aC (xOf (oComp (iSq (xNm 11)) (gNm 10) (tYes') (x2 ixD (xNm 14) (xNm 10)) [10])) (aN)))) (sSeq (sIf (tV (x2 neD (x2 modD (xL intD (aC (x2 mulD (xNm 9) (x2 ixD (xNm 22) (xC (.int 0)))) (aN))) (x2 ixD (xNm 22) (xC (.int 1)))) (xC (.int 0)))) (sRet (xC (.bl false))) (sNext)) (sSeq (sSet 23 (xCall m_settled (aC (xSh 8) (aC (x2 divD (x2 mulD (xNm 9) (x2 ixD (xNm 22) (xC (.int 0)))) (x2 ixD (xNm 22) (xC (.int 1)))) (aC (xL tupD (aC (xOf (oComp (iSq (xNm 11)) (gNm 10) (tYes') (x2 mulD (xNm 9) (x2 ixD (xNm 2) (xNm 10))) [10])) (aN))) (aN)))))) (sIf (tV (x2 neD (xNm 23) (xL tupD (aC (xOf (oComp (iSq (xNm 11)) (gNm 10) (tYes') (xCall m_fraction (aC (x2 mulD (xNm 9) (x2 ixD (x2 ixD (xNm 14) (xNm 10)) (xC (.int 0)))) (aC (x2 ixD (x2 ixD (xNm 14) (xNm 10)) (xC (.int 1))) (aN)))) [10])) (aN))))) (sRet (xC (.bl false))) (sNext))))))) (sNext)) gl12
def gl10 : SF := sSeq (sSet 11 (xOf (oComp (iRg rng1D (aC (xSh 5) (aN))) (gNm 10) (tV (x2 eqD (xCall m__law_take (aC (xSh 1) (aC (xC (.int 2)) (aN)))) (xC (.int 0)))) (xSh 10) [10]))) gl11
def gl9 : SF := sSeq (sSet 9 (x2 mulD (x2 mulD (xNm 9) (xC (.int 2))) (xL max2D (aC (xC (.int 1)) (aC (xL sumD (aC (xNm 2) (aN))) (aN)))))) gl10
def gl8 : SF := sSeq (sFor (iRg rng2D (aC (xC (.int 2)) (aC (x2 addD (xNm 5) (xC (.int 1))) (aN)))) (gNm 10) (sSet 9 (x2 mulD (xNm 9) (xNm 10)))) gl9
def gl7 : SF := sSeq (sSet 9 (xC (.int 1))) gl8
def gl6 : SF := sSeq (sFor (iSq (xTup (aC (xC (.str "parts")) (aC (xC (.str "alike")) (aC (xC (.str "losses")) (aC (xC (.str "halves")) (aC (xC (.str "orders")) (aN)))))))) (gNm 8) (sSeq (sSet 14 (xCall m_settled (aC (xSh 8) (aC (xSh 3) (aC (xSh 2) (aN)))))) (sSeq (sSet 15 (xCall m_settled (aC (x2 dixD (xSh 7) (xSh 8)) (aC (xSh 4) (aC (xSh 2) (aN)))))) (sSeq (sIf (tV (x2 neD (xL tupD (aC (xOf (oComp (iRg rng1D (aC (xSh 5) (aN))) (gNm 10) (tYes') (xCall m_minus (aC (x2 ixD (xNm 6) (xNm 10)) (aC (x2 ixD (xNm 15) (xNm 10)) (aN)))) [10])) (aN))) (xNm 14))) (sRet (xC (.bl false))) (sNext)) (sSeq (sIf (tOr (tV (x2 neD (xCall m_total (aC (xSh 14) (aN))) (xCall m_fraction (aC (xSh 3) (aC (xC (.int 1)) (aN)))))) (tV (x2 isNotBD (xCall m_is_right (aC (xSh 3) (aC (xSh 2) (aC (xSh 14) (aN))))) (xC (.bl true))))) (sRet (xC (.bl false))) (sNext)) (sSeq (sFor (iRg rng1D (aC (xSh 5) (aN))) (gNm 16) (sFor (iRg rng1D (aC (xSh 5) (aN))) (gNm 20) (sIf (tV (x2 geA (x2 ixD (xNm 2) (xNm 16)) (x2 ixD (xNm 2) (xNm 20)))) (sIf (tOr (tV (x2 ltA (xCall m_compare (aC (x2 ixD (xNm 14) (xNm 16)) (aC (x2 ixD (xNm 14) (xNm 20)) (aN)))) (xC (.int 0)))) (tV (x2 ltA (xCall m_compare (aC (xCall m_minus (aC (x2 ixD (xNm 6) (xNm 16)) (aC (x2 ixD (xNm 14) (xNm 16)) (aN)))) (aC (xCall m_minus (aC (x2 ixD (xNm 6) (xNm 20)) (aC (x2 ixD (xNm 14) (xNm 20)) (aN)))) (aN)))) (xC (.int 0))))) (sRet (xC (.bl false))) (sNext)) (sNext)))) (sIf (tV (x2 ltA (xNm 3) (xL sumD (aC (xNm 2) (aN))))) (sSeq (sSet 21 (xCall m_settled (aC (xSh 8) (aC (x2 addD (xNm 3) (xC (.int 1))) (aC (xSh 2) (aN)))))) (sIf (tV (x2 gtA (xL lenD (aC (xOf (oComp (iRg rng1D (aC (xSh 5) (aN))) (gNm 10) (tV (x2 ltA (xCall m_compare (aC (x2 ixD (xNm 21) (xNm 10)) (aC (x2 ixD (xNm 14) (xNm 10)) (aN)))) (xC (.int 0)))) (xSh 10) [10])) (aN))) (xC (.int 0)))) (sRet (xC (.bl false))) (sNext))) (sNext)))))))) gl7
def gl5 : SF := sSeq (sSet 7 (xC (.dic [.inr "parts", .inr "alike", .inr "losses", .inr "halves", .inr "orders"] [.str "parts", .str "losses", .str "alike", .str "halves", .str "orders"]))) gl6
def gl4 : SF := sSeq (sSet 6 (xL tupD (aC (xOf (oComp (iSq (xNm 2)) (gNm 24) (tYes') (xCall m_fraction (aC (xSh 24) (aC (xC (.int 1)) (aN)))) [24])) (aN)))) gl5
def gl3 : SF := sSeq (sSet 5 (xL lenD (aC (xNm 2) (aN)))) gl4
def gl2 : SF := sSeq (sSet 4 (x2 subD (xL sumD (aC (xNm 2) (aN))) (xNm 3))) gl3
def gl1 : SF := sSeq (sSet 3 (xCall m__law_take (aC (xSh 1) (aC (x2 addD (xL sumD (aC (xNm 2) (aN))) (xC (.int 1))) (aN))))) gl2
def gl0 : SF := sSeq (sSet 2 (xL tupD (aC (xOf (oComp (iRg rng1D (aC (x2 addD (xC (.int 1)) (xCall m__law_take (aC (xSh 1) (aC (xC (.int 4)) (aN))))) (aN))) (gNm 10) (tYes') (xCall m__law_take (aC (xSh 1) (aC (xC (.int 13)) (aN)))) [10])) (aN)))) gl1
theorem gl_eq : g_law = gl0 := rfl
def lb5 : SF := sIf (tV (x2 ltA (xNm 3) (xL sumD (aC (xNm 2) (aN))))) (sSeq (sSet 21 (xCall m_settled (aC (xSh 8) (aC (x2 addD (xNm 3) (xC (.int 1))) (aC (xSh 2) (aN)))))) (sIf (tV (x2 gtA (xL lenD (aC (xOf (oComp (iRg rng1D (aC (xSh 5) (aN))) (gNm 10) (tV (x2 ltA (xCall m_compare (aC (x2 ixD (xNm 21) (xNm 10)) (aC (x2 ixD (xNm 14) (xNm 10)) (aN)))) (xC (.int 0)))) (xSh 10) [10])) (aN))) (xC (.int 0)))) (sRet (xC (.bl false))) (sNext))) (sNext)
def lb4 : SF := sSeq (sFor (iRg rng1D (aC (xSh 5) (aN))) (gNm 16) (sFor (iRg rng1D (aC (xSh 5) (aN))) (gNm 20) (sIf (tV (x2 geA (x2 ixD (xNm 2) (xNm 16)) (x2 ixD (xNm 2) (xNm 20)))) (sIf (tOr (tV (x2 ltA (xCall m_compare (aC (x2 ixD (xNm 14) (xNm 16)) (aC (x2 ixD (xNm 14) (xNm 20)) (aN)))) (xC (.int 0)))) (tV (x2 ltA (xCall m_compare (aC (xCall m_minus (aC (x2 ixD (xNm 6) (xNm 16)) (aC (x2 ixD (xNm 14) (xNm 16)) (aN)))) (aC (xCall m_minus (aC (x2 ixD (xNm 6) (xNm 20)) (aC (x2 ixD (xNm 14) (xNm 20)) (aN)))) (aN)))) (xC (.int 0))))) (sRet (xC (.bl false))) (sNext)) (sNext)))) lb5
def lb3 : SF := sSeq (sIf (tOr (tV (x2 neD (xCall m_total (aC (xSh 14) (aN))) (xCall m_fraction (aC (xSh 3) (aC (xC (.int 1)) (aN)))))) (tV (x2 isNotBD (xCall m_is_right (aC (xSh 3) (aC (xSh 2) (aC (xSh 14) (aN))))) (xC (.bl true))))) (sRet (xC (.bl false))) (sNext)) lb4
def lb2 : SF := sSeq (sIf (tV (x2 neD (xL tupD (aC (xOf (oComp (iRg rng1D (aC (xSh 5) (aN))) (gNm 10) (tYes') (xCall m_minus (aC (x2 ixD (xNm 6) (xNm 10)) (aC (x2 ixD (xNm 15) (xNm 10)) (aN)))) [10])) (aN))) (xNm 14))) (sRet (xC (.bl false))) (sNext)) lb3
def lb1 : SF := sSeq (sSet 15 (xCall m_settled (aC (x2 dixD (xSh 7) (xSh 8)) (aC (xSh 4) (aC (xSh 2) (aN)))))) lb2
def lb0 : SF := sSeq (sSet 14 (xCall m_settled (aC (xSh 8) (aC (xSh 3) (aC (xSh 2) (aN)))))) lb1
theorem gl6_in : gl6 = sSeq (sFor (iSq (xTup (aC (xC (.str "parts")) (aC (xC (.str "alike")) (aC (xC (.str "losses")) (aC (xC (.str "halves")) (aC (xC (.str "orders")) (aN)))))))) (gNm 8) lb0) gl7 := rfl
def gl11f : SF := sFor (iSq (xTup (aC (xC (.str "parts")) (aC (xC (.str "alike")) (aC (xC (.str "losses")) (aC (xC (.str "halves")) (aN))))))) (gNm 8) (sSeq (sSet 14 (xCall m_settled (aC (xSh 8) (aC (xSh 3) (aC (xSh 2) (aN)))))) (sSeq (sSet 22 (xCall m_total (aC (xOf (oComp (iSq (xNm 11)) (gNm 10) (tYes') (x2 ixD (xNm 14) (xNm 10)) [10])) (aN)))) (sSeq (sIf (tV (x2 neD (x2 modD (xL intD (aC (x2 mulD (xNm 9) (x2 ixD (xNm 22) (xC (.int 0)))) (aN))) (x2 ixD (xNm 22) (xC (.int 1)))) (xC (.int 0)))) (sRet (xC (.bl false))) (sNext)) (sSeq (sSet 23 (xCall m_settled (aC (xSh 8) (aC (x2 divD (x2 mulD (xNm 9) (x2 ixD (xNm 22) (xC (.int 0)))) (x2 ixD (xNm 22) (xC (.int 1)))) (aC (xL tupD (aC (xOf (oComp (iSq (xNm 11)) (gNm 10) (tYes') (x2 mulD (xNm 9) (x2 ixD (xNm 2) (xNm 10))) [10])) (aN))) (aN)))))) (sIf (tV (x2 neD (xNm 23) (xL tupD (aC (xOf (oComp (iSq (xNm 11)) (gNm 10) (tYes') (xCall m_fraction (aC (x2 mulD (xNm 9) (x2 ixD (x2 ixD (xNm 14) (xNm 10)) (xC (.int 0)))) (aC (x2 ixD (x2 ixD (xNm 14) (xNm 10)) (xC (.int 1))) (aN)))) [10])) (aN))))) (sRet (xC (.bl false))) (sNext))))))
theorem gl11_f : gl11 = sSeq (sIf (tV (x2 gtA (xL lenD (aC (xNm 11) (aN))) (xC (.int 0)))) gl11f (sNext)) gl12 := rfl
def lp4 : SF := sIf (tV (x2 neD (xNm 23) (xL tupD (aC (xOf (oComp (iSq (xNm 11)) (gNm 10) (tYes') (xCall m_fraction (aC (x2 mulD (xNm 9) (x2 ixD (x2 ixD (xNm 14) (xNm 10)) (xC (.int 0)))) (aC (x2 ixD (x2 ixD (xNm 14) (xNm 10)) (xC (.int 1))) (aN)))) [10])) (aN))))) (sRet (xC (.bl false))) (sNext)
def lp3 : SF := sSeq (sSet 23 (xCall m_settled (aC (xSh 8) (aC (x2 divD (x2 mulD (xNm 9) (x2 ixD (xNm 22) (xC (.int 0)))) (x2 ixD (xNm 22) (xC (.int 1)))) (aC (xL tupD (aC (xOf (oComp (iSq (xNm 11)) (gNm 10) (tYes') (x2 mulD (xNm 9) (x2 ixD (xNm 2) (xNm 10))) [10])) (aN))) (aN)))))) lp4
def lp2 : SF := sSeq (sIf (tV (x2 neD (x2 modD (xL intD (aC (x2 mulD (xNm 9) (x2 ixD (xNm 22) (xC (.int 0)))) (aN))) (x2 ixD (xNm 22) (xC (.int 1)))) (xC (.int 0)))) (sRet (xC (.bl false))) (sNext)) lp3
def lp1 : SF := sSeq (sSet 22 (xCall m_total (aC (xOf (oComp (iSq (xNm 11)) (gNm 10) (tYes') (x2 ixD (xNm 14) (xNm 10)) [10])) (aN)))) lp2
def lp0 : SF := sSeq (sSet 14 (xCall m_settled (aC (xSh 8) (aC (xSh 3) (aC (xSh 2) (aN)))))) lp1
theorem gl11f_in : gl11f = sFor (iSq (xTup (aC (xC (.str "parts")) (aC (xC (.str "alike")) (aC (xC (.str "losses")) (aC (xC (.str "halves")) (aN))))))) (gNm 8) lp0 := rfl
def lf0 : SF := sIf (tV (x2 neD (xCall m_settled (aC (xSh 8) (aC (x2 mulD (xNm 13) (xNm 3)) (aC (xL tupD (aC (xOf (oComp (iSq (xNm 2)) (gNm 24) (tYes') (x2 mulD (xNm 13) (xNm 24)) [24])) (aN))) (aN))))) (xL tupD (aC (xOf (oComp (iSq (xCall m_settled (aC (xSh 8) (aC (xSh 3) (aC (xSh 2) (aN)))))) (gNm 25) (tYes') (xCall m_fraction (aC (x2 mulD (xNm 13) (x2 ixD (xNm 25) (xC (.int 0)))) (aC (x2 ixD (xNm 25) (xC (.int 1))) (aN)))) [25])) (aN))))) (sRet (xC (.bl false))) (sNext)
theorem gl16_in : gl16 = sSeq (sFor (iSq (xTup (aC (xC (.str "parts")) (aC (xC (.str "alike")) (aC (xC (.str "losses")) (aC (xC (.str "halves")) (aC (xC (.str "orders")) (aN)))))))) (gNm 8) lf0) gl17 := rfl
end Lw
set_option maxHeartbeats 1000000
set_option exponentiation.threshold 64
namespace Lw
open PySem PySem.Spec PyProof.Rows L2 Pu

def tuD : D := .dic [.inr "parts", .inr "alike", .inr "losses", .inr "halves", .inr "orders"] [.str "parts", .str "losses", .str "alike", .str "halves", .str "orders"]
theorem dual_get (r : Rul) : dixD tuD (.str r.nm) = some (.str r.dual.nm) := by
  rcases r with p | _
  · cases p <;> rfl
  · rfl
theorem cvixN (cs : List Nat) {n k : Nat} (h : k < n) : ixD (aD n (cv cs)) (.int (k : Nat)) = some (qD (cv cs k)) := ixA _ h
theorem aD_list (n : Nat) (f : Nat → Rat) : (.tup ((List.range n).map fun k => qD (f k)) : D) = aD n f := rfl
theorem lb5_ok {cs : List Nat} {n E F : Nat} (W : Cs cs n E) (h4 : n ≤ 4) (r : Rul) {a : Nat → Rat} (ha : Aw r cs n E a) (hz : ∀ k, k < n → Sz 300 (a k)) (x0 x9 x10 x11 x12 x13 x15 x16 x17 x18 x19 x20 x21 x22 x23 x24 x25 : Slot) (s : DS) {QS : Res × Rho → DS → Prop} (hQ : ∀ x21, QS (.nx, [x0, .sh .rng, .sh (rD cs), .sh (.int (E : Nat)), .sh (.int (F : Nat)), .sh (.int (n : Nat)), .sh (aD n (cv cs)), .sh tuD, .sh (.str r.nm), x9, x10, x11, x12, x13, .sh (aD n a), x15, x16, x17, x18, x19, x20, x21, x22, x23, x24, x25]) s) : wp (lb5 [x0, .sh .rng, .sh (rD cs), .sh (.int (E : Nat)), .sh (.int (F : Nat)), .sh (.int (n : Nat)), .sh (aD n (cv cs)), .sh tuD, .sh (.str r.nm), x9, x10, x11, x12, x13, .sh (aD n a), x15, x16, x17, x18, x19, x20, x21, x22, x23, x24, x25]) s QS := by
  have hl := W.len
  have hr : rng1D [.int (n : Nat)] = some ((List.range n).map EnQ.e) := rng1_n (by omega)
  simp [lb5, sumN]
  by_cases c : E < cs.sum
  · have c' : (E : Int) < (cs.sum : Nat) := by omega
    have W2 : Cs cs n (E + 1) := ⟨W.len, W.h1, W.h6, W.sm, by omega⟩
    obtain ⟨b, hb, hbz, eb⟩ := settled_ex W2 h4 r
    have e1 : ((E + 1 : Nat) : Int) = (E : Int) + 1 := rfl
    rw [e1] at eb
    have hle := ha.mono W W2 h4 hb (by omega)
    simp [c, c', wp_eq eb, hr, wipeR]
    refine .inr ?_
    refine wp_compF (p := fun k : Nat => false) (f := fun k : Nat => EnQ.e k) _ (fun k hk => ⟨_, rfl, fun s => ⟨?_, fun z => by cases z⟩⟩) ?_
    · have hk := List.mem_range.mp hk
      have t := cmp_eq ((hbz k hk).mono (by decide : 300 ≤ 4000)) ((hz k hk).mono (by decide : 300 ≤ 4000))
      have l := hle k hk
      have d : 0 ≤ cmpR (b k) (a k) := Int.not_lt.mp fun z => by have := (cmp_lt0 _ _).mp z; grind
      simp only [e_N]
      simp [ixA a hk, ixA b hk, wp_eq t, d, -ixD_tn]
    · simp
      exact hQ _
  · have c' : ¬ (E : Int) < (cs.sum : Nat) := by omega
    simp [c, c']
    exact ⟨by omega, hQ _⟩
theorem lb4_ok {cs : List Nat} {n E F : Nat} (W : Cs cs n E) (h4 : n ≤ 4) (r : Rul) {a : Nat → Rat} (ha : Aw r cs n E a) (hz : ∀ k, k < n → Sz 300 (a k)) (x0 x9 x10 x11 x12 x13 x15 x16 x17 x18 x19 x20 x21 x22 x23 x24 x25 : Slot) (s : DS) {QS : Res × Rho → DS → Prop} (hQ : ∀ x16 x20 x21, QS (.nx, [x0, .sh .rng, .sh (rD cs), .sh (.int (E : Nat)), .sh (.int (F : Nat)), .sh (.int (n : Nat)), .sh (aD n (cv cs)), .sh tuD, .sh (.str r.nm), x9, x10, x11, x12, x13, .sh (aD n a), x15, x16, x17, x18, x19, x20, x21, x22, x23, x24, x25]) s) : wp (lb4 [x0, .sh .rng, .sh (rD cs), .sh (.int (E : Nat)), .sh (.int (F : Nat)), .sh (.int (n : Nat)), .sh (aD n (cv cs)), .sh tuD, .sh (.str r.nm), x9, x10, x11, x12, x13, .sh (aD n a), x15, x16, x17, x18, x19, x20, x21, x22, x23, x24, x25]) s QS := by
  have hl := W.len
  have hr : rng1D [.int (n : Nat)] = some ((List.range n).map EnQ.e) := rng1_n (by omega)
  simp [lb4, hr]
  refine wp_each EnQ.e (fun ρ s' => s' = s ∧ ∃ x16 x20, ρ = [x0, .sh .rng, .sh (rD cs), .sh (.int (E : Nat)), .sh (.int (F : Nat)), .sh (.int (n : Nat)), .sh (aD n (cv cs)), .sh tuD, .sh (.str r.nm), x9, x10, x11, x12, x13, .sh (aD n a), x15, x16, x17, x18, x19, x20, x21, x22, x23, x24, x25]) (List.range n)
    (fun i hi ρ s' hJ => ?_) (fun ρ s' hJ => ?_) ⟨rfl, _, _, rfl⟩
  · obtain ⟨rfl, x16, x20, rfl⟩ := hJ
    have hi := List.mem_range.mp hi
    refine ⟨_, rfl, ?_⟩
    simp only [e_N]
    simp [hr]
    refine wp_each EnQ.e (fun ρ s'' => s'' = s' ∧ ∃ x20, ρ = [x0, .sh .rng, .sh (rD cs), .sh (.int (E : Nat)), .sh (.int (F : Nat)), .sh (.int (n : Nat)), .sh (aD n (cv cs)), .sh tuD, .sh (.str r.nm), x9, x10, x11, x12, x13, .sh (aD n a), x15, .sh (.int (i : Nat)), x17, x18, x19, x20, x21, x22, x23, x24, x25]) (List.range n)
      (fun j hj ρ s'' hJ => ?_) (fun ρ s'' hJ => ?_) ⟨rfl, _, rfl⟩
    · obtain ⟨rfl, x20, rfl⟩ := hJ
      have hj := List.mem_range.mp hj
      have ci := ixN' cs (k := i) (by omega)
      have cj := ixN' cs (k := j) (by omega)
      refine ⟨_, rfl, ?_⟩
      simp only [e_N]
      simp [ci, cj, -ixD_tn]
      by_cases c : at0 cs j ≤ at0 cs i
      · obtain ⟨o1, o2⟩ := ha.order W h4 hi hj c
        have t1 := cmp_eq ((hz i hi).mono (by decide : 300 ≤ 4000)) ((hz j hj).mono (by decide : 300 ≤ 4000))
        have m1 := minus_eq ((cv_sz W hi).mono (by decide : 20 ≤ 4000)) ((hz i hi).mono (by decide : 300 ≤ 4000))
        have m2 := minus_eq ((cv_sz W hj).mono (by decide : 20 ≤ 4000)) ((hz j hj).mono (by decide : 300 ≤ 4000))
        have t2 := cmp_eq (((cv_sz W hi).sub (hz i hi)).mono (by decide : 20 + 300 + 1 ≤ 4000)) (((cv_sz W hj).sub (hz j hj)).mono (by decide : 20 + 300 + 1 ≤ 4000))
        have d1 : ¬ cmpR (a i) (a j) < 0 := fun z => by have := (cmp_lt0 _ _).mp z; grind
        have d2 : ¬ cmpR (cv cs i - a i) (cv cs j - a j) < 0 := fun z => by have := (cmp_lt0 _ _).mp z; grind
        have d1' := Int.not_lt.mp d1
        have d2' := Int.not_lt.mp d2
        simp [c, ixA a hi, ixA a hj, cvixN cs hi, cvixN cs hj, wp_eq t1, wp_eq m1, wp_eq m2, wp_eq t2, d1, d2, d1', d2', -ixD_tn]
      · simp [c]
        omega
    · obtain ⟨rfl, x20, rfl⟩ := hJ
      exact ⟨rfl, _, _, rfl⟩
  · obtain ⟨rfl, x16, x20, rfl⟩ := hJ
    simp
    exact lb5_ok W h4 r ha hz _ _ _ _ _ _ _ _ _ _ _ _ _ _ _ _ _ s' fun x21 => hQ _ _ _
theorem lb0_ok {cs : List Nat} {n E F : Nat} (W : Cs cs n E) (hF : F = cs.sum - E) (h4 : n ≤ 4) (r : Rul) (x0 x9 x10 x11 x12 x13 x14 x15 x16 x17 x18 x19 x20 x21 x22 x23 x24 x25 : Slot) (s : DS) {QS : Res × Rho → DS → Prop} (hQ : ∀ x14 x15 x16 x20 x21, QS (.nx, [x0, .sh .rng, .sh (rD cs), .sh (.int (E : Nat)), .sh (.int (F : Nat)), .sh (.int (n : Nat)), .sh (aD n (cv cs)), .sh tuD, .sh (.str r.nm), x9, x10, x11, x12, x13, x14, x15, x16, x17, x18, x19, x20, x21, x22, x23, x24, x25]) s) : wp (lb0 [x0, .sh .rng, .sh (rD cs), .sh (.int (E : Nat)), .sh (.int (F : Nat)), .sh (.int (n : Nat)), .sh (aD n (cv cs)), .sh tuD, .sh (.str r.nm), x9, x10, x11, x12, x13, x14, x15, x16, x17, x18, x19, x20, x21, x22, x23, x24, x25]) s QS := by
  have hl := W.len
  have hr : rng1D [.int (n : Nat)] = some ((List.range n).map EnQ.e) := rng1_n (by omega)
  obtain ⟨a, ha, hz, ea⟩ := settled_ex W h4 r
  subst hF
  obtain ⟨b, hb, hbz, eb⟩ := settled_ex W.dual h4 r.dual
  have hdu := (ha.dual W h4).uniq hb
  have hsum := ha.sum W h4
  have K := fun (x15 : Slot) => lb4_ok W h4 r ha hz x0 x9 x10 x11 x12 x13 x15 x16 x17 x18 x19 x20 x21 x22 x23 x24 x25 s (QS := QS) fun x16 x20 x21 => hQ _ _ _ _ _
  simp [lb0, wp_eq ea, lb1, dual_get, wp_eq eb, lb2, hr, wipeR]
  refine wp_compT (f := fun k : Nat => qD (cv cs k - b k)) _ (fun k hk => ⟨_, rfl, fun s => ?_⟩) ?_
  · have hk := List.mem_range.mp hk
    have m1 := minus_eq ((cv_sz W hk).mono (by decide : 20 ≤ 4000)) ((hbz k hk).mono (by decide : 300 ≤ 4000))
    simp only [e_N]
    simp [ixA b hk, cvixN cs hk, wp_eq m1, -ixD_tn]
  · have ne1 : neD (aD n fun k => cv cs k - b k) (aD n a) = some (.bl false) := aD_ne fun k hk => by have := hdu k hk; grind
    have b0 : isNotBD (.bl true) (.bl true) = some (.bl false) := rfl
    rw [aD_list]
    simp [ne1, lb3, wp_eq (total_a (a := a) (by omega) hz), wp_eq (frac1 ((E : Nat) : Int)), hsum, ne_Q, wp_eq (right_eq W h4 ha hz), b0]
    exact .inl ⟨rfl, K _⟩
end Lw
set_option maxHeartbeats 1000000
set_option exponentiation.threshold 64
namespace Lw
open PySem PySem.Spec PyProof.Rows L2 Pu

theorem ls_sz : ∀ (l : List Rat), (∀ x ∈ l, Sz 300 x) → Sz (1 + 301 * l.length) (ls l)
  | [], _ => Sz0
  | x :: l, h => by
    have ih := ls_sz l fun y hy => h y (by simp [hy])
    show Sz _ (x + ls l)
    refine ((h x (by simp)).add ih).mono ?_
    rw [List.length_cons]; omega
theorem map_S {α : Type} (S : List Nat) (f : Nat → α) : S.map f = (List.range S.length).map fun k => f (at0 S k) := map_at0 S f
theorem frac_a {t : Nat} {x : Rat} (hz : Sz 300 x) (s : DS) : m_fraction [.int ((t : Int) * x.num), .int ((x.den : Nat) : Int)] s = some (qD (nq t * x), s) := by
  have h1 := frac_eq ((t : Int) * x.num) (d := ((x.den : Nat) : Int)) (by have := x.den_nz; omega) (Nat.lt_of_lt_of_le (by simpa using hz.2) (Nat.pow_le_pow_right (by decide) (by decide))) s
  rw [h1, e_Q]
  have h2 : (((t : Int) * x.num : Int) : Rat) / ((((x.den : Nat) : Int)) : Rat) = nq t * x := by
    have q1 := q_self x
    rw [Rat.intCast_mul, Rat.intCast_natCast]
    have : nq t * ((x.num : Rat) / ((x.den : Nat) : Rat)) = nq t * x := by rw [q1]
    rw [← this]
    show nq t * (x.num : Rat) / ((x.den : Nat) : Rat) = _
    rw [Rat.div_def, Rat.div_def, Rat.mul_assoc]
  rw [h2]
theorem mul_a {t : Nat} (ht : t < 2 ^ 15) {x : Rat} (hz : Sz 300 x) : mulD (.int (t : Nat)) (.int x.num) = some (.int ((t : Int) * x.num)) := mulD_sm 4000 (by simp; exact Nat.lt_of_lt_of_le ht (Nat.pow_le_pow_right (by decide) (by decide))) (hz.mono (by decide)).1
theorem lp0_ok {cs : List Nat} {n E F t : Nat} (W : Cs cs n E) (h4 : n ≤ 4) (hc : ∀ c ∈ cs, c ≤ 30) {G : Nat} (hG : ∀ m, 1 ≤ m → m ≤ n → m ∣ G) (et : t = scl n cs.sum G) (ht : 0 < t) (ht2 : t ≤ 30000) {S : List Nat} (hS : ∀ k ∈ S, k < n) (hne : S ≠ []) (hSl : S.length ≤ 4) (p : Ru) (x0 x10 x12 x13 x14 x15 x16 x17 x18 x19 x20 x21 x22 x23 x24 x25 : Slot) (s : DS) {QS : Res × Rho → DS → Prop} (hQ : ∀ x14 x22 x23, QS (.nx, [x0, .sh .rng, .sh (rD cs), .sh (.int (E : Nat)), .sh (.int (F : Nat)), .sh (.int (n : Nat)), .sh (aD n (cv cs)), .sh tuD, .sh (.str (Rul.base p).nm), .sh (.int (t : Nat)), x10, .sh (.lst (S.map EnQ.e)), x12, x13, x14, x15, x16, x17, x18, x19, x20, x21, x22, x23, x24, x25]) s) : wp (lp0 [x0, .sh .rng, .sh (rD cs), .sh (.int (E : Nat)), .sh (.int (F : Nat)), .sh (.int (n : Nat)), .sh (aD n (cv cs)), .sh tuD, .sh (.str (Rul.base p).nm), .sh (.int (t : Nat)), x10, .sh (.lst (S.map EnQ.e)), x12, x13, x14, x15, x16, x17, x18, x19, x20, x21, x22, x23, x24, x25]) s QS := by
  have hl := W.len
  obtain ⟨a, ha, hz, ea⟩ := settled_ex W h4 (.base p)
  have hI := Is.int W ha hG
  rw [← et] at hI
  obtain ⟨x, hx⟩ : ∃ x, x = RS S.length fun k => a (at0 S k) := ⟨_, rfl⟩
  have hg : ∀ k, k < S.length → at0 S k < n := fun k hk => hS _ (at0_mem hk)
  have hxl : ls (S.map a) = x := by rw [map_S, ls_range, hx]
  have hxz : Sz 1300 x := by
    rw [← hxl]
    refine (ls_sz _ fun y hy => ?_).mono ?_
    · obtain ⟨k, hk, rfl⟩ := List.mem_map.mp hy
      exact hz k (hS k hk)
    · rw [List.length_map]; omega
  have hxi : In (nq t * x) := by
    rw [hx, ← RS_mul]
    exact In.rs fun k hk => hI _ (hg k hk)
  have hb := Is.bounds W.cl ha
  have hx0 : 0 ≤ x := by rw [hx]; exact RS_nn fun k hk => (hb _ (hg k hk)).1
  obtain ⟨im, iq⟩ := in_mod hxi
  have tp := nq_pos ht
  have hE0 : 0 ≤ ((t : Int) * x.num) / ((x.den : Nat) : Int) := by
    have h1 := Rat.mul_nonneg (Rat.le_of_lt tp) hx0
    rw [← iq] at h1
    exact Rat.intCast_nonneg.mp h1
  obtain ⟨E', hE'⟩ := Int.eq_ofNat_of_zero_le hE0
  have hE2 : nq E' = nq t * RS S.length fun k => a (at0 S k) := by rw [← hx, ← iq, hE']; rfl
  obtain ⟨W', hb'⟩ := part_all W ha ht ht2 hc hS hne (by omega) hE2
  obtain ⟨b, hbb, hbz, eb⟩ := settled_ex W' hSl (.base p)
  have hu := Aw.uniq (r := .base p) hbb hb'
  have m1 : mulD (.int (t : Nat)) (.int x.num) = some (.int ((t : Int) * x.num)) := mulD_sm 4000 (by simp; exact Nat.lt_of_le_of_lt ht2 (Nat.lt_of_lt_of_le (show 30000 < 2 ^ 15 by decide) (Nat.pow_le_pow_right (by decide) (by decide)))) (hxz.mono (by decide)).1
  have dpos : (0 : Int) < ((x.den : Nat) : Int) := by have := x.den_nz; omega
  have m2 : modD (.int ((t : Int) * x.num)) (.int ((x.den : Nat) : Int)) = some (.int 0) := by rw [modD_ii _ dpos, im]
  have m3 : divD (.int ((t : Int) * x.num)) (.int ((x.den : Nat) : Int)) = some (.int (E' : Nat)) := by rw [divD_sm _ 4000 dpos (by simpa using (hxz.mono (by decide : 1300 ≤ 4000)).2), hE']
  have z0 : neD (.int 0) (.int 0) = some (.bl false) := by kernel_rfl
  have e14 : seqD (.lst (S.map EnQ.e)) = some (S.map EnQ.e) := rfl
  have ht300 : t < 2 ^ 15 := by omega
  simp [lp0]
  refine (wp_eq ea).mpr ?_
  simp [lp1, wipeR]
  refine wp_compT (f := fun k : Nat => qD (a k)) _ (fun k hk => ⟨_, rfl, fun s => ?_⟩) ?_
  · have hk := hS k hk
    simp only [e_N]
    simp [ixA a hk, -ixD_tn]
  · have tt := total_eq (l := S.map a) (d := .lst (S.map fun k => qD (a k))) (BdT_of _ (fun x hx => by
      obtain ⟨k, hk, rfl⟩ := List.mem_map.mp hx
      exact hz k (hS k hk)) 0 1 Sz0 (by simp; omega)) (by show some _ = _; rw [List.map_map]; rfl) s
    rw [fold_ls, hxl, show 0 + x = x by grind] at tt
    refine ⟨_, _, tt, ?_⟩
    simp [lp2, ixq0, ixq1, m1, m2, z0, -ixD_tn]
    simp [lp3, ixq0, ixq1, m1, m3, wipeR, -ixD_tn]
    refine wp_compT (f := fun k : Nat => (EnQ.e (t * at0 cs k) : D)) _ (fun k hk => ⟨_, rfl, fun s => ?_⟩) ?_
    · have hk := hS k hk
      have ck := ixN' cs (k := k) (by omega)
      have hck := hc _ (at0_mem (l := cs) (k := k) (by omega))
      have mm : mulD (.int (t : Nat)) (.int (at0 cs k : Nat)) = some (.int ((t : Int) * (at0 cs k : Nat))) := mulD_sm 64 (by simp; omega) (by simp; omega)
      simp only [e_N]
      simp [ck, mm, -ixD_tn]
    · have el : S.map (fun k : Nat => (EnQ.e (t * at0 cs k) : D)) = (S.map fun k => t * at0 cs k).map EnQ.e := by rw [List.map_map]; rfl
      rw [el]
      refine (wp_eq eb).mpr ?_
      simp [lp4, wipeR]
      refine wp_compT (f := fun k : Nat => qD (nq t * a k)) _ (fun k hk => ⟨_, rfl, fun s => ?_⟩) ?_
      · have hk := hS k hk
        simp only [e_N]
        simp [ixA a hk, ixq0, ixq1, mul_a ht300 (hz k hk), -ixD_tn]
        exact (wp_eq (frac_a (hz k hk))).mpr ⟨rfl, rfl⟩
      · rw [map_S]
        have ne1 : neD (aD S.length b) (.tup ((List.range S.length).map fun k => qD (nq t * a (at0 S k)))) = some (.bl false) := aD_ne fun k hk => hu k hk
        simp [ne1]
        exact hQ _ _ _
theorem lf0_ok {cs : List Nat} {n E F t : Nat} (W : Cs cs n E) (h4 : n ≤ 4) (hc : ∀ c ∈ cs, c ≤ 30) (ht : 0 < t) (ht2 : t ≤ 5) (r : Rul) (x0 x9 x10 x11 x12 x14 x15 x16 x17 x18 x19 x20 x21 x22 x23 x24 x25 : Slot) (s : DS) {QS : Res × Rho → DS → Prop} (hQ : QS (.nx, [x0, .sh .rng, .sh (rD cs), .sh (.int (E : Nat)), .sh (.int (F : Nat)), .sh (.int (n : Nat)), .sh (aD n (cv cs)), .sh tuD, .sh (.str r.nm), x9, x10, x11, x12, .sh (.int (t : Nat)), x14, x15, x16, x17, x18, x19, x20, x21, x22, x23, x24, x25]) s) : wp (lf0 [x0, .sh .rng, .sh (rD cs), .sh (.int (E : Nat)), .sh (.int (F : Nat)), .sh (.int (n : Nat)), .sh (aD n (cv cs)), .sh tuD, .sh (.str r.nm), x9, x10, x11, x12, .sh (.int (t : Nat)), x14, x15, x16, x17, x18, x19, x20, x21, x22, x23, x24, x25]) s QS := by
  have hl := W.len
  obtain ⟨a, ha, hz, ea⟩ := settled_ex W h4 r
  have W' : Cs (cs.map (t * ·)) n (t * E) := by
    refine ⟨by simp [hl], W.h1, W.h6, fun c hc' => ?_, ?_⟩
    · obtain ⟨x, hx, rfl⟩ := List.mem_map.mp hc'
      have := hc x hx
      have : t * x ≤ 5 * 30 := Nat.mul_le_mul ht2 this
      omega
    · have e : (cs.map (t * ·)).sum = t * cs.sum := by
        have := sum_mul t (fun x : Nat => x) cs
        rw [List.map_id'] at this
        exact this
      rw [e]
      exact Nat.mul_le_mul_left _ W.le
  have hb' := ha.all W h4 ht
  obtain ⟨b, hbb, hbz, eb⟩ := settled_ex W' h4 r
  have hu := hbb.uniq hb'
  have hE : E < 2 ^ 23 := Nat.lt_of_le_of_lt W.le W.sum_sm
  have m1 : mulD (.int (t : Nat)) (.int (E : Nat)) = some (.int ((t : Int) * (E : Nat))) := mulD_sm 64 (by simp; omega) (by simp; omega)
  have ei : ((t * E : Nat) : Int) = (t : Int) * (E : Nat) := Int.natCast_mul _ _
  rw [ei] at eb
  simp [lf0, m1, wipeR]
  refine wp_compT (f := fun k : Nat => (EnQ.e (t * k) : D)) _ (fun k hk => ⟨_, rfl, fun s => ?_⟩) ?_
  · have hck := hc _ hk
    have mm : mulD (.int (t : Nat)) (.int (k : Nat)) = some (.int ((t : Int) * (k : Nat))) := mulD_sm 64 (by simp; omega) (by simp; omega)
    simp only [e_N]
    simp [mm]
  · have el : cs.map (fun k : Nat => (EnQ.e (t * k) : D)) = (cs.map (t * ·)).map EnQ.e := by rw [List.map_map]; rfl
    rw [el]
    refine (wp_eq eb).mpr ?_
    refine ⟨_, _, ea s, ?_⟩
    have sq : seqD (aD n a) = some ((List.range n).map fun k => qD (a k)) := rfl
    simp [sq, wipeR]
    refine wp_compT (f := fun k : Nat => qD (nq t * a k)) _ (fun k hk => ⟨_, rfl, fun s => ?_⟩) ?_
    · have hk := List.mem_range.mp hk
      simp [ixq0, ixq1, mul_a (show t < 2 ^ 15 by omega) (hz k hk), -ixD_tn]
      exact (wp_eq (frac_a (hz k hk))).mpr ⟨rfl, rfl⟩
    · have ne1 : neD (aD n b) (.tup ((List.range n).map fun k => qD (nq t * a k))) = some (.bl false) := aD_ne fun k hk => hu k hk
      simp [ne1]
      exact hQ
end Lw
set_option maxHeartbeats 1000000
set_option exponentiation.threshold 64
namespace Lw
open PySem PySem.Spec PyProof.Rows L2 Pu

def RT (r : Res × Rho) (s : DS) : Prop := r.1 = .rt (.bl true)
def rules : List Rul := [.base .parts, .base .alike, .base .losses, .base .halves, .orders]
theorem rules_e : [D.str "parts", D.str "alike", D.str "losses", D.str "halves", D.str "orders"] = rules.map fun r => D.str r.nm := rfl
def rules4 : List Ru := [.parts, .alike, .losses, .halves]
theorem rules4_e : [D.str "parts", D.str "alike", D.str "losses", D.str "halves"] = rules4.map fun r => D.str (Rul.base r).nm := rfl
theorem gl17_ok {cs : List Nat} {n E F : Nat} (W : Cs cs n E) (hF : F = cs.sum - E) (h4 : n ≤ 4) (hc : ∀ c ∈ cs, c ≤ 30) (x0 x8 x9 x10 x11 x12 x13 x14 x15 x16 x17 x18 x19 x20 x21 x22 x23 x24 x25 : Slot) (s : DS) : wp (gl17 [x0, .sh .rng, .sh (rD cs), .sh (.int (E : Nat)), .sh (.int (F : Nat)), .sh (.int (n : Nat)), .sh (aD n (cv cs)), .sh tuD, x8, x9, x10, x11, x12, x13, x14, x15, x16, x17, x18, x19, x20, x21, x22, x23, x24, x25]) s RT := by
  have W0 : Cs cs n 0 := ⟨W.len, W.h1, W.h6, W.sm, by omega⟩
  have W1 : Cs cs n cs.sum := ⟨W.len, W.h1, W.h6, W.sm, by omega⟩
  obtain ⟨a, ha, hz, ea⟩ := settled_ex W0 h4 (.base .alike)
  obtain ⟨b, hb, hbz, eb⟩ := settled_ex W1 h4 (.base .halves)
  have ea : ∀ s, m_settled [.str "alike", .int 0, rD cs] s = some (aD n a, s) := ea
  have eb : ∀ s, m_settled [.str "halves", .int (cs.sum : Nat), rD cs] s = some (aD n b, s) := eb
  have a0 : ∀ k, k < n → a k = 0 := fun k hk => (RS_eq (f := fun _ => 0) (g := a) (fun k hk => (ha.bounds W0 h4 k hk).1) (by rw [RS_zero, ha.sum W0 h4]; rfl) k hk).symm
  have b0 : ∀ k, k < n → b k = cv cs k := RS_eq (fun k hk => (hb.bounds W1 h4 k hk).2) (by rw [hb.sum W1 h4, W1.rs])
  have hrep : repT (.tup [.tup [.int 0, .int 1]]) (.int (n : Nat)) = some (aD n fun _ => 0) := by
    rw [repT_1 _ (by omega)]
    unfold aD
    rw [List.map_const', List.length_range]; rfl
  have e1 := aD_eq a0
  have e2 := aD_eq b0
  simp [gl17, wp_eq ea, hrep, e1, SZ_eq, sumN, wp_eq eb, e2, RT]
theorem gl16_ok {cs : List Nat} {n E F : Nat} (W : Cs cs n E) (hF : F = cs.sum - E) (h4 : n ≤ 4) (hc : ∀ c ∈ cs, c ≤ 30) {t : Nat} (ht : 0 < t) (ht2 : t ≤ 5) (x0 x8 x9 x10 x11 x12 x14 x15 x16 x17 x18 x19 x20 x21 x22 x23 x24 x25 : Slot) (s : DS) : wp (gl16 [x0, .sh .rng, .sh (rD cs), .sh (.int (E : Nat)), .sh (.int (F : Nat)), .sh (.int (n : Nat)), .sh (aD n (cv cs)), .sh tuD, x8, x9, x10, x11, x12, .sh (.int (t : Nat)), x14, x15, x16, x17, x18, x19, x20, x21, x22, x23, x24, x25]) s RT := by
  rw [gl16_in]
  simp [SZ_eq]
  rw [rules_e]
  refine wp_each (fun r : Rul => D.str r.nm) (fun ρ s' => s' = s ∧ ∃ x8, ρ = [x0, .sh .rng, .sh (rD cs), .sh (.int (E : Nat)), .sh (.int (F : Nat)), .sh (.int (n : Nat)), .sh (aD n (cv cs)), .sh tuD, x8, x9, x10, x11, x12, .sh (.int (t : Nat)), x14, x15, x16, x17, x18, x19, x20, x21, x22, x23, x24, x25]) rules
    (fun r hr ρ s' hJ => ?_) (fun ρ s' hJ => ?_) ⟨rfl, _, rfl⟩
  · obtain ⟨rfl, x8, rfl⟩ := hJ
    refine ⟨_, rfl, ?_⟩
    exact lf0_ok W h4 hc ht ht2 r _ _ _ _ _ _ _ _ _ _ _ _ _ _ _ _ _ s' ⟨rfl, _, rfl⟩
  · obtain ⟨rfl, x8, rfl⟩ := hJ
    exact gl17_ok W hF h4 hc _ _ _ _ _ _ _ _ _ _ _ _ _ _ _ _ _ _ _ s'
theorem gl15_ok {cs : List Nat} {n E F : Nat} (W : Cs cs n E) (hF : F = cs.sum - E) (h4 : n ≤ 4) (hc : ∀ c ∈ cs, c ≤ 30) (x0 x8 x9 x10 x11 x12 x13 x14 x15 x16 x17 x18 x19 x20 x21 x22 x23 x24 x25 : Slot) (s : DS) (ok : s.ok) : wp (gl15 [x0, .sh .rng, .sh (rD cs), .sh (.int (E : Nat)), .sh (.int (F : Nat)), .sh (.int (n : Nat)), .sh (aD n (cv cs)), .sh tuD, x8, x9, x10, x11, x12, x13, x14, x15, x16, x17, x18, x19, x20, x21, x22, x23, x24, x25]) s RT := by
  simp [gl15, take_eq]
  refine wp_take (m := 5) (by decide) (by decide) ok fun q s hq ok => ?_
  obtain ⟨t, ht, ht1, ht5⟩ : ∃ t : Nat, (1 + (q : Int)) = t ∧ 1 ≤ t ∧ t ≤ 5 := ⟨1 + q, by omega, by omega, by omega⟩
  simp [ht]
  exact gl16_ok W hF h4 hc (by omega) ht5 _ _ _ _ _ _ _ _ _ _ _ _ _ _ _ _ _ _ s
theorem gl14_ok {cs : List Nat} {n E F : Nat} (W : Cs cs n E) (hF : F = cs.sum - E) (h4 : n ≤ 4) (hc : ∀ c ∈ cs, c ≤ 30) {a : Nat → Rat} (ha : Aw (.base .halves) cs n E a) (hz : ∀ k, k < n → Sz 300 (a k)) (x0 x8 x9 x10 x11 x13 x14 x15 x16 x17 x18 x19 x20 x21 x22 x23 x24 x25 : Slot) (s : DS) (ok : s.ok) : wp (gl14 [x0, .sh .rng, .sh (rD cs), .sh (.int (E : Nat)), .sh (.int (F : Nat)), .sh (.int (n : Nat)), .sh (aD n (cv cs)), .sh tuD, x8, x9, x10, x11, .sh (aD n a), x13, x14, x15, x16, x17, x18, x19, x20, x21, x22, x23, x24, x25]) s RT := by
  by_cases h2 : n = 2
  · subst h2
    have i0 := ixN' cs (k := 0) (by have := W.len; omega)
    have i1 := ixN' cs (k := 1) (by have := W.len; omega)
    have i0 : ixD (rD cs) (.int 0) = some (.int (at0 cs 0 : Nat)) := i0
    have i1 : ixD (rD cs) (.int 1) = some (.int (at0 cs 1 : Nat)) := i1
    obtain ⟨e0, e1⟩ := two_half W ha
    have hE : E < 2 ^ 23 := Nat.lt_of_le_of_lt W.le W.sum_sm
    have hc0 := W.sm _ (at0_mem (l := cs) (k := 0) (by have := W.len; omega))
    have hc1 := W.sm _ (at0_mem (l := cs) (k := 1) (by have := W.len; omega))
    have K := fun (x17 x18 x19 : Slot) => gl15_ok W hF h4 hc x0 x8 x9 x10 x11 (.sh (aD 2 a)) x13 x14 x15 x16 x17 x18 x19 x20 x21 x22 x23 x24 x25 s ok
    obtain ⟨b, hb, hbz, eb⟩ := settled_ex W h4 .orders
    have eb : ∀ s, m_settled [.str "orders", .int (E : Nat), rD cs] s = some (aD 2 b, s) := eb
    have hab : ∀ k, k < 2 → b k = a k := fun k hk => (hb k hk).trans (two_orders W ha k hk)
    have ne2 := aD_ne hab
    generalize hf : max 0 ((E : Int) - (at0 cs 1 : Nat)) = f at e0 e1
    generalize hg : max 0 ((E : Int) - (at0 cs 0 : Nat)) = g at e0 e1
    have f2 := frac_eq ((E : Int) - f - g) (d := 2) (by decide) (Nat.lt_of_lt_of_le (show 2 < 2 ^ 2 by decide) (Nat.pow_le_pow_right (by decide) (by decide)))
    rw [e_Q] at f2
    have ff := frac1 f
    have fg := frac1 g
    have zf : Sz 24 ((f : Int) : Rat) := Sz.int (by omega) (by decide)
    have zg : Sz 24 ((g : Int) : Rat) := Sz.int (by omega) (by decide)
    have zl : Sz 28 ((((E : Int) - f - g : Int) : Rat) / ((2 : Int) : Rat)) := (Sz.int (k := 26) (n := (E : Int) - f - g) (by omega) (by decide)).div (Sz.int (k := 2) (n := 2) (by decide) (by decide)) (by decide)
    have p1 := plus_eq (zf.mono (by decide : 24 ≤ 4000)) (zl.mono (by decide : 28 ≤ 4000))
    have p2 := plus_eq (zg.mono (by decide : 24 ≤ 4000)) (zl.mono (by decide : 28 ≤ 4000))
    have c2 : ((2 : Int) : Rat) = 2 := rfl
    rw [c2] at p1 p2 f2
    rw [← e0] at p1
    rw [← e1] at p2
    generalize ((((E : Int) - f - g : Int) : Rat) / (2 : Rat)) = lf at p1 p2 f2
    have t2 : (.tup [qD (a 0), qD (a 1)] : D) = aD 2 a := rfl
    have ne1 := aD_ne (n := 2) (a := a) (b := a) fun k _ => rfl
    simp [gl14, i0, i1, hf, hg, wp_eq f2, wp_eq ff, wp_eq fg, wp_eq p1, wp_eq p2, SZ_eq, t2, ne1, wp_eq eb, ne2, -ixD_tn]
    exact K _ _ _
  · have h2' : ¬ ((n : Nat) : Int) = 2 := by omega
    simp [gl14, h2, h2']
    exact gl15_ok W hF h4 hc _ _ _ _ _ _ _ _ _ _ _ _ _ _ _ _ _ _ _ s ok
theorem gl12_ok {cs : List Nat} {n E F : Nat} (W : Cs cs n E) (hF : F = cs.sum - E) (h4 : n ≤ 4) (hc : ∀ c ∈ cs, c ≤ 30) (x0 x8 x9 x10 x11 x12 x13 x14 x15 x16 x17 x18 x19 x20 x21 x22 x23 x24 x25 : Slot) (s : DS) (ok : s.ok) : wp (gl12 [x0, .sh .rng, .sh (rD cs), .sh (.int (E : Nat)), .sh (.int (F : Nat)), .sh (.int (n : Nat)), .sh (aD n (cv cs)), .sh tuD, x8, x9, x10, x11, x12, x13, x14, x15, x16, x17, x18, x19, x20, x21, x22, x23, x24, x25]) s RT := by
  obtain ⟨a, ha, hz, ea⟩ := settled_ex W h4 (.base .halves)
  have ea : ∀ s, m_settled [.str "halves", .int (E : Nat), rD cs] s = some (aD n a, s) := ea
  have i0 : isNotD .non .non = some (.bl false) := rfl
  simp [gl12, wp_eq ea, gl13, wp_eq (unlike_eq W h4 ha hz), i0]
  exact .inl ⟨rfl, gl14_ok W hF h4 hc ha hz _ _ _ _ _ _ _ _ _ _ _ _ _ _ _ _ _ _ s ok⟩
end Lw
set_option maxHeartbeats 1000000
set_option exponentiation.threshold 64
namespace Lw
open PySem PySem.Spec PyProof.Rows L2 Pu

def pr : List Nat → Nat
  | [] => 1
  | x :: l => x * pr l
def fc (n : Nat) : Nat := pr (List.range' 2 (n + 1 - 2))
theorem fc_ok {n : Nat} (h1 : 1 ≤ n) (h4 : n ≤ 4) : (∀ m, 1 ≤ m → m ≤ n → m ∣ fc n) ∧ 1 ≤ fc n ∧ fc n ≤ 24 := by
  have key : ((List.range 5).all fun n => decide (n = 0) || (decide (1 ≤ fc n) && decide (fc n ≤ 24) && (List.range 5).all fun m => decide (m = 0) || decide (n < m) || decide (fc n % m = 0))) = true := by decide +kernel
  have h := List.all_eq_true.mp key n (List.mem_range.mpr (by omega))
  simp only [Bool.or_eq_true, Bool.and_eq_true, decide_eq_true_eq, List.all_eq_true] at h
  rcases h with h | ⟨⟨h2, h3⟩, h5⟩
  · omega
  · refine ⟨fun m m1 mn => ?_, h2, h3⟩
    rcases h5 m (List.mem_range.mpr (by omega)) with (h | h) | h
    · omega
    · omega
    · exact Nat.dvd_of_mod_eq_zero h
theorem sum12 {n : Nat} {cs : List Nat} (hl : cs.length = n) (hc : ∀ c ∈ cs, c ≤ 12) : cs.sum ≤ 12 * n := by
  have := sum_le (f := fun x : Nat => x) (g := fun _ => 12) hc
  rw [sum_const, List.map_id'] at this
  omega
theorem gl11_ok {cs : List Nat} {n E F : Nat} (W : Cs cs n E) (hF : F = cs.sum - E) (h4 : n ≤ 4) (hc : ∀ c ∈ cs, c ≤ 30) {G t : Nat} (hG : ∀ m, 1 ≤ m → m ≤ n → m ∣ G) (et : t = scl n cs.sum G) (ht : 0 < t) (ht2 : t ≤ 30000) {S : List Nat} (hS : ∀ k ∈ S, k < n) (hSl : S.length ≤ 4) (x0 x8 x10 x12 x13 x14 x15 x16 x17 x18 x19 x20 x21 x22 x23 x24 x25 : Slot) (s : DS) (ok : s.ok) : wp (gl11 [x0, .sh .rng, .sh (rD cs), .sh (.int (E : Nat)), .sh (.int (F : Nat)), .sh (.int (n : Nat)), .sh (aD n (cv cs)), .sh tuD, x8, .sh (.int (t : Nat)), x10, .sh (.lst (S.map EnQ.e)), x12, x13, x14, x15, x16, x17, x18, x19, x20, x21, x22, x23, x24, x25]) s RT := by
  rw [gl11_f]
  by_cases hne : S = []
  · subst hne
    simp
    exact gl12_ok W hF h4 hc _ _ _ _ _ _ _ _ _ _ _ _ _ _ _ _ _ _ _ s ok
  · have hp : 0 < S.length := List.length_pos_iff.mpr hne
    simp [hne, hp, gl11f_in, SZ_eq]
    rw [rules4_e]
    refine wp_each (fun r : Ru => D.str (Rul.base r).nm) (fun ρ s' => s' = s ∧ ∃ x8 x14 x22 x23, ρ = [x0, .sh .rng, .sh (rD cs), .sh (.int (E : Nat)), .sh (.int (F : Nat)), .sh (.int (n : Nat)), .sh (aD n (cv cs)), .sh tuD, x8, .sh (.int (t : Nat)), x10, .sh (.lst (S.map EnQ.e)), x12, x13, x14, x15, x16, x17, x18, x19, x20, x21, x22, x23, x24, x25]) rules4
      (fun r hr ρ s' hJ => ?_) (fun ρ s' hJ => ?_) ⟨rfl, _, _, _, _, rfl⟩
    · obtain ⟨rfl, x8, x14, x22, x23, rfl⟩ := hJ
      refine ⟨_, rfl, ?_⟩
      exact lp0_ok W h4 hc hG et ht ht2 hS hne hSl r _ _ _ _ _ _ _ _ _ _ _ _ _ _ _ _ s' fun _ _ _ => ⟨rfl, _, _, _, _, rfl⟩
    · obtain ⟨rfl, x8, x14, x22, x23, rfl⟩ := hJ
      exact gl12_ok W hF h4 hc _ _ _ _ _ _ _ _ _ _ _ _ _ _ _ _ _ _ _ s' ok
theorem gl10_ok {cs : List Nat} {n E F : Nat} (W : Cs cs n E) (hF : F = cs.sum - E) (h4 : n ≤ 4) (hc : ∀ c ∈ cs, c ≤ 30) {G t : Nat} (hG : ∀ m, 1 ≤ m → m ≤ n → m ∣ G) (et : t = scl n cs.sum G) (ht : 0 < t) (ht2 : t ≤ 30000) (x0 x8 x10 x11 x12 x13 x14 x15 x16 x17 x18 x19 x20 x21 x22 x23 x24 x25 : Slot) (s : DS) (ok : s.ok) : wp (gl10 [x0, .sh .rng, .sh (rD cs), .sh (.int (E : Nat)), .sh (.int (F : Nat)), .sh (.int (n : Nat)), .sh (aD n (cv cs)), .sh tuD, x8, .sh (.int (t : Nat)), x10, x11, x12, x13, x14, x15, x16, x17, x18, x19, x20, x21, x22, x23, x24, x25]) s RT := by
  have hr : rng1D [.int (n : Nat)] = some ((List.range n).map EnQ.e) := rng1_n (by omega)
  simp [gl10, hr, wipeR, take_eq]
  refine wp_compSub (f := fun k : Nat => EnQ.e k) (List.range n) (fun k hk s ok => ⟨_, rfl, ?_, fun s => ?_⟩) ok fun l s ok hsub => ?_
  · simp
    exact wp_take (m := 2) (by decide) (by decide) ok fun r s hr ok => ⟨_, rfl, by generalize PyData.eqv _ _ = b; cases b <;> simp, ok⟩
  · simp only [e_N]
    simp
  · have hm : ∀ k ∈ l, k < n := fun k hk => List.mem_range.mp (hsub.mem hk)
    have hlen := hsub.length_le
    rw [List.length_range] at hlen
    exact gl11_ok W hF h4 hc hG et ht ht2 hm (by omega) _ _ _ _ _ _ _ _ _ _ _ _ _ _ _ _ _ s ok
theorem gl8_ok {cs : List Nat} {n E F : Nat} (W : Cs cs n E) (hF : F = cs.sum - E) (h4 : n ≤ 4) (hc : ∀ c ∈ cs, c ≤ 30) (hc2 : ∀ c ∈ cs, c ≤ 12) (x0 x8 x9 x10 x11 x12 x13 x14 x15 x16 x17 x18 x19 x20 x21 x22 x23 x24 x25 : Slot) (s : DS) (ok : s.ok) : wp (gl7 [x0, .sh .rng, .sh (rD cs), .sh (.int (E : Nat)), .sh (.int (F : Nat)), .sh (.int (n : Nat)), .sh (aD n (cv cs)), .sh tuD, x8, x9, x10, x11, x12, x13, x14, x15, x16, x17, x18, x19, x20, x21, x22, x23, x24, x25]) s RT := by
  have h1 := W.h1
  obtain ⟨f1, f2, f3⟩ := fc_ok h1 h4
  have hs := sum12 W.len hc2
  have hr : rng2D [.int 2, .int ((n : Int) + 1)] = some ((List.range' 2 (n + 1 - 2)).map EnQ.e) := rng2_n (a := 2) (b := n + 1) (by omega) (by omega)
  simp [gl7, gl8, hr]
  refine wp_rest EnQ.e (fun rest ρ s' => s' = s ∧ ∃ (g : Nat) (x10 : Slot), g * pr rest = fc n ∧ 1 ≤ g ∧ (∀ x ∈ rest, 2 ≤ x ∧ x ≤ 5) ∧ ρ = [x0, .sh .rng, .sh (rD cs), .sh (.int (E : Nat)), .sh (.int (F : Nat)), .sh (.int (n : Nat)), .sh (aD n (cv cs)), .sh tuD, x8, .sh (.int (g : Nat)), x10, x11, x12, x13, x14, x15, x16, x17, x18, x19, x20, x21, x22, x23, x24, x25]) (List.range' 2 (n + 1 - 2))
    (fun x xs ρ s' hJ => ?_) (fun ρ s' hJ => ?_) ⟨rfl, 1, _, by rw [Nat.one_mul]; rfl, by omega, fun x hx => by have := List.mem_range'_1.mp hx; omega, rfl⟩
  · obtain ⟨rfl, g, x10, hg, hg1, hx, rfl⟩ := hJ
    have hx1 := hx x (by simp)
    have hg24 : g ≤ 24 := by
      have : g ∣ fc n := ⟨pr (x :: xs), hg.symm⟩
      have := Nat.le_of_dvd (by omega) this
      omega
    have mm : mulD (.int (g : Nat)) (.int (x : Nat)) = some (.int ((g : Int) * (x : Nat))) := mulD_sm 64 (by simp; omega) (by simp; omega)
    have ec : (g : Int) * (x : Nat) = ((g * x : Nat) : Int) := (Int.natCast_mul _ _).symm
    refine ⟨_, rfl, ?_⟩
    simp only [e_N]
    simp [mm]
    refine ⟨g * x, ?_, ?_, fun y hy => hx y (by simp [hy]), ec⟩
    · rw [← hg]; show g * x * pr xs = g * (x * pr xs); rw [Nat.mul_assoc]
    · have := Nat.mul_le_mul hg1 hx1.1; omega
  · obtain ⟨rfl, g, x10, hg, hg1, hx, rfl⟩ := hJ
    have hg : g = fc n := by have : g * 1 = fc n := hg; omega
    subst hg
    have m1 : mulD (.int (fc n : Nat)) (.int 2) = some (.int ((fc n : Int) * 2)) := mulD_sm 64 (by simp; omega) (by decide)
    have m2 : mulD (.int ((fc n : Int) * 2)) (.int (max 1 (cs.sum : Nat))) = some (.int ((fc n : Int) * 2 * max 1 ((cs.sum : Nat) : Int))) := mulD_sm 64 (by omega) (by omega)
    have et : (fc n : Int) * 2 * max 1 ((cs.sum : Nat) : Int) = (scl n cs.sum (fc n) : Nat) := by
      unfold scl
      rw [Int.natCast_mul, show ((fc n * 2 : Nat) : Int) = (fc n : Int) * 2 by omega, show ((max 1 cs.sum : Nat) : Int) = max 1 ((cs.sum : Nat) : Int) by omega]
    have hle : scl n cs.sum (fc n) ≤ 48 * 48 := by
      have := Nat.mul_le_mul (show fc n * 2 ≤ 48 by omega) (show max 1 cs.sum ≤ 48 by omega)
      exact this
    have hpos : 0 < scl n cs.sum (fc n) := by
      unfold scl
      exact Nat.mul_pos (by omega) (by omega)
    rw [et] at m2
    simp [gl9, sumN, m1]
    rw [m2]
    exact ⟨_, rfl, gl10_ok W hF h4 hc f1 rfl hpos (by omega) _ _ _ _ _ _ _ _ _ _ _ _ _ _ _ _ _ _ s' ok⟩
theorem gl5_ok {cs : List Nat} {n E F : Nat} (W : Cs cs n E) (hF : F = cs.sum - E) (h4 : n ≤ 4) (hc : ∀ c ∈ cs, c ≤ 30) (hc2 : ∀ c ∈ cs, c ≤ 12) (x0 x8 x9 x10 x11 x12 x13 x14 x15 x16 x17 x18 x19 x20 x21 x22 x23 x24 x25 : Slot) (s : DS) (ok : s.ok) : wp (gl6 [x0, .sh .rng, .sh (rD cs), .sh (.int (E : Nat)), .sh (.int (F : Nat)), .sh (.int (n : Nat)), .sh (aD n (cv cs)), .sh tuD, x8, x9, x10, x11, x12, x13, x14, x15, x16, x17, x18, x19, x20, x21, x22, x23, x24, x25]) s RT := by
  rw [gl6_in]
  simp [SZ_eq]
  rw [rules_e]
  refine wp_each (fun r : Rul => D.str r.nm) (fun ρ s' => s' = s ∧ ∃ x8 x14 x15 x16 x20 x21, ρ = [x0, .sh .rng, .sh (rD cs), .sh (.int (E : Nat)), .sh (.int (F : Nat)), .sh (.int (n : Nat)), .sh (aD n (cv cs)), .sh tuD, x8, x9, x10, x11, x12, x13, x14, x15, x16, x17, x18, x19, x20, x21, x22, x23, x24, x25]) rules
    (fun r hr ρ s' hJ => ?_) (fun ρ s' hJ => ?_) ⟨rfl, _, _, _, _, _, _, rfl⟩
  · obtain ⟨rfl, x8, x14, x15, x16, x20, x21, rfl⟩ := hJ
    refine ⟨_, rfl, ?_⟩
    exact lb0_ok W hF h4 r _ _ _ _ _ _ _ _ _ _ _ _ _ _ _ _ _ _ s' fun _ _ _ _ _ => ⟨rfl, _, _, _, _, _, _, rfl⟩
  · obtain ⟨rfl, x8, x14, x15, x16, x20, x21, rfl⟩ := hJ
    exact gl8_ok W hF h4 hc hc2 _ _ _ _ _ _ _ _ _ _ _ _ _ _ _ _ _ _ _ s' ok
theorem main_wp (ns : List Int) (hl : ns.length ≤ 63) (seed : Int) (h0 : 0 ≤ seed) (h1 : seed < 2147483647) : wp (g_law (rho0 26)) ⟨ns, 0, 0, seed⟩ fun r _ => r.1 = .rt (.bl true) := by
  have ok0 : (DS.mk ns 0 0 seed).ok := ⟨Int.le_refl _, Int.le_refl _, h0, h1, hl⟩
  rw [gl_eq]
  unfold gl0 rho0
  generalize (DS.mk ns 0 0 seed) = s at ok0
  simp only [List.replicate, take_eq]
  simp
  refine wp_take (m := 4) (by decide) (by decide) ok0 fun q s hq ok => ?_
  obtain ⟨n, hn, hn1, hn4⟩ : ∃ n : Nat, (1 + (q : Int)) = n ∧ 1 ≤ n ∧ n ≤ 4 := ⟨1 + q, by omega, by omega, by omega⟩
  have hr : rng1D [.int (n : Nat)] = some ((List.range n).map EnQ.e) := rng1_n (by omega)
  simp [hn, hr, wipeR]
  refine wp_compS (fun _ y => ∃ a : Nat, y = EnQ.e a ∧ a ≤ 12) (List.range n) (fun x hx s ok => ⟨_, rfl, ?_⟩) ok fun ys s ok hlen hys => ?_
  · simp
    exact wp_take (m := 13) (by decide) (by decide) ok fun r s hr ok => ⟨ok, r, rfl, by omega⟩
  · obtain ⟨cs, rfl, hcs⟩ := choose_all (P := fun c : Nat => c ≤ 12) (f := fun c : Nat => (EnQ.e c : D)) fun d hd => by
      obtain ⟨x, _, a, h1, h2⟩ := hys d hd
      exact ⟨a, h1, h2⟩
    have hl : cs.length = n := by simpa using hlen
    have hs := sum12 hl hcs
    have t1 : ((cs.sum : Nat) : Int) + 1 = ((cs.sum + 1 : Nat) : Int) := rfl
    simp [gl1, take_eq, sumN, t1, -Int.natCast_add]
    refine wp_take (m := cs.sum + 1) (by omega) (by omega) ok fun E s hE ok => ?_
    have W : Cs cs n E := ⟨hl, hn1, by omega, fun c hc => by have := hcs c hc; omega, by omega⟩
    have hsub : (cs.sum : Int) - (E : Int) = ((cs.sum - E : Nat) : Int) := by omega
    simp [gl2, sumN, hsub, gl3, hl, gl4, wipeR]
    refine wp_compT (f := fun c : Nat => qD (((c : Nat) : Int) : Rat)) _ (fun c hc => ⟨_, rfl, fun s => ?_⟩) ?_
    · simp only [e_N]
      simp [wp_eq (frac1 ((c : Nat) : Int))]
    · simp [gl5]
      rw [cv_list W.len (f := cv cs) (fun _ _ => rfl)]
      exact gl5_ok W rfl (by omega) (fun c hc => by have := hcs c hc; omega) hcs _ _ _ _ _ _ _ _ _ _ _ _ _ _ _ _ _ _ _ s ok
theorem main (ns : List Int) (hl : ns.length ≤ 63) (seed : Int) (h0 : 0 ≤ seed) (h1 : seed < 2147483647) : ∃ ρ' s', g_law (rho0 26) ⟨ns, 0, 0, seed⟩ = some ((.rt (.bl true), ρ'), s') := by
  obtain ⟨⟨r, ρ'⟩, s', e, q⟩ := main_wp ns hl seed h0 h1
  have q : r = .rt (.bl true) := q
  subst q
  exact ⟨ρ', s', e⟩
end Lw
set_option maxHeartbeats 0
namespace Lw
open PySem PySem.Spec PyProof.Rows L2 Pu
def q__law_take : He.DefD := ⟨("_law_take", none), "_law_take", "_law_take", defArgs s__law_take, defBody s__law_take, defScope s__law_take, [], []⟩
def q_check_claims : He.DefD := ⟨("check_claims", none), "check_claims", "check_claims", defArgs s_check_claims, defBody s_check_claims, defScope s_check_claims, [], []⟩
def q_fraction : He.DefD := ⟨("fraction", none), "fraction", "fraction", defArgs s_fraction, defBody s_fraction, defScope s_fraction, [], []⟩
def q_by_parts : He.DefD := ⟨("by_parts", none), "by_parts", "by_parts", defArgs s_by_parts, defBody s_by_parts, defScope s_by_parts, [], []⟩
def q_compare : He.DefD := ⟨("compare", none), "compare", "compare", defArgs s_compare, defBody s_compare, defScope s_compare, [], []⟩
def q_ascending : He.DefD := ⟨("ascending", none), "ascending", "ascending", defArgs s_ascending, defBody s_ascending, defScope s_ascending, [], []⟩
def q_over : He.DefD := ⟨("over", none), "over", "over", defArgs s_over, defBody s_over, defScope s_over, [], []⟩
def q_minus : He.DefD := ⟨("minus", none), "minus", "minus", defArgs s_minus, defBody s_minus, defScope s_minus, [], []⟩
def q_least_of : He.DefD := ⟨("least_of", none), "least_of", "least_of", defArgs s_least_of, defBody s_least_of, defScope s_least_of, [], []⟩
def q_leveled : He.DefD := ⟨("leveled", none), "leveled", "leveled", defArgs s_leveled, defBody s_leveled, defScope s_leveled, [], []⟩
def q_alike : He.DefD := ⟨("alike", none), "alike", "alike", defArgs s_alike, defBody s_alike, defScope s_alike, [], []⟩
def q_alike_losses : He.DefD := ⟨("alike_losses", none), "alike_losses", "alike_losses", defArgs s_alike_losses, defBody s_alike_losses, defScope s_alike_losses, [], []⟩
def q_halves : He.DefD := ⟨("halves", none), "halves", "halves", defArgs s_halves, defBody s_halves, defScope s_halves, [], []⟩
def q_orders_of : He.DefD := ⟨("orders_of", none), "orders_of", "orders_of", defArgs s_orders_of, defBody s_orders_of, defScope s_orders_of, [], []⟩
def q_by_orders : He.DefD := ⟨("by_orders", none), "by_orders", "by_orders", defArgs s_by_orders, defBody s_by_orders, defScope s_by_orders, [], []⟩
def q_settled : He.DefD := ⟨("settled", none), "settled", "settled", defArgs s_settled, defBody s_settled, defScope s_settled, [], []⟩
def q_plus : He.DefD := ⟨("plus", none), "plus", "plus", defArgs s_plus, defBody s_plus, defScope s_plus, [], []⟩
def q_max_of : He.DefD := ⟨("max_of", none), "max_of", "max_of", defArgs s_max_of, defBody s_max_of, defScope s_max_of, [], []⟩
def q_pair_of : He.DefD := ⟨("pair_of", none), "pair_of", "pair_of", defArgs s_pair_of, defBody s_pair_of, defScope s_pair_of, [], []⟩
def q_unlike_pair : He.DefD := ⟨("unlike_pair", none), "unlike_pair", "unlike_pair", defArgs s_unlike_pair, defBody s_unlike_pair, defScope s_unlike_pair, [], []⟩
def q_total : He.DefD := ⟨("total", none), "total", "total", defArgs s_total, defBody s_total, defScope s_total, [], []⟩
def q_is_right : He.DefD := ⟨("is_right", none), "is_right", "is_right", defArgs s_is_right, defBody s_is_right, defScope s_is_right, [], []⟩
def q__law_begin : He.DefD := ⟨("_law_begin", none), "_law_begin", "_law_begin", defArgs s__law_begin, defBody s__law_begin, defScope s__law_begin, [], []⟩
def q_law : He.DefD := ⟨("law", none), "law", "law", defArgs s_law, defBody s_law, defScope s_law, [], []⟩
def fn : List He.DefD := q__law_take :: q_check_claims :: q_fraction :: q_by_parts :: q_compare :: q_ascending :: q_over :: q_minus :: q_least_of :: q_leveled :: q_alike :: q_alike_losses :: q_halves :: q_orders_of :: q_by_orders :: q_settled :: q_plus :: q_max_of :: q_pair_of :: q_unlike_pair :: q_total :: q_is_right :: q__law_begin :: q_law :: []
def fa : List He.Fa := .glo "_law_take" :: .glo "check_claims" :: .glo "fraction" :: .glo "by_parts" :: .glo "compare" :: .glo "ascending" :: .glo "over" :: .glo "minus" :: .glo "least_of" :: .glo "leveled" :: .glo "alike" :: .glo "alike_losses" :: .glo "halves" :: .glo "orders_of" :: .glo "by_orders" :: .glo "settled" :: .glo "plus" :: .glo "max_of" :: .glo "pair_of" :: .glo "unlike_pair" :: .glo "total" :: .glo "is_right" :: .glo "_law_begin" :: .glo "law" :: .free "len" :: .free "sum" :: .free "min" :: .free "max" :: .free "all" :: .free "any" :: .free "abs" :: .free "int" :: .free "sorted" :: .free "tuple" :: .free "list" :: .free "range" :: .free "enumerate" :: .free "zip" :: .int "MOST_CLAIMS" 6 :: []
abbrev R : PySem.W.OpenRow := PySem.W.OpenLaw.row PySem.Challenge.rw_marketguild_k70_whole_claims_together
def ex (K : PySem.W.Frag) : Bool := bltB K "gcd" "math.gcd" && (tupB K "ZERO" [0, 1])
abbrev hk : PySem.W.Hook := He.hookX 4 fa fn [] [] ex
def ob (s : PySem.W.SharedT) : He.AlX := He.obsX 4 fa fn [] [] ex (HandSHeadRun.getT s)
theorem ob_eq (s : PySem.W.SharedT) : ob s = hk.obs s.abs := He.obsX_eq (HandSHeadRun.getT_eq s)
def nms0 : List PySem.Str := ["MarketplaceError", "ZeroDenominator", "GuildError", "ZERO", "fraction", "plus", "minus", "over", "compare", "total", "MOST_CLAIMS", "check_claims", "by_parts", "least_of", "ascending", "leveled", "alike", "alike_losses", "halves", "orders_of", "by_orders", "settled", "is_right", "pair_of", "max_of", "unlike_pair", "_law_begin", "_law_take"]
def nms : List PySem.Str := nms0
theorem run (w : World) : Pu.RunEqI R (PySem.W.view R.prog [0, 33]) hk ob 4000 nms w := by
  unfold Pu.RunEqI
  kernel_rfl
theorem facts {P : Program} {w : World} {K : PySem.W.Frag} {h : Heap} {mg : Str → Option Value} {f : Addr} (X : K.In h) (G : h.Ns mainGlobals mg) (hfa : mg ("law" : Str) = some (.ref f)) (c : He.SaysD fa fn K) (cx : ex K = true) :
    ∃ fd : FuncData, (∀ (s : Shared) (v : Value), BindsTo s fd ⟨[v], []⟩ [("script", v)]) ∧ ∀ base : Heap, K.In base → base.Ns mainGlobals mg → FnOk P w K mg base CX0 6 f fd ["script"] (spLaw K 26 g_law) := by
  have x_gcd := (Bool.and_eq_true_iff.mp (show (bltB K "gcd" "math.gcd" && (tupB K "ZERO" [0, 1])) = true from cx)).1
  have r0 := (Bool.and_eq_true_iff.mp (show (bltB K "gcd" "math.gcd" && (tupB K "ZERO" [0, 1])) = true from cx)).2
  have x_ZERO : (tupB K "ZERO" [0, 1]) = true := r0
  have h_gcd := bltB_ok X G x_gcd
  have k_ZERO : CstOk mg "ZERO" c_ZERO K := tupB_ok X G x_ZERO
  have B : Bi mg := ⟨He.free_ok X G (c.fact 24 (f := .free "len") rfl), He.free_ok X G (c.fact 25 (f := .free "sum") rfl), He.free_ok X G (c.fact 26 (f := .free "min") rfl), He.free_ok X G (c.fact 27 (f := .free "max") rfl), He.free_ok X G (c.fact 28 (f := .free "all") rfl), He.free_ok X G (c.fact 29 (f := .free "any") rfl), He.free_ok X G (c.fact 30 (f := .free "abs") rfl), He.free_ok X G (c.fact 31 (f := .free "int") rfl), He.free_ok X G (c.fact 32 (f := .free "sorted") rfl), He.free_ok X G (c.fact 33 (f := .free "tuple") rfl), He.free_ok X G (c.fact 34 (f := .free "list") rfl), He.free_ok X G (c.fact 35 (f := .free "range") rfl), He.free_ok X G (c.fact 36 (f := .free "enumerate") rfl), He.free_ok X G (c.fact 37 (f := .free "zip") rfl)⟩
  obtain ⟨t_MOST_CLAIMS, e_MOST_CLAIMS⟩ := He.int_ok X G (c.fact 38 (f := .int "MOST_CLAIMS" 6) rfl)
  have k_MOST_CLAIMS : CstOk mg "MOST_CLAIMS" c_MOST_CLAIMS K := CstOk.int e_MOST_CLAIMS
  obtain ⟨fd__law_take, F__law_take⟩ := c.def_ 0 (d := q__law_take) rfl
  obtain ⟨fd_check_claims, F_check_claims⟩ := c.def_ 1 (d := q_check_claims) rfl
  obtain ⟨fd_fraction, F_fraction⟩ := c.def_ 2 (d := q_fraction) rfl
  obtain ⟨fd_by_parts, F_by_parts⟩ := c.def_ 3 (d := q_by_parts) rfl
  obtain ⟨fd_compare, F_compare⟩ := c.def_ 4 (d := q_compare) rfl
  obtain ⟨fd_ascending, F_ascending⟩ := c.def_ 5 (d := q_ascending) rfl
  obtain ⟨fd_over, F_over⟩ := c.def_ 6 (d := q_over) rfl
  obtain ⟨fd_minus, F_minus⟩ := c.def_ 7 (d := q_minus) rfl
  obtain ⟨fd_least_of, F_least_of⟩ := c.def_ 8 (d := q_least_of) rfl
  obtain ⟨fd_leveled, F_leveled⟩ := c.def_ 9 (d := q_leveled) rfl
  obtain ⟨fd_alike, F_alike⟩ := c.def_ 10 (d := q_alike) rfl
  obtain ⟨fd_alike_losses, F_alike_losses⟩ := c.def_ 11 (d := q_alike_losses) rfl
  obtain ⟨fd_halves, F_halves⟩ := c.def_ 12 (d := q_halves) rfl
  obtain ⟨fd_orders_of, F_orders_of⟩ := c.def_ 13 (d := q_orders_of) rfl
  obtain ⟨fd_by_orders, F_by_orders⟩ := c.def_ 14 (d := q_by_orders) rfl
  obtain ⟨fd_settled, F_settled⟩ := c.def_ 15 (d := q_settled) rfl
  obtain ⟨fd_plus, F_plus⟩ := c.def_ 16 (d := q_plus) rfl
  obtain ⟨fd_max_of, F_max_of⟩ := c.def_ 17 (d := q_max_of) rfl
  obtain ⟨fd_pair_of, F_pair_of⟩ := c.def_ 18 (d := q_pair_of) rfl
  obtain ⟨fd_unlike_pair, F_unlike_pair⟩ := c.def_ 19 (d := q_unlike_pair) rfl
  obtain ⟨fd_total, F_total⟩ := c.def_ 20 (d := q_total) rfl
  obtain ⟨fd_is_right, F_is_right⟩ := c.def_ 21 (d := q_is_right) rfl
  obtain ⟨fd__law_begin, F__law_begin⟩ := c.def_ 22 (d := q__law_begin) rfl
  obtain ⟨fd_law, F_law⟩ := c.def_ 23 (d := q_law) rfl
  have e := hfa.symm.trans (He.glo_ok X G (c.fact 23 (f := .glo "law") rfl))
  cases e
  have b__law_take : Binds K fd__law_take ["d", "many"] [] := FunD.bindsN F__law_take fun _ _ _ _ _ _ us hl => match us, hl with | [_, _], _ => rfl
  have b_check_claims : Binds K fd_check_claims ["estate", "claims"] [] := FunD.bindsN F_check_claims fun _ _ _ _ _ _ us hl => match us, hl with | [_, _], _ => rfl
  have b_fraction : Binds K fd_fraction ["numerator", "denominator"] [] := FunD.bindsN F_fraction fun _ _ _ _ _ _ us hl => match us, hl with | [_, _], _ => rfl
  have b_by_parts : Binds K fd_by_parts ["estate", "claims"] [] := FunD.bindsN F_by_parts fun _ _ _ _ _ _ us hl => match us, hl with | [_, _], _ => rfl
  have b_compare : Binds K fd_compare ["a", "b"] [] := FunD.bindsN F_compare fun _ _ _ _ _ _ us hl => match us, hl with | [_, _], _ => rfl
  have b_ascending : Binds K fd_ascending ["claims"] [] := FunD.bindsN F_ascending fun _ _ _ _ _ _ us hl => match us, hl with | [_], _ => rfl
  have b_over : Binds K fd_over ["a", "b"] [] := FunD.bindsN F_over fun _ _ _ _ _ _ us hl => match us, hl with | [_, _], _ => rfl
  have b_minus : Binds K fd_minus ["a", "b"] [] := FunD.bindsN F_minus fun _ _ _ _ _ _ us hl => match us, hl with | [_, _], _ => rfl
  have b_least_of : Binds K fd_least_of ["one", "other"] [] := FunD.bindsN F_least_of fun _ _ _ _ _ _ us hl => match us, hl with | [_, _], _ => rfl
  have b_leveled : Binds K fd_leveled ["estate", "claims"] [] := FunD.bindsN F_leveled fun _ _ _ _ _ _ us hl => match us, hl with | [_, _], _ => rfl
  have b_alike : Binds K fd_alike ["estate", "claims"] [] := FunD.bindsN F_alike fun _ _ _ _ _ _ us hl => match us, hl with | [_, _], _ => rfl
  have b_alike_losses : Binds K fd_alike_losses ["estate", "claims"] [] := FunD.bindsN F_alike_losses fun _ _ _ _ _ _ us hl => match us, hl with | [_, _], _ => rfl
  have b_halves : Binds K fd_halves ["estate", "claims"] [] := FunD.bindsN F_halves fun _ _ _ _ _ _ us hl => match us, hl with | [_, _], _ => rfl
  have b_orders_of : Binds K fd_orders_of ["many"] [] := FunD.bindsN F_orders_of fun _ _ _ _ _ _ us hl => match us, hl with | [_], _ => rfl
  have b_by_orders : Binds K fd_by_orders ["estate", "claims"] [] := FunD.bindsN F_by_orders fun _ _ _ _ _ _ us hl => match us, hl with | [_, _], _ => rfl
  have b_settled : Binds K fd_settled ["rule", "estate", "claims"] [] := FunD.bindsN F_settled fun _ _ _ _ _ _ us hl => match us, hl with | [_, _, _], _ => rfl
  have b_plus : Binds K fd_plus ["a", "b"] [] := FunD.bindsN F_plus fun _ _ _ _ _ _ us hl => match us, hl with | [_, _], _ => rfl
  have b_max_of : Binds K fd_max_of ["one", "other"] [] := FunD.bindsN F_max_of fun _ _ _ _ _ _ us hl => match us, hl with | [_, _], _ => rfl
  have b_pair_of : Binds K fd_pair_of ["one", "other", "whole"] [] := FunD.bindsN F_pair_of fun _ _ _ _ _ _ us hl => match us, hl with | [_, _, _], _ => rfl
  have b_unlike_pair : Binds K fd_unlike_pair ["estate", "claims", "awards"] [] := FunD.bindsN F_unlike_pair fun _ _ _ _ _ _ us hl => match us, hl with | [_, _, _], _ => rfl
  have b_total : Binds K fd_total ["items"] [] := FunD.bindsN F_total fun _ _ _ _ _ _ us hl => match us, hl with | [_], _ => rfl
  have b_is_right : Binds K fd_is_right ["estate", "claims", "awards"] [] := FunD.bindsN F_is_right fun _ _ _ _ _ _ us hl => match us, hl with | [_, _, _], _ => rfl
  have b__law_begin : Binds K fd__law_begin ["script"] [] := FunD.bindsN F__law_begin fun _ _ _ _ _ _ us hl => match us, hl with | [_], _ => rfl
  have b := FunD.bindsA (ps := ["script"]) F_law fun _ _ _ _ _ _ us hl => match us, hl with | [_], _ => rfl
  refine ⟨fd_law, fun s v => b s [v] rfl, fun base _ _ => ?_⟩
  have d__law_take : DefOk P w K mg base "_law_take" 1 ["d", "many"] m__law_take := ok__law_take B F__law_take (He.glo_ok X G (c.fact 0 (f := .glo "_law_take") rfl)) b__law_take
  have d_check_claims : DefOk P w K mg base "check_claims" 1 ["estate", "claims"] m_check_claims := ok_check_claims B k_MOST_CLAIMS F_check_claims (He.glo_ok X G (c.fact 1 (f := .glo "check_claims") rfl)) b_check_claims
  have d_fraction : DefOk P w K mg base "fraction" 1 ["numerator", "denominator"] m_fraction := ok_fraction B h_gcd F_fraction (He.glo_ok X G (c.fact 2 (f := .glo "fraction") rfl)) b_fraction
  have d_by_parts : DefOk P w K mg base "by_parts" 2 ["estate", "claims"] m_by_parts := ok_by_parts B k_ZERO d_check_claims d_fraction F_by_parts (He.glo_ok X G (c.fact 3 (f := .glo "by_parts") rfl)) b_by_parts
  have d_compare : DefOk P w K mg base "compare" 1 ["a", "b"] m_compare := ok_compare B F_compare (He.glo_ok X G (c.fact 4 (f := .glo "compare") rfl)) b_compare
  have d_ascending : DefOk P w K mg base "ascending" 2 ["claims"] m_ascending := ok_ascending B d_compare F_ascending (He.glo_ok X G (c.fact 5 (f := .glo "ascending") rfl)) b_ascending
  have d_over : DefOk P w K mg base "over" 2 ["a", "b"] m_over := ok_over B d_fraction F_over (He.glo_ok X G (c.fact 6 (f := .glo "over") rfl)) b_over
  have d_minus : DefOk P w K mg base "minus" 2 ["a", "b"] m_minus := ok_minus B d_fraction F_minus (He.glo_ok X G (c.fact 7 (f := .glo "minus") rfl)) b_minus
  have d_least_of : DefOk P w K mg base "least_of" 2 ["one", "other"] m_least_of := ok_least_of B d_compare F_least_of (He.glo_ok X G (c.fact 8 (f := .glo "least_of") rfl)) b_least_of
  have d_leveled : DefOk P w K mg base "leveled" 3 ["estate", "claims"] m_leveled := ok_leveled B d_ascending d_over d_minus d_fraction d_compare d_least_of F_leveled (He.glo_ok X G (c.fact 9 (f := .glo "leveled") rfl)) b_leveled
  have d_alike : DefOk P w K mg base "alike" 4 ["estate", "claims"] m_alike := ok_alike B d_check_claims d_leveled d_fraction F_alike (He.glo_ok X G (c.fact 10 (f := .glo "alike") rfl)) b_alike
  have d_alike_losses : DefOk P w K mg base "alike_losses" 4 ["estate", "claims"] m_alike_losses := ok_alike_losses B d_check_claims d_leveled d_fraction d_minus F_alike_losses (He.glo_ok X G (c.fact 11 (f := .glo "alike_losses") rfl)) b_alike_losses
  have d_halves : DefOk P w K mg base "halves" 4 ["estate", "claims"] m_halves := ok_halves B d_check_claims d_leveled d_fraction d_minus F_halves (He.glo_ok X G (c.fact 12 (f := .glo "halves") rfl)) b_halves
  have d_orders_of : DefOk P w K mg base "orders_of" 1 ["many"] m_orders_of := ok_orders_of B F_orders_of (He.glo_ok X G (c.fact 13 (f := .glo "orders_of") rfl)) b_orders_of
  have d_by_orders : DefOk P w K mg base "by_orders" 2 ["estate", "claims"] m_by_orders := ok_by_orders B d_check_claims d_orders_of d_fraction F_by_orders (He.glo_ok X G (c.fact 14 (f := .glo "by_orders") rfl)) b_by_orders
  have d_settled : DefOk P w K mg base "settled" 5 ["rule", "estate", "claims"] m_settled := ok_settled B d_by_parts d_alike d_alike_losses d_halves d_by_orders F_settled (He.glo_ok X G (c.fact 15 (f := .glo "settled") rfl)) b_settled
  have d_plus : DefOk P w K mg base "plus" 2 ["a", "b"] m_plus := ok_plus B d_fraction F_plus (He.glo_ok X G (c.fact 16 (f := .glo "plus") rfl)) b_plus
  have d_max_of : DefOk P w K mg base "max_of" 2 ["one", "other"] m_max_of := ok_max_of B d_compare F_max_of (He.glo_ok X G (c.fact 17 (f := .glo "max_of") rfl)) b_max_of
  have d_pair_of : DefOk P w K mg base "pair_of" 3 ["one", "other", "whole"] m_pair_of := ok_pair_of B k_ZERO d_max_of d_minus d_plus d_over F_pair_of (He.glo_ok X G (c.fact 18 (f := .glo "pair_of") rfl)) b_pair_of
  have d_unlike_pair : DefOk P w K mg base "unlike_pair" 4 ["estate", "claims", "awards"] m_unlike_pair := ok_unlike_pair B d_check_claims d_plus d_pair_of d_fraction F_unlike_pair (He.glo_ok X G (c.fact 19 (f := .glo "unlike_pair") rfl)) b_unlike_pair
  have d_total : DefOk P w K mg base "total" 3 ["items"] m_total := ok_total B k_ZERO d_plus F_total (He.glo_ok X G (c.fact 20 (f := .glo "total") rfl)) b_total
  have d_is_right : DefOk P w K mg base "is_right" 4 ["estate", "claims", "awards"] m_is_right := ok_is_right B k_ZERO d_check_claims d_total d_fraction d_compare F_is_right (He.glo_ok X G (c.fact 21 (f := .glo "is_right") rfl)) b_is_right
  exact ok_law B d__law_take d_settled d_unlike_pair d_fraction d_total d_is_right d_minus d_plus d_compare F_law (ok_begin B F__law_begin) b__law_begin (He.glo_ok X G (c.fact 22 (f := .glo "_law_begin") rfl)) F__law_begin.kp
end Lw
open PySem PySem.W PySem.Calls PyProof.Rows
theorem PySem.Challenge.cw_marketguild_k70_whole_claims_together_holds : PySem.Challenge.rw_marketguild_k70_whole_claims_together.Holds := by
  w_on; o_law
  refine Pu.head_anyI (r := OpenLaw.row PySem.Challenge.rw_marketguild_k70_whole_claims_together) (q := view (OpenLaw.row PySem.Challenge.rw_marketguild_k70_whole_claims_together).prog [0, 33]) (H := Lw.hk) (ob := Lw.ob) (M := 4000) (loose := Lw.nms) (d := HandSHeadRun.topDef (OpenLaw.row PySem.Challenge.rw_marketguild_k70_whole_claims_together).prog 33) (kwd := []) Lw.ob_eq
    Lw.run (by kernel_rfl) (by kernel_rfl) (by kernel_rfl) (by rfl) (by first | assumption | decide +kernel) (by decide +kernel) ⟨rfl, rfl, rfl, rfl, rfl, by decide +kernel⟩ ?hw ?hc
  case hw => w_witness2
  case hc =>
    refine L2.walk_ofE (l := PySem.Challenge.rw_marketguild_k70_whole_claims_together) (n := 63) (k := 6) (x := "script") (CX := L2.CX0) rfl (by decide) (by kernel_rfl) ⟨rfl, by decide, by decide⟩ ?F (fun _ _ _ _ z => z)
    intro w mg fa h Y G hmg0
    obtain ⟨K, KX, c⟩ := Y
    have hmg : mg ("law" : PySem.Str) = some (.ref fa) := by
      have e : (HandSHeadRun.topDef (OpenLaw.row PySem.Challenge.rw_marketguild_k70_whole_claims_together).prog 33).name = ("law" : PySem.Str) := by kernel_rfl
      rw [← e]
      exact hmg0
    obtain ⟨fd, hb, hF⟩ := Lw.facts (P := (PySem.Challenge.rw_marketguild_k70_whole_claims_together).prog) (w := w) KX G hmg (congrArg (fun z : He.AlT => z.1) c.t) c.more
    exact ⟨K, fd, Pu.spLaw K 26 Lw.g_law, KX, hb, fun H a ns hl _ hS => ⟨a, ns, rfl, hS, hl, fun seed h0 h1 => Lw.main ns hl seed h0 h1, fun _ => rfl⟩, hF⟩
