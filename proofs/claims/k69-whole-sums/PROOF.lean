import PyProof.Rows.All
import Wide.All
import OpenK.AllK
import Wide.FinOn
import HandS.ForMost
import HandS.ForExc
import HandS.Wide
import HandS.Walk
import HandS.Lambda
import HandS.ExcIs
import HandS.CallSlots
import HandS.RaiseMore
import HandS.IsInst
import HandS.Evl
import HandS.Flow
import HandS.Style
import HandS.TupAny
import HandS.TupMul
import HandS.TupLe
import HandS.Zip
import HandS.Conv
import HandS.TryMany
import HandS.EndTab
import HandS.HeadWalk
import HandS.Head0
import HandS.Head1
import HandS.Head2
import HandS.HeadEnd
import HandS.HeadHook1
import HandS.HeadHook2
import HandS.HeadHook3
import HandS.HeadHook4
import PySem.Challenge.RW_ratiohouse_k69_whole_sums_of_whole_parts
set_option Elab.async false
set_option linter.all false
set_option maxRecDepth 100000
set_option maxHeartbeats 4000000
namespace PF
open PySem PySem.Spec PyProof.Rows L2
open Evl (Ex)

/-- plain data -/
inductive D where
  | non | bl (b : Bool) | int (i : Int) | str (s : Str) | ty (n : String) | fn (a : Addr) | tape
  | tup (l : List D) | lst (l : List D) | frl (l : List D) | dct (ks : List Key) (vs : List D)
  | lam (f c : Addr) (q : Str) (t : Option Addr) (Hb : Hp)

/-- what a computation over plain data ends in: a value, or an own error of the class of that name; T is what the tape holds -/
inductive Ot (α : Type) where
  | ok (a : α) (T : List D)
  | ex (c : Str) (T : List D)
abbrev M (α : Type) := List D → Option (Ot α)
def M.ret {α : Type} (a : α) : M α := fun T => some (.ok a T)
def M.bind {α β : Type} (x : M α) (k : α → M β) : M β := fun T => match x T with
  | some (.ok a T') => k a T'
  | some (.ex c T') => some (.ex c T')
  | none => none
def M.bad {α : Type} : M α := fun _ => none
def M.raise {α : Type} (c : Str) : M α := fun T => some (.ex c T)
/-- an option as a computation: none is stuck -/
def M.of {α : Type} : Option α → M α
  | some a => M.ret a
  | none => M.bad
theorem M.bind_ret {α β : Type} (a : α) (k : α → M β) : M.bind (M.ret a) k = k a := rfl
theorem M.bind_bad {α β : Type} (k : α → M β) : M.bind M.bad k = M.bad := rfl
theorem M.bind_raise {α β : Type} (c : Str) (k : α → M β) : M.bind (M.raise c) k = M.raise c := rfl
theorem M.of_some {α : Type} (a : α) : M.of (some a) = M.ret a := rfl
theorem M.of_none {α : Type} : (M.of none : M α) = M.bad := rfl
theorem M.bind_assoc {α β γ : Type} (x : M α) (f : α → M β) (g : β → M γ) : M.bind (M.bind x f) g = M.bind x fun a => M.bind (f a) g := by
  funext T
  unfold M.bind
  cases x T with
  | none => rfl
  | some o => cases o <;> rfl

/-! ### values that stand for data -/
mutual
inductive Rep (K : PySem.W.Frag) (ta : Option Addr) (H : Hp) : V → D → Prop
  | non : Rep K ta H .non .non
  | bl (b : Bool) : Rep K ta H (.bl b) (.bl b)
  | int (i : Int) : Rep K ta H (.int i) (.int i)
  | str (x : Str) : Rep K ta H (.str x) (.str x)
  | ty (n : String) : Rep K ta H (.ty n) (.ty n)
  | fn (a : Addr) : Rep K ta H (.ref a) (.fn a)
  | tape {a : Addr} : ta = some a → Rep K ta H (.ref a) .tape
  | lam {f c : Addr} {q : Str} {t : Option Addr} {Hb : Hp} : t = none ∨ ta = t → Ex Hb H → H c = some (LamX.CodeO c q) → Rep K ta H (.ref f) (.lam f c q t Hb)
  | tup {a : Addr} {xs : List V} {ds : List D} : SqT K H a xs → Reps K ta H xs ds → ds.length ≤ sizeLine → Rep K ta H (.ref a) (.tup ds)
  | lst {a : Addr} {xs : List V} {ds : List D} : H a = some (.lst xs) → Reps K ta H xs ds → ds.length ≤ sizeLine → Rep K ta H (.ref a) (.lst ds)
  | frl {a : Addr} {xs : List V} {ds : List D} : SqL K H a xs → Reps K ta H xs ds → ds.length ≤ sizeLine → Rep K ta H (.ref a) (.frl ds)
  | dct {a : Addr} {ks : List Key} {xs : List V} {ds : List D} : H a = some (.dK (ks.zip xs)) → ks.length = xs.length → Reps K ta H xs ds → ks.length ≤ sizeLine → Rep K ta H (.ref a) (.dct ks ds)
inductive Reps (K : PySem.W.Frag) (ta : Option Addr) (H : Hp) : List V → List D → Prop
  | nil : Reps K ta H [] []
  | cons {v : V} {vs : List V} {d : D} {ds : List D} : Rep K ta H v d → Reps K ta H vs ds → Reps K ta H (v :: vs) (d :: ds)
end
section
variable {K : PySem.W.Frag} {ta : Option Addr} {H H' : Hp}
mutual
theorem Rep.mono (e : Ex H H') {v : V} {d : D} (h : Rep K ta H v d) : Rep K ta H' v d := by
  cases h with
  | non => exact .non
  | bl b => exact .bl b
  | int i => exact .int i
  | str x => exact .str x
  | ty n => exact .ty n
  | fn a => exact .fn a
  | tape h => exact .tape h
  | lam h b c => exact .lam h (b.trans e) (e _ _ c)
  | tup h r l => exact .tup (Evl.ex_t e h) (Reps.mono e r) l
  | lst h r l => exact .lst (e _ _ h) (Reps.mono e r) l
  | frl h r l => exact .frl (Evl.ex_l e h) (Reps.mono e r) l
  | dct h q r l => exact .dct (e _ _ h) q (Reps.mono e r) l
theorem Reps.mono (e : Ex H H') {vs : List V} {ds : List D} (h : Reps K ta H vs ds) : Reps K ta H' vs ds := by
  cases h with
  | nil => exact .nil
  | cons r t => exact .cons (Rep.mono e r) (Reps.mono e t)
end
theorem Reps.length : ∀ {vs : List V} {ds : List D}, Reps K ta H vs ds → vs.length = ds.length
  | _, _, .nil => rfl
  | _, _, .cons _ t => by simp [Reps.length t]
theorem Reps.get : ∀ {vs : List V} {ds : List D} {i : Nat} {d : D}, Reps K ta H vs ds → ds[i]? = some d → ∃ v, vs[i]? = some v ∧ Rep K ta H v d
  | _, _, _, _, .nil, e => by simp at e
  | _, _, 0, _, .cons r _, e => by simp at e; subst e; exact ⟨_, rfl, r⟩
  | _, _, i + 1, x, .cons _ t, e => by
    obtain ⟨u, h1, h2⟩ := Reps.get (i := i) (d := x) t (by simpa using e)
    exact ⟨u, by simpa using h1, h2⟩
theorem Reps.append : ∀ {xs ys : List V} {us ws : List D}, Reps K ta H xs us → Reps K ta H ys ws → Reps K ta H (xs ++ ys) (us ++ ws)
  | _, _, _, _, .nil, s => s
  | _, _, _, _, .cons r t, s => .cons r (Reps.append t s)
theorem Reps.take : ∀ {xs : List V} {us : List D} (n : Nat), Reps K ta H xs us → Reps K ta H (xs.take n) (us.take n)
  | _, _, 0, _ => .nil
  | _, _, _ + 1, .nil => .nil
  | _, _, n + 1, .cons r t => .cons r (Reps.take n t)
theorem Reps.drop : ∀ {xs : List V} {us : List D} (n : Nat), Reps K ta H xs us → Reps K ta H (xs.drop n) (us.drop n)
  | _, _, 0, r => r
  | _, _, _ + 1, .nil => .nil
  | _, _, n + 1, .cons _ t => Reps.drop n t
theorem Reps.set {x : V} {u : D} (r : Rep K ta H x u) : ∀ {xs : List V} {us : List D} (i : Nat), Reps K ta H xs us → Reps K ta H (xs.set i x) (us.set i u)
  | _, _, _, .nil => .nil
  | _, _, 0, .cons _ t => .cons r t
  | _, _, i + 1, .cons q t => .cons q (Reps.set r i t)
theorem Reps.dropLast : ∀ {xs : List V} {us : List D}, Reps K ta H xs us → Reps K ta H xs.dropLast us.dropLast
  | _, _, .nil => .nil
  | _, _, .cons _ .nil => .nil
  | _, _, .cons r (.cons q t) => .cons r (Reps.dropLast (.cons q t))
theorem Reps.reverse {xs : List V} {us : List D} (h : Reps K ta H xs us) : Reps K ta H xs.reverse us.reverse := by
  induction h using Reps.rec (motive_1 := fun _ _ _ => True) with
  | nil => exact .nil
  | cons r t _ ih => rw [List.reverse_cons, List.reverse_cons]; exact ih.append (.cons r .nil)
  | _ => trivial
end
end PF

namespace PF
open PySem PySem.Spec PyProof.Rows L2
open Evl (Ex)

/-- the heap H, its pure part H0 (what data lean on), the tape's items T -/
structure Pu (K : PySem.W.Frag) (ta : Option Addr) (Tb : List (Addr × Str)) (H H0 : Hp) (T : List D) : Prop where
  ex : Ex H0 H
  tp : ∀ a, ta = some a → H0 a = none ∧ ∃ vs, H a = some (.lst vs) ∧ Reps K ta H0 vs T
  tb : LamX.Tabs Tb H
  nt : ∀ a ps, H0 a ≠ some (.tbl ps)
/-- nothing lies at p, but maybe a table -/
def Fr (H : Hp) (p : Addr) : Prop := ∀ o, H p = some o → ¬ ∀ ps, o ≠ .tbl ps
theorem Fr.of {H : Hp} {p : Addr} (h : H p = none) : Fr H p := fun o e => by rw [h] at e; cases e
theorem Fr.ne {H : Hp} {p a : Addr} {o : HO} (h : Fr H p) (e : H a = some o) (n : ∀ ps, o ≠ .tbl ps) : a ≠ p := fun z => h o (z ▸ e) n
/-- from (H, H0) on: all but the tape and the tables stays; the pure part grows by new objects -/
structure Go (ta : Option Addr) (H H0 H' H0' : Hp) : Prop where
  keep : ∀ a o, H a = some o → ta ≠ some a → (∀ ps, o ≠ .tbl ps) → H' a = some o
  dom : ∀ a o, H a = some o → (∀ ps, o ≠ .tbl ps) → ∃ o', H' a = some o' ∧ (∀ ps, o' ≠ .tbl ps) ∧ ((∃ xs, o = .lst xs) → ∃ ys, o' = .lst ys)
  up : Ex H0 H0'
  new : ∀ a xs, H a = some (.lst xs) → H0 a = none → H0' a = none
section
variable {K : PySem.W.Frag} {ta : Option Addr} {Tb : List (Addr × Str)} {H H0 H1 H01 H2 H02 : Hp} {T T' : List D}
theorem Go.refl : Go ta H H0 H H0 := ⟨fun _ _ h _ _ => h, fun _ o h n => ⟨o, h, n, id⟩, Ex.refl _, fun _ _ _ h => h⟩
theorem Go.trans (a : Go ta H H0 H1 H01) (b : Go ta H1 H01 H2 H02) : Go ta H H0 H2 H02 :=
  ⟨fun x o h n t => b.keep x o (a.keep x o h n t) n t, fun x o h m => let ⟨o', h', m', l'⟩ := a.dom x o h m; let ⟨o2, h2, m2, l2⟩ := b.dom x o' h' m'; ⟨o2, h2, m2, fun z => l2 (l' z)⟩, a.up.trans b.up,
    fun x xs h n => let ⟨o', h', m', l'⟩ := a.dom x _ h (fun _ z => by cases z); let ⟨ys, e⟩ := l' ⟨_, rfl⟩; b.new x ys (e ▸ h') (a.new x xs h n)⟩
theorem Go.free (a : Go ta H H0 H1 H01) {p : Addr} (h : Fr H1 p) : Fr H p := fun o e n => let ⟨o', h', n', _⟩ := a.dom p o e n; h o' h' n'
/-- a new object that is known from now on -/
theorem Go.laid {p : Addr} {o : HO} (h : H p = none) (e : Ex H0 H) : Go ta H H0 (upd H p o) (upd H0 p o) :=
  ⟨fun a u q _ _ => by rw [upd_ne (ne_of_none q h)]; exact q, fun a u q n => ⟨u, by rw [upd_ne (ne_of_none q h)]; exact q, n, id⟩,
    fun a u q => by rw [upd_ne (ne_of_none (e a u q) h)]; exact q, fun a u q n => by rw [upd_ne (ne_of_none q h)]; exact n⟩
/-- a new object that may change later -/
theorem Go.own {p : Addr} {o : HO} (h : H p = none) : Go ta H H0 (upd H p o) H0 :=
  ⟨fun a u q _ _ => by rw [upd_ne (ne_of_none q h)]; exact q, fun a u q n => ⟨u, by rw [upd_ne (ne_of_none q h)]; exact q, n, id⟩, Ex.refl _, fun _ _ _ n => n⟩
theorem Pu.none_of (I : Pu K ta Tb H H0 T) {p : Addr} (h : H p = none) : H0 p = none := by
  cases e : H0 p with
  | none => rfl
  | some o => rw [I.ex p o e] at h; cases h
theorem Pu.tape_ne (I : Pu K ta Tb H H0 T) {p : Addr} (h : H p = none) : ta ≠ some p := fun e => by
  obtain ⟨_, vs, q, _⟩ := I.tp p e
  rw [h] at q; cases q
theorem Pu.laid (I : Pu K ta Tb H H0 T) {p : Addr} {o : HO} (h : H p = none) (nt : ∀ ps, o ≠ .tbl ps) : Pu K ta Tb (upd H p o) (upd H0 p o) T := by
  have h0 := I.none_of h
  refine ⟨fun a u q => ?_, fun a e => ?_, I.tb.ext fun b u q => by rw [upd_ne (ne_of_none q h)]; exact q, fun a ps q => ?_⟩
  · by_cases z : a = p
    · subst z; rw [upd_same] at q ⊢; exact q
    · rw [upd_ne z] at q ⊢; exact I.ex a u q
  · obtain ⟨n, vs, q, r⟩ := I.tp a e
    have z : a ≠ p := ne_of_none q h
    exact ⟨by rw [upd_ne z]; exact n, vs, by rw [upd_ne z]; exact q, r.mono (Ex.new h0)⟩
  · by_cases z : a = p
    · subst z; rw [upd_same] at q; cases q; exact nt ps rfl
    · rw [upd_ne z] at q; exact I.nt a ps q
/-- an object that the pure part does not know is laid, or a list changed -/
theorem Pu.own (I : Pu K ta Tb H H0 T) {p : Addr} {o : HO} (h : H0 p = none) (n : ta ≠ some p) (t : H p = none ∨ ∃ xs, H p = some (.lst xs)) : Pu K ta Tb (upd H p o) H0 T := by
  refine ⟨I.ex.mut h, fun a e => ?_, fun q hq => ?_, I.nt⟩
  · obtain ⟨m, vs, q, r⟩ := I.tp a e
    have z : a ≠ p := fun z => n (by rw [e, z])
    exact ⟨m, vs, by rw [upd_ne z]; exact q, r⟩
  · obtain ⟨ps, h1, h2, h3⟩ := I.tb q hq
    have z : ∀ {c : Addr} {u : HO}, H c = some u → (∀ xs, u ≠ .lst xs) → c ≠ p := fun {c u} e n z => by
      rw [z] at e
      rcases t with t | ⟨xs, t⟩
      · rw [t] at e; cases e
      · rw [t] at e; cases e; exact n xs rfl
    refine ⟨ps, by rw [upd_ne (z h1 (fun _ z => by cases z))]; exact h1, h2, fun pos cv hc => ?_⟩
    obtain ⟨c, e1, e2⟩ := h3 pos cv hc
    exact ⟨c, e1, by rw [upd_ne (z e2 (fun _ z => by unfold LamX.CodeO at z; cases z))]; exact e2⟩
/-- the tape is written -/
theorem Pu.write (I : Pu K ta Tb H H0 T) {p : Addr} {vs : List V} (h : ta = some p) (r : Reps K ta H0 vs T') : Pu K ta Tb (upd H p (.lst vs)) H0 T' := by
  obtain ⟨n, vs0, q0, r0⟩ := I.tp p h
  refine ⟨I.ex.mut n, fun a e => ?_, fun q hq => ?_, I.nt⟩
  · rw [h] at e; cases e
    exact ⟨n, vs, upd_same, r⟩
  · obtain ⟨ps, h1, h2, h3⟩ := I.tb q hq
    have z : ∀ {c : Addr} {u : HO}, H c = some u → (∀ xs, u ≠ .lst xs) → c ≠ p := fun {c u} e n z => by
      rw [z, q0] at e; cases e; exact n _ rfl
    refine ⟨ps, by rw [upd_ne (z h1 (fun _ z => by cases z))]; exact h1, h2, fun pos cv hc => ?_⟩
    obtain ⟨c, e1, e2⟩ := h3 pos cv hc
    exact ⟨c, e1, by rw [upd_ne (z e2 (fun _ z => by unfold LamX.CodeO at z; cases z))]; exact e2⟩
theorem Go.write (I : Pu K ta Tb H H0 T) {p : Addr} {vs : List V} (h : ta = some p) : Go ta H H0 (upd H p (.lst vs)) H0 := by
  obtain ⟨n, vs0, q0, r0⟩ := I.tp p h
  refine ⟨fun a u q m _ => ?_, fun a u q m => ?_, Ex.refl _, fun _ _ _ n => n⟩
  · rw [upd_ne (fun z => m (by rw [h, z]))]; exact q
  · by_cases z : a = p
    · exact ⟨.lst vs, by rw [z, upd_same], (fun _ z => (by cases z)), fun _ => ⟨_, rfl⟩⟩
    · exact ⟨u, by rw [upd_ne z]; exact q, m, id⟩
end

/-- the wish of a refusal, the tables of lambda code -/
abbrev XW := XK × List (Addr × Str)
/-! ### expressions -/
abbrev Env := List (Option D)
abbrev FE := Env → M D
abbrev FT := Env → M Bool
abbrev FA := Env → M (List D)
/-- the slots stand for the environment -/
structure Sl (K : PySem.W.Frag) (ta : Option Addr) (H0 : Hp) (σ : L2.St) (env : Env) : Prop where
  len : env.length = σ.length
  get : ∀ (i : Nat) (d : D), env[i]? = some (some d) → ∃ v, σ[i]? = some (some v) ∧ Rep K ta H0 v d
theorem Sl.mono {K : PySem.W.Frag} {ta : Option Addr} {H0 H0' : Hp} {σ : L2.St} {env : Env} (e : Ex H0 H0') (s : Sl K ta H0 σ env) : Sl K ta H0' σ env := ⟨s.len, fun i d h => let ⟨v, h1, h2⟩ := s.get i d h; ⟨v, h1, h2.mono e⟩⟩
theorem Sl.set {K : PySem.W.Frag} {ta : Option Addr} {H0 : Hp} {σ : L2.St} {env : Env} (s : Sl K ta H0 σ env) {v : V} {d : D} (r : Rep K ta H0 v d) (i : Nat) : Sl K ta H0 (σ.set i (some v)) (env.set i (some d)) := by
  refine ⟨by simp [s.len], fun j e h => ?_⟩
  by_cases z : i = j
  · subst z
    by_cases hi : i < env.length
    · rw [List.getElem?_set_self hi] at h
      cases h
      exact ⟨v, List.getElem?_set_self (by rw [← s.len]; exact hi), r⟩
    · rw [List.getElem?_eq_none (by simpa using hi)] at h; cases h
  · rw [List.getElem?_set_ne z] at h ⊢
    exact s.get j e h
def setS : L2.St → List Nat → List V → L2.St
  | σ, i :: is, v :: vs => setS (σ.set i (some v)) is vs
  | σ, _, _ => σ
def setE : Env → List Nat → List D → Env
  | σ, i :: is, v :: vs => setE (σ.set i (some v)) is vs
  | σ, _, _ => σ
theorem Sl.setS {K : PySem.W.Frag} {ta : Option Addr} {H0 : Hp} : ∀ {is : List Nat} {vs : List V} {ds : List D} {σ : L2.St} {env : Env}, Reps K ta H0 vs ds → Sl K ta H0 σ env → Sl K ta H0 (PF.setS σ is vs) (PF.setE env is ds)
  | [], _, _, _, _, _, s => by unfold PF.setS PF.setE; exact s
  | _ :: _, [], _, _, _, .nil, s => by unfold PF.setS PF.setE; exact s
  | i :: is, _ :: _, _, _, _, .cons r t, s => Sl.setS (is := is) t (s.set r i)

/-- what follows a computation that ends in o: by value k, by error E -/
def End {α : Type} (K : PySem.W.Frag) (mg : Str → Option Value) (E : XK) (ta : Option Addr) (Tb : List (Addr × Str)) (H H0 : Hp) (o : Ot α) (k : α → Hp → Hp → Prop) : Prop :=
  match o with
  | .ok a T' => ∀ H' H0', Go ta H H0 H' H0' → Pu K ta Tb H' H0' T' → k a H' H0'
  | .ex c T' => ∃ C, mg c = some (.ref C) ∧ ∀ H' H0', Go ta H H0 H' H0' → Pu K ta Tb H' H0' T' → E (.ref C) none H'
section
variable {α β : Type} {K : PySem.W.Frag} {mg : Str → Option Value} {E : XK} {ta : Option Addr} {Tb : List (Addr × Str)} {H H0 H1 H01 : Hp} {o : Ot α}
theorem End.go {k : α → Hp → Hp → Prop} (g : Go ta H H0 H1 H01) (h : End K mg E ta Tb H H0 o k) : End K mg E ta Tb H1 H01 o k := by
  cases o with
  | ok a T => exact fun H' H0' g' I => h H' H0' (g.trans g') I
  | ex c T => obtain ⟨C, e, q⟩ := h; exact ⟨C, e, fun H' H0' g' I => q H' H0' (g.trans g') I⟩
theorem End.imp {k k' : α → Hp → Hp → Prop} (h : End K mg E ta Tb H H0 o k) (i : ∀ a H' H0', Go ta H H0 H' H0' → k a H' H0' → k' a H' H0') : End K mg E ta Tb H H0 o k' := by
  cases o with
  | ok a T => exact fun H' H0' g' I => i a H' H0' g' (h H' H0' g' I)
  | ex c T => exact h
end
/-- the generic reading: x computes, run on (H, H0, T) -/
def Run {α : Type} (K : PySem.W.Frag) (mg : Str → Option Value) (E : XK) (ta : Option Addr) (Tb : List (Addr × Str)) (H H0 : Hp) (T : List D) (x : M α) (k : α → Hp → Hp → Prop) : Prop := ∃ o, x T = some o ∧ End K mg E ta Tb H H0 o k
section
variable {α β : Type} {K : PySem.W.Frag} {mg : Str → Option Value} {E : XK} {ta : Option Addr} {Tb : List (Addr × Str)} {H H0 H1 H01 : Hp} {T : List D}
theorem Run.imp {x : M α} {k k' : α → Hp → Hp → Prop} (h : Run K mg E ta Tb H H0 T x k) (i : ∀ a H' H0', Go ta H H0 H' H0' → k a H' H0' → k' a H' H0') : Run K mg E ta Tb H H0 T x k' := let ⟨o, e, q⟩ := h; ⟨o, e, q.imp i⟩
theorem Run.go {x : M α} {k : α → Hp → Hp → Prop} (g : Go ta H H0 H1 H01) (h : Run K mg E ta Tb H H0 T x k) : Run K mg E ta Tb H1 H01 T x k := let ⟨o, e, q⟩ := h; ⟨o, e, q.go g⟩
theorem Run.bind {x : M α} {f : α → M β} {k : β → Hp → Hp → Prop} (h : Run K mg E ta Tb H H0 T (M.bind x f) k) :
    ∃ o, x T = some o ∧ match o with
      | .ok a T' => Run K mg E ta Tb H H0 T' (f a) k
      | .ex c T' => ∃ C, mg c = some (.ref C) ∧ ∀ H' H0', Go ta H H0 H' H0' → Pu K ta Tb H' H0' T' → E (.ref C) none H' := by
  obtain ⟨o, e, q⟩ := h
  unfold M.bind at e
  cases hx : x T with
  | none => rw [hx] at e; cases e
  | some ox =>
    rw [hx] at e
    cases ox with
    | ok a T' => exact ⟨_, rfl, o, e, q⟩
    | ex c T' => cases e; exact ⟨_, rfl, q⟩
theorem Run.ret {a : α} {k : α → Hp → Hp → Prop} (I : Pu K ta Tb H H0 T) (h : Run K mg E ta Tb H H0 T (M.ret a) k) : k a H H0 := by
  obtain ⟨o, e, q⟩ := h
  cases e
  exact q H H0 Go.refl I
theorem Run.of {a : Option α} {k : α → Hp → Hp → Prop} (I : Pu K ta Tb H H0 T) (h : Run K mg E ta Tb H H0 T (M.of a) k) : ∃ b, a = some b ∧ ∀ H' H0', Go ta H H0 H' H0' → Pu K ta Tb H' H0' T → k b H' H0' := by
  obtain ⟨o, e, q⟩ := h
  cases a with
  | none => cases e
  | some b => cases e; exact ⟨b, rfl, q⟩
end

def tF (K : PySem.W.Frag) (mg : Str → Option Value) (E : XW) (F : FE) : TE := fun σ H Q => ∃ ta H0 env T, Sl K ta H0 σ env ∧ Pu K ta E.2 H H0 T ∧ Run K mg E.1 ta E.2 H H0 T (F env) fun d H' H0' => ∀ v, Rep K ta H0' v d → Q v H'
def tFT (K : PySem.W.Frag) (mg : Str → Option Value) (E : XW) (F : FT) : TT := fun σ H Q => ∃ ta H0 env T, Sl K ta H0 σ env ∧ Pu K ta E.2 H H0 T ∧ Run K mg E.1 ta E.2 H H0 T (F env) fun b H' _ => Q b H'
def tFA (K : PySem.W.Frag) (mg : Str → Option Value) (E : XW) (F : FA) : TA := fun σ H Q => ∃ ta H0 env T, Sl K ta H0 σ env ∧ Pu K ta E.2 H H0 T ∧ Run K mg E.1 ta E.2 H H0 T (F env) fun ds H' H0' => ∀ vs, Reps K ta H0' vs ds → Q vs H'
/-- the expression computes F -/
abbrev PF (X : Cx) (E : XW) (e : Expr) (F : FE) : Prop := PE X e (tF X.K X.mg E F)
abbrev PFT (X : Cx) (E : XW) (e : Expr) (F : FT) : Prop := PT X e (tFT X.K X.mg E F)
abbrev PFW (X : Cx) (E : XW) (e : Expr) (F : FT) : Prop := PW X e (tFT X.K X.mg E F)
abbrev PFA (X : Cx) (E : XW) (es : List Expr) (F : FA) : Prop := PA X es (tFA X.K X.mg E F)
section
variable {X : Cx} {E : XW} {e a b c : Expr} {es : List Expr}
theorem PE.imp {t u : TE} (h : PE X e t) (i : ∀ σ H Q, u σ H Q → t σ H Q) : PE X e u := ⟨fun pins s σ H Q I q => h.run pins s σ H Q I (i σ H Q q)⟩
theorem PT.imp {t u : TT} (h : PT X e t) (i : ∀ σ H Q, u σ H Q → t σ H Q) : PT X e u := ⟨fun pins s σ H Q I q => h.run pins s σ H Q I (i σ H Q q)⟩
theorem PW.imp {t u : TT} (h : PW X e t) (i : ∀ σ H Q, u σ H Q → t σ H Q) : PW X e u := ⟨fun whole pins s σ H Q I q => h.run whole pins s σ H Q I (i σ H Q q)⟩
theorem PA.imp {t u : TA} (h : PA X es t) (i : ∀ σ H Q, u σ H Q → t σ H Q) : PA X es u := ⟨fun pos pins s σ H Q I q => h.run pos pins s σ H Q I (i σ H Q q)⟩
theorem PS.imp {st : Stmt} {t u : TS} (h : PS X st t) (i : ∀ D σ H, u D σ H → t D σ H) : PS X st u := ⟨fun pins s σ H D I q => h.run pins s σ H D I (i D σ H q)⟩
theorem PSs.imp {st : List Stmt} {t u : TS} (h : PSs X st t) (i : ∀ D σ H, u D σ H → t D σ H) : PSs X st u := ⟨fun pins s σ H D I q => h.run pins s σ H D I (i D σ H q)⟩

/-! names, constants -/
def fVar (i : Nat) : FE := fun env => match env[i]? with
  | some (some d) => M.ret d
  | _ => M.bad
def fC (d : D) : FE := fun _ => M.ret d
theorem imp_var {i : Nat} (σ : L2.St) (H : Hp) (Q : VK) (h : tF X.K X.mg E (fVar i) σ H Q) : tVar i σ H Q := by
  obtain ⟨ta, H0, env, T, S, I, r⟩ := h
  unfold fVar at r
  split at r
  · rename_i d e
    obtain ⟨v, h1, h2⟩ := S.get i d e
    exact ⟨v, h1, r.ret I v h2⟩
  · obtain ⟨o, z, _⟩ := r; cases z
theorem pf_var (i : Nat) {x : Str} {pos : Pos} (hN : X.N[i]? = some x := by rfl) (hv : Vis X.env.scope x := by first | exact Or.inl rfl | exact Or.inr (Or.inl rfl) | exact Or.inr (Or.inr rfl)) (hd : (x == ("__debug__" : Str)) = false := by decide)
    (hcd : (x == ("__classdict__" : Str)) = false := by decide) : PF X E (.Name x pos) (fVar i) := PE.imp (pv i hN hv hd hcd) imp_var
theorem imp_c {v : V} {d : D} (r : ∀ ta H, Rep X.K ta H v d) (σ : L2.St) (H : Hp) (Q : VK) (h : tF X.K X.mg E (fC d) σ H Q) : tC v σ H Q := by
  obtain ⟨ta, H0, env, T, S, I, q⟩ := h
  exact q.ret I v (r _ _)
theorem pf_int {i j pos} : PF X E (.Constant (.int i) j pos) (fC (.int i)) := PE.imp pe_int (imp_c fun _ _ => .int i)
theorem pf_bl {i j pos} : PF X E (.Constant (.bool i) j pos) (fC (.bl i)) := PE.imp pe_bl (imp_c fun _ _ => .bl i)
theorem pf_non {j pos} : PF X E (.Constant .none j pos) (fC .non) := PE.imp pe_non (imp_c fun _ _ => .non)
theorem pf_str {i j pos} : PF X E (.Constant (.str i) j pos) (fC (.str i)) := PE.imp pe_str (imp_c fun _ _ => .str i)
theorem pf_ty {x : Str} {n : String} {pos : Pos} (hg : Gl X x) (hm : X.mg x = none) (hv : bootBuiltins x = some (.type n)) (hn : x ≠ "__name__" := by decide) (hd : (x == ("__debug__" : Str)) = false := by decide) : PF X E (.Name x pos) (fC (.ty n)) :=
  PE.imp (pe_bltn (v := .ty n) hg hm hv rfl hn hd) (imp_c fun _ _ => .ty n)
/-- a class, a def of the module, as a value -/
theorem pf_gref {x : Str} {a : Addr} {pos : Pos} (hg : Gl X x) (hm : X.mg x = some (.ref a)) (hd : (x == ("__debug__" : Str)) = false := by decide) : PF X E (.Name x pos) (fC (.fn a)) :=
  PE.imp (pe_glob (v := .ref a) hg hm rfl hd) (imp_c fun _ _ => .fn a)
/-- a constant of the module -/
theorem pf_gint {x : Str} {i : Int} {u : Value} {pos : Pos} (hg : Gl X x) (hm : X.mg x = some u) (r : RelV (.int i) u) (hd : (x == ("__debug__" : Str)) = false := by decide) : PF X E (.Name x pos) (fC (.int i)) :=
  PE.imp (pe_glob (v := .int i) hg hm r hd) (imp_c fun _ _ => .int i)
theorem pf_gstr {x s : Str} {u : Value} {pos : Pos} (hg : Gl X x) (hm : X.mg x = some u) (r : RelV (.str s) u) (hd : (x == ("__debug__" : Str)) = false := by decide) : PF X E (.Name x pos) (fC (.str s)) :=
  PE.imp (pe_glob (v := .str s) hg hm r hd) (imp_c fun _ _ => .str s)

/-! a computation, then the next -/
theorem run_end {E : XK} {α β : Type} {K : PySem.W.Frag} {mg : Str → Option Value} {ta : Option Addr} {Tb : List (Addr × Str)} {H H0 : Hp} {T : List D} {x : M α} {f : α → M β} {k : β → Hp → Hp → Prop} {j : α → Hp → Hp → Prop}
    (h : Run K mg E ta Tb H H0 T (M.bind x f) k) (n : ∀ a H' H0' T', Go ta H H0 H' H0' → Pu K ta Tb H' H0' T' → Run K mg E ta Tb H' H0' T' (f a) k → j a H' H0') : Run K mg E ta Tb H H0 T x j := by
  obtain ⟨o, e, q⟩ := h.bind
  refine ⟨o, e, ?_⟩
  cases o with
  | ok a T' => exact fun H' H0' g I => n a H' H0' T' g I (q.go g)
  | ex c T' => exact q
/-- an operation on two values, by data -/
def RD (K : PySem.W.Frag) (r : R2) (g : D → D → Option D) : Prop := ∀ ta Tb H H0 T (x y : V) (dx dy dz : D) (Q : VK), Pu K ta Tb H H0 T → Rep K ta H0 x dx → Rep K ta H0 y dy → g dx dy = some dz →
  (∀ v H' H0', Go ta H H0 H' H0' → Pu K ta Tb H' H0' T → Rep K ta H0' v dz → Q v H') → r x y H Q
def fOp (g : D → D → Option D) (F G : FE) : FE := fun env => M.bind (F env) fun x => M.bind (G env) fun y => M.of (g x y)
theorem imp_op {r : R2} {g : D → D → Option D} {F G : FE} (hr : RD X.K r g) (σ : L2.St) (H : Hp) (Q : VK) (h : tF X.K X.mg E (fOp g F G) σ H Q) : tOp r (tF X.K X.mg E F) (tF X.K X.mg E G) σ H Q := by
  obtain ⟨ta, H0, env, T, S, I, q⟩ := h
  refine ⟨ta, H0, env, T, S, I, run_end q fun dx H1 H01 T1 g1 I1 q1 v rv => ?_⟩
  refine ⟨ta, H01, env, T1, S.mono g1.up, I1, run_end q1 fun dy H2 H02 T2 g2 I2 q2 w rw' => ?_⟩
  obtain ⟨dz, e, k⟩ := q2.of I2
  exact hr ta E.2 H2 H02 T2 v w dx dy dz Q I2 (rv.mono g2.up) rw' e fun u H' H0' g3 I3 r3 => k H' H0' g3 I3 u r3
theorem pf_op {op : Operator} {r : R2} {g : D → D → Option D} {F G : FE} {pos : Pos} (ho : OpR X (binaryOp op) r) (hr : RD X.K r g) (ha : PF X E a F) (hb : PF X E b G) : PF X E (.BinOp a op b pos) (fOp g F G) := PE.imp (pe_op ho ha hb) (imp_op hr)
theorem pf_cmp {op : CmpOp} {r : R2} {g : D → D → Option D} {F G : FE} {pos : Pos} (ho : OpR X (compareOp op) r) (hr : RD X.K r g) (ha : PF X E a F) (hb : PF X E b G) (hm : behindInMarks op b = false) : PF X E (.Compare a [op] [b] pos) (fOp g F G) := PE.imp (pe_cmpR ho ha hb hm) (imp_op hr)
/-- truth of a bool alone -/
def blD : D → Option Bool
  | .bl b => some b
  | _ => none
theorem Rep.bl_of {K : PySem.W.Frag} {ta : Option Addr} {H : Hp} {v : V} {d : D} {b : Bool} (r : Rep K ta H v d) (e : blD d = some b) : v = .bl b := by
  cases d <;> cases e
  cases r
  rfl
def fBool (F : FE) : FT := fun env => M.bind (F env) fun x => M.of (blD x)
theorem imp_test {t : TE} {F : FE} (ht : ∀ σ H Q, tF X.K X.mg E F σ H Q → t σ H Q) (σ : L2.St) (H : Hp) (Q : Bool → Hp → Prop) (h : tFT X.K X.mg E (fBool F) σ H Q) : tTest t σ H Q := by
  obtain ⟨ta, H0, env, T, S, I, q⟩ := h
  refine ht _ _ _ ⟨ta, H0, env, T, S, I, run_end q fun dx H1 H01 T1 g1 I1 q1 v rv => ?_⟩
  obtain ⟨b, e, k⟩ := q1.of I1
  exact ⟨b, rv.bl_of e, k H1 H01 Go.refl I1⟩
theorem pft_cmp {op : CmpOp} {r : R2} {g : D → D → Option D} {F G : FE} {pos : Pos} (ho : OpR X (compareOp op) r) (hr : RD X.K r g) (ha : PF X E a F) (hb : PF X E b G) (hm : behindInMarks op b = false) : PFT X E (.Compare a [op] [b] pos) (fBool (fOp g F G)) :=
  PT.imp (pt_cmpR ho ha hb hm) (imp_test (imp_op hr))
/-- a < b < c -/
def fChain (g g' : D → D → Option D) (F G J : FE) : FE := fun env => M.bind (F env) fun x => M.bind (G env) fun y => M.bind (M.of ((g x y).bind blD)) fun b => if b = true then M.bind (J env) fun z => M.of (g' y z) else M.ret (.bl false)
theorem imp_chain {r r' : R2} {g g' : D → D → Option D} {F G J : FE} (hr : RD X.K r g) (hr' : RD X.K r' g') (σ : L2.St) (H : Hp) (Q : VK) (h : tF X.K X.mg E (fChain g g' F G J) σ H Q) : tChain r r' (tF X.K X.mg E F) (tF X.K X.mg E G) (tF X.K X.mg E J) σ H Q := by
  obtain ⟨ta, H0, env, T, S, I, q⟩ := h
  refine ⟨ta, H0, env, T, S, I, run_end q fun dx H1 H01 T1 g1 I1 q1 v rv => ?_⟩
  refine ⟨ta, H01, env, T1, S.mono g1.up, I1, run_end q1 fun dy H2 H02 T2 g2 I2 q2 w rw' => ?_⟩
  obtain ⟨o, e, q3⟩ := q2.bind
  cases hz : g dx dy with
  | none => rw [hz] at e; cases e
  | some dz =>
    rw [hz, Option.bind_some] at e
    cases hb : blD dz with
    | none => rw [hb] at e; cases e
    | some b =>
      rw [hb] at e
      cases e
      refine hr ta E.2 H2 H02 T2 v w dx dy dz _ I2 (rv.mono g2.up) rw' hz fun u H3 H03 g3 I3 r3 => ⟨b, r3.bl_of hb, ?_⟩
      have q4 := q3.go g3
      cases b with
      | false =>
        rw [if_neg Bool.false_ne_true]
        exact Run.ret I3 q4 _ (.bl false)
      | true =>
        rw [if_pos rfl]
        refine ⟨ta, H03, env, T2, S.mono ((g1.up.trans g2.up).trans g3.up), I3, run_end q4 fun dz' H4 H04 T4 g4 I4 q5 w2 rw2 => ?_⟩
        obtain ⟨du, e5, k⟩ := q5.of I4
        exact hr' ta E.2 H4 H04 T4 w w2 dy dz' du Q I4 (rw'.mono (g3.up.trans g4.up)) rw2 e5 fun u H' H0' g6 I6 r6 => k H' H0' g6 I6 u r6
theorem pf_chain {op op' : CmpOp} {r r' : R2} {g g' : D → D → Option D} {F G J : FE} {pos : Pos} (ho : OpR X (compareOp op) r) (hr : RD X.K r g) (ho' : OpR X (compareOp op') r') (hr' : RD X.K r' g') (ha : PF X E a F) (hb : PF X E b G) (hc : PF X E c J)
    (hm : lastMarks [op, op'] [b, c] = false := by with_unfolding_all rfl) : PF X E (.Compare a [op, op'] [b, c] pos) (fChain g g' F G J) := PE.imp (pe_chain ho ho' ha hb hc hm) (imp_chain hr hr')
theorem pft_chain {op op' : CmpOp} {r r' : R2} {g g' : D → D → Option D} {F G J : FE} {pos : Pos} (ho : OpR X (compareOp op) r) (hr : RD X.K r g) (ho' : OpR X (compareOp op') r') (hr' : RD X.K r' g') (ha : PF X E a F) (hb : PF X E b G) (hc : PF X E c J)
    (hm : lastMarks [op, op'] [b, c] = false := by with_unfolding_all rfl) : PFT X E (.Compare a [op, op'] [b, c] pos) (fBool (fChain g g' F G J)) := PT.imp (pt_chain ho ho' ha hb hc hm) (imp_test (imp_chain hr hr'))

/-! truth -/
def truD : D → Option Bool
  | .non => some false
  | .bl b => some b
  | .int i => some (i != 0)
  | .tup l => some (!l.isEmpty)
  | .lst l => some (!l.isEmpty)
  | _ => none
theorem isEmpty_reps {K : PySem.W.Frag} {ta : Option Addr} {H : Hp} : ∀ {vs : List V} {ds : List D}, Reps K ta H vs ds → vs.isEmpty = ds.isEmpty
  | _, _, .nil => rfl
  | _, _, .cons _ _ => rfl
theorem Rep.tru {K : PySem.W.Frag} {ta : Option Addr} {H0 H : Hp} {v : V} {d : D} {b : Bool} (e : Ex H0 H) (r : Rep K ta H0 v d) (h : truD d = some b) : TruV K v H b := by
  cases r with
  | non => cases h; rfl
  | bl b => cases h; rfl
  | int i => cases h; rfl
  | tup s rs _ => cases h; exact .inr (.inl ⟨_, Evl.ex_t e s, by rw [isEmpty_reps rs]⟩)
  | lst s rs _ => cases h; exact .inl ⟨_, Evl.ex_l e (Evl.sq_of s), by rw [isEmpty_reps rs]⟩
  | _ => cases h
def fTru (F : FE) : FT := fun env => M.bind (F env) fun x => M.of (truD x)
/-- any expression as a test (he: by intro _; rfl) -/
theorem pft_tru {F : FE} (ha : PF X E a F) (he : ∀ whole, isTrue a X.env whole = (do let v ← whole; standAt a.pos; holding [v] (truthy v)) := by intro _; rfl) : PFT X E a (fTru F) := by
  refine PT.imp (pt_truth ha he) fun σ H Q h => ?_
  obtain ⟨ta, H0, env, T, S, I, q⟩ := h
  refine ⟨ta, H0, env, T, S, I, run_end q fun dx H1 H01 T1 g1 I1 q1 v rv => ?_⟩
  obtain ⟨b, e, k⟩ := q1.of I1
  exact ⟨b, rv.tru I1.ex e, k H1 H01 Go.refl I1⟩
/-! and, or, not -/
def tyNot (F : FT) : FT := fun env => M.bind (F env) fun b => M.ret (!b)
def tyAnd (F G : FT) : FT := fun env => M.bind (F env) fun b => if b = true then G env else M.ret false
def tyOr (F G : FT) : FT := fun env => M.bind (F env) fun b => if b = true then M.ret true else G env
variable {F G : FE} {P R : FT} {pos : Pos} {rest : List Expr}
theorem imp_not (σ : L2.St) (H : Hp) (Q : Bool → Hp → Prop) (h : tFT X.K X.mg E (tyNot P) σ H Q) : tNot (tFT X.K X.mg E P) σ H Q := by
  obtain ⟨ta, H0, env, T, S, I, q⟩ := h
  exact ⟨ta, H0, env, T, S, I, run_end q fun b H1 H01 T1 g1 I1 q1 => q1.ret I1⟩
theorem imp_and (σ : L2.St) (H : Hp) (Q : Bool → Hp → Prop) (h : tFT X.K X.mg E (tyAnd P R) σ H Q) : tAnd (tFT X.K X.mg E P) (tFT X.K X.mg E R) σ H Q := by
  obtain ⟨ta, H0, env, T, S, I, q⟩ := h
  refine ⟨ta, H0, env, T, S, I, run_end q fun b H1 H01 T1 g1 I1 q1 => ?_⟩
  cases b with
  | true => rw [if_pos rfl]; exact ⟨ta, H01, env, T1, S.mono g1.up, I1, q1⟩
  | false => rw [if_neg Bool.false_ne_true]; exact Run.ret I1 q1
theorem imp_or (σ : L2.St) (H : Hp) (Q : Bool → Hp → Prop) (h : tFT X.K X.mg E (tyOr P R) σ H Q) : tOr (tFT X.K X.mg E P) (tFT X.K X.mg E R) σ H Q := by
  obtain ⟨ta, H0, env, T, S, I, q⟩ := h
  refine ⟨ta, H0, env, T, S, I, run_end q fun b H1 H01 T1 g1 I1 q1 => ?_⟩
  cases b with
  | false => rw [if_neg Bool.false_ne_true]; exact ⟨ta, H01, env, T1, S.mono g1.up, I1, q1⟩
  | true => rw [if_pos rfl]; exact Run.ret I1 q1
theorem pfw_and1 (ha : PFT X E a P) : PFW X E (.BoolOp .And [a] pos) P := pw_and1 ha
theorem pfw_or1 (ha : PFT X E a P) : PFW X E (.BoolOp .Or [a] pos) P := pw_or1 ha
theorem pfw_and (ha : PFT X E a P) (hb : PFW X E (.BoolOp .And (b :: rest) pos) R) : PFW X E (.BoolOp .And (a :: b :: rest) pos) (tyAnd P R) := PW.imp (pw_and ha hb) imp_and
theorem pfw_or (ha : PFT X E a P) (hb : PFW X E (.BoolOp .Or (b :: rest) pos) R) : PFW X E (.BoolOp .Or (a :: b :: rest) pos) (tyOr P R) := PW.imp (pw_or ha hb) imp_or
end
end PF

namespace PF
open PySem PySem.Spec PyProof.Rows L2
open Evl (Ex)
section
variable {X : Cx} {E : XW} {e a b c : Expr} {es : List Expr} {F G : FE} {A B : FA} {P R : FT} {pos : Pos} {rest : List Expr}
theorem pft_not (ha : PFT X E a P) : PFT X E (.UnaryOp .Not a pos) (tyNot P) := PT.imp (pt_not ha) imp_not
/-! and, or, not as values: bools -/
def fAnd (F G : FE) : FE := fun env => M.bind (F env) fun x => M.bind (M.of (blD x)) fun b => if b = true then G env else M.ret (.bl false)
def fOr (F G : FE) : FE := fun env => M.bind (F env) fun x => M.bind (M.of (blD x)) fun b => if b = true then M.ret (.bl true) else G env
def fNot (F : FE) : FE := fun env => M.bind (F env) fun x => M.bind (M.of (blD x)) fun b => M.ret (.bl (!b))
theorem bind_of {E : XK} {α β : Type} {K : PySem.W.Frag} {mg : Str → Option Value} {ta : Option Addr} {Tb : List (Addr × Str)} {H H0 : Hp} {T : List D} {x : Option α} {f : α → M β} {k : β → Hp → Hp → Prop}
    (h : Run K mg E ta Tb H H0 T (M.bind (M.of x) f) k) : ∃ a, x = some a ∧ Run K mg E ta Tb H H0 T (f a) k := by
  cases x with
  | none => obtain ⟨o, e, _⟩ := h; cases e
  | some a => exact ⟨a, rfl, h⟩
theorem pf_and1 (ha : PF X E a F) {op : BoolOp} : PF X E (.BoolOp op [a] pos) F := pe_one ha
theorem pf_and (ha : PF X E a F) (hb : PF X E (.BoolOp .And (b :: rest) pos) G) : PF X E (.BoolOp .And (a :: b :: rest) pos) (fAnd F G) := by
  refine PE.imp (pe_and ha hb) fun σ H Q h => ?_
  obtain ⟨ta, H0, env, T, S, I, q⟩ := h
  refine ⟨ta, H0, env, T, S, I, run_end q fun d H1 H01 T1 g1 I1 q1 v rv => ?_⟩
  obtain ⟨b, e, q2⟩ := bind_of q1
  refine ⟨b, rv.bl_of e, ?_⟩
  cases b with
  | true => rw [if_pos rfl] at q2 ⊢; exact ⟨ta, H01, env, T1, S.mono g1.up, I1, q2⟩
  | false => rw [if_neg Bool.false_ne_true] at q2 ⊢; exact Run.ret I1 q2 _ (.bl _)
theorem pf_or (ha : PF X E a F) (hb : PF X E (.BoolOp .Or (b :: rest) pos) G) : PF X E (.BoolOp .Or (a :: b :: rest) pos) (fOr F G) := by
  refine PE.imp (pe_or ha hb) fun σ H Q h => ?_
  obtain ⟨ta, H0, env, T, S, I, q⟩ := h
  refine ⟨ta, H0, env, T, S, I, run_end q fun d H1 H01 T1 g1 I1 q1 v rv => ?_⟩
  obtain ⟨b, e, q2⟩ := bind_of q1
  refine ⟨b, rv.bl_of e, ?_⟩
  cases b with
  | false => rw [if_neg Bool.false_ne_true] at q2 ⊢; exact ⟨ta, H01, env, T1, S.mono g1.up, I1, q2⟩
  | true => rw [if_pos rfl] at q2 ⊢; exact Run.ret I1 q2 _ (.bl _)
theorem pf_not (ha : PF X E a F) : PF X E (.UnaryOp .Not a pos) (fNot F) := by
  refine PE.imp (pe_not ha) fun σ H Q h => ?_
  obtain ⟨ta, H0, env, T, S, I, q⟩ := h
  refine ⟨ta, H0, env, T, S, I, run_end q fun d H1 H01 T1 g1 I1 q1 v rv => ?_⟩
  obtain ⟨b, e, q2⟩ := bind_of q1
  exact ⟨b, rv.bl_of e, Run.ret I1 q2 _ (.bl _)⟩
/-- a if t else b -/
def fIf (P : FT) (F G : FE) : FE := fun env => M.bind (P env) fun b => if b = true then F env else G env
theorem pf_if {t : Expr} (ht : PFT X E t P) (ha : PF X E a F) (hb : PF X E b G) : PF X E (.IfExp t a b pos) (fIf P F G) := by
  refine PE.imp (pe_ifExp ht ha hb) fun σ H Q h => ?_
  obtain ⟨ta, H0, env, T, S, I, q⟩ := h
  refine ⟨ta, H0, env, T, S, I, run_end q fun b H1 H01 T1 g1 I1 q1 => ?_⟩
  cases b with
  | true => rw [if_pos rfl] at q1 ⊢; exact ⟨ta, H01, env, T1, S.mono g1.up, I1, q1⟩
  | false => rw [if_neg Bool.false_ne_true] at q1 ⊢; exact ⟨ta, H01, env, T1, S.mono g1.up, I1, q1⟩
/-! lists of arguments, displays -/
def aNil : FA := fun _ => M.ret []
def aCons (F : FE) (A : FA) : FA := fun env => M.bind (F env) fun d => M.bind (A env) fun ds => M.ret (d :: ds)
theorem pfa_nil : PFA X E [] aNil := PA.imp pa_nil fun σ H Q h => by
  obtain ⟨ta, H0, env, T, S, I, q⟩ := h
  exact q.ret I _ .nil
theorem pfa_cons (ha : PF X E e F) (hr : PFA X E es A) (hs : starEach (e :: es) X.env = (false, eval e X.env) :: starEach es X.env := by rfl) : PFA X E (e :: es) (aCons F A) := by
  refine PA.imp (pa_cons ha hr hs) fun σ H Q h => ?_
  obtain ⟨ta, H0, env, T, S, I, q⟩ := h
  refine ⟨ta, H0, env, T, S, I, run_end q fun d H1 H01 T1 g1 I1 q1 v rv => ?_⟩
  refine ⟨ta, H01, env, T1, S.mono g1.up, I1, run_end q1 fun ds H2 H02 T2 g2 I2 q2 vs rvs => ?_⟩
  exact Run.ret I2 q2 _ (.cons (rv.mono g2.up) rvs)
theorem le_line {n : Nat} (h : n ≤ 16777216) : n ≤ sizeLine := by rw [sizeLine_eq]; exact h
def fTup (A : FA) : FE := fun env => M.bind (A env) fun ds => if ds.length ≤ 16777216 then M.ret (.tup ds) else M.bad
def fLst (A : FA) : FE := fun env => M.bind (A env) fun ds => if ds.length ≤ 16777216 then M.ret (.lst ds) else M.bad
theorem run_bad {E : XK} {α : Type} {K : PySem.W.Frag} {mg : Str → Option Value} {ta : Option Addr} {Tb : List (Addr × Str)} {H H0 : Hp} {T : List D} {k : α → Hp → Hp → Prop} (h : Run K mg E ta Tb H H0 T M.bad k) : False := by
  obtain ⟨o, e, _⟩ := h; cases e
theorem run_if {E : XK} {α : Type} {K : PySem.W.Frag} {mg : Str → Option Value} {ta : Option Addr} {Tb : List (Addr × Str)} {H H0 : Hp} {T : List D} {p : Prop} [Decidable p] {x : M α} {k : α → Hp → Hp → Prop} (h : Run K mg E ta Tb H H0 T (if p then x else M.bad) k) : p ∧ Run K mg E ta Tb H H0 T x k := by
  by_cases z : p
  · rw [if_pos z] at h; exact ⟨z, h⟩
  · rw [if_neg z] at h; exact (run_bad h).elim
theorem ret_go {E : XK} {α : Type} {K : PySem.W.Frag} {mg : Str → Option Value} {ta : Option Addr} {Tb : List (Addr × Str)} {H H0 H1 H01 : Hp} {T : List D} {a : α} {k : α → Hp → Hp → Prop} (h : Run K mg E ta Tb H H0 T (M.ret a) k) (g : Go ta H H0 H1 H01) (I : Pu K ta Tb H1 H01 T) : k a H1 H01 := by
  obtain ⟨o, e, q⟩ := h
  cases e
  exact q H1 H01 g I
theorem nt_tup {xs : List V} : ∀ ps, HO.tup xs ≠ .tbl ps := fun _ z => by cases z
theorem nt_lst {xs : List V} : ∀ ps, HO.lst xs ≠ .tbl ps := fun _ z => by cases z
/-- a new tuple of represented items -/
theorem new_tup {E : XK} {K : PySem.W.Frag} {mg : Str → Option Value} {ta : Option Addr} {Tb : List (Addr × Str)} {H H0 : Hp} {T : List D} {Q : VK} {vs : List V} {ds : List D} (I : Pu K ta Tb H H0 T) (r : Reps K ta H0 vs ds) (hl : ds.length ≤ 16777216)
    (h : Run K mg E ta Tb H H0 T (M.ret (.tup ds)) fun d H' H0' => ∀ v, Rep K ta H0' v d → Q v H') (p : Addr) (hp : H p = none) : Q (.ref p) (upd H p (.tup vs)) :=
  ret_go h (Go.laid hp I.ex) (I.laid hp nt_tup) _ (.tup (SqT.of upd_same) (r.mono (Ex.new (I.none_of hp))) (le_line hl))
theorem new_lst {E : XK} {K : PySem.W.Frag} {mg : Str → Option Value} {ta : Option Addr} {Tb : List (Addr × Str)} {H H0 : Hp} {T : List D} {Q : VK} {vs : List V} {ds : List D} (I : Pu K ta Tb H H0 T) (r : Reps K ta H0 vs ds) (hl : ds.length ≤ 16777216)
    (h : Run K mg E ta Tb H H0 T (M.ret (.lst ds)) fun d H' H0' => ∀ v, Rep K ta H0' v d → Q v H') (p : Addr) (hp : H p = none) : Q (.ref p) (upd H p (.lst vs)) :=
  ret_go h (Go.laid hp I.ex) (I.laid hp nt_lst) _ (.lst upd_same (r.mono (Ex.new (I.none_of hp))) (le_line hl))
theorem pf_tup {x1} (h : PFA X E es A) : PF X E (.Tuple es x1 pos) (fTup A) := by
  refine PE.imp (pe_tup h) fun σ H Q h => ?_
  obtain ⟨ta, H0, env, T, S, I, q⟩ := h
  refine ⟨ta, H0, env, T, S, I, run_end q fun ds H1 H01 T1 g1 I1 q1 vs rvs => ?_⟩
  obtain ⟨hl, q2⟩ := run_if q1
  exact ⟨by rw [rvs.length]; exact le_line hl, fun p hp => new_tup I1 rvs hl q2 p hp⟩
theorem pf_lst (h : PFA X E es A) : PF X E (.List es pos) (fLst A) := by
  refine PE.imp (pe_lst h) fun σ H Q h => ?_
  obtain ⟨ta, H0, env, T, S, I, q⟩ := h
  refine ⟨ta, H0, env, T, S, I, run_end q fun ds H1 H01 T1 g1 I1 q1 vs rvs => ?_⟩
  obtain ⟨hl, q2⟩ := run_if q1
  exact ⟨by rw [rvs.length]; exact le_line hl, fun p hp => new_lst I1 rvs hl q2 p hp⟩
/-! unary minus -/
def negD : D → Option D
  | .int i => some (.int (-i))
  | _ => none
def fUn (g : D → Option D) (F : FE) : FE := fun env => M.bind (F env) fun x => M.of (g x)
theorem pf_neg (ha : PF X E a F) : PF X E (.UnaryOp .USub a pos) (fUn negD F) := by
  refine PE.imp (pe_un un_neg ha) fun σ H Q h => ?_
  obtain ⟨ta, H0, env, T, S, I, q⟩ := h
  refine ⟨ta, H0, env, T, S, I, run_end q fun d H1 H01 T1 g1 I1 q1 v rv => ?_⟩
  obtain ⟨dz, e, k⟩ := q1.of I1
  cases rv <;> cases e
  exact ⟨_, rfl, k H1 H01 Go.refl I1 _ (.int _)⟩
/-! a call of something built in, with values -/
/-- by data: values in, one value out (the heap may grow) -/
def RC (K : PySem.W.Frag) (r : List V → Hp → VK → Prop) (g : List D → Option D) : Prop := ∀ ta Tb H H0 T (xs : List V) (ds : List D) (dz : D) (Q : VK), Pu K ta Tb H H0 T → Reps K ta H0 xs ds → g ds = some dz →
  (∀ v H' H0', Go ta H H0 H' H0' → Pu K ta Tb H' H0' T → Rep K ta H0' v dz → Q v H') → r xs H Q
def fCB (g : List D → Option D) (A : FA) : FE := fun env => M.bind (A env) fun ds => M.of (g ds)
theorem imp_cb {r : List V → Hp → VK → Prop} {g : List D → Option D} (hr : RC X.K r g) (σ : L2.St) (H : Hp) (Q : VK) (h : tF X.K X.mg E (fCB g A) σ H Q) : tCB r (tFA X.K X.mg E A) σ H Q := by
  obtain ⟨ta, H0, env, T, S, I, q⟩ := h
  refine ⟨ta, H0, env, T, S, I, run_end q fun ds H1 H01 T1 g1 I1 q1 vs rvs => ?_⟩
  obtain ⟨dz, e, k⟩ := q1.of I1
  exact hr ta E.2 H1 H01 T1 vs ds dz Q I1 rvs e fun v H' H0' g2 I2 r2 => k H' H0' g2 I2 v r2
theorem pf_cb {id : String} {x : Str} {p : Pos} {r : List V → Hp → VK → Prop} {g : List D → Option D} (hc : CallR X (.builtin id) r) (hr : RC X.K r g) (hg : Gl X x) (hm : X.mg x = none) (hv : bootBuiltins x = some (.builtin id)) (ha : PFA X E (e :: es) A) (hn : x ≠ "__name__" := by decide)
    (hdb : (x == ("__debug__" : Str)) = false := by decide) (he : starEach (e :: es) X.env = (false, eval e X.env) :: starEach es X.env := by rfl) (hpl : (backTo pos (starEach es X.env)).any (·.1) = false := by rfl) :
    PF X E (.Call (.Name x p) (e :: es) [] pos) (fCB g A) := PE.imp (pe_callB hc hg hm hv ha hn hdb he hpl) (imp_cb hr)
theorem pf_ct {T : String} {x : Str} {p : Pos} {r : List V → Hp → VK → Prop} {g : List D → Option D} (hc : CallR X (.type T) r) (hr : RC X.K r g) (hg : Gl X x) (hm : X.mg x = none) (hv : bootBuiltins x = some (.type T)) (ha : PFA X E (e :: es) A) (hn : x ≠ "__name__" := by decide)
    (hdb : (x == ("__debug__" : Str)) = false := by decide) (he : starEach (e :: es) X.env = (false, eval e X.env) :: starEach es X.env := by rfl) (hpl : (backTo pos (starEach es X.env)).any (·.1) = false := by rfl) :
    PF X E (.Call (.Name x p) (e :: es) [] pos) (fCB g A) := PE.imp (pe_callTy hc hg hm hv ha hn hdb he hpl) (imp_cb hr)
/-! x[i] -/
/-- the tape is read by hand: its items -/
def RDT (K : PySem.W.Frag) (r : R2) (g : D → D → List D → Option D) : Prop := ∀ ta Tb H H0 T (x y : V) (dx dy dz : D) (Q : VK), Pu K ta Tb H H0 T → Rep K ta H0 x dx → Rep K ta H0 y dy → g dx dy T = some dz → (∀ v, Rep K ta H0 v dz → Q v H) → r x y H Q
def M.look {α : Type} (g : List D → Option α) : M α := fun T => match g T with
  | some a => some (.ok a T)
  | none => none
def fIx (F G : FE) : FE := fun env => M.bind (F env) fun x => M.bind (G env) fun y => M.look fun T => match x, y with
  | .tup l, .int i => atI l i
  | .lst l, .int i => atI l i
  | .str s, .int i => if s.length ≤ 16777216 then (atI s.cps.toList i).map fun c => .str ⟨#[c]⟩ else none
  | .tape, .int i => atI T i
  | _, _ => none
theorem Reps.atI {K : PySem.W.Frag} {ta : Option Addr} {H : Hp} {vs : List V} {ds : List D} {i : Int} {d : D} (r : Reps K ta H vs ds) (h : atI ds i = some d) : ∃ v, atI vs i = some v ∧ Rep K ta H v d := by
  unfold L2.atI at h ⊢
  rw [r.length]
  cases hj : ixN ds.length i with
  | none => rw [hj] at h; cases h
  | some j =>
    rw [hj] at h
    exact r.get h
theorem pf_ix (ha : PF X E a F) (hb : PF X E b G) (hs : PlainIx b := by exact fun _ _ => rfl) : PF X E (.Subscript a b pos) (fIx F G) := by
  refine PE.imp (pe_ix ix_seq ha hb hs) fun σ H Q h => ?_
  obtain ⟨ta, H0, env, T, S, I, q⟩ := h
  refine ⟨ta, H0, env, T, S, I, run_end q fun d H1 H01 T1 g1 I1 q1 v rv => ?_⟩
  refine ⟨ta, H01, env, T1, S.mono g1.up, I1, run_end q1 fun d2 H2 H02 T2 g2 I2 q2 v2 rv2 => ?_⟩
  obtain ⟨o, e, k⟩ := q2
  have rv' := rv.mono g2.up
  unfold M.look at e
  split at e
  · rename_i dz ez
    cases e
    have k' := k H2 H02 Go.refl I2
    split at ez
    · cases rv' with
      | tup s rs _ =>
        cases rv2
        obtain ⟨w, hw, rw'⟩ := rs.atI ez
        exact .inr (.inl ⟨_, _, _, w, rfl, rfl, Evl.ex_t I2.ex s, hw, k' w rw'⟩)
    · cases rv' with
      | lst s rs _ =>
        cases rv2
        obtain ⟨w, hw, rw'⟩ := rs.atI ez
        exact .inl ⟨_, _, _, w, rfl, rfl, Evl.ex_l I2.ex (Evl.sq_of s), hw, k' w rw'⟩
    · cases rv'
      cases rv2
      split at ez
      · rename_i hl
        rw [Option.map_eq_some_iff] at ez
        obtain ⟨c, hc, rfl⟩ := ez
        exact .inr (.inr ⟨_, _, c, rfl, rfl, le_line hl, hc, k' _ (.str _)⟩)
      · cases ez
    · cases rv' with
      | tape ht =>
        cases rv2
        obtain ⟨n, vs, hq, rs⟩ := I2.tp _ ht
        obtain ⟨w, hw, rw'⟩ := rs.atI ez
        exact .inl ⟨_, _, _, w, rfl, rfl, SqL.of hq, hw, k' w rw'⟩
    · cases ez
  · cases e
/-! slices -/
abbrev FO := Env → M (Option Int)
def tFO (K : PySem.W.Frag) (mg : Str → Option Value) (E : XW) (F : FO) : TO := fun σ H Q => ∃ ta H0 env T, Sl K ta H0 σ env ∧ Pu K ta E.2 H H0 T ∧ Run K mg E.1 ta E.2 H H0 T (F env) fun o H' _ => Q o H'
abbrev PFO (X : Cx) (E : XW) (e : Option Expr) (F : FO) : Prop := PO X e (tFO X.K X.mg E F)
theorem PO.imp {e : Option Expr} {t u : TO} (h : PO X e t) (i : ∀ σ H Q, u σ H Q → t σ H Q) : PO X e u := ⟨fun pins s σ H Q I q => h.run pins s σ H Q I (i σ H Q q)⟩
def oNone : FO := fun _ => M.ret none
def oSome (F : FE) : FO := fun env => M.bind (F env) fun d => match d with
  | .int i => M.ret (some i)
  | _ => M.bad
theorem pfo_none : PFO X E none oNone := PO.imp po_none fun σ H Q h => by
  obtain ⟨ta, H0, env, T, S, I, q⟩ := h
  exact q.ret I
theorem pfo_some (h : PF X E e F) : PFO X E (some e) (oSome F) := PO.imp (po_some h) fun σ H Q h => by
  obtain ⟨ta, H0, env, T, S, I, q⟩ := h
  refine ⟨ta, H0, env, T, S, I, run_end q fun d H1 H01 T1 g1 I1 q1 v rv => ?_⟩
  cases rv with
  | int i => exact ⟨i, rfl, Run.ret I1 q1⟩
  | _ => exact (run_bad q1).elim
end
end PF

namespace PF
open PySem PySem.Spec PyProof.Rows L2
open Evl (Ex)

/-! ### the operators, by data -/
section
variable {X : Cx} {K : PySem.W.Frag}
theorem RD.orL {r r' : R2} {g : D → D → Option D} (h : RD K r g) : RD K (fun x y H Q => r x y H Q ∨ r' x y H Q) g := fun ta Tb H H0 T x y dx dy dz Q I rx ry e q => .inl (h ta Tb H H0 T x y dx dy dz Q I rx ry e q)
def addD : D → D → Option D
  | .int i, .int j => some (.int (i + j))
  | .str a, .str b => if a.length + b.length ≤ 16777216 then some (.str (a ++ b)) else none
  | .tup a, .tup b => if a.length + b.length ≤ 16777216 then some (.tup (a ++ b)) else none
  | .lst a, .lst b => if a.length + b.length ≤ 16777216 then some (.lst (a ++ b)) else none
  | _, _ => none
def rAddA (K : PySem.W.Frag) : R2 := fun x y H Q => (rI0 fun i j => .int (i + j)) x y H Q ∨ ((∃ i j, x = .str i ∧ y = .str j ∧ i.length + j.length ≤ sizeLine ∧ Q (.str (i ++ j)) H) ∨ (rCatA K x y H Q ∨ rCat x y H Q))
theorem op_addA : OpR X (binaryOp .Add) (rAddA X.K) := OpR.or op_add (OpR.or op_add_str (OpR.or op_catA op_cat))
theorem rd_add : RD K (rAddA K) addD := by
  intro ta Tb H H0 T x y dx dy dz Q I rx ry e q
  unfold addD at e
  split at e
  · cases e; cases rx; cases ry
    exact .inl ⟨_, _, rfl, rfl, q _ H H0 Go.refl I (.int _)⟩
  · split at e
    · rename_i hl
      cases e; cases rx; cases ry
      exact .inr (.inl ⟨_, _, rfl, rfl, le_line hl, q _ H H0 Go.refl I (.str _)⟩)
    · cases e
  · split at e
    · rename_i hl
      cases e
      cases rx with
      | tup sx rxs lx =>
        cases ry with
        | tup sy rys ly =>
          have hL := rxs.length
          have hR := rys.length
          refine .inr (.inr (.inl ⟨_, _, _, _, rfl, rfl, Evl.ex_t I.ex sx, Evl.ex_t I.ex sy, by rw [hL, hR]; exact le_line hl, fun z => ?_, fun z z2 => ?_, fun z z2 p hp => ?_⟩))
          · subst z
            cases rxs
            exact q _ H H0 Go.refl I (.tup sy rys ly)
          · subst z2
            cases rys
            rw [List.append_nil] at q
            exact q _ H H0 Go.refl I (.tup sx rxs lx)
          · exact q _ _ _ (Go.laid hp I.ex) (I.laid hp nt_tup) (.tup (SqT.of upd_same) ((rxs.append rys).mono (Ex.new (I.none_of hp))) (by rw [List.length_append]; exact le_line hl))
    · cases e
  · split at e
    · rename_i hl
      cases e
      cases rx with
      | lst sx rxs lx =>
        cases ry with
        | lst sy rys ly =>
          have hL := rxs.length
          have hR := rys.length
          refine .inr (.inr (.inr ⟨_, _, _, _, rfl, rfl, I.ex _ _ sx, I.ex _ _ sy, by rw [hL, hR]; exact le_line hl, fun p hp => ?_⟩))
          exact q _ _ _ (Go.laid hp I.ex) (I.laid hp nt_lst) (.lst upd_same ((rxs.append rys).mono (Ex.new (I.none_of hp))) (by rw [List.length_append]; exact le_line hl))
    · cases e
  · cases e
def subD : D → D → Option D
  | .int i, .int j => some (.int (i - j))
  | _, _ => none
theorem rd_sub : RD K (rI0 fun i j => .int (i - j)) subD := by
  intro ta Tb H H0 T x y dx dy dz Q I rx ry e q
  unfold subD at e
  split at e
  · cases e; cases rx; cases ry
    exact ⟨_, _, rfl, rfl, q _ H H0 Go.refl I (.int _)⟩
  · cases e
/-- how many bits a product may have -/
def mulOk (i j : Int) : Bool := decide (i.natAbs.log2 + j.natAbs.log2 < 1000000)
def mulD : D → D → Option D
  | .int i, .int j => if mulOk i j then some (.int (i * j)) else none
  | .lst a, .int k => if a.length * k.toNat ≤ 16777216 ∧ k < 1000000 ∧ -1000000 < k then some (.lst (List.replicate k.toNat a).flatten) else none
  | .tup a, .int k => if a ≠ [] ∧ 2 ≤ k ∧ k ≤ 1000 ∧ a.length ≤ 1000 then some (.tup (List.replicate k.toNat a).flatten) else none
  | _, _ => none
def rMulA (K : PySem.W.Frag) : R2 := fun x y H Q => (rI CMulW fun i j => .int (i * j)) x y H Q ∨ (rRep x y H Q ∨ rRepT K x y H Q)
theorem op_mulA : OpR X (binaryOp .Mult) (rMulA X.K) := OpR.or op_mulW (OpR.or op_rep op_repT)
theorem Reps.rep {ta : Option Addr} {H : Hp} {xs : List V} {us : List D} (h : Reps K ta H xs us) : ∀ k : Nat, Reps K ta H (List.replicate k xs).flatten (List.replicate k us).flatten
  | 0 => .nil
  | k + 1 => by
    rw [List.replicate_succ, List.replicate_succ, List.flatten_cons, List.flatten_cons]
    exact h.append (Reps.rep h k)
theorem len_rep {α : Type} (xs : List α) : ∀ k : Nat, (List.replicate k xs).flatten.length = xs.length * k
  | 0 => by simp
  | k + 1 => by
    rw [List.replicate_succ, List.flatten_cons, List.length_append, len_rep xs k, Nat.mul_succ, Nat.add_comm]
theorem rd_mul : RD K (rMulA K) mulD := by
  intro ta Tb H H0 T x y dx dy dz Q I rx ry e q
  unfold mulD at e
  split at e
  · split at e
    · rename_i hm
      cases e; cases rx; cases ry
      exact .inl ⟨_, _, rfl, rfl, (by unfold mulOk at hm; unfold CMulW; exact of_decide_eq_true hm), q _ H H0 Go.refl I (.int _)⟩
    · cases e
  · split at e
    · rename_i hl
      cases e
      cases ry
      cases rx with
      | lst sx rxs lx =>
        have hL := rxs.length
        refine .inr (.inl ⟨_, _, _, rfl, rfl, I.ex _ _ sx, by omega, by omega, by rw [hL]; exact le_line hl.1, fun p hp => ?_⟩)
        exact q _ _ _ (Go.laid hp I.ex) (I.laid hp nt_lst) (.lst upd_same ((rxs.rep _).mono (Ex.new (I.none_of hp))) (by rw [len_rep]; exact le_line hl.1))
    · cases e
  · split at e
    · rename_i hl
      cases e
      cases ry
      cases rx with
      | tup sx rxs lx =>
        have hL := rxs.length
        refine .inr (.inr ⟨_, _, _, rfl, rfl, Evl.ex_t I.ex sx, fun z => hl.1 (by rw [z] at rxs; cases rxs; rfl), hl.2.1, hl.2.2.1, by rw [hL]; exact hl.2.2.2, fun p hp => ?_⟩)
        refine q _ _ _ (Go.laid hp I.ex) (I.laid hp nt_tup) (.tup (SqT.of upd_same) ((rxs.rep _).mono (Ex.new (I.none_of hp))) (le_line ?_))
        rw [len_rep]
        refine Nat.le_trans (Nat.mul_le_mul hl.2.2.2 (show _ ≤ 1000 by omega)) (by decide)
    · cases e
  · cases e
/-- // and % by any divisor but 0, of fewer than 9000 bits -/
def CDivA (_ j : Int) : Prop := j ≠ 0 ∧ j.natAbs.log2 < 9000
theorem op_fdivA : OpR X (binaryOp .FloorDiv) (rI CDivA fun i j => .int (i.fdiv j)) := opI fun _ _ _ _ _ _ _ hc q => floordiv_int hc.1 q (.inl (PyProof.noPylong_of_log2 hc.2))
def fdivD : D → D → Option D
  | .int i, .int j => if j ≠ 0 ∧ j.natAbs.log2 < 9000 then some (.int (i.fdiv j)) else none
  | _, _ => none
def modD : D → D → Option D
  | .int i, .int j => if j ≠ 0 then some (.int (i.fmod j)) else none
  | _, _ => none
def powD : D → D → Option D
  | .int i, .int j => if 0 ≤ j ∧ j ≤ 1000000 ∧ i.natAbs < 2 ^ 64 then some (.int (i ^ j.toNat)) else none
  | _, _ => none
theorem rd_fdiv : RD K (rI CDivA fun i j => .int (i.fdiv j)) fdivD := by
  intro ta Tb H H0 T x y dx dy dz Q I rx ry e q
  unfold fdivD at e
  split at e
  · split at e
    · rename_i hm
      cases e; cases rx; cases ry
      exact ⟨_, _, rfl, rfl, hm, q _ H H0 Go.refl I (.int _)⟩
    · cases e
  · cases e
theorem rd_mod : RD K (rI (fun _ j => j ≠ 0) fun i j => .int (i.fmod j)) modD := by
  intro ta Tb H H0 T x y dx dy dz Q I rx ry e q
  unfold modD at e
  split at e
  · split at e
    · rename_i hm
      cases e; cases rx; cases ry
      exact ⟨_, _, rfl, rfl, hm, q _ H H0 Go.refl I (.int _)⟩
    · cases e
  · cases e
theorem rd_pow : RD K (rI CPow fun i j => .int (i ^ j.toNat)) powD := by
  intro ta Tb H H0 T x y dx dy dz Q I rx ry e q
  unfold powD at e
  split at e
  · split at e
    · rename_i hm
      cases e; cases rx; cases ry
      exact ⟨_, _, rfl, rfl, hm, q _ H H0 Go.refl I (.int _)⟩
    · cases e
  · cases e

/-! ### comparisons -/
mutual
def toPy : D → Option PyData
  | .non => some .none
  | .bl b => some (.bool b)
  | .int i => some (.int i)
  | .str s => some (.str s)
  | .tup l => (toPys l).map .tuple
  | .lst l => (toPys l).map .list
  | .ty _ | .fn _ | .tape | .frl _ | .dct _ _ | .lam _ _ _ _ _ => none
def toPys : List D → Option (List PyData)
  | [] => some []
  | d :: ds => (toPy d).bind fun p => (toPys ds).map fun ps => p :: ps
end
mutual
theorem Rep.py {ta : Option Addr} {H0 H : Hp} (ex : Ex H0 H) {v : V} {d : D} {p : PyData} (r : Rep K ta H0 v d) (e : toPy d = some p) : Dp K H v p := by
  cases r with
  | non => cases e; exact .non
  | bl b => cases e; exact .bl b
  | int i => cases e; exact .int i
  | str x => cases e; exact .str x
  | tup s rs _ =>
    unfold toPy at e
    rw [Option.map_eq_some_iff] at e
    obtain ⟨ps, h, rfl⟩ := e
    exact .tup (Evl.ex_t ex s) (Reps.py ex rs h)
  | lst s rs _ =>
    unfold toPy at e
    rw [Option.map_eq_some_iff] at e
    obtain ⟨ps, h, rfl⟩ := e
    exact .lst (Evl.ex_l ex (Evl.sq_of s)) (Reps.py ex rs h)
  | _ => cases e
theorem Reps.py {ta : Option Addr} {H0 H : Hp} (ex : Ex H0 H) {vs : List V} {ds : List D} {ps : List PyData} (r : Reps K ta H0 vs ds) (e : toPys ds = some ps) : DpAll K H vs ps := by
  cases r with
  | nil => cases e; exact .nil
  | cons r t =>
    unfold toPys at e
    rw [Option.bind_eq_some_iff] at e
    obtain ⟨p, h1, e⟩ := e
    rw [Option.map_eq_some_iff] at e
    obtain ⟨ps', h2, rfl⟩ := e
    exact .cons (Rep.py ex r h1) (Reps.py ex t h2)
end
/-- the answer of == -/
def eqD? : D → D → Option Bool
  | .int i, .int j => some (decide (i = j))
  | .str i, .str j => some (decide (i = j))
  | .bl i, .bl j => some (decide (i = j))
  | .non, .non => some true
  | .non, .int _ => some false
  | .int _, .non => some false
  | .non, .bl _ => some false
  | .bl _, .non => some false
  | .non, .str _ => some false
  | .str _, .non => some false
  | .int _, .str _ => some false
  | .str _, .int _ => some false
  | .bl _, .str _ => some false
  | .str _, .bl _ => some false
  | x, y => match toPy x, toPy y with
    | some p, some q => if SeqAt.shaped p = true ∧ SeqAt.shaped q = true then some (PyData.eqv p q) else none
    | _, _ => none
def eqD (x y : D) : Option D := (eqD? x y).map .bl
def neD (x y : D) : Option D := (eqD? x y).map fun b => .bl (!b)
def rEqA (K : PySem.W.Frag) : R2 := fun x y H Q => rEq x y H Q ∨ rEqD K x y H Q
def rNeA (K : PySem.W.Frag) : R2 := fun x y H Q => rNe x y H Q ∨ rNeD K x y H Q
theorem op_eqA (hu : X.A.units + 64 < cLine) : OpR X (compareOp .Eq) (rEqA X.K) := OpR.or op_eq (op_eqD hu)
theorem op_neA (hu : X.A.units + 64 < cLine) : OpR X (compareOp .NotEq) (rNeA X.K) := OpR.or op_ne (op_neD hu)
theorem eqD_cases {ta : Option Addr} {H0 H : Hp} (ex : Ex H0 H) {x y : V} {dx dy : D} {b : Bool} (rx : Rep K ta H0 x dx) (ry : Rep K ta H0 y dy) (e : eqD? dx dy = some b) :
    (scal x y = true ∧ decide (x = y) = b) ∨ ∃ p q, Dp K H x p ∧ Dp K H y q ∧ SeqAt.shaped p = true ∧ SeqAt.shaped q = true ∧ PyData.eqv p q = b := by
  unfold eqD? at e
  split at e
  case h_15 =>
    split at e
    · rename_i p q hp hq
      split at e
      · rename_i hs
        cases e
        exact .inr ⟨p, q, rx.py ex hp, ry.py ex hq, hs.1, hs.2, rfl⟩
      · cases e
    · cases e
  all_goals (cases e; cases rx; cases ry; refine .inl ⟨rfl, ?_⟩; simp)
theorem rd_eq : RD K (rEqA K) eqD := by
  intro ta Tb H H0 T x y dx dy dz Q I rx ry e q
  unfold eqD at e
  rw [Option.map_eq_some_iff] at e
  obtain ⟨b, hb, rfl⟩ := e
  have k := q (.bl b) H H0 Go.refl I (.bl b)
  rcases eqD_cases I.ex rx ry hb with ⟨h1, h2⟩ | ⟨p, p2, h1, h2, h3, h4, h5⟩
  · exact .inl ⟨h1, by rw [h2]; exact k⟩
  · exact .inr ⟨p, p2, h1, h2, h3, h4, by rw [h5]; exact k⟩
theorem rd_ne : RD K (rNeA K) neD := by
  intro ta Tb H H0 T x y dx dy dz Q I rx ry e q
  unfold neD at e
  rw [Option.map_eq_some_iff] at e
  obtain ⟨b, hb, rfl⟩ := e
  have k := q (.bl !b) H H0 Go.refl I (.bl _)
  rcases eqD_cases I.ex rx ry hb with ⟨h1, h2⟩ | ⟨p, p2, h1, h2, h3, h4, h5⟩
  · exact .inl ⟨h1, by rw [h2]; exact k⟩
  · exact .inr ⟨p, p2, h1, h2, h3, h4, by rw [h5]; exact k⟩
/-- tuples of ints -/
def ints? : List D → Option (List Int)
  | [] => some []
  | .int i :: ds => (ints? ds).map fun l => i :: l
  | _ => none
theorem Reps.ints {ta : Option Addr} {H : Hp} : ∀ {vs : List V} {ds : List D} {ns : List Int}, Reps K ta H vs ds → ints? ds = some ns → vs = ns.map V.int
  | _, _, _, .nil, e => by cases e; rfl
  | _, _, _, .cons r t, e => by
    cases r with
    | int i =>
      unfold ints? at e
      rw [Option.map_eq_some_iff] at e
      obtain ⟨l, h, rfl⟩ := e
      rw [List.map_cons, Reps.ints t h]
    | _ => cases e
def ltD : D → D → Option D
  | .int i, .int j => some (.bl (decide (i < j)))
  | .str i, .str j => some (.bl (decide (i.cps.toList < j.cps.toList)))
  | .tup a, .tup b => (ints? a).bind fun ns => (ints? b).map fun ms => .bl (HT.lexLt ns ms)
  | _, _ => none
def rLtA (K : PySem.W.Frag) : R2 := fun x y H Q => (rI0 fun i j => .bl (decide (i < j))) x y H Q ∨ ((∃ i j, x = .str i ∧ y = .str j ∧ Q (.bl (decide (i.cps.toList < j.cps.toList))) H) ∨ rLtT K x y H Q)
theorem op_ltA (hu : X.A.units < cLine) : OpR X (compareOp .Lt) (rLtA X.K) := OpR.or op_lt (OpR.or op_lt_str (op_ltT hu))
theorem rd_lt : RD K (rLtA K) ltD := by
  intro ta Tb H H0 T x y dx dy dz Q I rx ry e q
  unfold ltD at e
  split at e
  · cases e; cases rx; cases ry
    exact .inl ⟨_, _, rfl, rfl, q _ H H0 Go.refl I (.bl _)⟩
  · cases e; cases rx; cases ry
    exact .inr (.inl ⟨_, _, rfl, rfl, q _ H H0 Go.refl I (.bl _)⟩)
  · rw [Option.bind_eq_some_iff] at e
    obtain ⟨ns, h1, e⟩ := e
    rw [Option.map_eq_some_iff] at e
    obtain ⟨ms, h2, rfl⟩ := e
    cases rx with
    | tup sx rxs lx =>
      cases ry with
      | tup sy rys ly =>
        rw [rxs.ints h1] at sx
        rw [rys.ints h2] at sy
        exact .inr (.inr ⟨_, _, ns, ms, rfl, rfl, Evl.ex_t I.ex sx, Evl.ex_t I.ex sy, q _ H H0 Go.refl I (.bl _)⟩)
  · cases e
def leD : D → D → Option D
  | .int i, .int j => some (.bl (decide (i ≤ j)))
  | _, _ => none
def gtD : D → D → Option D
  | .int i, .int j => some (.bl (decide (j < i)))
  | _, _ => none
def geD : D → D → Option D
  | .int i, .int j => some (.bl (decide (j ≤ i)))
  | _, _ => none
theorem rd_le : RD K (rI0 fun i j => .bl (decide (i ≤ j))) leD := by
  intro ta Tb H H0 T x y dx dy dz Q I rx ry e q
  unfold leD at e
  split at e
  · cases e; cases rx; cases ry
    exact ⟨_, _, rfl, rfl, q _ H H0 Go.refl I (.bl _)⟩
  · cases e
theorem rd_gt : RD K (rI0 fun i j => .bl (decide (j < i))) gtD := by
  intro ta Tb H H0 T x y dx dy dz Q I rx ry e q
  unfold gtD at e
  split at e
  · cases e; cases rx; cases ry
    exact ⟨_, _, rfl, rfl, q _ H H0 Go.refl I (.bl _)⟩
  · cases e
theorem rd_ge : RD K (rI0 fun i j => .bl (decide (j ≤ i))) geD := by
  intro ta Tb H H0 T x y dx dy dz Q I rx ry e q
  unfold geD at e
  split at e
  · cases e; cases rx; cases ry
    exact ⟨_, _, rfl, rfl, q _ H H0 Go.refl I (.bl _)⟩
  · cases e
/-- x is None -/
def noneD : D → Bool
  | .non => true
  | _ => false
def isND : D → D → Option D
  | x, .non => some (.bl (noneD x))
  | _, _ => none
def notND : D → D → Option D
  | x, .non => some (.bl (!noneD x))
  | _, _ => none
theorem Rep.isN {ta : Option Addr} {H : Hp} {v : V} {d : D} (r : Rep K ta H v d) : decide (v = .non) = noneD d := by
  cases r <;> simp [noneD]
theorem rd_isN : RD K (fun x y H Q => y = .non ∧ Q (.bl (decide (x = .non))) H) isND := by
  intro ta Tb H H0 T x y dx dy dz Q I rx ry e q
  unfold isND at e
  split at e
  · cases e; cases ry
    exact ⟨rfl, by rw [rx.isN]; exact q _ H H0 Go.refl I (.bl _)⟩
  · cases e
theorem rd_notN : RD K (fun x y H Q => y = .non ∧ Q (.bl (!decide (x = .non))) H) notND := by
  intro ta Tb H H0 T x y dx dy dz Q I rx ry e q
  unfold notND at e
  split at e
  · cases e; cases ry
    exact ⟨rfl, by rw [rx.isN]; exact q _ H H0 Go.refl I (.bl _)⟩
  · cases e
end

/-! ### slices -/
section
variable {X : Cx} {E : XW} {e : Expr} {F : FE} {A B : FO} {lo hi : Option Expr} {pos p2 : Pos}
def cutL {α : Type} (xs : List α) (lo hi : Option Int) : List α := (xs.drop (HT.sIx xs.length 0 lo)).take (HT.sIx xs.length xs.length hi - HT.sIx xs.length 0 lo)
theorem Reps.cut {K : PySem.W.Frag} {ta : Option Addr} {H : Hp} {vs : List V} {ds : List D} (r : Reps K ta H vs ds) (lo hi : Option Int) : Reps K ta H (cutV vs lo hi) (cutL ds lo hi) := by
  unfold cutV cutL
  rw [r.length]
  exact (r.drop _).take _
theorem cutL_length {α : Type} (xs : List α) (lo hi : Option Int) : (cutL xs lo hi).length ≤ xs.length := by
  unfold cutL
  rw [List.length_take, List.length_drop]
  omega
theorem cutL_whole {α : Type} (xs : List α) (lo hi : Option Int) (h : HT.sIx xs.length 0 lo = 0 ∧ HT.sIx xs.length xs.length hi = xs.length) : cutL xs lo hi = xs := by
  unfold cutL
  rw [h.1, h.2]
  simp
def rSlAll (K : PySem.W.Frag) : V → Option Int → Option Int → Hp → VK → Prop := fun x lo hi H Q => rSlL K x lo hi H Q ∨ (rSlA K x lo hi H Q ∨ rSlS x lo hi H Q)
theorem sl_all : SlR X (rSlAll X.K) := SlR.or sl_list (SlR.or sl_tupA sl_str)
def slD : D → Option Int → Option Int → Option D
  | .lst l, lo, hi => some (.lst (cutL l lo hi))
  | .frl l, lo, hi => some (.lst (cutL l lo hi))
  | .tup l, lo, hi => some (.tup (cutL l lo hi))
  | .str s, lo, hi => if s.length ≤ 16777216 then some (.str (cutS s lo hi)) else none
  | _, _, _ => none
def fSl (F : FE) (A B : FO) : FE := fun env => M.bind (F env) fun x => M.bind (A env) fun lo => M.bind (B env) fun hi => M.of (slD x lo hi)
theorem pf_sl (ha : PF X E e F) (hl : PFO X E lo A) (hh : PFO X E hi B) : PF X E (.Subscript e (.Slice lo hi none p2) pos) (fSl F A B) := by
  refine PE.imp (pe_slice sl_all ha hl hh) fun σ H Q h => ?_
  obtain ⟨ta, H0, env, T, S, I, q⟩ := h
  refine ⟨ta, H0, env, T, S, I, run_end q fun d H1 H01 T1 g1 I1 q1 v rv => ?_⟩
  refine ⟨ta, H01, env, T1, S.mono g1.up, I1, run_end q1 fun lo H2 H02 T2 g2 I2 q2 => ?_⟩
  refine ⟨ta, H02, env, T2, S.mono (g1.up.trans g2.up), I2, run_end q2 fun hi H3 H03 T3 g3 I3 q3 => ?_⟩
  obtain ⟨dz, ez, k⟩ := q3.of I3
  have rv' := rv.mono (g2.up.trans g3.up)
  unfold slD at ez
  split at ez
  · cases ez
    cases rv' with
    | lst s rs hl =>
      exact .inl ⟨_, _, rfl, Evl.ex_l I3.ex (Evl.sq_of s), fun p hp => k _ _ (Go.laid hp I3.ex) (I3.laid hp nt_lst) _ (.lst upd_same ((rs.cut lo hi).mono (Ex.new (I3.none_of hp))) (Nat.le_trans (cutL_length _ _ _) hl))⟩
  · cases ez
    cases rv' with
    | frl s rs hl =>
      exact .inl ⟨_, _, rfl, Evl.ex_l I3.ex s, fun p hp => k _ _ (Go.laid hp I3.ex) (I3.laid hp nt_lst) _ (.lst upd_same ((rs.cut lo hi).mono (Ex.new (I3.none_of hp))) (Nat.le_trans (cutL_length _ _ _) hl))⟩
  · cases ez
    cases rv' with
    | tup s rs hl =>
      refine .inr (.inl ⟨_, _, rfl, Evl.ex_t I3.ex s, fun z => ?_, fun z p hp => ?_⟩)
      · rw [rs.length] at z
        rw [cutL_whole _ _ _ z] at k
        exact k _ _ Go.refl I3 _ (.tup s rs hl)
      · exact k _ _ (Go.laid hp I3.ex) (I3.laid hp nt_tup) _ (.tup (SqT.of upd_same) ((rs.cut lo hi).mono (Ex.new (I3.none_of hp))) (Nat.le_trans (cutL_length _ _ _) hl))
  · split at ez
    · rename_i hz
      cases ez
      cases rv'
      exact .inr (.inr ⟨_, rfl, le_line hz, k _ _ Go.refl I3 _ (.str _)⟩)
    · cases ez
  · cases ez
end
end PF

namespace PF
open PySem PySem.Spec PyProof.Rows L2
open Evl (Ex)

/-! ### targets: which slots get which data -/
abbrev TgD := D → Option (List (Nat × D))
def tGd (K : PySem.W.Frag) (g : TgD) : TG := fun v σ H Q => ∃ ta H0 d l, Ex H0 H ∧ Rep K ta H0 v d ∧ g d = some l ∧ ∀ vs, Reps K ta H0 vs (l.map (·.2)) → Q (setS σ (l.map (·.1)) vs) H
def tGds (K : PySem.W.Frag) (g : List D → Option (List (Nat × D))) : TGs := fun xs σ H Q => ∃ ta H0 ds l, Ex H0 H ∧ Reps K ta H0 xs ds ∧ g ds = some l ∧ ∀ vs, Reps K ta H0 vs (l.map (·.2)) → Q (setS σ (l.map (·.1)) vs) H
abbrev PGD (X : Cx) (tg : Expr) (g : TgD) : Prop := PG X tg (tGd X.K g)
abbrev PGDs (X : Cx) (ts : List Expr) (g : List D → Option (List (Nat × D))) : Prop := PGs X ts (tGds X.K g)
theorem setS_append : ∀ (is js : List Nat) (σ : L2.St) (vs ws : List V), is.length = vs.length → setS σ (is ++ js) (vs ++ ws) = setS (setS σ is vs) js ws
  | [], _, _, [], _, _ => rfl
  | i :: is, js, σ, v :: vs, ws, h => by
    show setS (σ.set i (some v)) (is ++ js) (vs ++ ws) = _
    rw [setS_append is js _ vs ws (by simpa using h)]
    rfl
  | [], _, _, _ :: _, _, h => by cases h
  | _ :: _, _, _, [], _, h => by cases h
def gNm (i : Nat) : TgD := fun d => some [(i, d)]
def gsNil : List D → Option (List (Nat × D))
  | [] => some []
  | _ => none
def gsCons (g : TgD) (gs : List D → Option (List (Nat × D))) : List D → Option (List (Nat × D))
  | d :: ds => (g d).bind fun l => (gs ds).map fun r => l ++ r
  | [] => none
def gTp (n : Nat) (gs : List D → Option (List (Nat × D))) : TgD
  | .tup l => if l.length = n then gs l else none
  | _ => none
section
variable {X : Cx} {e : Expr} {es : List Expr} {pos : Pos} {g : TgD} {gs : List D → Option (List (Nat × D))}
theorem PG.imp {t u : TG} (h : PG X e t) (i : ∀ v σ H Q, u v σ H Q → t v σ H Q) : PG X e u := ⟨fun pins s σ H v w Q I r q => h.run pins s σ H v w Q I r (i _ _ _ _ q)⟩
theorem PGs.imp {t u : TGs} (h : PGs X es t) (i : ∀ v σ H Q, u v σ H Q → t v σ H Q) : PGs X es u := ⟨fun pins s σ H v w Q I r q => h.run pins s σ H v w Q I r (i _ _ _ _ q)⟩
theorem pgd_name (i : Nat) {x : Str} (hN : X.N.Nodup) (hi : X.N[i]? = some x := by rfl) (hx : Loc X.env.scope x := by first | exact Or.inl rfl | exact Or.inr rfl) (hf : X.fn x = true ∨ X.env.scope.names.lookup x = some .local := by first | exact .inl rfl | exact .inr rfl | assumption) : PGD X (.Name x pos) (gNm i) :=
  PG.imp (pg_name hN hi hx hf) fun v σ H Q ⟨ta, H0, d, l, ex, r, e, k⟩ => by
    cases e
    exact k [v] (.cons r .nil)
theorem pgds_nil : PGDs X [] gsNil := PGs.imp pgs_nil fun xs σ H Q ⟨ta, H0, ds, l, ex, r, e, k⟩ => by
  cases r with
  | nil => cases e; exact ⟨rfl, k [] .nil⟩
  | cons _ _ => cases e
theorem Reps.split {K : PySem.W.Frag} {ta : Option Addr} {H : Hp} : ∀ {a b : List D} {vs : List V}, Reps K ta H vs (a ++ b) → ∃ us ws, vs = us ++ ws ∧ Reps K ta H us a ∧ Reps K ta H ws b
  | [], _, vs, r => ⟨[], vs, rfl, .nil, r⟩
  | x :: a, b, _, .cons r t => by
    obtain ⟨us, ws, e, h1, h2⟩ := Reps.split (a := a) t
    exact ⟨_ :: us, ws, by rw [e]; rfl, .cons r h1, h2⟩
theorem pgds_cons (h1 : PGD X e g) (h2 : PGDs X es gs) (hs : (assignEach (e :: es) X.env).map (·.2) = assign e X.env :: (assignEach es X.env).map (·.2) := by rfl) : PGDs X (e :: es) (gsCons g gs) :=
  PGs.imp (pgs_cons h1 h2 hs) fun xs σ H Q ⟨ta, H0, ds, l, ex, r, e, k⟩ => by
    cases r with
    | nil => cases e
    | cons r1 r2 =>
      unfold gsCons at e
      rw [Option.bind_eq_some_iff] at e
      obtain ⟨l1, e1, e⟩ := e
      rw [Option.map_eq_some_iff] at e
      obtain ⟨l2, e2, rfl⟩ := e
      refine ⟨_, _, rfl, ta, H0, _, l1, ex, r1, e1, fun us ru => ?_⟩
      refine ⟨ta, H0, _, l2, ex, r2, e2, fun ws rw' => ?_⟩
      have q := k (us ++ ws) (by rw [List.map_append]; exact ru.append rw')
      rw [List.map_append, setS_append _ _ _ _ _ (by rw [ru.length]; simp)] at q
      exact q
theorem pgd_tup {k : Nat} (hc : X.calm = true) (h : PGDs X es gs) {n : Nat} (hn : (assignEach es X.env).length = n := by rfl) (hst : (assignEach es X.env).findIdx? (·.1) = none := by rfl) : PGD X (.Tuple es k pos) (gTp n gs) :=
  PG.imp (pg_tup hc h hn hst) fun v σ H Q ⟨ta, H0, d, l, ex, r, e, q⟩ => by
    unfold gTp at e
    split at e
    · split at e
      · rename_i hl
        cases r with
        | tup s rs _ => exact ⟨_, _, rfl, Evl.ex_t ex s, by rw [rs.length, hl], ta, H0, _, l, ex, rs, e, q⟩
      · cases e
    · cases e
end

/-! ### what is walked -/
abbrev FI := Env → M (List D)
/-- the walk gives the data ds, one by one -/
structure WalkD (K : PySem.W.Frag) (ta : Option Addr) (J : It) (ds : List D) (Hb : Hp) : Prop where
  goes : ∀ i H, i < ds.length → Ex Hb H → J.go i H
  stops : ∀ H, Ex Hb H → J.stop ds.length H
  yields : ∀ i Tb H H0 T x H' d, Ex Hb H0 → Pu K ta Tb H H0 T → ds[i]? = some d → J.yld i H x H' → ∃ H0', Go ta H H0 H' H0' ∧ Pu K ta Tb H' H0' T ∧ Rep K ta H0' x d
def tFI (K : PySem.W.Frag) (mg : Str → Option Value) (E : XW) (F : FI) : TI := fun σ H R => ∃ ta H0 env T, Sl K ta H0 σ env ∧ Pu K ta E.2 H H0 T ∧ Run K mg E.1 ta E.2 H H0 T (F env) fun ds H' H0' => ∀ J, WalkD K ta J ds H0' → R J H'
abbrev PFI (X : Cx) (E : XW) (tg e : Expr) (F : FI) : Prop := PI X tg e (tFI X.K X.mg E F)
section
variable {X : Cx} {E : XW} {tg e a b : Expr} {es : List Expr} {pos : Pos} {F G : FE}
theorem PI.imp {t u : TI} (h : PI X tg e t) (i : ∀ σ H R, u σ H R → t σ H R) : PI X tg e u := ⟨fun pins s σ H R I q => h.run pins s σ H R I (i _ _ _ q)⟩
theorem walkD_list {K : PySem.W.Frag} {ta : Option Addr} {H0 : Hp} {a : Addr} {xs : List V} {ds : List D} (s : SqL K H0 a xs) (r : Reps K ta H0 xs ds) : WalkD K ta (Itl K a) ds H0 := by
  have w := walk_list (K := K) (a := a) (xs := xs)
  rw [r.length] at w
  refine ⟨fun i H hi ex => w.goes i H hi (Evl.ex_l ex s), fun H ex => w.stops H (Evl.ex_l ex s), fun i Tb H H1 T x H' d ex I hd y => ?_⟩
  obtain ⟨e, h⟩ := w.yields i H x H' (List.getElem?_eq_some_iff.mp hd).1 (Evl.ex_l (ex.trans I.ex) s) y
  subst e
  obtain ⟨v, hv, rv⟩ := r.get hd
  rw [h] at hv; cases hv
  exact ⟨H1, Go.refl, I, rv.mono ex⟩
theorem walkD_tup {K : PySem.W.Frag} {ta : Option Addr} {H0 : Hp} {a : Addr} {xs : List V} {ds : List D} (s : SqT K H0 a xs) (r : Reps K ta H0 xs ds) : WalkD K ta (Itt K a) ds H0 := by
  have w := walk_tup (K := K) (a := a) (xs := xs)
  rw [r.length] at w
  refine ⟨fun i H hi ex => w.goes i H hi (Evl.ex_t ex s), fun H ex => w.stops H (Evl.ex_t ex s), fun i Tb H H1 T x H' d ex I hd y => ?_⟩
  obtain ⟨e, h⟩ := w.yields i H x H' (List.getElem?_eq_some_iff.mp hd).1 (Evl.ex_t (ex.trans I.ex) s) y
  subst e
  obtain ⟨v, hv, rv⟩ := r.get hd
  rw [h] at hv; cases hv
  exact ⟨H1, Go.refl, I, rv.mono ex⟩
/-- lo, lo + 1, .., n of them -/
def rangeD (lo : Int) (n : Nat) : List D := (List.range n).map fun i => .int (lo + (i : Nat))
theorem walkD_range {K : PySem.W.Frag} {ta : Option Addr} {H0 : Hp} {lo : Int} {n : Nat} : WalkD K ta (Itr lo n) (rangeD lo n) H0 := by
  have w := walk_range (lo := lo) (n := n)
  have hl : (rangeD lo n).length = n := by simp [rangeD]
  refine ⟨fun i H hi ex => w.goes i H (by rw [← hl]; exact hi) trivial, fun H ex => by rw [hl]; exact w.stops H trivial, fun i Tb H H1 T x H' d ex I hd y => ?_⟩
  have hi := (List.getElem?_eq_some_iff.mp hd).1
  rw [hl] at hi
  obtain ⟨e, h⟩ := w.yields i H x H' hi trivial y
  subst e
  rw [h]
  have : d = .int (lo + (i : Nat)) := by
    unfold rangeD at hd
    rw [List.getElem?_map, List.getElem?_range hi] at hd
    simpa using hd.symm
  subst this
  exact ⟨H1, Go.refl, I, .int _⟩
/-- a list, walked -/
def iLst (F : FE) : FI := fun env => M.bind (F env) fun d => match d with
  | .lst l => M.ret l
  | .frl l => M.ret l
  | _ => M.bad
def iTpl (F : FE) : FI := fun env => M.bind (F env) fun d => match d with
  | .tup l => M.ret l
  | _ => M.bad
theorem pfi_list (h : PF X E e F) : PFI X E tg e (iLst F) := PI.imp (pi_list h) fun σ H R q => by
  obtain ⟨ta, H0, env, T, S, I, q⟩ := q
  refine ⟨ta, H0, env, T, S, I, run_end q fun d H1 H01 T1 g1 I1 q1 v rv => ?_⟩
  cases rv with
  | lst s rs hl => exact ⟨_, rfl, ⟨_, Evl.ex_l I1.ex (Evl.sq_of s)⟩, Run.ret I1 q1 _ (walkD_list (Evl.sq_of s) rs)⟩
  | frl s rs hl => exact ⟨_, rfl, ⟨_, Evl.ex_l I1.ex s⟩, Run.ret I1 q1 _ (walkD_list s rs)⟩
  | _ => exact (run_bad q1).elim
theorem pfi_tup (h : PF X E e F) : PFI X E tg e (iTpl F) := PI.imp (pi_tup h) fun σ H R q => by
  obtain ⟨ta, H0, env, T, S, I, q⟩ := q
  refine ⟨ta, H0, env, T, S, I, run_end q fun d H1 H01 T1 g1 I1 q1 v rv => ?_⟩
  cases rv with
  | tup s rs hl => exact ⟨_, rfl, ⟨_, Evl.ex_t I1.ex s⟩, Run.ret I1 q1 _ (walkD_tup s rs)⟩
  | _ => exact (run_bad q1).elim
def iRg1 (A : FA) : FI := fun env => M.bind (A env) fun ds => match ds with
  | [.int j] => if -(2 ^ 62) ≤ j ∧ j < 2 ^ 62 then M.ret (rangeD 0 j.toNat) else M.bad
  | _ => M.bad
def iRg2 (A : FA) : FI := fun env => M.bind (A env) fun ds => match ds with
  | [.int i, .int j] => if -(2 ^ 62) ≤ i ∧ i < 2 ^ 62 ∧ -(2 ^ 62) ≤ j ∧ j < 2 ^ 62 then M.ret (rangeD i (j - i).toNat) else M.bad
  | _ => M.bad
variable {A : FA} {p : Pos}
theorem pfi_range1 (hg : Gl X "range") (hm : X.mg "range" = none) (ha : PFA X E [a] A) (hs : starEach [a] X.env = [(false, eval a X.env)] := by rfl) : PFI X E tg (.Call (.Name "range" p) [a] [] pos) (iRg1 A) := PI.imp (pi_range1 hg hm ha hs) fun σ H R q => by
  obtain ⟨ta, H0, env, T, S, I, q⟩ := q
  refine ⟨ta, H0, env, T, S, I, run_end q fun ds H1 H01 T1 g1 I1 q1 vs rvs => ?_⟩
  split at q1
  · obtain ⟨hj, q2⟩ := run_if q1
    cases rvs with
    | cons r t =>
      cases t
      cases r
      exact ⟨_, rfl, hj.1, hj.2, Run.ret I1 q2 _ walkD_range⟩
  · exact (run_bad q1).elim
theorem pfi_range2 (hg : Gl X "range") (hm : X.mg "range" = none) (ha : PFA X E [a, b] A) (hs : starEach [a, b] X.env = [(false, eval a X.env), (false, eval b X.env)] := by rfl) (hs2 : starEach [b] X.env = [(false, eval b X.env)] := by rfl) : PFI X E tg (.Call (.Name "range" p) [a, b] [] pos) (iRg2 A) := PI.imp (pi_range2 hg hm ha hs hs2) fun σ H R q => by
  obtain ⟨ta, H0, env, T, S, I, q⟩ := q
  refine ⟨ta, H0, env, T, S, I, run_end q fun ds H1 H01 T1 g1 I1 q1 vs rvs => ?_⟩
  split at q1
  · obtain ⟨hj, q2⟩ := run_if q1
    cases rvs with
    | cons r t =>
      cases r
      cases t with
      | cons r t =>
        cases t
        cases r
        exact ⟨_, _, rfl, hj, Run.ret I1 q2 _ walkD_range⟩
  · exact (run_bad q1).elim
end

/-! ### list comprehensions -/
/-- no error leaves it -/
def M.noex {α : Type} (x : M α) : M α := fun T => match x T with
  | some (.ok a T') => some (.ok a T')
  | _ => none
def setL : Env → List (Nat × D) → Env := fun env l => setE env (l.map (·.1)) (l.map (·.2))
/-- the items that a comprehension makes of ds -/
def lcM (env : Env) (g : TgD) (P : FT) (F : FE) : List D → M (List D)
  | [] => M.ret []
  | d :: ds => M.bind (M.of (g d)) fun l => M.bind (M.noex (P (setL env l))) fun b =>
      if b = true then M.bind (M.noex (F (setL env l))) fun y => M.bind (lcM env g P F ds) fun ys => M.ret (y :: ys) else lcM env g P F ds
def wipeE (env : Env) : List Nat → Env
  | [] => env
  | v :: vs => (wipeE env vs).set v none
def fLc (I : FI) (vs : List Nat) (g : TgD) (P : FT) (F : FE) : FE := fun env => M.bind (I env) fun ds => if ds.length ≤ 16777216 then M.bind (lcM (wipeE env vs) g P F ds) fun l => M.ret (.lst l) else M.bad
def tyYes : FT := fun _ => M.ret true
theorem Sl.wipe {K : PySem.W.Frag} {ta : Option Addr} {H0 : Hp} {σ : L2.St} {env : Env} (s : Sl K ta H0 σ env) : ∀ vs : List Nat, Sl K ta H0 (wipe σ vs) (wipeE env vs)
  | [] => s
  | v :: vs => by
    have ih := s.wipe vs
    refine ⟨by unfold wipeE L2.wipe; simp [ih.len], fun i d h => ?_⟩
    unfold wipeE at h
    unfold L2.wipe
    by_cases z : v = i
    · subst z
      by_cases hv : v < (wipeE env vs).length
      · rw [List.getElem?_set_self hv] at h; cases h
      · rw [List.getElem?_eq_none (by simpa using hv)] at h; cases h
    · rw [List.getElem?_set_ne z] at h ⊢
      exact ih.get i d h
theorem wipe_set {σ : L2.St} {i : Nat} {v : Option V} : ∀ {vs : List Nat}, i ∈ vs → wipe (σ.set i v) vs = wipe σ vs
  | [], h => by simp at h
  | j :: vs, h => by
    show (wipe (σ.set i v) vs).set j none = (wipe σ vs).set j none
    by_cases z : i ∈ vs
    · rw [wipe_set z]
    · have e : i = j := by
        rcases List.mem_cons.mp h with h | h
        · exact h
        · exact absurd h z
      subst e
      have : ∀ ws : List Nat, i ∉ ws → wipe (σ.set i v) ws = (wipe σ ws).set i v := by
        intro ws
        induction ws with
        | nil => intro _; rfl
        | cons w ws ih =>
          intro hw
          show (wipe (σ.set i v) ws).set w none = ((wipe σ ws).set w none).set i v
          rw [ih (fun q => hw (List.mem_cons_of_mem _ q)), List.set_comm]
          exact fun q => hw (by rw [q]; exact List.mem_cons_self)
      rw [this vs z, List.set_set]
theorem wipe_setS {vs : List Nat} : ∀ {is : List Nat} {ws : List V} {σ : L2.St}, (∀ i ∈ is, i ∈ vs) → wipe (setS σ is ws) vs = wipe σ vs
  | [], _, _, _ => by unfold setS; rfl
  | _ :: _, [], _, _ => by unfold setS; rfl
  | i :: is, w :: ws, σ, h => by
    show wipe (setS (σ.set i (some w)) is ws) vs = _
    rw [wipe_setS fun j hj => h j (List.mem_cons_of_mem _ hj), wipe_set (h i List.mem_cons_self)]
theorem wipe_wipe (σ : L2.St) : ∀ vs : List Nat, wipe (wipe σ vs) vs = wipe σ vs := by
  intro vs
  apply List.ext_getElem?
  intro i
  by_cases h : i ∈ vs
  · have : ∀ (σ : L2.St) (ws : List Nat), i ∈ ws → (wipe σ ws)[i]? = if i < σ.length then some none else none := by
      intro σ ws
      induction ws with
      | nil => intro h; simp at h
      | cons w ws ih =>
        intro h
        show ((wipe σ ws).set w none)[i]? = _
        by_cases z : w = i
        · subst z
          rw [List.getElem?_set_self', ]
          have hl := wipe_length σ ws
          by_cases hw : w < σ.length
          · rw [if_pos hw]
            have : w < (wipe σ ws).length := by omega
            simp [this]
          · rw [if_neg hw, List.getElem?_eq_none (by omega)]
            rfl
        · rw [List.getElem?_set_ne z]
          exact ih ((List.mem_cons.mp h).resolve_left fun q => z q.symm)
    rw [this _ _ h, this _ _ h, wipe_length]
  · rw [wipe_out h]
section
variable {K : PySem.W.Frag} {mg : Str → Option Value} {E : XK} {ta : Option Addr} {Tb : List (Addr × Str)} {H H0 : Hp} {T : List D}
/-- the same, what follows told of a base -/
theorem noex_end {α β : Type} {Hb Hb0 : Hp} {x : M α} {f : α → M β} {k : β → Hp → Hp → Prop} {j : α → Hp → Hp → Prop}
    (h : Run K mg E ta Tb Hb Hb0 T (M.bind (M.noex x) f) k) (n : ∀ a H' H0' T', Go ta H H0 H' H0' → Pu K ta Tb H' H0' T' → Run K mg E ta Tb Hb Hb0 T' (f a) k → j a H' H0') : Run K mg (fun _ _ _ => False) ta Tb H H0 T x j := by
  obtain ⟨o, e, q⟩ := h.bind
  unfold M.noex at e
  cases hx : x T with
  | none => rw [hx] at e; cases e
  | some ox =>
    rw [hx] at e
    cases ox with
    | ok a T' => cases e; exact ⟨_, hx, fun H' H0' g I => n a H' H0' T' g I q⟩
    | ex c T' => cases e
theorem Pu.freeze (I : Pu K ta Tb H H0 T) {p : Addr} {o : HO} (h : H0 p = none) (n : ta ≠ some p) (e : H p = some o) (nt : ∀ ps, o ≠ .tbl ps) : Pu K ta Tb H (upd H0 p o) T := by
  refine ⟨fun a u q => ?_, fun a ea => ?_, I.tb, fun a ps q => ?_⟩
  · by_cases z : a = p
    · subst z; rw [upd_same] at q; cases q; exact e
    · rw [upd_ne z] at q; exact I.ex a u q
  · obtain ⟨m, vs, q, r⟩ := I.tp a ea
    have z : a ≠ p := fun z => n (by rw [ea, z])
    exact ⟨by rw [upd_ne z]; exact m, vs, q, r.mono (Ex.new h)⟩
  · by_cases z : a = p
    · subst z; rw [upd_same] at q; cases q; exact nt ps rfl
    · rw [upd_ne z] at q; exact I.nt a ps q
theorem Go.freeze {H1 H01 : Hp} (g : Go ta H1 H01 H H0) {p : Addr} {o : HO} (h : H0 p = none) (h1 : Fr H1 p) : Go ta H1 H01 H (upd H0 p o) :=
  ⟨g.keep, g.dom, fun a u q => by rw [upd_ne (ne_of_none (g.up a u q) h)]; exact g.up a u q, fun a u q n => by rw [upd_ne (h1.ne q nt_lst)]; exact g.new a u q n⟩
/-- a new list changes -/
theorem Go.mut {H1 H01 : Hp} (g : Go ta H1 H01 H H0) {p : Addr} {o : HO} (h1 : Fr H1 p) : Go ta H1 H01 (upd H p o) H0 := by
  refine ⟨fun a u q n t => ?_, fun a u q m => ?_, g.up, g.new⟩
  · rw [upd_ne (h1.ne q t)]; exact g.keep a u q n t
  · rw [upd_ne (h1.ne q m)]; exact g.dom a u q m
end
section
variable {X : Cx} {E : XW} {elt tg iter : Expr} {ifs : List Expr} {scope : Scope} {own : List (Str × Nat)} {pos : Pos} {I : FI} {g : TgD} {P : FT} {F : FE}
abbrev PFTs (X : Cx) (E : XW) (ifs : List Expr) (P : FT) : Prop := PTs X ifs (tFT X.K X.mg E P)
theorem pfts_nil : PFTs X E [] tyYes := ⟨fun pins s σ H Q J h => pts_nil.run pins s σ H Q J (by
  obtain ⟨ta, H0, env, T, S, I, q⟩ := h
  exact q.ret I)⟩
theorem pfts_one {c : Expr} (h : PFT X E c P) : PFTs X E [c] P := pts_one h
theorem M.bind_ok {α β : Type} {x : M α} {f : α → M β} {T T' : List D} {b : β} (h : M.bind x f T = some (.ok b T')) : ∃ a T1, x T = some (.ok a T1) ∧ f a T1 = some (.ok b T') := by
  unfold M.bind at h
  cases hx : x T with
  | none => rw [hx] at h; cases h
  | some o =>
    rw [hx] at h
    cases o with
    | ok a T1 => exact ⟨a, T1, rfl, h⟩
    | ex c T1 => cases h
theorem M.noex_ok {α : Type} {x : M α} {T T' : List D} {b : α} (h : M.noex x T = some (.ok b T')) : x T = some (.ok b T') := by
  unfold M.noex at h
  cases hx : x T with
  | none => rw [hx] at h; cases h
  | some o =>
    rw [hx] at h
    cases o with
    | ok a T1 => exact h
    | ex c T1 => cases h
theorem M.of_ok {α : Type} {x : Option α} {T T' : List D} {b : α} (h : M.of x T = some (.ok b T')) : x = some b ∧ T' = T := by
  cases x with
  | none => cases h
  | some a => cases h; exact ⟨rfl, rfl⟩
theorem lcM_ok (env : Env) (g : TgD) (P : FT) (F : FE) : ∀ (ds : List D) (T : List D) (o : Ot (List D)), lcM env g P F ds T = some o → ∃ l T', o = .ok l T'
  | [], T, o, h => by cases h; exact ⟨_, _, rfl⟩
  | d :: ds, T, o, h => by
    cases o with
    | ok l T' => exact ⟨l, T', rfl⟩
    | ex c T' =>
      exfalso
      unfold lcM M.bind at h
      cases hg : g d with
      | none => rw [hg] at h; cases h
      | some l =>
        rw [hg] at h
        simp only [M.of, M.ret] at h
        cases hp : M.noex (P (setL env l)) T with
        | none => rw [hp] at h; cases h
        | some op =>
          rw [hp] at h
          cases op with
          | ex c' T1 => unfold M.noex at hp; split at hp <;> cases hp
          | ok b T1 =>
            simp only at h
            cases b with
            | false =>
              rw [if_neg Bool.false_ne_true] at h
              obtain ⟨l, T', z⟩ := lcM_ok env g P F ds _ _ h
              cases z
            | true =>
              rw [if_pos rfl] at h
              cases hf : M.noex (F (setL env l)) T1 with
              | none => rw [hf] at h; cases h
              | some of =>
                rw [hf] at h
                cases of with
                | ex c' T1 => unfold M.noex at hf; split at hf <;> cases hf
                | ok y T2 =>
                  simp only at h
                  cases hr : lcM env g P F ds T2 with
                  | none => rw [hr] at h; cases h
                  | some or =>
                    obtain ⟨l, T', z⟩ := lcM_ok env g P F ds _ _ hr
                    subst z
                    rw [hr] at h
                    cases h
/-- the loop of a comprehension makes the list l -/
theorem lc_made {K : PySem.W.Frag} {mg : Str → Option Value} {ta : Option Addr} {Tb : List (Addr × Str)} {H1 H01 : Hp} {σ : L2.St} {env : Env} {T1 T2 ds l : List D} {It : L2.It} {vs : List Nat} {Qf : VK} (hv : ∀ d l, g d = some l → ∀ p ∈ l, p.1 ∈ vs) (S : Sl K ta H01 σ env)
    (I1 : Pu K ta Tb H1 H01 T1) (w : WalkD K ta It ds H01) (hL : ds.length ≤ 16777216) (hl : lcM (wipeE env vs) g P F ds T1 = some (.ok l T2)) (D : Addr) (hD : H1 D = none)
    (fin : ∀ H' H0n av, Go ta H1 H01 H' H0n → Pu K ta Tb H' H0n T2 → ta ≠ some D → H0n D = none → H' D = some (.lst av) → Reps K ta H0n av l → l.length ≤ ds.length → Qf (.ref D) H') :
    ∃ W : Nat → Nat → Hp → Prop, (∃ m, W 0 m (upd H1 D (.lst []))) ∧ ∀ i m H, W i m H →
      (It.stop i H ∧ Qf (.ref D) H) ∨ (It.go i H ∧ ∃ Nx : Hp → Prop, (∀ H', Nx H' → ∃ m', m' < m ∧ W (i + 1) m' H') ∧ ∀ x H', It.yld i H x H' → tGd K g x (wipe σ vs) H' fun σ2 H2 => wipe σ2 vs = wipe σ vs ∧ tFT K mg (E0, Tb) P σ2 H2 fun b H3 =>
        if b = true then tF K mg (E0, Tb) F σ2 H3 fun y H4 => ∃ acc, H4 D = some (.lst acc) ∧ acc.length < sizeLine ∧ Nx (upd H4 D (.lst (acc ++ [y]))) else Nx H3) := by
  have S1 := S.wipe vs
  let Pv : Nat → Hp → Prop := fun i H => ∃ H0 T av ad l2, Go ta H1 H01 H H0 ∧ Pu K ta Tb H H0 T ∧ ta ≠ some D ∧ H0 D = none ∧ H D = some (.lst av) ∧ Reps K ta H0 av ad ∧ ad.length ≤ i ∧
    lcM (wipeE env vs) g P F (ds.drop i) T = some (.ok l2 T2) ∧ ad ++ l2 = l
  refine ⟨fun i m H => m = ds.length - i ∧ i ≤ ds.length ∧ Pv i H, ⟨ds.length, by simp, Nat.zero_le _, ?_⟩, ?_⟩
  · exact ⟨H01, T1, [], [], l, Go.own hD, I1.own (I1.none_of hD) (I1.tape_ne hD) (.inl hD), I1.tape_ne hD, I1.none_of hD, upd_same, .nil, Nat.le_refl _, hl, rfl⟩
  · rintro i m H ⟨rfl, hi, H0', T', av, ad, l2, gg, II, nt, nD, eD, ra, la, r, el⟩
    by_cases hlt : i < ds.length
    · refine .inr ⟨w.goes i H hlt (gg.up.trans II.ex), Pv (i + 1), fun H' p' => ⟨ds.length - (i + 1), by omega, rfl, hlt, p'⟩, fun x H' y => ?_⟩
      obtain ⟨d, hd⟩ : ∃ d, ds[i]? = some d := ⟨ds[i], by simp [hlt]⟩
      obtain ⟨H0'', g2, I2, rx⟩ := w.yields i Tb H H0' T' x H' d gg.up II hd y
      rw [show ds.drop i = d :: ds.drop (i + 1) from by rw [List.drop_eq_getElem_cons hlt]; congr 1; exact (Option.some.inj ((List.getElem?_eq_getElem hlt).symm.trans hd))] at r
      have eD2 : H' D = some (.lst av) := g2.keep D _ eD nt nt_lst
      have nD2 : H0'' D = none := g2.new D _ eD nD
      unfold lcM at r
      obtain ⟨lg, Tg, e1, r1⟩ := M.bind_ok r
      obtain ⟨hlg, hTg⟩ := M.of_ok e1
      rw [hTg] at r1
      clear r e1
      obtain ⟨b, T3, e2, r⟩ := M.bind_ok r1
      have e2 := M.noex_ok e2
      clear r1
      refine ⟨ta, H0'', d, lg, I2.ex, rx, hlg, fun ws rws => ⟨?_, ?_⟩⟩
      · rw [wipe_setS, wipe_wipe]
        intro j hj
        obtain ⟨p, hp, rfl⟩ := List.mem_map.mp hj
        exact hv d lg hlg p hp
      · have S2 : Sl K ta H0'' (setS (wipe σ vs) (lg.map (·.1)) ws) (setL (wipeE env vs) lg) := Sl.setS rws (S1.mono (gg.up.trans g2.up))
        refine ⟨ta, H0'', setL (wipeE env vs) lg, _, S2, I2, .ok b T3, e2, fun H3 H03 g3 I3 => ?_⟩
        have eD3 : H3 D = some (.lst av) := g3.keep D _ eD2 nt nt_lst
        have nD3 : H03 D = none := g3.new D _ eD2 nD2
        cases b with
        | false =>
          show Pv (i + 1) H3
          rw [if_neg Bool.false_ne_true] at r
          exact ⟨H03, T3, av, ad, l2, (gg.trans g2).trans g3, I3, nt, nD3, eD3, ra.mono (g2.up.trans g3.up), by omega, r, el⟩
        | true =>
          show tF K mg (E0, Tb) F (setS (wipe σ vs) (lg.map (·.1)) ws) H3 fun y H4 => ∃ acc, H4 D = some (HO.lst acc) ∧ acc.length < sizeLine ∧ Pv (i + 1) (upd H4 D (HO.lst (acc ++ [y])))
          rw [if_pos rfl] at r
          obtain ⟨yd, T4, e3, r⟩ := M.bind_ok r
          have e3 := M.noex_ok e3
          obtain ⟨l3, T5, e4, r⟩ := M.bind_ok r
          cases r
          refine ⟨ta, H03, setL (wipeE env vs) lg, T3, S2.mono g3.up, I3, .ok yd T4, e3, fun H4 H04 g4 I4 yv ry => ?_⟩
          have eD4 : H4 D = some (.lst av) := g4.keep D _ eD3 nt nt_lst
          have nD4 : H04 D = none := g4.new D _ eD3 nD3
          have hlen := ra.length
          exact ⟨av, eD4, by rw [hlen, sizeLine_eq]; omega, H04, T4, av ++ [yv], ad ++ [yd], l3, (((gg.trans g2).trans g3).trans g4).mut (.of hD), I4.own nD4 nt (.inr ⟨_, eD4⟩), nt, nD4, upd_same,
            (ra.mono ((g2.up.trans g3.up).trans g4.up)).append (.cons ry .nil), by rw [List.length_append, List.length_singleton]; omega, e4, by rw [← el]; simp⟩
    · have e : i = ds.length := by omega
      subst e
      rw [List.drop_length] at r
      cases r
      rw [List.append_nil] at el
      subst el
      exact .inl ⟨w.stops H (gg.up.trans II.ex), fin H H0' av gg II nt nD eD ra la⟩
theorem imp_lc {vs : List Nat} (hv : ∀ d l, g d = some l → ∀ p ∈ l, p.1 ∈ vs) (σ : L2.St) (H : Hp) (Q : VK) (h : tF X.K X.mg E (fLc I vs g P F) σ H Q) :
    tLc (tFI X.K X.mg E I) (tGd X.K g) (tFT X.K X.mg (E0, E.2) P) (tF X.K X.mg (E0, E.2) F) vs σ H Q := by
  obtain ⟨ta, H0, env, T, S, J, q⟩ := h
  refine ⟨ta, H0, env, T, S, J, run_end q fun ds H1 H01 T1 g1 I1 q1 It w => ?_⟩
  obtain ⟨hL, q1⟩ := run_if q1
  intro D hD
  obtain ⟨o, eo, qo⟩ := q1.bind
  obtain ⟨l, T2, rfl⟩ := lcM_ok _ _ _ _ _ _ _ eo
  refine lc_made hv (S.mono g1.up) I1 w hL eo D hD fun H' H0n av g2 I2 nt n0 e r hl => ?_
  exact ret_go qo (g2.freeze n0 (.of hD)) (I2.freeze n0 nt e nt_lst) _ (.lst upd_same (r.mono (Ex.new n0)) (by rw [sizeLine_eq]; omega))
theorem pf_lc (hc : X.calm = true) (hN : X.N.Nodup) (hi : PFI X E tg iter I) (ok : BlkOk X.N X.env.scope scope own)
    (hg : ∀ (s : Shared) (H : Hp) (C : Addr) (cl : List (Str × Addr)) (fp : List Addr), PGD (X.blk s H scope (compEnvC scope cl C X.env) fp) tg g) (ht : ∀ (s : Shared) (H : Hp) (C : Addr) (cl : List (Str × Addr)) (fp : List Addr), PFTs (X.blk s H scope (compEnvC scope cl C X.env) fp) (E0, E.2) ifs P)
    (he : ∀ (s : Shared) (H : Hp) (C : Addr) (cl : List (Str × Addr)) (fp : List Addr), PF (X.blk s H scope (compEnvC scope cl C X.env) fp) (E0, E.2) elt F) (hv : ∀ d l, g d = some l → ∀ p ∈ l, p.1 ∈ own.map (·.2)) (hs : ∀ x, foldedSetIterable iter X.env x = pure x := by intro _; rfl) :
    PF X E (.ListComp elt [⟨tg, iter, ifs, 0⟩] scope pos) (fLc I (own.map (·.2)) g P F) := PE.imp (pe_lc hc hN hi ok hg ht he hs) (imp_lc hv)
end
end PF

namespace PF
open PySem PySem.Spec PyProof.Rows L2
open Evl (Ex)

/-! ### what a def promises -/
abbrev FF := List D → M D
def spF (mg : Str → Option Value) (K : PySem.W.Frag) (tb : List (Addr × Str)) (n : Nat) (F : FF) : Sp := fun vs H Q E => vs.length = n ∧ ∃ ta H0 T ds, Pu K ta tb H H0 T ∧ Reps K ta H0 vs ds ∧ Run K mg E ta tb H H0 T (F ds) fun d H' H0' => ∀ v, Rep K ta H0' v d → Q v H'
/-- the def x, at f, computes F -/
structure DefOk (P : Program) (w : World) (K : PySem.W.Frag) (mg : Str → Option Value) (tb : List (Addr × Str)) (base : Heap) (k : Nat) (x : Str) (f : Addr) (ps : List Str) (F : FF) : Prop where
  fn : ∃ fd, FnOk P w K mg base (L2.CX P w) k f fd ps (spF mg K tb ps.length F) ∧ Binds K fd ps []
  at_ : mg x = some (.ref f)
  kp : PySem.W.keepIn K (.ref f) = true
  ln : ∀ ds T, F ds T ≠ none → ds.length = ps.length
theorem DefOk.mono {P : Program} {w : World} {K : PySem.W.Frag} {mg : Str → Option Value} {tb : List (Addr × Str)} {base : Heap} {j k : Nat} {x : Str} {f : Addr} {ps : List Str} {F : FF} (d : DefOk P w K mg tb base j x f ps F) (h : j ≤ k) : DefOk P w K mg tb base k x f ps F :=
  ⟨let ⟨fd, a, b⟩ := d.fn; ⟨fd, a.mono h, b⟩, d.at_, d.kp, d.ln⟩
def fCall (F : FF) (A : FA) : FE := fun env => M.bind (A env) F
section
variable {X : Cx} {E : XW} {k : Nat} {x : Str} {f : Addr} {ps : List Str} {F : FF} {e : Expr} {es : List Expr} {A : FA} {p pos : Pos}
theorem pf_call (D : DefOk X.prog X.w X.K X.mg E.2 X.base k x f ps F) (hr : Room k X.A) (hx : Passes (L2.CX X.prog X.w) X E.1) (hg : Gl X x) (ha : PFA X E (e :: es) A)
    (hdb : (x == ("__debug__" : Str)) = false := by decide) (he : starEach (e :: es) X.env = (false, eval e X.env) :: starEach es X.env := by rfl) (hpl : (backTo pos (starEach es X.env)).any (·.1) = false := by rfl) :
    PF X E (.Call (.Name x p) (e :: es) [] pos) (fCall F A) := by
  obtain ⟨fd, hF, hb⟩ := D.fn
  refine PE.imp (pe_call hF hr hg D.at_ D.kp hb .nil hx ha hdb he hpl) fun σ H Q h => ?_
  obtain ⟨ta, H0, env, T, S, I, q⟩ := h
  refine ⟨ta, H0, env, T, S, I, run_end q fun ds H1 H01 T1 g1 I1 q1 vs rvs => ?_⟩
  show spF X.mg X.K E.2 ps.length F (vs ++ []) H1 Q E.1
  rw [List.append_nil]
  have q2 := q1
  obtain ⟨o, eo, _⟩ := q2
  exact ⟨by rw [rvs.length]; exact D.ln ds T1 (by rw [eo]; simp), ta, H01, T1, ds, I1, rvs, q1⟩
end

/-! ### statements -/
/-- a slot: empty, plain data, a list of its own that may change -/
inductive Sv where
  | non
  | val (d : D)
  | own (l : List D)
abbrev SEnv := List Sv
inductive Fl where
  | nx (env : SEnv)
  | rt (d : D)
  | bk (env : SEnv)
  | ct (env : SEnv)
abbrev FS := SEnv → M Fl
structure Ss (K : PySem.W.Frag) (ta : Option Addr) (He H H0 : Hp) (σ : L2.St) (env : SEnv) : Prop where
  len : env.length = σ.length
  val : ∀ (i : Nat) (d : D), env[i]? = some (.val d) → ∃ v, σ[i]? = some (some v) ∧ Rep K ta H0 v d
  own : ∀ (i : Nat) (l : List D), env[i]? = some (.own l) → ∃ p vs, σ[i]? = some (some (.ref p)) ∧ Fr He p ∧ H0 p = none ∧ ta ≠ some p ∧ H p = some (.lst vs) ∧ Reps K ta H0 vs l ∧ l.length ≤ 16777216
  sep : ∀ (i j : Nat) (l l' : List D) (p : Addr), env[i]? = some (.own l) → env[j]? = some (.own l') → σ[i]? = some (some (.ref p)) → σ[j]? = some (some (.ref p)) → i = j
section
variable {K : PySem.W.Frag} {mg : Str → Option Value} {E : XK} {ta : Option Addr} {Tb : List (Addr × Str)} {He He0 H H0 H1 H01 : Hp} {T : List D} {σ : L2.St} {env : SEnv}
theorem Ss.go (s : Ss K ta He H H0 σ env) (g : Go ta H H0 H1 H01) : Ss K ta He H1 H01 σ env where
  len := s.len
  val := fun i d h => let ⟨v, h1, h2⟩ := s.val i d h; ⟨v, h1, h2.mono g.up⟩
  own := fun i l h => let ⟨p, vs, h1, h2, h3, h4, h5, h6, h7⟩ := s.own i l h; ⟨p, vs, h1, h2, g.new p _ h5 h3, h4, g.keep p _ h5 h4 nt_lst, h6.mono g.up, h7⟩
  sep := s.sep
def Sv.hide : Sv → Option D
  | .val d => some d
  | _ => none
def hide (env : SEnv) : Env := env.map Sv.hide
theorem Ss.hide (s : Ss K ta He H H0 σ env) : Sl K ta H0 σ (hide env) := by
  refine ⟨by unfold PF.hide; rw [List.length_map, s.len], fun i d h => ?_⟩
  unfold PF.hide at h
  rw [List.getElem?_map, Option.map_eq_some_iff] at h
  obtain ⟨sv, h1, h2⟩ := h
  cases sv with
  | val d' => cases h2; exact s.val i d h1
  | _ => cases h2
/-- slot i gets data -/
theorem Ss.set (s : Ss K ta He H H0 σ env) {v : V} {d : D} (r : Rep K ta H0 v d) (i : Nat) : Ss K ta He H H0 (σ.set i (some v)) (env.set i (.val d)) := by
  have ne : ∀ (j : Nat) (l : List D), (env.set i (.val d))[j]? = some (.own l) → j ≠ i ∧ env[j]? = some (.own l) := fun j l h => by
    by_cases z : i = j
    · subst z
      by_cases hi : i < env.length
      · rw [List.getElem?_set_self hi] at h; cases h
      · rw [List.getElem?_eq_none (by simpa using hi)] at h; cases h
    · rw [List.getElem?_set_ne z] at h
      exact ⟨fun q => z q.symm, h⟩
  refine ⟨by simp [s.len], fun j e h => ?_, fun j l h => ?_, fun a b l l' p h1 h2 h3 h4 => ?_⟩
  · by_cases z : i = j
    · subst z
      by_cases hi : i < env.length
      · rw [List.getElem?_set_self hi] at h
        cases h
        exact ⟨v, List.getElem?_set_self (by rw [← s.len]; exact hi), r⟩
      · rw [List.getElem?_eq_none (by simpa using hi)] at h; cases h
    · rw [List.getElem?_set_ne z] at h ⊢
      exact s.val j e h
  · obtain ⟨n, h'⟩ := ne j l h
    rw [List.getElem?_set_ne (Ne.symm n)]
    exact s.own j l h'
  · obtain ⟨n1, h1'⟩ := ne a l h1
    obtain ⟨n2, h2'⟩ := ne b l' h2
    rw [List.getElem?_set_ne (Ne.symm n1)] at h3
    rw [List.getElem?_set_ne (Ne.symm n2)] at h4
    exact s.sep a b l l' p h1' h2' h3 h4
/-- slot i gets a new list of its own, at p -/
theorem Ss.setOwn (s : Ss K ta He H H0 σ env) {p : Addr} {vs : List V} {l : List D} (he : Fr He p) (h0 : H0 p = none) (nt : ta ≠ some p) (hp : H p = some (.lst vs)) (r : Reps K ta H0 vs l) (hl : l.length ≤ 16777216)
    (new : ∀ (j : Nat) (l' : List D), j ≠ i → env[j]? = some (.own l') → σ[j]? ≠ some (some (.ref p))) : Ss K ta He H H0 (σ.set i (some (.ref p))) (env.set i (.own l)) := by
  have ne : ∀ (j : Nat), j ≠ i → (env.set i (.own l))[j]? = env[j]? ∧ (σ.set i (some (.ref p)))[j]? = σ[j]? := fun j z => ⟨List.getElem?_set_ne (Ne.symm z), List.getElem?_set_ne (Ne.symm z)⟩
  have at_ : ∀ l', (env.set i (.own l))[i]? = some (.own l') → i < env.length ∧ l' = l := fun l' h => by
    by_cases hi : i < env.length
    · rw [List.getElem?_set_self hi] at h; cases h; exact ⟨hi, rfl⟩
    · rw [List.getElem?_eq_none (by simpa using hi)] at h; cases h
  refine ⟨by simp [s.len], fun j e h => ?_, fun j l' h => ?_, fun a b l1 l2 q h1 h2 h3 h4 => ?_⟩
  · by_cases z : j = i
    · subst z
      by_cases hi : j < env.length
      · rw [List.getElem?_set_self hi] at h; cases h
      · rw [List.getElem?_eq_none (by simpa using hi)] at h; cases h
    · rw [(ne j z).1] at h
      rw [(ne j z).2]
      exact s.val j e h
  · by_cases z : j = i
    · subst z
      obtain ⟨hi, rfl⟩ := at_ _ h
      exact ⟨p, vs, List.getElem?_set_self (by rw [← s.len]; exact hi), he, h0, nt, hp, r, hl⟩
    · rw [(ne j z).1] at h
      rw [(ne j z).2]
      exact s.own j l' h
  · by_cases za : a = i
    · by_cases zb : b = i
      · rw [za, zb]
      · exfalso
        subst za
        obtain ⟨hi, _⟩ := at_ _ h1
        rw [List.getElem?_set_self (by rw [← s.len]; exact hi)] at h3
        cases h3
        rw [(ne b zb).1] at h2
        rw [(ne b zb).2] at h4
        exact new b l2 zb h2 h4
    · by_cases zb : b = i
      · exfalso
        subst zb
        obtain ⟨hi, _⟩ := at_ _ h2
        rw [List.getElem?_set_self (by rw [← s.len]; exact hi)] at h4
        cases h4
        rw [(ne a za).1] at h1
        rw [(ne a za).2] at h3
        exact new a l1 za h1 h3
      · rw [(ne a za).1] at h1
        rw [(ne a za).2] at h3
        rw [(ne b zb).1] at h2
        rw [(ne b zb).2] at h4
        exact s.sep a b l1 l2 q h1 h2 h3 h4

/-- what is wanted behind a statement, by data -/
def EndS (K : PySem.W.Frag) (ta : Option Addr) (He : Hp) (Dn : Ends) (fl : Fl) (H' H0' : Hp) : Prop := match fl with
  | .nx env' => ∀ σ', Ss K ta He H' H0' σ' env' → Dn.nx σ' H'
  | .rt d => ∀ v, Rep K ta H0' v d → Dn.rt v H'
  | .bk env' => ∀ σ', Ss K ta He H' H0' σ' env' → Dn.bk σ' H'
  | .ct env' => ∀ σ', Ss K ta He H' H0' σ' env' → Dn.ct σ' H'
def tS (K : PySem.W.Frag) (mg : Str → Option Value) (E : XW) (F : FS) : TS := fun Dn σ H => ∃ ta He He0 H0 env T, Go ta He He0 H H0 ∧ Pu K ta E.2 H H0 T ∧ Ss K ta He H H0 σ env ∧ Run K mg E.1 ta E.2 He He0 T (F env) (EndS K ta He Dn)

/-! an expression within a statement: the lists of its own hidden, or (frz) shown, then the tape is hidden and no list may come out -/
def noLstB : Nat → D → Bool
  | 0, _ => false
  | n + 1, d => match d with
    | .tup l => l.all (noLstB n)
    | .lst _ | .frl _ | .dct _ _ | .tape => false
    | _ => true
mutual
def noLst : D → Bool
  | .tup l => noLsts l
  | .lst _ | .frl _ | .dct _ _ | .tape | .lam _ _ _ _ _ => false
  | .non | .bl _ | .int _ | .str _ | .ty _ | .fn _ => true
def noLsts : List D → Bool
  | [] => true
  | d :: ds => noLst d && noLsts ds
end
mutual
def noTp : D → Bool
  | .tup l => noTps l
  | .lst l => noTps l
  | .frl l => noTps l
  | .dct _ l => noTps l
  | .tape | .lam _ _ _ _ _ => false
  | .non | .bl _ | .int _ | .str _ | .ty _ | .fn _ => true
def noTps : List D → Bool
  | [] => true
  | d :: ds => noTp d && noTps ds
end
mutual
theorem Rep.offTape {ta' : Option Addr} {v : V} {d : D} (h : noTp d = true) (r : Rep K ta H v d) : Rep K ta' H v d := by
  cases r with
  | non => exact .non
  | bl b => exact .bl b
  | int i => exact .int i
  | str x => exact .str x
  | ty n => exact .ty n
  | fn a => exact .fn a
  | tape _ => cases h
  | lam _ _ _ => cases h
  | tup s r l => exact .tup s (Reps.offTape h r) l
  | lst s r l => exact .lst s (Reps.offTape h r) l
  | frl s r l => exact .frl s (Reps.offTape h r) l
  | dct s q r l => exact .dct s q (Reps.offTape h r) l
theorem Reps.offTape {ta' : Option Addr} {vs : List V} {ds : List D} (h : noTps ds = true) (r : Reps K ta H vs ds) : Reps K ta' H vs ds := by
  cases r with
  | nil => exact .nil
  | cons r t =>
    unfold noTps at h
    rw [Bool.and_eq_true] at h
    exact .cons (Rep.offTape h.1 r) (Reps.offTape h.2 t)
end
mutual
theorem Rep.anyTape {v : V} {d : D} (r : Rep K none H v d) : Rep K ta H v d := by
  cases r with
  | non => exact .non
  | bl b => exact .bl b
  | int i => exact .int i
  | str x => exact .str x
  | ty n => exact .ty n
  | fn a => exact .fn a
  | tape e => cases e
  | lam h b c => exact .lam (.inl (h.elim id fun z => z.symm)) b c
  | tup s r l => exact .tup s (Reps.anyTape r) l
  | lst s r l => exact .lst s (Reps.anyTape r) l
  | frl s r l => exact .frl s (Reps.anyTape r) l
  | dct s q r l => exact .dct s q (Reps.anyTape r) l
theorem Reps.anyTape {vs : List V} {ds : List D} (r : Reps K none H vs ds) : Reps K ta H vs ds := by
  cases r with
  | nil => exact .nil
  | cons r t => exact .cons (Rep.anyTape r) (Reps.anyTape t)
end
mutual
/-- data without lists lean on no list -/
theorem Rep.lean {G : Hp} (hG : ∀ a o, H a = some o → (∀ xs, o ≠ .lst xs) → G a = some o) {v : V} {d : D} (h : noLst d = true) (r : Rep K ta H v d) : Rep K ta G v d := by
  cases r with
  | non => exact .non
  | bl b => exact .bl b
  | int i => exact .int i
  | str x => exact .str x
  | ty n => exact .ty n
  | fn a => exact .fn a
  | tup s r l =>
    refine .tup ?_ (Reps.lean hG h r) l
    rcases s with (s | ⟨o, s⟩) | s
    · exact .inl (.inl (hG _ _ s fun _ z => by cases z))
    · exact .inl (.inr ⟨o, hG _ _ s fun _ z => by cases z⟩)
    · exact .inr s
  | _ => cases h
theorem Reps.lean {G : Hp} (hG : ∀ a o, H a = some o → (∀ xs, o ≠ .lst xs) → G a = some o) {vs : List V} {ds : List D} (h : noLsts ds = true) (r : Reps K ta H vs ds) : Reps K ta G vs ds := by
  cases r with
  | nil => exact .nil
  | cons r t =>
    unfold noLsts at h
    rw [Bool.and_eq_true] at h
    exact .cons (Rep.lean hG h.1 r) (Reps.lean hG h.2 t)
end
def Sv.frz : Sv → Option D
  | .val d => if noTp d then some d else none
  | .own l => if noTps l then some (.lst l) else none
  | .non => none
def frz (env : SEnv) : Env := env.map Sv.frz
/-- a list of its own stands at a -/
def OwnAt (σ : L2.St) (env : SEnv) (a : Addr) : Prop := ∃ (i : Nat) (l : List D), env[i]? = some (.own l) ∧ σ[i]? = some (some (.ref a))
open Classical in
noncomputable def shown (σ : L2.St) (env : SEnv) (H H0 : Hp) : Hp := fun a => if OwnAt σ env a then H a else H0 a
open Classical in
noncomputable def hidden (σ : L2.St) (env : SEnv) (H0 : Hp) : Hp := fun a => if OwnAt σ env a then none else H0 a
theorem shown_own {a : Addr} (h : OwnAt σ env a) : shown σ env H H0 a = H a := if_pos h
theorem shown_not {a : Addr} (h : ¬ OwnAt σ env a) : shown σ env H H0 a = H0 a := if_neg h
theorem hidden_own {a : Addr} (h : OwnAt σ env a) : hidden σ env H0 a = none := if_pos h
theorem hidden_not {a : Addr} (h : ¬ OwnAt σ env a) : hidden σ env H0 a = H0 a := if_neg h
theorem Ss.ownAt (s : Ss K ta He H H0 σ env) {a : Addr} (h : OwnAt σ env a) : Fr He a ∧ H0 a = none ∧ ta ≠ some a ∧ ∃ vs, H a = some (.lst vs) := by
  obtain ⟨i, l, h1, h2⟩ := h
  obtain ⟨p, vs, h3, h4, h5, h6, h7, _⟩ := s.own i l h1
  rw [h2] at h3
  cases h3
  exact ⟨h4, h5, h6, vs, h7⟩
theorem Ss.ex_shown (s : Ss K ta He H H0 σ env) : Ex H0 (shown σ env H H0) := fun a o h => by
  by_cases z : OwnAt σ env a
  · rw [(s.ownAt z).2.1] at h; cases h
  · rw [shown_not z]; exact h
theorem Ss.shownPu (s : Ss K ta He H H0 σ env) (I : Pu K ta Tb H H0 T) : Pu K none Tb H (shown σ env H H0) [] := by
  refine ⟨fun a o h => ?_, fun a e => (by cases e), I.tb, fun a ps h => ?_⟩
  · by_cases z : OwnAt σ env a
    · rw [shown_own z] at h; exact h
    · rw [shown_not z] at h; exact I.ex a o h
  · by_cases z : OwnAt σ env a
    · rw [shown_own z] at h
      obtain ⟨_, _, _, vs, e⟩ := s.ownAt z
      rw [h] at e; cases e
    · rw [shown_not z] at h; exact I.nt a ps h
theorem Ss.shownSl (s : Ss K ta He H H0 σ env) : Sl K none (shown σ env H H0) σ (frz env) := by
  refine ⟨by unfold frz; rw [List.length_map, s.len], fun i d h => ?_⟩
  unfold frz at h
  rw [List.getElem?_map, Option.map_eq_some_iff] at h
  obtain ⟨sv, h1, h2⟩ := h
  cases sv with
  | non => cases h2
  | val d' =>
    unfold Sv.frz at h2
    by_cases z : noTp d' = true
    · simp only [z, if_true] at h2
      cases h2
      obtain ⟨v, e, r⟩ := s.val i _ h1
      exact ⟨v, e, (r.offTape z).mono s.ex_shown⟩
    · simp [z] at h2
  | own l =>
    unfold Sv.frz at h2
    by_cases z : noTps l = true
    · simp only [z, if_true] at h2
      cases h2
      obtain ⟨p, vs, e, h3, h4, h5, h6, r, hl⟩ := s.own i _ h1
      exact ⟨_, e, .lst (by rw [shown_own ⟨i, l, h1, e⟩]; exact h6) ((r.offTape z).mono s.ex_shown) (le_line hl)⟩
    · simp [z] at h2
section
variable {H' H0' : Hp} {T' : List D}
theorem Ss.backGo (s : Ss K ta He H H0 σ env) (g : Go none H (shown σ env H H0) H' H0') : Go ta H H0 H' (hidden σ env H0') := by
  refine ⟨fun a o h _ t => g.keep a o h (fun z => by cases z) t, g.dom, fun a o h => ?_, fun a o h n => ?_⟩
  · by_cases z : OwnAt σ env a
    · rw [(s.ownAt z).2.1] at h; cases h
    · rw [hidden_not z]; exact g.up a o (s.ex_shown a o h)
  · by_cases z : OwnAt σ env a
    · exact hidden_own z
    · rw [hidden_not z]; exact g.new a o h (by rw [shown_not z]; exact n)
theorem Ss.backPu (s : Ss K ta He H H0 σ env) (I : Pu K ta Tb H H0 T) (g : Go none H (shown σ env H H0) H' H0') (J : Pu K none Tb H' H0' T') : Pu K ta Tb H' (hidden σ env H0') T := by
  have gb := s.backGo g
  refine ⟨fun a o h => ?_, fun a e => ?_, J.tb, fun a ps h => ?_⟩
  · by_cases z : OwnAt σ env a
    · rw [hidden_own z] at h; cases h
    · rw [hidden_not z] at h; exact J.ex a o h
  · obtain ⟨n, vs, h, r⟩ := I.tp a e
    exact ⟨gb.new a _ h n, vs, g.keep a _ h (fun z => by cases z) nt_lst, r.mono gb.up⟩
  · by_cases z : OwnAt σ env a
    · rw [hidden_own z] at h; cases h
    · rw [hidden_not z] at h; exact J.nt a ps h
theorem Ss.backRep (s : Ss K ta He H H0 σ env) (g : Go none H (shown σ env H H0) H' H0') {v : V} {d : D} (h : noLst d = true) (r : Rep K none H0' v d) : Rep K ta (hidden σ env H0') v d := by
  refine Rep.anyTape (Rep.lean (fun a o e n => ?_) h r)
  by_cases z : OwnAt σ env a
  · obtain ⟨_, _, _, vs, q⟩ := s.ownAt z
    have : H0' a = some (.lst vs) := g.up a _ (by rw [shown_own z]; exact q)
    rw [e] at this
    cases this
    exact absurd rfl (n vs)
  · rw [hidden_not z]; exact e
/-- at a return: what is shown stays so -/
theorem Ss.retGo (s : Ss K ta He H H0 σ env) (gb : Go ta He He0 H H0) (g : Go none H (shown σ env H H0) H' H0') : Go ta He He0 H' H0' := by
  refine ⟨fun a o h n t => g.keep a o (gb.keep a o h n t) (fun z => by cases z) t, fun a o h m => let ⟨o', h', m', l'⟩ := gb.dom a o h m; let ⟨o2, h2, m2, l2⟩ := g.dom a o' h' m'; ⟨o2, h2, m2, fun z => l2 (l' z)⟩, (gb.up.trans s.ex_shown).trans g.up, fun a o h n => ?_⟩
  obtain ⟨o', h', m', l'⟩ := gb.dom a _ h nt_lst
  obtain ⟨ys, rfl⟩ := l' ⟨_, rfl⟩
  refine g.new a ys h' ?_
  have z : ¬ OwnAt σ env a := fun z => (s.ownAt z).1 _ h nt_lst
  rw [shown_not z]
  exact gb.new a o h n
theorem Ss.retPu (s : Ss K ta He H H0 σ env) (I : Pu K ta Tb H H0 T) (g : Go none H (shown σ env H H0) H' H0') (J : Pu K none Tb H' H0' T') : Pu K ta Tb H' H0' T := by
  refine ⟨J.ex, fun a e => ?_, J.tb, J.nt⟩
  obtain ⟨n, vs, h, r⟩ := I.tp a e
  refine ⟨g.new a _ h ?_, vs, g.keep a _ h (fun z => by cases z) nt_lst, r.mono (s.ex_shown.trans g.up)⟩
  have z : ¬ OwnAt σ env a := fun z => (s.ownAt z).2.2.1 e
  rw [shown_not z]
  exact n
end
/-- how an expression is run within a statement -/
def runX {α : Type} (ok : α → Bool) (u : Bool) (F : Env → M α) (env : SEnv) : M α := if u = true then (fun T => match F (frz env) [] with
  | some (.ok a _) => if ok a = true then some (.ok a T) else none
  | some (.ex c _) => some (.ex c T)
  | none => none) else F (hide env)
theorem run_stmt {α : Type} {ok : α → Bool} {u : Bool} {F : Env → M α} {f : α → M Fl} {k : Fl → Hp → Hp → Prop} (gb : Go ta He He0 H H0) (I : Pu K ta Tb H H0 T) (S : Ss K ta He H H0 σ env) (h : Run K mg E ta Tb He He0 T (M.bind (runX ok u F env) f) k) :
    ∃ ta' H0' env' T', Sl K ta' H0' σ env' ∧ Pu K ta' Tb H H0' T' ∧ Run K mg E ta' Tb H H0' T' (F env') fun a H1 H01 => ∃ H0n T1, Go ta H H0 H1 H0n ∧ Pu K ta Tb H1 H0n T1 ∧
      (∀ v d, (u = false ∨ noLst d = true) → Rep K ta' H01 v d → Rep K ta H0n v d) ∧ (u = true → ok a = true) ∧ Run K mg E ta Tb He He0 T1 (f a) k := by
  cases u with
  | false =>
    refine ⟨ta, H0, hide env, T, S.hide, I, ?_⟩
    obtain ⟨o, e, q⟩ := h.bind
    unfold runX at e
    rw [if_neg Bool.false_ne_true] at e
    refine ⟨o, e, ?_⟩
    cases o with
    | ok a T' => exact fun H1 H01 g1 I1 => ⟨H01, T', g1, I1, fun v d _ r => r, fun z => Bool.noConfusion z, q⟩
    | ex c T' => obtain ⟨C, e1, q⟩ := q; exact ⟨C, e1, fun H1 H01 g1 I1 => q H1 H01 (gb.trans g1) I1⟩
  | true =>
    refine ⟨none, shown σ env H H0, frz env, [], S.shownSl, S.shownPu I, ?_⟩
    obtain ⟨o, e, q⟩ := h.bind
    unfold runX at e
    rw [if_pos rfl] at e
    cases hF : F (frz env) [] with
    | none => rw [hF] at e; cases e
    | some ox =>
      rw [hF] at e
      cases ox with
      | ok a T' =>
        by_cases z : ok a = true
        · simp only [z, if_true] at e
          cases e
          exact ⟨_, hF, fun H1 H01 g1 I1 => ⟨hidden σ env H01, T, S.backGo g1, S.backPu I g1 I1, fun v d hd r => S.backRep g1 (hd.resolve_left (fun z => Bool.noConfusion z)) r, fun _ => z, q⟩⟩
        · simp [z] at e
      | ex c T' =>
        cases e
        obtain ⟨C, e1, q⟩ := q
        exact ⟨_, hF, C, e1, fun H1 H01 g1 I1 => q H1 (hidden σ env H01) (gb.trans (S.backGo g1)) (S.backPu I g1 I1)⟩
/-- .. at a return: any data may come out -/
def runR (u : Bool) (F : FE) (env : SEnv) : M D := if u = true then (fun T => match F (frz env) [] with
  | some (.ok a _) => some (.ok a T)
  | some (.ex c _) => some (.ex c T)
  | none => none) else F (hide env)
theorem run_ret {u : Bool} {F : FE} {f : D → M Fl} {k : Fl → Hp → Hp → Prop} (gb : Go ta He He0 H H0) (I : Pu K ta Tb H H0 T) (S : Ss K ta He H H0 σ env) (h : Run K mg E ta Tb He He0 T (M.bind (runR u F env) f) k) :
    ∃ ta' H0' env' T', Sl K ta' H0' σ env' ∧ Pu K ta' Tb H H0' T' ∧ Run K mg E ta' Tb H H0' T' (F env') fun a H1 H01 => ∃ T1, Go ta He He0 H1 H01 ∧ Pu K ta Tb H1 H01 T1 ∧
      (∀ v d, Rep K ta' H01 v d → Rep K ta H01 v d) ∧ Run K mg E ta Tb He He0 T1 (f a) k := by
  cases u with
  | false =>
    refine ⟨ta, H0, hide env, T, S.hide, I, ?_⟩
    obtain ⟨o, e, q⟩ := h.bind
    unfold runR at e
    rw [if_neg Bool.false_ne_true] at e
    refine ⟨o, e, ?_⟩
    cases o with
    | ok a T' => exact fun H1 H01 g1 I1 => ⟨T', gb.trans g1, I1, fun v d r => r, q⟩
    | ex c T' => obtain ⟨C, e1, q⟩ := q; exact ⟨C, e1, fun H1 H01 g1 I1 => q H1 H01 (gb.trans g1) I1⟩
  | true =>
    refine ⟨none, shown σ env H H0, frz env, [], S.shownSl, S.shownPu I, ?_⟩
    obtain ⟨o, e, q⟩ := h.bind
    unfold runR at e
    rw [if_pos rfl] at e
    cases hF : F (frz env) [] with
    | none => rw [hF] at e; cases e
    | some ox =>
      rw [hF] at e
      cases ox with
      | ok a T' =>
        cases e
        exact ⟨_, hF, fun H1 H01 g1 I1 => ⟨T, S.retGo gb g1, S.retPu I g1 I1, fun v d r => r.anyTape, q⟩⟩
      | ex c T' =>
        cases e
        obtain ⟨C, e1, q⟩ := q
        exact ⟨_, hF, C, e1, fun H1 H01 g1 I1 => q H1 (hidden σ env H01) (gb.trans (S.backGo g1)) (S.backPu I g1 I1)⟩
end
end PF

namespace PF
open PySem PySem.Spec PyProof.Rows L2
open Evl (Ex)
abbrev PFS (X : Cx) (E : XW) (st : Stmt) (F : FS) : Prop := PS X st (tS X.K X.mg E F)
abbrev PFSs (X : Cx) (E : XW) (sts : List Stmt) (F : FS) : Prop := PSs X sts (tS X.K X.mg E F)
section
variable {K : PySem.W.Frag} {mg : Str → Option Value} {E : XK} {ta : Option Addr} {Tb : List (Addr × Str)} {He He0 H H0 H1 H01 : Hp} {T : List D} {σ : L2.St} {env : SEnv} {Dn : Ends}
/-- the end is come to -/
theorem runS_ret {fl : Fl} (g : Go ta He He0 H H0) (I : Pu K ta Tb H H0 T) (h : Run K mg E ta Tb He He0 T (M.ret fl) (EndS K ta He Dn)) : EndS K ta He Dn fl H H0 := ret_go h g I
theorem runS_nx {e : SEnv} (g : Go ta He He0 H H0) (I : Pu K ta Tb H H0 T) (h : Run K mg E ta Tb He He0 T (M.ret (.nx e)) (EndS K ta He Dn)) (s : Ss K ta He H H0 σ e) : Dn.nx σ H := runS_ret g I h σ s
end
section
variable {X : Cx} {E : XW} {st : Stmt} {rest : List Stmt} {e : Expr} {es : List Expr} {pos : Pos} {F G : FE} {A : FA} {P : FT} {S1 S2 : FS}
def sNext : FS := fun env => M.ret (.nx env)
def sSeq (F G : FS) : FS := fun env => M.bind (F env) fun fl => match fl with
  | .nx e => G e
  | o => M.ret o
theorem pfs_nil : PFSs X E [] sNext := PSs.imp pss_nil fun Dn σ H h => by
  obtain ⟨ta, He, He0, H0, env, T, g, I, S, q⟩ := h
  exact runS_nx g I q S
theorem pfs_one (h : PFS X E st S1) : PFSs X E [st] S1 := pss_one h
theorem pfs_cons (h1 : PFS X E st S1) (h2 : PFSs X E rest S2) : PFSs X E (st :: rest) (sSeq S1 S2) := PSs.imp (pss_cons h1 h2) fun Dn σ H h => by
  obtain ⟨ta, He, He0, H0, env, T, g, I, S, q⟩ := h
  refine ⟨ta, He, He0, H0, env, T, g, I, S, ?_⟩
  obtain ⟨o, e, q⟩ := q.bind
  refine ⟨o, e, ?_⟩
  cases o with
  | ex c T' => exact q
  | ok fl T' =>
    intro H' H0' g' I'
    cases fl with
    | nx e' => exact fun σ' S' => ⟨ta, He, He0, H0', e', T', g', I', S', q⟩
    | rt d => have z := runS_ret (Dn := Dn) g' I' q; exact z
    | bk e' => have z := runS_ret (Dn := Dn) g' I' q; exact z
    | ct e' => have z := runS_ret (Dn := Dn) g' I' q; exact z
def sBreak : FS := fun env => M.ret (.bk env)
def sCont : FS := fun env => M.ret (.ct env)
theorem pfs_pass : PFS X E (.Pass pos) sNext := PS.imp ps_pass fun Dn σ H h => by
  obtain ⟨ta, He, He0, H0, env, T, g, I, S, q⟩ := h
  exact runS_nx g I q S
theorem pfs_break : PFS X E (.Break pos) sBreak := PS.imp ps_break fun Dn σ H h => by
  obtain ⟨ta, He, He0, H0, env, T, g, I, S, q⟩ := h
  exact runS_ret g I q σ S
theorem pfs_continue : PFS X E (.Continue pos) sCont := PS.imp ps_continue fun Dn σ H h => by
  obtain ⟨ta, He, He0, H0, env, T, g, I, S, q⟩ := h
  exact runS_ret g I q σ S
def sRet (u : Bool) (F : FE) : FS := fun env => M.bind (runR u F env) fun d => M.ret (.rt d)
theorem pfs_ret (u : Bool) (he : PF X E e F) : PFS X E (.Return (some e) pos) (sRet u F) := PS.imp (ps_ret he) fun Dn σ H h => by
  obtain ⟨ta, He, He0, H0, env, T, g, I, S, q⟩ := h
  obtain ⟨ta', H0', env', T', S', I', q'⟩ := run_ret g I S q
  refine ⟨ta', H0', env', T', S', I', q'.imp fun d H1 H01 g1 ⟨T1, g2, I2, tr, q2⟩ v rv => ?_⟩
  exact runS_ret g2 I2 q2 v (tr v d rv)
def sRetN : FS := fun _ => M.ret (.rt .non)
theorem pfs_retN : PFS X E (.Return none pos) sRetN := PS.imp ps_retN fun Dn σ H h => by
  obtain ⟨ta, He, He0, H0, env, T, g, I, S, q⟩ := h
  exact runS_ret g I q _ .non
/-- name = e -/
def sSet (u : Bool) (i : Nat) (F : FE) : FS := fun env => M.bind (runX noLst u F env) fun d => M.ret (.nx (env.set i (.val d)))
theorem noLst_or {u : Bool} {d : D} (h : u = true → noLst d = true) : u = false ∨ noLst d = true := by
  cases u with
  | false => exact .inl rfl
  | true => exact .inr (h rfl)
theorem imp_set (u : Bool) (i : Nat) (Dn : Ends) (σ : L2.St) (H : Hp) (h : tS X.K X.mg E (sSet u i F) Dn σ H) : tAsg (tF X.K X.mg E F) (gName i) Dn σ H := by
  obtain ⟨ta, He, He0, H0, env, T, g, I, S, q⟩ := h
  obtain ⟨ta', H0', env', T', S', I', q'⟩ := run_stmt g I S q
  refine ⟨ta', H0', env', T', S', I', q'.imp fun d H1 H01 g1 ⟨H0n, T1, g2, I2, tr, hok, q2⟩ v rv => ?_⟩
  exact runS_nx (g.trans g2) I2 q2 ((S.go g2).set (tr v d (noLst_or hok) rv) i)
theorem pfs_set (u : Bool) (i : Nat) {x : Str} {pos' : Pos} (hN : X.N.Nodup) (he : PF X E e F) (hi : X.N[i]? = some x := by rfl) (hx : Loc X.env.scope x := by first | exact Or.inl rfl | exact Or.inr rfl) (hs : swapsWith e (some (.Name x pos')) pos.line X.env = pure false := by rfl)
    (hf : X.fn x = true ∨ X.env.scope.names.lookup x = some .local := by first | exact .inl rfl | exact .inr rfl | assumption) : PFS X E (.Assign [.Name x pos'] e pos) (sSet u i F) := PS.imp (ps_set hN hi hx he hs hf) (imp_set u i)
/-- name = [..] (a comprehension on the assignment's line) -/
theorem pfs_setLc (u : Bool) {i : Nat} {y : Str} {py : Pos} {elt tg iter : Expr} {ifs : List Expr} {scope : Scope} {own : List (Str × Nat)} {spos : Pos} {I : FI} {g : TgD} (hc : X.calm = true) (hN : X.N.Nodup) (hy : X.N[i]? = some y) (hyl : X.env.scope.names.lookup y = some .local)
    (hsw : swapsWith (.ListComp elt [⟨tg, iter, ifs, 0⟩] scope pos) (some (.Name y py)) spos.line X.env = pure true) (hi : PFI X E tg iter I) (ok : BlkOk X.N X.env.scope scope own)
    (hg : ∀ (s : Shared) (H : Hp) (C : Addr) (cl : List (Str × Addr)) (fp : List Addr), PGD (X.blk s H scope (compEnvC scope cl C X.env) fp) tg g) (ht : ∀ (s : Shared) (H : Hp) (C : Addr) (cl : List (Str × Addr)) (fp : List Addr), PFTs (X.blk s H scope (compEnvC scope cl C X.env) fp) (E0, E.2) ifs P)
    (he : ∀ (s : Shared) (H : Hp) (C : Addr) (cl : List (Str × Addr)) (fp : List Addr), PF (X.blk s H scope (compEnvC scope cl C X.env) fp) (E0, E.2) elt F) (hv : ∀ d l, g d = some l → ∀ p ∈ l, p.1 ∈ own.map (·.2)) (hs : ∀ x, foldedSetIterable iter X.env x = pure x := by intro _; rfl) :
    PFS X E (.Assign [.Name y py] (.ListComp elt [⟨tg, iter, ifs, 0⟩] scope pos) spos) (sSet u i (fLc I (own.map (·.2)) g P F)) := by
  refine PS.imp (ps_setLc (te := tF X.K X.mg (E0, E.2) F) (g := tGd X.K g) (tt := tFT X.K X.mg (E0, E.2) P) hc hN hy hyl hsw hi ok hg ht he hs) fun Dn σ H h => ?_
  obtain ⟨ta, He, He0, H0, env, T, g, J, S, q⟩ := h
  obtain ⟨ta', H0', env', T', S', I', q'⟩ := run_stmt g J S q
  refine imp_lc hv σ H _ ⟨ta', H0', env', T', S', I', q'.imp fun d H1 H01 g1 ⟨H0n, T1, g2, I2, tr, hok, q2⟩ v rv => ?_⟩
  exact runS_nx (g.trans g2) I2 q2 ((S.go g2).set (tr v d (noLst_or hok) rv) i)
/-- a, b = e -/
def setV : SEnv → List (Nat × D) → SEnv
  | env, (i, d) :: l => setV (env.set i (.val d)) l
  | env, [] => env
theorem Ss.setS {K : PySem.W.Frag} {ta : Option Addr} {He H H0 : Hp} : ∀ {l : List (Nat × D)} {vs : List V} {σ : L2.St} {env : SEnv}, Reps K ta H0 vs (l.map (·.2)) → Ss K ta He H H0 σ env → Ss K ta He H H0 (PF.setS σ (l.map (·.1)) vs) (setV env l)
  | [], _, _, _, .nil, s => s
  | (i, d) :: l, _, _, _, .cons r t, s => Ss.setS (l := l) t (s.set r i)
def sAsg (u : Bool) (F : FE) (g : TgD) : FS := fun env => M.bind (runX noLst u F env) fun d => M.bind (M.of (g d)) fun l => M.ret (.nx (setV env l))
theorem pfs_asg (u : Bool) {tg : Expr} {g : TgD} (he : PF X E e F) (hg : PGD X tg g) (hs : swapsWithSole [tg] e pos.line X.env = pure false := by rfl) (hw : swappedStores [tg] e X.env = pure none := by rfl)
    (h1 : (assignEach [tg] X.env).map (·.2) = [assign tg X.env] := by rfl) : PFS X E (.Assign [tg] e pos) (sAsg u F g) := PS.imp (ps_asg he hg hs hw h1) fun Dn σ H h => by
  obtain ⟨ta, He, He0, H0, env, T, g, I, S, q⟩ := h
  obtain ⟨ta', H0', env', T', S', I', q'⟩ := run_stmt g I S q
  refine ⟨ta', H0', env', T', S', I', q'.imp fun d H1 H01 g1 ⟨H0n, T1, g2, I2, tr, hok, q2⟩ v rv => ?_⟩
  obtain ⟨l, hl, q3⟩ := bind_of q2
  refine ⟨ta, H0n, d, l, I2.ex, tr v d (noLst_or hok) rv, hl, fun ws rws => ?_⟩
  exact runS_nx (g.trans g2) I2 q3 ((S.go g2).setS rws)
/-- a, b = x, y -/
def sPar2 (u : Bool) (i j : Nat) (A : FA) : FS := fun env => M.bind (runX noLsts u A env) fun ds => match ds with
  | [a, b] => M.ret (.nx ((env.set i (.val a)).set j (.val b)))
  | _ => M.bad
def sPar3 (u : Bool) (i j k : Nat) (A : FA) : FS := fun env => M.bind (runX noLsts u A env) fun ds => match ds with
  | [a, b, c] => M.ret (.nx (((env.set i (.val a)).set j (.val b)).set k (.val c)))
  | _ => M.bad
theorem pfs_par2 (u : Bool) (i j : Nat) {x y : Str} {a b : Expr} {px py pt : Pos} {kt k2 pt2} (hc : X.calm = true) (hN : X.N.Nodup) (ha : PFA X E [a, b] A) (hi : X.N[i]? = some x := by rfl) (hj : X.N[j]? = some y := by rfl) (hij : i ≠ j := by decide)
    (hx : X.env.scope.names.lookup x = some .local := by rfl) (hy : X.env.scope.names.lookup y = some .local := by rfl)
    (hw : swappedStores [.Tuple [.Name x px, .Name y py] kt pt] (.Tuple [a, b] k2 pt2) X.env = pure (some [x, y]) := by rfl)
    (hs : swapsWithSole [.Tuple [.Name x px, .Name y py] kt pt] (.Tuple [a, b] k2 pt2) pos.line X.env = pure false := by rfl) :
    PFS X E (.Assign [.Tuple [.Name x px, .Name y py] kt pt] (.Tuple [a, b] k2 pt2) pos) (sPar2 u i j A) := PS.imp (ps_par hc hN hi hj hij hx hy ha hw hs) fun Dn σ H h => by
  obtain ⟨ta, He, He0, H0, env, T, g, I, S, q⟩ := h
  obtain ⟨ta', H0', env', T', S', I', q'⟩ := run_stmt g I S q
  refine ⟨ta', H0', env', T', S', I', q'.imp fun ds H1 H01 g1 ⟨H0n, T1, g2, I2, tr, hok, q2⟩ vs rvs => ?_⟩
  rcases ds with _ | ⟨d1, _ | ⟨d2, _ | ⟨d3, ds⟩⟩⟩
  case cons.cons.nil =>
    have hk : u = false ∨ (noLst d1 = true ∧ noLst d2 = true) := by
      cases u with
      | false => exact .inl rfl
      | true =>
        have := hok rfl
        simp [noLsts] at this
        exact .inr this
    cases rvs with
    | cons r1 t =>
      cases t with
      | cons r2 t =>
        cases t
        refine ⟨_, _, rfl, runS_nx (g.trans g2) I2 q2 (((S.go g2).set (tr _ _ (hk.imp id (·.1)) r1) i).set (tr _ _ (hk.imp id (·.2)) r2) j)⟩
  all_goals exact (run_bad q2).elim
theorem pfs_par3 (u : Bool) (i j l : Nat) {x y z : Str} {a b c : Expr} {px py pz pt : Pos} {kt k2 pt2} (hc : X.calm = true) (hN : X.N.Nodup) (ha : PFA X E [a, b, c] A) (hi : X.N[i]? = some x := by rfl) (hj : X.N[j]? = some y := by rfl) (hl : X.N[l]? = some z := by rfl) (hij : i ≠ j := by decide) (hil : i ≠ l := by decide) (hjl : j ≠ l := by decide)
    (hx : X.env.scope.names.lookup x = some .local := by rfl) (hy : X.env.scope.names.lookup y = some .local := by rfl) (hz : X.env.scope.names.lookup z = some .local := by rfl)
    (hw : swappedStores [.Tuple [.Name x px, .Name y py, .Name z pz] kt pt] (.Tuple [a, b, c] k2 pt2) X.env = pure (some [x, y, z]) := by rfl)
    (hs : swapsWithSole [.Tuple [.Name x px, .Name y py, .Name z pz] kt pt] (.Tuple [a, b, c] k2 pt2) pos.line X.env = pure false := by rfl) :
    PFS X E (.Assign [.Tuple [.Name x px, .Name y py, .Name z pz] kt pt] (.Tuple [a, b, c] k2 pt2) pos) (sPar3 u i j l A) := PS.imp (ps_par3 hc hN hi hj hl hij hil hjl hx hy hz ha hw hs) fun Dn σ H h => by
  obtain ⟨ta, He, He0, H0, env, T, g, I, S, q⟩ := h
  obtain ⟨ta', H0', env', T', S', I', q'⟩ := run_stmt g I S q
  refine ⟨ta', H0', env', T', S', I', q'.imp fun ds H1 H01 g1 ⟨H0n, T1, g2, I2, tr, hok, q2⟩ vs rvs => ?_⟩
  rcases ds with _ | ⟨d1, _ | ⟨d2, _ | ⟨d3, _ | ⟨d4, ds⟩⟩⟩⟩
  case cons.cons.cons.nil =>
    have hk : u = false ∨ (noLst d1 = true ∧ noLst d2 = true ∧ noLst d3 = true) := by
      cases u with
      | false => exact .inl rfl
      | true =>
        have := hok rfl
        simp [noLsts] at this
        exact .inr this
    cases rvs with
    | cons r1 t =>
      cases t with
      | cons r2 t =>
        cases t with
        | cons r3 t =>
          cases t
          refine ⟨_, _, _, rfl, runS_nx (g.trans g2) I2 q2 ((((S.go g2).set (tr _ _ (hk.imp id (·.1)) r1) i).set (tr _ _ (hk.imp id (·.2.1)) r2) j).set (tr _ _ (hk.imp id (·.2.2)) r3) l)⟩
  all_goals exact (run_bad q2).elim
/-- name op= e -/
def sAug (u : Bool) (i : Nat) (g : D → D → Option D) (F : FE) : FS := fun env => match env[i]? with
  | some (.val x) => M.bind (runX noLst u F env) fun y => M.bind (M.of (g x y)) fun z => M.ret (.nx (env.set i (.val z)))
  | _ => M.bad
theorem pfs_aug (u : Bool) (i : Nat) {x : Str} {op : Operator} {r : R2} {g : D → D → Option D} {pos' : Pos} (hN : X.N.Nodup) (ho : OpR X (inplaceOp op) r) (hr : RD X.K r g) (he : PF X E e F) (hi : X.N[i]? = some x := by rfl) (hx : Loc X.env.scope x := by first | exact Or.inl rfl | exact Or.inr rfl)
    (hf : X.fn x = true ∨ X.env.scope.names.lookup x = some .local := by first | exact .inl rfl | exact .inr rfl | assumption) : PFS X E (.AugAssign (.Name x pos') op e pos) (sAug u i g F) := PS.imp (ps_aug hN hi hx he (show PIp X op r from ho) hf) fun Dn σ H h => by
  obtain ⟨ta, He, He0, H0, env, T, gg, I, S, q⟩ := h
  unfold sAug at q
  split at q
  · rename_i dx hdx
    obtain ⟨v, hv, rv⟩ := S.val i dx hdx
    obtain ⟨ta', H0', env', T', S', I', q'⟩ := run_stmt gg I S q
    refine ⟨v, hv, ta', H0', env', T', S', I', q'.imp fun dy H1 H01 g1 ⟨H0n, T1, g2, I2, tr, hok, q2⟩ w rw' => ?_⟩
    obtain ⟨dz, hz, q3⟩ := bind_of q2
    refine hr ta E.2 H1 H0n T1 v w dx dy dz _ I2 (rv.mono g2.up) (tr w dy (noLst_or hok) rw') hz fun z H2 H02 g3 I3 r3 => ?_
    exact runS_nx ((gg.trans g2).trans g3) I3 q3 (((S.go g2).go g3).set r3 i)
  · exact (run_bad q).elim
/-- an expression alone -/
def sEx (u : Bool) (F : FE) : FS := fun env => M.bind (runX (fun _ => true) u F env) fun _ => M.ret (.nx env)
theorem pfs_expr (u : Bool) (he : PF X E e F) (hs : swapsWith e none pos.line X.env = pure false := by rfl) : PFS X E (.Expr e pos) (sEx u F) := PS.imp (ps_expr he hs) fun Dn σ H h => by
  obtain ⟨ta, He, He0, H0, env, T, g, I, S, q⟩ := h
  obtain ⟨ta', H0', env', T', S', I', q'⟩ := run_stmt g I S q
  refine ⟨ta', H0', env', T', S', I', q'.imp fun d H1 H01 g1 ⟨H0n, T1, g2, I2, tr, hok, q2⟩ v rv => ?_⟩
  exact runS_nx (g.trans g2) I2 q2 (S.go g2)
/-- if -/
def sIf (u : Bool) (P : FT) (F G : FS) : FS := fun env => M.bind (runX (fun _ => true) u P env) fun b => if b = true then F env else G env
theorem pfs_if (u : Bool) {c : Expr} {a b : List Stmt} (hc : PFT X E c P) (ha : PFSs X E a S1) (hb : PFSs X E b S2) : PFS X E (.If c a b pos) (sIf u P S1 S2) := PS.imp (ps_if hc ha hb) fun Dn σ H h => by
  obtain ⟨ta, He, He0, H0, env, T, g, I, S, q⟩ := h
  obtain ⟨ta', H0', env', T', S', I', q'⟩ := run_stmt g I S q
  refine ⟨ta', H0', env', T', S', I', q'.imp fun b H1 H01 g1 ⟨H0n, T1, g2, I2, tr, hok, q2⟩ => ?_⟩
  cases b with
  | true => exact ⟨ta, He, He0, H0n, env, T1, g.trans g2, I2, S.go g2, q2⟩
  | false => exact ⟨ta, He, He0, H0n, env, T1, g.trans g2, I2, S.go g2, q2⟩
/-- code that is not reached -/
def sNo : FS := fun _ => M.bad
theorem pfs_no : PFS X E st sNo := PS.imp ps_never fun Dn σ H h => by
  obtain ⟨ta, He, He0, H0, env, T, g, I, S, q⟩ := h
  exact run_bad q
/-! while -/
/-- n turns at the most -/
def whN (u : Bool) (P : FT) (F : FS) : Nat → SEnv → M Fl
  | 0, _ => M.bad
  | n + 1, env => M.bind (runX (fun _ => true) u P env) fun b => if b = true then M.bind (F env) fun fl => match fl with
      | .nx e => whN u P F n e
      | .ct e => whN u P F n e
      | .bk e => M.ret (.nx e)
      | .rt d => M.ret (.rt d)
    else M.ret (.nx env)
open Classical in
noncomputable def sWh (u : Bool) (P : FT) (F : FS) : FS := fun env T => if h : ∃ n, (whN u P F n env T).isSome = true then whN u P F (Classical.choose h) env T else none
theorem whN_mono {u : Bool} {P : FT} {F : FS} : ∀ {n m : Nat} {env : SEnv} {T : List D} {o : Ot Fl}, n ≤ m → whN u P F n env T = some o → whN u P F m env T = some o
  | 0, _, _, _, _, _, h => by cases h
  | n + 1, 0, _, _, _, hl, _ => absurd hl (by omega)
  | n + 1, m + 1, env, T, o, hl, h => by
    unfold whN at h ⊢
    unfold M.bind at h ⊢
    cases hp : runX (fun _ => true) u P env T with
    | none => rw [hp] at h; cases h
    | some op =>
      rw [hp] at h
      cases op with
      | ex c T' => exact h
      | ok b T' =>
        cases b with
        | false => exact h
        | true =>
          simp only [if_true] at h ⊢
          cases hf : F env T' with
          | none => rw [hf] at h; cases h
          | some of =>
            rw [hf] at h
            cases of with
            | ex c T'' => exact h
            | ok fl T'' =>
              cases fl with
              | nx e => exact whN_mono (by omega) h
              | ct e => exact whN_mono (by omega) h
              | bk e => exact h
              | rt d => exact h
theorem sWh_of {u : Bool} {P : FT} {F : FS} {n : Nat} {env : SEnv} {T : List D} {o : Ot Fl} (h : whN u P F n env T = some o) : sWh u P F env T = some o := by
  unfold sWh
  have ex : ∃ n, (whN u P F n env T).isSome = true := ⟨n, by rw [h]; rfl⟩
  rw [dif_pos ex]
  obtain ⟨o', h'⟩ := Option.isSome_iff_exists.mp (Classical.choose_spec ex)
  rw [h']
  have h1 := whN_mono (Nat.le_max_left n (Classical.choose ex)) h
  have h2 := whN_mono (Nat.le_max_right n (Classical.choose ex)) h'
  rw [h1] at h2
  exact h2.symm
theorem of_sWh {u : Bool} {P : FT} {F : FS} {env : SEnv} {T : List D} {o : Ot Fl} (h : sWh u P F env T = some o) : ∃ n, whN u P F n env T = some o := by
  unfold sWh at h
  split at h
  · exact ⟨_, h⟩
  · cases h
/-- one turn -/
theorem sWh_eq (u : Bool) (P : FT) (F : FS) (env : SEnv) : sWh u P F env = M.bind (runX (fun _ => true) u P env) fun b => if b = true then M.bind (F env) fun fl => match fl with
      | .nx e => sWh u P F e
      | .ct e => sWh u P F e
      | .bk e => M.ret (.nx e)
      | .rt d => M.ret (.rt d)
    else M.ret (.nx env) := by
  funext T
  -- both sides tell the same answers
  have fwd : ∀ o, sWh u P F env T = some o → (M.bind (runX (fun _ => true) u P env) fun b => if b = true then M.bind (F env) fun fl => match fl with
      | .nx e => sWh u P F e
      | .ct e => sWh u P F e
      | .bk e => M.ret (.nx e)
      | .rt d => M.ret (.rt d)
    else M.ret (.nx env)) T = some o := fun o h => by
    obtain ⟨n, h⟩ := of_sWh h
    cases n with
    | zero => cases h
    | succ n =>
      unfold whN at h
      unfold M.bind at h ⊢
      cases hp : runX (fun _ => true) u P env T with
      | none => rw [hp] at h; cases h
      | some op =>
        rw [hp] at h
        cases op with
        | ex c T' => exact h
        | ok b T' =>
          cases b with
          | false => exact h
          | true =>
            simp only [if_true] at h ⊢
            cases hf : F env T' with
            | none => rw [hf] at h; cases h
            | some of =>
              rw [hf] at h
              cases of with
              | ex c T'' => exact h
              | ok fl T'' =>
                cases fl with
                | nx e => exact sWh_of h
                | ct e => exact sWh_of h
                | bk e => exact h
                | rt d => exact h
  have bwd : ∀ o, (M.bind (runX (fun _ => true) u P env) fun b => if b = true then M.bind (F env) fun fl => match fl with
      | .nx e => sWh u P F e
      | .ct e => sWh u P F e
      | .bk e => M.ret (.nx e)
      | .rt d => M.ret (.rt d)
    else M.ret (.nx env)) T = some o → sWh u P F env T = some o := fun o h => by
    suffices ∃ n, whN u P F n env T = some o from let ⟨n, q⟩ := this; sWh_of q
    unfold M.bind at h
    cases hp : runX (fun _ => true) u P env T with
    | none => rw [hp] at h; cases h
    | some op =>
      rw [hp] at h
      cases op with
      | ex c T' => exact ⟨1, by unfold whN M.bind; rw [hp]; exact h⟩
      | ok b T' =>
        cases b with
        | false => exact ⟨1, by unfold whN M.bind; rw [hp]; exact h⟩
        | true =>
          simp only [if_true] at h
          cases hf : F env T' with
          | none => rw [hf] at h; cases h
          | some of =>
            rw [hf] at h
            cases of with
            | ex c T'' => exact ⟨1, by unfold whN M.bind; rw [hp]; simp only [if_true]; rw [hf]; exact h⟩
            | ok fl T'' =>
              cases fl with
              | nx e =>
                obtain ⟨n, q⟩ := of_sWh h
                exact ⟨n + 1, by unfold whN M.bind; rw [hp]; simp only [if_true]; rw [hf]; exact q⟩
              | ct e =>
                obtain ⟨n, q⟩ := of_sWh h
                exact ⟨n + 1, by unfold whN M.bind; rw [hp]; simp only [if_true]; rw [hf]; exact q⟩
              | bk e => exact ⟨1, by unfold whN M.bind; rw [hp]; simp only [if_true]; rw [hf]; exact h⟩
              | rt d => exact ⟨1, by unfold whN M.bind; rw [hp]; simp only [if_true]; rw [hf]; exact h⟩
  cases h : sWh u P F env T with
  | some o => exact (fwd o h).symm
  | none =>
    cases h2 : (M.bind (runX (fun _ => true) u P env) fun b => if b = true then M.bind (F env) fun fl => match fl with
      | .nx e => sWh u P F e
      | .ct e => sWh u P F e
      | .bk e => M.ret (.nx e)
      | .rt d => M.ret (.rt d)
    else M.ret (.nx env)) T with
    | none => rfl
    | some o => rw [bwd o h2] at h; cases h
theorem pfs_while (u : Bool) {c : Expr} {body : List Stmt} (hp : PassesOwn (model X.prog X.w) X.A X.env X.xe) (hc : PFT X E c P) (hb : PFSs X E body S1) : PFS X E (.While c body [] pos) (sWh u P S1) := PS.imp (ps_while hp hc hb) fun Dn σ H h => by
  obtain ⟨ta, He, He0, H0, env, T, g, I, S, o, eo, qo⟩ := h
  obtain ⟨n, hn⟩ := of_sWh eo
  let W : Nat → L2.St → Hp → Prop := fun m σ H => ∃ H0 env T, Go ta He He0 H H0 ∧ Pu X.K ta E.2 H H0 T ∧ Ss X.K ta He H H0 σ env ∧ Run X.K X.mg E.1 ta E.2 He He0 T (whN u P S1 m env) (EndS X.K ta He Dn)
  refine ⟨W, ⟨n, H0, env, T, g, I, S, o, hn, qo⟩, ?_⟩
  rintro m σ H ⟨H0, env, T, g, I, S, r⟩
  cases m with
  | zero => exact (run_bad r).elim
  | succ m =>
    unfold whN at r
    obtain ⟨ta', H0', env', T', S', I', q'⟩ := run_stmt g I S r
    refine ⟨ta', H0', env', T', S', I', q'.imp fun b H1 H01 g1 ⟨H0n, T1, g2, I2, tr, hok, q2⟩ => ?_⟩
    cases b with
    | false => exact runS_nx (g.trans g2) I2 q2 (S.go g2)
    | true =>
      rw [if_pos rfl] at q2
      refine ⟨fun σ' H' => W m σ' H', fun σ' H' w => ⟨m, Nat.lt_succ_self _, w⟩, ta, He, He0, H0n, env, T1, g.trans g2, I2, S.go g2, ?_⟩
      obtain ⟨o2, e2, q3⟩ := q2.bind
      refine ⟨o2, e2, ?_⟩
      cases o2 with
      | ex c T'' => exact q3
      | ok fl T'' =>
        intro H' H0'' g' I'
        cases fl with
        | nx e => exact fun σ' S' => ⟨H0'', e, T'', g', I', S', q3⟩
        | ct e => exact fun σ' S' => ⟨H0'', e, T'', g', I', S', q3⟩
        | bk e => exact fun σ' S' => runS_nx g' I' q3 S'
        | rt d => have z := runS_ret (Dn := Dn) g' I' q3; exact z
/-! for -/
theorem Go.rebase {ta : Option Addr} {He He0 H Hb H' H0' : Hp} (a : Go ta He He0 H Hb) (b : Go ta He Hb H' H0') : Go ta He He0 H' H0' :=
  ⟨b.keep, b.dom, a.up.trans b.up, fun x o h n => b.new x o h (a.new x o h n)⟩
theorem Go.atBase {ta : Option Addr} {He He0 H Hb : Hp} (a : Go ta He He0 H Hb) : Go ta He Hb H Hb := ⟨a.keep, a.dom, Ex.refl _, fun _ _ _ n => n⟩
theorem Run.rebase {α : Type} {K : PySem.W.Frag} {mg : Str → Option Value} {E : XK} {ta : Option Addr} {Tb : List (Addr × Str)} {He He0 H Hb : Hp} {T : List D} {x : M α} {k : α → Hp → Hp → Prop} (a : Go ta He He0 H Hb) (h : Run K mg E ta Tb He He0 T x k) : Run K mg E ta Tb He Hb T x k := by
  obtain ⟨o, e, q⟩ := h
  refine ⟨o, e, ?_⟩
  cases o with
  | ok b T' => exact fun H' H0' g I => q H' H0' (a.rebase g) I
  | ex c T' => obtain ⟨C, e1, q⟩ := q; exact ⟨C, e1, fun H' H0' g I => q H' H0' (a.rebase g) I⟩
def forL (g : TgD) (F : FS) : List D → SEnv → M Fl
  | [], env => M.ret (.nx env)
  | d :: ds, env => M.bind (M.of (g d)) fun l => M.bind (F (setV env l)) fun fl => match fl with
      | .nx e => forL g F ds e
      | .ct e => forL g F ds e
      | .bk e => M.ret (.nx e)
      | .rt d => M.ret (.rt d)
def sFor (I : FI) (g : TgD) (F : FS) : FS := fun env => M.bind (I (hide env)) fun ds => forL g F ds env
theorem pfs_for {tg iter : Expr} {body : List Stmt} {I : FI} {g : TgD} (hp : PassesOwn (model X.prog X.w) X.A X.env X.xe) (hc : X.calm = true) (hi : PFI X E tg iter I) (hg : PGD X tg g) (hb : PFSs X E body S1)
    (hs : ∀ x, foldedSetIterable iter X.env x = pure x := by intro _; rfl) : PFS X E (.For tg iter body [] pos) (sFor I g S1) := PS.imp (ps_for hp hc hi hg hb hs) fun Dn σ H h => by
  obtain ⟨ta, He, He0, H0, env, T, gg, J, S, q⟩ := h
  refine ⟨ta, H0, hide env, T, S.hide, J, ?_⟩
  obtain ⟨o, eo, qo⟩ := q.bind
  refine ⟨o, eo, ?_⟩
  cases o with
  | ex c T' => obtain ⟨C, e1, q1⟩ := qo; exact ⟨C, e1, fun H' H0' g' I' => q1 H' H0' (gg.trans g') I'⟩
  | ok ds T' =>
    intro H1 H01 g1 I1 It w
    let W : Nat → Nat → L2.St → Hp → Prop := fun i m σ H => m = ds.length - i ∧ i ≤ ds.length ∧ ∃ H0 env T, Go ta He He0 H H0 ∧ Ex H01 H0 ∧ Pu X.K ta E.2 H H0 T ∧ Ss X.K ta He H H0 σ env ∧ Run X.K X.mg E.1 ta E.2 He He0 T (forL g S1 (ds.drop i) env) (EndS X.K ta He Dn)
    refine ⟨W, ⟨ds.length, by simp, Nat.zero_le _, H01, env, T', gg.trans g1, Ex.refl _, I1, S.go g1, qo⟩, ?_⟩
    rintro i m σ H ⟨rfl, hi, H0, env, T, g2, ex, I2, S2, r⟩
    by_cases hlt : i < ds.length
    · refine .inr ⟨w.goes i H hlt (ex.trans I2.ex), fun σ' H' => W (i + 1) (ds.length - (i + 1)) σ' H', fun σ' H' q => ⟨_, by omega, q⟩, fun x H' y => ?_⟩
      obtain ⟨d, hd⟩ : ∃ d, ds[i]? = some d := ⟨ds[i], by simp [hlt]⟩
      obtain ⟨H0'', g3, I3, rx⟩ := w.yields i E.2 H H0 T x H' d ex I2 hd y
      rw [show ds.drop i = d :: ds.drop (i + 1) from by rw [List.drop_eq_getElem_cons hlt]; congr 1; exact (Option.some.inj ((List.getElem?_eq_getElem hlt).symm.trans hd))] at r
      unfold forL at r
      obtain ⟨l, hl, r2⟩ := bind_of r
      refine ⟨ta, H0'', d, l, I3.ex, rx, hl, fun ws rws => ?_⟩
      have gB := g2.trans g3
      refine ⟨ta, He, H0'', H0'', setV env l, T, gB.atBase, I3, (S2.go g3).setS rws, ?_⟩
      obtain ⟨o2, e2, q3⟩ := r2.bind
      refine ⟨o2, e2, ?_⟩
      cases o2 with
      | ex c T'' => obtain ⟨C, e1, q4⟩ := q3; exact ⟨C, e1, fun H' H0' g I => q4 H' H0' (gB.rebase g) I⟩
      | ok fl T'' =>
        intro H4 H04 g4' I4
        have g4 := gB.rebase g4'
        have sub : Ex H01 H04 := (ex.trans g3.up).trans g4'.up
        cases fl with
        | nx e => exact fun σ' S' => ⟨rfl, hlt, H04, e, T'', g4, sub, I4, S', q3⟩
        | ct e => exact fun σ' S' => ⟨rfl, hlt, H04, e, T'', g4, sub, I4, S', q3⟩
        | bk e => exact fun σ' S' => runS_nx g4 I4 q3 S'
        | rt d => have z := runS_ret (Dn := Dn) g4 I4 q3; exact z
    · have e : i = ds.length := by omega
      subst e
      rw [List.drop_length] at r
      exact .inl ⟨w.stops H (ex.trans I2.ex), runS_nx g2 I2 r S2⟩
end
end PF

namespace PF
open PySem PySem.Spec PyProof.Rows L2
open Evl (Ex)
/-! ### lists of its own -/
/-- a new list that nothing else knows -/
def tFL (K : PySem.W.Frag) (mg : Str → Option Value) (E : XW) (A : FA) : TE := fun σ H Q => ∃ ta H0 env T, Sl K ta H0 σ env ∧ Pu K ta E.2 H H0 T ∧ Run K mg E.1 ta E.2 H H0 T (A env) fun ds H' H0' => ds.length ≤ 16777216 ∧ ∀ p vs, Fr H p → ta ≠ some p → H0' p = none → H' p = some (.lst vs) → Reps K ta H0' vs ds → Q (.ref p) H'
abbrev PFL (X : Cx) (E : XW) (e : Expr) (A : FA) : Prop := PE X e (tFL X.K X.mg E A)
section
variable {X : Cx} {E : XW} {e : Expr} {es : List Expr} {pos : Pos} {F : FE} {A B : FA}
/-- from the heap ahead of it on, a new list lies at p -/
theorem new_own {E : XK} {K : PySem.W.Frag} {mg : Str → Option Value} {ta : Option Addr} {Tb : List (Addr × Str)} {H H0 H1 H01 : Hp} {T : List D} {Q : VK} {vs : List V} {ds : List D} (g : Go ta H H0 H1 H01) (I : Pu K ta Tb H1 H01 T) (r : Reps K ta H01 vs ds)
    (h : Run K mg E ta Tb H H0 T (M.ret ds) fun ds H' H0' => ds.length ≤ 16777216 ∧ ∀ p vs, Fr H p → ta ≠ some p → H0' p = none → H' p = some (.lst vs) → Reps K ta H0' vs ds → Q (.ref p) H') (p : Addr) (hp : H1 p = none) : Q (.ref p) (upd H1 p (.lst vs)) := by
  have k := ret_go h (g.trans (Go.own (o := .lst vs) hp)) (I.own (I.none_of hp) (I.tape_ne hp) (.inl hp))
  exact k.2 p vs (g.free (.of hp)) (I.tape_ne hp) (I.none_of hp) upd_same r
/-- [a, b, ..] -/
theorem pfl_lst (h : PFA X E es A) : PFL X E (.List es pos) A := PE.imp (pe_lst h) fun σ H Q h => by
  obtain ⟨ta, H0, env, T, S, I, o, eo, qo⟩ := h
  refine ⟨ta, H0, env, T, S, I, o, eo, ?_⟩
  cases o with
  | ex c T' => exact qo
  | ok ds T' =>
    intro H1 H01 g1 I1 vs rvs
    have kl := (qo H1 H01 g1 I1).1
    exact ⟨by rw [rvs.length]; exact le_line kl, fun p hp => new_own (mg := X.mg) (E := E.1) g1 I1 rvs ⟨.ok ds T', rfl, fun H' H0' g I => qo H' H0' g I⟩ p hp⟩
/-- [.. for ..] as a new list of its own -/
def lLc (I : FI) (vs : List Nat) (g : TgD) (P : FT) (F : FE) : FA := fun env => M.bind (I env) fun ds => if ds.length ≤ 16777216 then lcM (wipeE env vs) g P F ds else M.bad
/-- what is known of a new list that came out of a reading -/
def aCat (F G : FE) : FA := fun env => M.bind (F env) fun x => M.bind (G env) fun y => match x, y with
  | .lst l, .lst r => if l.length + r.length ≤ 16777216 then M.ret (l ++ r) else M.bad
  | _, _ => M.bad
theorem pfl_add {a b : Expr} (ha : PF X E a F) {G : FE} (hb : PF X E b G) : PFL X E (.BinOp a .Add b pos) (aCat F G) := PE.imp (pe_op op_cat ha hb) fun σ H Q h => by
  unfold aCat at h
  obtain ⟨ta, H0, env, T, S, I, o, eo, qo⟩ := h
  have q : Run X.K X.mg E.1 ta E.2 H H0 T _ _ := ⟨o, eo, qo⟩
  obtain ⟨o1, e1, q1⟩ := q.bind
  refine ⟨ta, H0, env, T, S, I, o1, e1, ?_⟩
  cases o1 with
  | ex c T' => exact q1
  | ok dx T1 =>
    intro H1 H01 g1 I1 v rv
    obtain ⟨o2, e2, q2⟩ := q1.bind
    refine ⟨ta, H01, env, T1, S.mono g1.up, I1, o2, e2, ?_⟩
    cases o2 with
    | ex c T' => obtain ⟨C, e, q⟩ := q2; exact ⟨C, e, fun H' H0' g I => q H' H0' (g1.trans g) I⟩
    | ok dy T2 =>
      intro H2 H02 g2 I2 w rw'
      have q3 : Run X.K X.mg E.1 ta E.2 H H0 T2 _ _ := q2
      have rv' := rv.mono g2.up
      split at q3
      · obtain ⟨hl, q3⟩ := run_if q3
        cases rv' with
        | lst sx rx lx =>
          cases rw' with
          | lst sy ry ly =>
            have h1 := rx.length
            have h2 := ry.length
            exact ⟨_, _, _, _, rfl, rfl, I2.ex _ _ sx, I2.ex _ _ sy, by rw [h1, h2]; exact le_line hl, fun p hp => new_own (g1.trans g2) I2 (rx.append ry) q3 p hp⟩
      · exact (run_bad q3).elim
theorem imp_lLc {I : FI} {g : TgD} {P : FT} {vs : List Nat} (hv : ∀ d l, g d = some l → ∀ p ∈ l, p.1 ∈ vs) (σ : L2.St) (H : Hp) (Q : VK) (h : tFL X.K X.mg E (lLc I vs g P F) σ H Q) :
    tLc (tFI X.K X.mg E I) (tGd X.K g) (tFT X.K X.mg (E0, E.2) P) (tF X.K X.mg (E0, E.2) F) vs σ H Q := by
  obtain ⟨ta, H0, env, T, S, J, q⟩ := h
  unfold lLc at q
  obtain ⟨o1, e1, q1⟩ := q.bind
  refine ⟨ta, H0, env, T, S, J, o1, e1, ?_⟩
  cases o1 with
  | ex c T' => exact q1
  | ok ds T1 =>
    intro H1 H01 g1 I1 It w
    obtain ⟨hL, o, eo, qo⟩ := run_if (show Run X.K X.mg E.1 ta E.2 H H0 T1 _ _ from q1)
    intro D hD
    obtain ⟨l, T2, rfl⟩ := lcM_ok _ _ _ _ _ _ _ eo
    refine lc_made hv (S.mono g1.up) I1 w hL eo D hD fun H' H0n av g2 I2 nt n0 e r hl => ?_
    exact (qo H' H0n (g1.trans g2) I2).2 D av (g1.free (.of hD)) nt n0 e r
def sOwn (i : Nat) (A : FA) : FS := fun env => M.bind (A (hide env)) fun l => if l.length ≤ 16777216 then M.ret (.nx (env.set i (.own l))) else M.bad
theorem imp_own (i : Nat) (Dn : Ends) (σ : L2.St) (H : Hp) (h : tS X.K X.mg E (sOwn i A) Dn σ H) : tAsg (tFL X.K X.mg E A) (gName i) Dn σ H := by
  obtain ⟨ta, He, He0, H0, env, T, g, I, S, q⟩ := h
  refine ⟨ta, H0, hide env, T, S.hide, I, ?_⟩
  obtain ⟨o, eo, qo⟩ := q.bind
  refine ⟨o, eo, ?_⟩
  cases o with
  | ex c T' => obtain ⟨C, e, q⟩ := qo; exact ⟨C, e, fun H' H0' g' I' => q H' H0' (g.trans g') I'⟩
  | ok ds T' =>
    intro H1 H01 g1 I1
    obtain ⟨hl, q2⟩ := run_if (show Run X.K X.mg E.1 ta E.2 He He0 T' _ _ from qo)
    refine ⟨hl, fun p vs np nt n0 hp r => ?_⟩
    refine runS_nx (g.trans g1) I1 q2 ((S.go g1).setOwn (g.free np) n0 nt hp r hl fun j l' hj hj2 z => ?_)
    obtain ⟨p', vs', h1, _, _, _, h2, _⟩ := S.own j l' hj2
    rw [h1] at z
    cases z
    exact np _ h2 nt_lst
theorem pfs_own (i : Nat) {x : Str} {pos' : Pos} (hN : X.N.Nodup) (he : PFL X E e A) (hi : X.N[i]? = some x := by rfl) (hx : Loc X.env.scope x := by first | exact Or.inl rfl | exact Or.inr rfl) (hs : swapsWith e (some (.Name x pos')) pos.line X.env = pure false := by rfl)
    (hf : X.fn x = true ∨ X.env.scope.names.lookup x = some .local := by first | exact .inl rfl | exact .inr rfl | assumption) : PFS X E (.Assign [.Name x pos'] e pos) (sOwn i A) := PS.imp (ps_set hN hi hx he hs hf) (imp_own i)
/-- xs.append(e), xs in slot i, a list of its own -/
def sApp (u : Bool) (i : Nat) (F : FE) : FS := fun env => match env[i]? with
  | some (.own l) => M.bind (runX noLst u F env) fun d => if l.length < 16777216 then M.ret (.nx (env.set i (.own (l ++ [d])))) else M.bad
  | _ => M.bad
theorem lt_line {n : Nat} (h : n < 16777216) : n < sizeLine := by rw [sizeLine_eq]; exact h
/-- a list of its own changes -/
theorem Ss.change {K : PySem.W.Frag} {ta : Option Addr} {Tb : List (Addr × Str)} {He He0 H H0 : Hp} {T : List D} {σ : L2.St} {env : SEnv} {i : Nat} {l l' : List D} {p : Addr} {vs ws : List V} (g : Go ta He He0 H H0) (I : Pu K ta Tb H H0 T) (s : Ss K ta He H H0 σ env) (h : env[i]? = some (.own l)) (hs : σ[i]? = some (some (.ref p))) (r : Reps K ta H0 ws l') (hl : l'.length ≤ 16777216) :
    Go ta He He0 (upd H p (.lst ws)) H0 ∧ Pu K ta Tb (upd H p (.lst ws)) H0 T ∧ Ss K ta He (upd H p (.lst ws)) H0 σ (env.set i (.own l')) := by
  obtain ⟨p', vs, e1, he, h0, nt, hp, r0, _⟩ := s.own i l h
  rw [hs] at e1
  cases e1
  have s' : Ss K ta He (upd H p (.lst ws)) H0 (σ.set i (some (.ref p))) (env.set i (.own l')) := by
    have base : Ss K ta He (upd H p (.lst ws)) H0 σ (env.set i .non) := by
      have ne : ∀ j sv, (env.set i .non)[j]? = some sv → sv ≠ .non → j ≠ i ∧ env[j]? = some sv := fun j sv hj n => by
        by_cases z : i = j
        · subst z
          by_cases hi : i < env.length
          · rw [List.getElem?_set_self hi] at hj; cases hj; exact absurd rfl n
          · rw [List.getElem?_eq_none (by simpa using hi)] at hj; cases hj
        · rw [List.getElem?_set_ne z] at hj
          exact ⟨fun q => z q.symm, hj⟩
      refine ⟨by simp [s.len], fun j d hj => ?_, fun j l2 hj => ?_, fun a b l1 l2 q h1 h2 h3 h4 => ?_⟩
      · exact s.val j d (ne j _ hj (fun z => by cases z)).2
      · obtain ⟨n, hj'⟩ := ne j _ hj (fun z => by cases z)
        obtain ⟨q, us, a1, a2, a3, a4, a5, a6, a7⟩ := s.own j l2 hj'
        refine ⟨q, us, a1, a2, a3, a4, ?_, a6, a7⟩
        rw [upd_ne]
        · exact a5
        · intro z
          rw [z] at a1
          exact n (s.sep j i l2 l p hj' h a1 hs)
      · exact s.sep a b l1 l2 q (ne a _ h1 (fun z => by cases z)).2 (ne b _ h2 (fun z => by cases z)).2 h3 h4
    have := base.setOwn (i := i) he h0 nt upd_same r hl fun j l2 hj hj2 z => by
      have hj3 : env[j]? = some (.own l2) := by rw [List.getElem?_set_ne (Ne.symm hj)] at hj2; exact hj2
      exact hj (s.sep j i l2 l p hj3 h z hs)
    rw [List.set_set] at this
    exact this
  have e : σ.set i (some (.ref p)) = σ := by
    apply List.ext_getElem?
    intro j
    by_cases z : i = j
    · subst z
      rw [hs, List.getElem?_set_self (List.getElem?_eq_some_iff.mp hs).1]
    · rw [List.getElem?_set_ne z]
  rw [e] at s'
  exact ⟨g.mut he, I.own h0 nt (.inr ⟨_, hp⟩), s'⟩
theorem pfs_append (u : Bool) (i : Nat) {x : Str} {p1 p2 p3 : Pos} (he : PF X E e F) (hN : X.N[i]? = some x := by rfl) (hv : Vis X.env.scope x := by first | exact Or.inl rfl | exact Or.inr (Or.inl rfl) | exact Or.inr (Or.inr rfl)) (hd : (x == ("__debug__" : Str)) = false := by decide) (hcd : (x == ("__classdict__" : Str)) = false := by decide)
    (hbase : attributeBase (.Name x p1) "append" X.env (eval (.Name x p1) X.env) = eval (.Name x p1) X.env := by rfl)
    (hfew : ((backTo p3 (starEach [e] X.env)).all (fun x => !x.1) && (backToKw p3 (keywordEach [] X.env)).all (fun x => x.1.isSome)
      && decide ([e].length + ([] : List Keyword).length + (if ([] : List Keyword).isEmpty then 0 else 1) < 30)) = true := by rfl)
    (hline : (p2.endLine == p3.line) = true := by rfl) (hs : starEach [e] X.env = (false, eval e X.env) :: starEach [] X.env := by rfl) (hplain : (backTo p3 (starEach [] X.env)).any (·.1) = false := by rfl)
    (hsw : swapsWith (.Call (.Attribute (.Name x p1) "append" p2) [e] [] p3) none pos.line X.env = pure false := by rfl) :
    PFS X E (.Expr (.Call (.Attribute (.Name x p1) "append" p2) [e] [] p3) pos) (sApp u i F) :=
  PS.imp (ps_expr (pe_bm PySem.F.plainAttrs_list PySem.F.slot_list_append PySem.F.type_list_append mt_append (pv i hN hv hd hcd) (pa_cons he pa_nil hs) hbase hfew hline hs hplain) hsw) fun Dn σ H h => by
    obtain ⟨ta, He, He0, H0, env, T, g, I, S, q⟩ := h
    unfold sApp at q
    split at q
    · rename_i l hl
      obtain ⟨p, vs, hp1, he1, h01, nt, hp, r, hlen⟩ := S.own i l hl
      obtain ⟨ta', H0', env', T', S', I', q'⟩ := run_stmt g I S q
      refine ⟨.ref p, hp1, .inl ⟨rfl, vs, SqL.of hp⟩, ta', H0', env', T', S', I', q'.imp fun d H1 H01 g1 ⟨H0n, T1, g2, I2, tr, hok, q2⟩ v rv => ?_⟩
      obtain ⟨hlt, q3⟩ := run_if q2
      have hp2 : H1 p = some (.lst vs) := g2.keep p _ hp nt nt_lst
      have hle := r.length
      refine ⟨p, vs, v, rfl, rfl, hp2, by rw [hle]; exact lt_line hlt, ?_⟩
      obtain ⟨ga, Ia, Sa⟩ := Ss.change (vs := vs) (g.trans g2) I2 (S.go g2) hl hp1 ((r.mono g2.up).append (.cons (tr v d (noLst_or hok) rv) .nil)) (by rw [List.length_append, List.length_singleton]; omega)
      exact runS_nx ga Ia q3 Sa
    · exact (run_bad q).elim
/-- xs.pop() -/
def sPop (i : Nat) : FS := fun env => match env[i]? with
  | some (.own l) => if l ≠ [] then M.ret (.nx (env.set i (.own l.dropLast))) else M.bad
  | _ => M.bad
theorem pfs_pop (i : Nat) {x : Str} {p1 p2 p3 : Pos} (hN : X.N[i]? = some x := by rfl) (hv : Vis X.env.scope x := by first | exact Or.inl rfl | exact Or.inr (Or.inl rfl) | exact Or.inr (Or.inr rfl)) (hd : (x == ("__debug__" : Str)) = false := by decide) (hcd : (x == ("__classdict__" : Str)) = false := by decide)
    (hbase : attributeBase (.Name x p1) "pop" X.env (eval (.Name x p1) X.env) = eval (.Name x p1) X.env := by rfl) (hline : (p2.endLine == p3.line) = true := by rfl)
    (hsw : swapsWith (.Call (.Attribute (.Name x p1) "pop" p2) [] [] p3) none pos.line X.env = pure false := by rfl) :
    PFS X E (.Expr (.Call (.Attribute (.Name x p1) "pop" p2) [] [] p3) pos) (sPop i) :=
  PS.imp (ps_expr (pe_bm0 PySem.F.plainAttrs_list PySem.F.slot_list_pop PySem.F.type_list_pop mt_pop (pv i hN hv hd hcd) hbase hline) hsw) fun Dn σ H h => by
    obtain ⟨ta, He, He0, H0, env, T, g, I, S, q⟩ := h
    unfold sPop at q
    split at q
    · rename_i l hl
      obtain ⟨hne, q⟩ := run_if q
      obtain ⟨p, vs, hp1, he1, h01, nt, hp, r, hlen⟩ := S.own i l hl
      have hle := r.length
      have hpos : 0 < l.length := List.length_pos_iff.mpr hne
      refine ⟨.ref p, hp1, .inl ⟨rfl, vs, SqL.of hp⟩, p, vs, vs[vs.length - 1]'(by omega), rfl, rfl, hp, by simp, ?_⟩
      obtain ⟨ga, Ia, Sa⟩ := Ss.change (vs := vs) g I S hl hp1 r.dropLast (by rw [List.length_dropLast]; omega)
      exact runS_nx ga Ia q Sa
    · exact (run_bad q).elim
/-- tape[k] = e -/
def sTp (i : Nat) (F G : FE) : FS := fun env => match env[i]? with
  | some (.val .tape) => M.bind (G (hide env)) fun d => M.bind (F (hide env)) fun k => match k with
    | .int k => fun T => (ixN T.length k).bind fun j => some (.ok (.nx env) (T.set j d))
    | _ => M.bad
  | _ => M.bad
theorem pfs_tape (i : Nat) {x : Str} {e b : Expr} {G : FE} {px p1 : Pos} (he : PF X E e G) (hb : PF X E b F) (hN : X.N[i]? = some x := by rfl) (hv : Vis X.env.scope x := by first | exact Or.inl rfl | exact Or.inr (Or.inl rfl) | exact Or.inr (Or.inr rfl)) (hd : (x == ("__debug__" : Str)) = false := by decide) (hcd : (x == ("__classdict__" : Str)) = false := by decide)
    (ha : ∀ v, assign (.Subscript (.Name x px) b p1) X.env v = (do
      let ov ← holding [v] (eval (.Name x px) X.env)
      let iv ← holding [v, ov] (eval b X.env)
      standAt p1
      holding [v, ov, iv] (setItem ov iv v)
      release [v, ov, iv] []) := by intro _; rfl)
    (hs : swapsWithSole [.Subscript (.Name x px) b p1] e pos.line X.env = pure false := by rfl) (hw : swappedStores [.Subscript (.Name x px) b p1] e X.env = pure none := by rfl)
    (h1 : (assignEach [.Subscript (.Name x px) b p1] X.env).map (·.2) = [assign (.Subscript (.Name x px) b p1) X.env] := by rfl) :
    PFS X E (.Assign [.Subscript (.Name x px) b p1] e pos) (sTp i F G) :=
  PS.imp (ps_asg he (pg_sub (pv i hN hv hd hcd) hb set_list ha) hs hw h1) fun Dn σ H h => by
    obtain ⟨ta, He, He0, H0, env, T, g, I, S, q⟩ := h
    unfold sTp at q
    split at q
    · rename_i hl
      obtain ⟨v, hv1, rv⟩ := S.val i _ hl
      cases rv with
      | tape ht =>
        rename_i a
        obtain ⟨o, e1, q⟩ := q.bind
        refine ⟨ta, H0, hide env, T, S.hide, I, o, e1, ?_⟩
        cases o with
        | ex c T' => obtain ⟨C, e2, q⟩ := q; exact ⟨C, e2, fun H' H0' g' I' => q H' H0' (g.trans g') I'⟩
        | ok d T1 =>
          intro H1 H01 g1 I1 w rw'
          refine ⟨.ref a, hv1, ?_⟩
          obtain ⟨o2, e2, q⟩ := (show Run X.K X.mg E.1 ta E.2 He He0 T1 _ _ from q).bind
          refine ⟨ta, H01, hide env, T1, S.hide.mono g1.up, I1, o2, e2, ?_⟩
          cases o2 with
          | ex c T' => obtain ⟨C, e2, q⟩ := q; exact ⟨C, e2, fun H' H0' g' I' => q H' H0' ((g.trans g1).trans g') I'⟩
          | ok k T2 =>
            intro H2 H02 g2 I2 kv rk
            have q : Run X.K X.mg E.1 ta E.2 He He0 T2 _ _ := q
            cases rk with
            | int k =>
              obtain ⟨o3, e3, q3⟩ := q
              simp only [Option.bind_eq_some_iff] at e3
              obtain ⟨j, hj, e3⟩ := e3
              cases e3
              obtain ⟨n, vs, hq, rs⟩ := I2.tp a ht
              refine ⟨a, vs, k, j, rfl, rfl, hq, by rw [rs.length]; exact hj, ?_⟩
              have gw := ((g.trans g1).trans g2).trans (Go.write (vs := vs.set j w) I2 ht)
              exact q3 _ _ gw (I2.write ht (Reps.set (rw'.mono g2.up) j rs)) σ (((S.go g1).go g2).go (Go.write I2 ht))
            | _ => exact (run_bad q).elim
    · exact (run_bad q).elim
/-- a list of its own is shown from now on -/
def sFz (i : Nat) (F : FS) : FS := fun env => match env[i]? with
  | some (.own l) => F (env.set i (.val (.lst l)))
  | _ => M.bad
theorem pfs_freeze (i : Nat) {st : Stmt} {F : FS} (h : PFS X E st F) : PFS X E st (sFz i F) := PS.imp h fun Dn σ H h => by
  obtain ⟨ta, He, He0, H0, env, T, g, I, S, q⟩ := h
  unfold sFz at q
  split at q
  · rename_i l hl
    obtain ⟨p, vs, hp1, he1, h01, nt, hp, r, hlen⟩ := S.own i l hl
    have I2 := I.freeze h01 nt hp nt_lst
    have g2 : Go ta He He0 H (upd H0 p (.lst vs)) := g.freeze h01 he1
    have rl : Rep X.K ta (upd H0 p (.lst vs)) (.ref p) (.lst l) := .lst upd_same (r.mono (Ex.new h01)) (le_line hlen)
    have S2 : Ss X.K ta He H (upd H0 p (.lst vs)) σ (env.set i (.val (.lst l))) := by
      have ne : ∀ j l', (env.set i (.val (.lst l)))[j]? = some (.own l') → j ≠ i ∧ env[j]? = some (.own l') := fun j l' hj => by
        by_cases z : i = j
        · subst z
          rw [List.getElem?_set_self (List.getElem?_eq_some_iff.mp hl).1] at hj; cases hj
        · rw [List.getElem?_set_ne z] at hj
          exact ⟨fun q => z q.symm, hj⟩
      refine ⟨by simp [S.len], fun j d hj => ?_, fun j l2 hj => ?_, fun a b l1 l2 q h1 h2 h3 h4 => S.sep a b l1 l2 q (ne a _ h1).2 (ne b _ h2).2 h3 h4⟩
      · by_cases z : i = j
        · subst z
          rw [List.getElem?_set_self (List.getElem?_eq_some_iff.mp hl).1] at hj
          cases hj
          exact ⟨_, hp1, rl⟩
        · rw [List.getElem?_set_ne z] at hj
          obtain ⟨v, e, r⟩ := S.val j d hj
          exact ⟨v, e, r.mono (Ex.new h01)⟩
      · obtain ⟨n, hj'⟩ := ne j _ hj
        obtain ⟨q, us, a1, a2, a3, a4, a5, a6, a7⟩ := S.own j l2 hj'
        refine ⟨q, us, a1, a2, ?_, a4, a5, a6.mono (Ex.new h01), a7⟩
        rw [upd_ne]
        · exact a3
        · intro z
          rw [z] at a1
          exact n (S.sep j i l2 l p hj' hl a1 hp1)
    exact ⟨ta, He, He0, _, _, T, g2, I2, S2, q⟩
  · exact (run_bad q).elim
/-- y = x: the list of its own goes over to y -/
def sMove (i j : Nat) : FS := fun env => match env[j]? with
  | some (.own l) => M.ret (.nx ((env.set j .non).set i (.own l)))
  | _ => M.bad
/-! ### errors -/
/-- X(), X an own class of errors without own __init__ -/
theorem pmk_own0 {C : Addr} {bmB : List Value} {B newId initId : String} {x : Str} {p : Pos} (F : ExcBaseFacts B newId initId bmB) (q : PySem.W.excIn X.K C bmB newId = true) (gC : X.mg x = some (.ref C)) (kC : PySem.W.keepIn X.K (.ref C) = true) (r : Raises X (.ref C)) (hg : Gl X x)
    (hdb : (x == ("__debug__" : Str)) = false := by decide) : PMk X (.Call (.Name x p) [] [] pos) (fun _ H Q => Q (.ref C) none H) := by
  intro pins s σ H Q I h
  refine wpAny_Call_Name_kw (ld_glob I hg gC ?_ hdb)
  refine PySem.W.callWith_K0 I.kIn kC ?_
  show wpAny _ _ (call (.ref C) []) _ _ _
  obtain ⟨bm, N, nm, qn, bs, hdct, sn, sub, ab, col, dd, k0, k1, k2, k3, k5, mN, hC, hN, hni, T⟩ := exc_obj I.kIn q
  refine wpAny_call_exc_subT F T hC hN hni (fun h' e hm => ?_) (Nat.zero_le _)
  exact mk_of I hm r h (I.hok.gone hm.new)
/-- the facts of an own error class over ValueError -/
structure ErrOk (K : PySem.W.Frag) (mg : Str → Option Value) (x : Str) (C : Addr) : Prop where
  at_ : mg x = some (.ref C)
  kp : PySem.W.keepIn K (.ref C) = true
  ex : PySem.W.excIn K C [.type "ValueError", .type "Exception", .type "BaseException", .type "object"] "ValueError.__new__" = true
  sub : PySem.W.subIn K (.ref C) (.type "BaseException") = some true
  ty : PySem.W.typeIn K (.ref C) = some (.type "type")
def sRaise (c : Str) : FS := fun _ => M.raise c
theorem pfs_raise {x : Str} {C : Addr} {p p2 : Pos} (hc : X.calm = true) (tk : Takes X fun cls d _ H => E.1 cls d H) (R : ErrOk X.K X.mg x C) (hg : Gl X x) (hdb : (x == ("__debug__" : Str)) = false := by decide) :
    PFS X E (.Raise (some (.Call (.Name x p) [] [] p2)) none pos) (sRaise x) :=
  PS.imp (ps_raise hc tk (pmk_own0 PySem.F.excBase_ValueError R.ex R.at_ R.kp (raises_own R.sub R.ty) hg hdb)) fun Dn σ H h => by
    obtain ⟨ta, He, He0, H0, env, T, g, I, S, o, e, q⟩ := h
    cases e
    obtain ⟨C', e2, q⟩ := q
    rw [R.at_] at e2
    cases e2
    exact q H H0 g I
end
/-! ### defs -/
def mkF (n N : Nat) (body : FS) : FF := fun ds => if ds.length = n then M.bind (body (ds.map .val ++ List.replicate (N - n) .non)) fun fl => match fl with
    | .rt d => M.ret d
    | .nx _ => M.ret .non
    | _ => M.bad
  else M.bad
theorem start_ss {K : PySem.W.Frag} {ta : Option Addr} {H H0 : Hp} {N : List Str} {vs : List V} {ds : List D} (r : Reps K ta H0 vs ds) (hN : vs.length ≤ N.length) : Ss K ta H H H0 (L2.start N vs) (ds.map .val ++ List.replicate (N.length - ds.length) .non) := by
  have hl := r.length
  have no : ∀ i l, (ds.map Sv.val ++ List.replicate (N.length - ds.length) Sv.non)[i]? ≠ some (Sv.own l) := fun i l h => by
    have hm := List.mem_of_getElem? h
    rcases List.mem_append.mp hm with hm | hm
    · obtain ⟨d, _, e⟩ := List.mem_map.mp hm
      cases e
    · have := (List.mem_replicate.mp hm).2
      cases this
  refine ⟨by unfold L2.start; simp [hl], fun i d h => ?_, fun i l h => absurd h (no i l), fun i j l l' p h _ _ _ => absurd h (no i l)⟩
  by_cases hi : i < ds.length
  · rw [List.getElem?_append_left (by simpa using hi), List.getElem?_map, Option.map_eq_some_iff] at h
    obtain ⟨d', e, q⟩ := h
    cases q
    obtain ⟨v, hv, rv⟩ := r.get e
    refine ⟨v, ?_, rv⟩
    unfold L2.start
    rw [List.getElem?_append_left (by simp; omega), List.getElem?_map, hv]
    rfl
  · rw [List.getElem?_append_right (by simpa using hi)] at h
    have := (List.mem_replicate.mp (List.mem_of_getElem? h)).2
    cases this
theorem takesE {CXP : Program} {w : World} {K : PySem.W.Frag} {mg : Str → Option Value} {base : Heap} {N : List Str} {qual : Str} {scope : Scope} {f : Addr} {cd : Value} {A : Around} {outer : List PySem.Env} {s : Shared} {H : Hp} {E : XK} :
    Takes (cxOf (L2.CX CXP w) CXP w K mg base N qual scope f cd A outer s H E) fun cls d _ H => E cls d H := takes_of rfl rfl rfl rfl
theorem passesE {P : Program} {w : World} {K : PySem.W.Frag} {mg : Str → Option Value} {base : Heap} {N : List Str} {qual : Str} {scope : Scope} {f : Addr} {cd : Value} {A : Around} {outer : List PySem.Env} {s : Shared} {H : Hp} {E : XK} :
    Passes (L2.CX P w) (cxOf (L2.CX P w) P w K mg base N qual scope f cd A outer s H E) E := passes_call takesE fun _ _ _ _ h => h
/-- a def that may raise, its code object known -/
theorem okX2 {P : Program} {w : World} {K : PySem.W.Frag} {mg : Str → Option Value} {base : Heap} {x : Str} {st : Stmt} {f : Addr} {fd : FuncData} {N ps : List Str} {k : Nat} {sp : Sp} (F : Fun K x x st f fd) (S : FnScope N ps (defScope st)) (hl : ∀ vs H Q E, sp vs H Q E → vs.length = ps.length)
    (hbody : ∀ (cdv : Value), fd.code = cdv → ∀ (A : Around) (outer : List PySem.Env) (s : Shared) (H : Hp) (vs : List V) (Q : VK) (E : XK), Room k (A.deeper (envOfC x (defScope st) s.heap.objs.size f cdv)) → sp vs H Q E →
      ∃ t, PSs (cxOf (L2.CX P w) P w K mg base N x (defScope st) f cdv A outer s H E) (defBody st) t ∧ t { nx := fun _ H' => Q .non H', rt := Q } (L2.start N vs) H) : FnOk P w K mg base (L2.CX P w) (k + 1) f fd ps sp := by
  obtain ⟨oc, od, kV, doc, pm, an, cdv, ct, osl, e, lk, hcd⟩ := F.ex
  cases e
  refine fn_of lk hcd S hl fun A outer s H vs Q E hr q => ?_
  exact hbody cdv rfl A outer s H vs Q E hr q
/-- THE RULE for a def: its body computes B -/
theorem def_fn {P : Program} {w : World} {K : PySem.W.Frag} {mg : Str → Option Value} {tb : List (Addr × Str)} {base : Heap} {x : Str} {st : Stmt} {f : Addr} {fd : FuncData} {N ps : List Str} {k : Nat} {B : FS} (F : Fun K x x st f fd) (Sc : FnScope N ps (defScope st))
    (hbody : ∀ (cdv : Value), fd.code = cdv → ∀ (A : Around) (outer : List PySem.Env) (s : Shared) (H : Hp) (E : XK), Room k (A.deeper (envOfC x (defScope st) s.heap.objs.size f cdv)) → PFSs (cxOf (L2.CX P w) P w K mg base N x (defScope st) f cdv A outer s H E) (E, tb) (defBody st) B) :
    FnOk P w K mg base (L2.CX P w) (k + 1) f fd ps (spF mg K tb ps.length (mkF ps.length N.length B)) := by
  have hpl : ps.length ≤ N.length := by
    have := congrArg List.length Sc.pre
    rw [List.length_take] at this
    omega
  refine okX2 F Sc (fun vs H Q E h => h.1) fun cdv hc A outer s H vs Q E hr h => ⟨_, hbody cdv hc A outer s H E hr, ?_⟩
  obtain ⟨hl, ta, H0, T, ds, I, r, q⟩ := h
  have hd : ds.length = ps.length := by rw [← r.length]; exact hl
  unfold mkF at q
  rw [if_pos hd] at q
  refine ⟨ta, H, H0, H0, _, T, Go.refl, I, start_ss r (by omega), ?_⟩
  rw [show N.length - ds.length = N.length - ps.length from by rw [hd]]
  obtain ⟨o, e, q⟩ := q.bind
  refine ⟨o, e, ?_⟩
  cases o with
  | ex c T' => exact q
  | ok fl T' =>
    intro H' H0' g' I'
    have q : Run K mg E ta tb H H0 T' _ _ := q
    cases fl with
    | nx env => exact fun σ' S' => ret_go q g' I' _ .non
    | rt d => exact fun v rv => ret_go q g' I' v rv
    | bk env => exact (run_bad q).elim
    | ct env => exact (run_bad q).elim
theorem def_ok {P : Program} {w : World} {K : PySem.W.Frag} {mg : Str → Option Value} {tb : List (Addr × Str)} {base : Heap} {x : Str} {st : Stmt} {f : Addr} {fd : FuncData} {N ps : List Str} {k : Nat} {B : FS} (F : Fun K x x st f fd) (hm : mg x = some (.ref f)) (Sc : FnScope N ps (defScope st)) (hb : Binds K fd ps [])
    (hbody : ∀ (cdv : Value), fd.code = cdv → ∀ (A : Around) (outer : List PySem.Env) (s : Shared) (H : Hp) (E : XK), Room k (A.deeper (envOfC x (defScope st) s.heap.objs.size f cdv)) → PFSs (cxOf (L2.CX P w) P w K mg base N x (defScope st) f cdv A outer s H E) (E, tb) (defBody st) B) :
    DefOk P w K mg tb base (k + 1) x f ps (mkF ps.length N.length B) := by
  refine ⟨⟨fd, def_fn F Sc hbody, hb⟩, hm, F.kp, fun ds T h => ?_⟩
  by_cases z : ds.length = ps.length
  · exact z
  · exfalso
    unfold mkF at h
    rw [if_neg z] at h
    exact h rfl
end PF

namespace PF
open PySem PySem.Spec PyProof.Rows L2
open Evl (Ex)
section
variable {K : PySem.W.Frag}
def lenD : List D → Option D
  | [.str s] => if s.length ≤ 16777216 then some (.int s.length) else none
  | [.tup l] => some (.int l.length)
  | [.lst l] => some (.int l.length)
  | [.frl l] => some (.int l.length)
  | _ => none
theorem Reps.one {ta : Option Addr} {H : Hp} {xs : List V} {d : D} (r : Reps K ta H xs [d]) : ∃ v, xs = [v] ∧ Rep K ta H v d := by
  cases r with
  | cons r t => cases t; exact ⟨_, rfl, r⟩
theorem Reps.two {ta : Option Addr} {H : Hp} {xs : List V} {d e : D} (r : Reps K ta H xs [d, e]) : ∃ v w, xs = [v, w] ∧ Rep K ta H v d ∧ Rep K ta H w e := by
  cases r with
  | cons r t =>
    obtain ⟨w, rfl, h⟩ := t.one
    exact ⟨_, w, rfl, r, h⟩
theorem rc_len : RC K (fun xs H Q => ∃ x n, xs = [x] ∧ LenV K x H n ∧ Q (.int n) H) lenD := by
  intro ta Tb H H0 T xs ds dz Q I r e q
  unfold lenD at e
  split at e
  · split at e
    · rename_i hl
      cases e
      obtain ⟨v, rfl, rv⟩ := r.one
      cases rv
      exact ⟨_, _, rfl, ⟨le_line hl, rfl⟩, q _ H H0 Go.refl I (.int _)⟩
    · cases e
  · cases e
    obtain ⟨v, rfl, rv⟩ := r.one
    cases rv with
    | tup s rs _ => exact ⟨_, _, rfl, .inr ⟨_, Evl.ex_t I.ex s, rfl⟩, by rw [rs.length]; exact q _ H H0 Go.refl I (.int _)⟩
  · cases e
    obtain ⟨v, rfl, rv⟩ := r.one
    cases rv with
    | lst s rs _ => exact ⟨_, _, rfl, .inl ⟨_, Evl.ex_l I.ex (Evl.sq_of s), rfl⟩, by rw [rs.length]; exact q _ H H0 Go.refl I (.int _)⟩
  · cases e
    obtain ⟨v, rfl, rv⟩ := r.one
    cases rv with
    | frl s rs _ => exact ⟨_, _, rfl, .inl ⟨_, Evl.ex_l I.ex s, rfl⟩, by rw [rs.length]; exact q _ H H0 Go.refl I (.int _)⟩
  · cases e
def absD : List D → Option D
  | [.int i] => some (.int (if i < 0 then -i else i))
  | _ => none
theorem rc_abs : RC K (fun xs H Q => ∃ i, xs = [.int i] ∧ Q (.int (if i < 0 then -i else i)) H) absD := by
  intro ta Tb H H0 T xs ds dz Q I r e q
  unfold absD at e
  split at e
  · cases e
    obtain ⟨v, rfl, rv⟩ := r.one
    cases rv
    exact ⟨_, rfl, q _ H H0 Go.refl I (.int _)⟩
  · cases e
def intD : List D → Option D
  | [.int i] => some (.int i)
  | [.bl k] => some (.int (if k then 1 else 0))
  | _ => none
theorem rc_int : RC K (fun xs H Q => (∃ i, xs = [.int i] ∧ Q (.int i) H) ∨ ∃ k, xs = [.bl k] ∧ Q (.int (if k then 1 else 0)) H) intD := by
  intro ta Tb H H0 T xs ds dz Q I r e q
  unfold intD at e
  split at e
  · cases e
    obtain ⟨v, rfl, rv⟩ := r.one
    cases rv
    exact .inl ⟨_, rfl, q _ H H0 Go.refl I (.int _)⟩
  · cases e
    obtain ⟨v, rfl, rv⟩ := r.one
    cases rv
    exact .inr ⟨_, rfl, q _ H H0 Go.refl I (.int _)⟩
  · cases e
def max2D : List D → Option D
  | [.int i, .int j] => some (.int (if j > i then j else i))
  | _ => none
def min2D : List D → Option D
  | [.int i, .int j] => some (.int (if j < i then j else i))
  | _ => none
theorem rc_max2 : RC K (fun xs H Q => ∃ i j, xs = [.int i, .int j] ∧ Q (.int (if j > i then j else i)) H) max2D := by
  intro ta Tb H H0 T xs ds dz Q I r e q
  unfold max2D at e
  split at e
  · cases e
    obtain ⟨v, w, rfl, rv, rw'⟩ := r.two
    cases rv; cases rw'
    exact ⟨_, _, rfl, q _ H H0 Go.refl I (.int _)⟩
  · cases e
theorem rc_min2 : RC K (fun xs H Q => ∃ i j, xs = [.int i, .int j] ∧ Q (.int (if j < i then j else i)) H) min2D := by
  intro ta Tb H H0 T xs ds dz Q I r e q
  unfold min2D at e
  split at e
  · cases e
    obtain ⟨v, w, rfl, rv, rw'⟩ := r.two
    cases rv; cases rw'
    exact ⟨_, _, rfl, q _ H H0 Go.refl I (.int _)⟩
  · cases e
/-- repr of an int of at most some 570 digits -/
def reprD : List D → Option D
  | [.int i] => if i.natAbs.log2 < 1920 then some (.str (toString i)) else none
  | _ => none
theorem rc_repr : RC K (fun xs H Q => ∃ i, xs = [.int i] ∧ i.natAbs.log2 < 1920 ∧ Q (.str (toString i)) H) reprD := by
  intro ta Tb H H0 T xs ds dz Q I r e q
  unfold reprD at e
  split at e
  · split at e
    · rename_i hl
      cases e
      obtain ⟨v, rfl, rv⟩ := r.one
      cases rv
      exact ⟨_, rfl, hl, q _ H H0 Go.refl I (.str _)⟩
    · cases e
  · cases e
/-! isinstance of a built-in class -/
def tyN : D → Option String
  | .non => some "NoneType"
  | .bl _ => some "bool"
  | .int _ => some "int"
  | .str _ => some "str"
  | .tup _ => some "tuple"
  | .lst _ => some "list"
  | .frl _ => some "list"
  | .dct _ _ => some "dict"
  | _ => none
theorem Rep.tyX {ta : Option Addr} {H0 H : Hp} (ex : Ex H0 H) {v : V} {d : D} {n : String} (r : Rep K ta H0 v d) (e : tyN d = some n) : TyX K H v (.type n) := by
  cases r with
  | non => cases e; exact .base .non
  | bl b => cases e; exact .base (.bl b)
  | int i => cases e; exact .base (.int i)
  | str x => cases e; exact .base (.str x)
  | tup s r l =>
    cases e
    rcases s with (s | ⟨o, s⟩) | ⟨o, its, m, h1, h2, _⟩
    · exact .base (.tup (ex _ _ s))
    · exact .fTuple (ex _ _ s)
    · exact .kTuple h1 h2
  | lst s r l => cases e; exact .base (.lst (ex _ _ s))
  | frl s r l =>
    cases e
    rcases s with (s | ⟨o, s⟩) | ⟨o, its, m, h1, h2, _⟩
    · exact .base (.lst (ex _ _ s))
    · exact .base (.frz (ex _ _ s))
    · exact .kList h1 h2
  | dct s q r l => cases e; exact .base (.dK (ex _ _ s))
  | _ => cases e
def isiD : List D → Option D
  | [x, .ty n] => (tyN x).bind fun t => (kitB t n).map .bl
  | _ => none
theorem rc_isi : RC K (rIsi K) isiD := by
  intro ta Tb H H0 T xs ds dz Q I r e q
  unfold isiD at e
  split at e
  · rw [Option.bind_eq_some_iff] at e
    obtain ⟨t, h1, e⟩ := e
    rw [Option.map_eq_some_iff] at e
    obtain ⟨b, h2, rfl⟩ := e
    obtain ⟨v, w, rfl, rv, rw'⟩ := r.two
    cases rw'
    exact ⟨_, _, _, _, b, rfl, .ty _, rv.tyX I.ex h1, kit_ty h2, q _ H H0 Go.refl I (.bl _)⟩
  · cases e
/-! sums and lists of flags -/
def bls? : List D → Option (List Bool)
  | [] => some []
  | .bl b :: ds => (bls? ds).map fun l => b :: l
  | _ => none
theorem Reps.bls {ta : Option Addr} {H : Hp} : ∀ {vs : List V} {ds : List D} {ns : List Bool}, Reps K ta H vs ds → bls? ds = some ns → vs = ns.map V.bl
  | _, _, _, .nil, e => by cases e; rfl
  | _, _, _, .cons r t, e => by
    cases r with
    | bl i =>
      unfold bls? at e
      rw [Option.map_eq_some_iff] at e
      obtain ⟨l, h, rfl⟩ := e
      rw [List.map_cons, Reps.bls t h]
    | _ => cases e
def sumD : List D → Option D
  | [.lst l] => (ints? l).map fun ns => .int ns.sum
  | _ => none
def anyD : List D → Option D
  | [.lst l] => (bls? l).map fun ns => .bl (ns.any id)
  | _ => none
def allD : List D → Option D
  | [.lst l] => (bls? l).map fun ns => .bl (ns.all id)
  | _ => none
theorem rc_sum : RC K (rSum K) sumD := by
  intro ta Tb H H0 T xs ds dz Q I r e q
  unfold sumD at e
  split at e
  · rw [Option.map_eq_some_iff] at e
    obtain ⟨ns, h, rfl⟩ := e
    obtain ⟨v, rfl, rv⟩ := r.one
    cases rv with
    | lst s rs _ => exact ⟨_, ns, rfl, by rw [rs.ints h] at s; exact Evl.ex_l I.ex (Evl.sq_of s), q _ H H0 Go.refl I (.int _)⟩
  · cases e
theorem rc_any : RC K (rAny K) anyD := by
  intro ta Tb H H0 T xs ds dz Q I r e q
  unfold anyD at e
  split at e
  · rw [Option.map_eq_some_iff] at e
    obtain ⟨ns, h, rfl⟩ := e
    obtain ⟨v, rfl, rv⟩ := r.one
    cases rv with
    | lst s rs _ => exact ⟨_, ns, rfl, by rw [rs.bls h] at s; exact Evl.ex_l I.ex (Evl.sq_of s), q _ H H0 Go.refl I (.bl _)⟩
  · cases e
theorem rc_all : RC K (rAll K) allD := by
  intro ta Tb H H0 T xs ds dz Q I r e q
  unfold allD at e
  split at e
  · rw [Option.map_eq_some_iff] at e
    obtain ⟨ns, h, rfl⟩ := e
    obtain ⟨v, rfl, rv⟩ := r.one
    cases rv with
    | lst s rs _ => exact ⟨_, ns, rfl, by rw [rs.bls h] at s; exact Evl.ex_l I.ex (Evl.sq_of s), q _ H H0 Go.refl I (.bl _)⟩
  · cases e
/-! list(..), tuple(..) -/
def listD : List D → Option D
  | [.lst l] => some (.lst l)
  | [.frl l] => some (.lst l)
  | [.tup l] => some (.lst l)
  | _ => none
def tupleD : List D → Option D
  | [.lst l] => some (.tup l)
  | [.frl l] => some (.tup l)
  | [.tup l] => some (.tup l)
  | _ => none
theorem rc_list : RC K (fun xs H Q => ∃ p ys, xs = [.ref p] ∧ (SqL K H p ys ∨ SqT K H p ys) ∧ ∀ l, H l = none → Q (.ref l) (upd H l (.lst ys))) listD := by
  intro ta Tb H H0 T xs ds dz Q I r e q
  have fin : ∀ {ys : List V} {l : List D}, Reps K ta H0 ys l → l.length ≤ sizeLine → (∀ v H' H0', Go ta H H0 H' H0' → Pu K ta Tb H' H0' T → Rep K ta H0' v (.lst l) → Q v H') → ∀ p, H p = none → Q (.ref p) (upd H p (.lst ys)) := fun rs hl q p hp =>
    q _ _ _ (Go.laid hp I.ex) (I.laid hp nt_lst) (.lst upd_same (rs.mono (Ex.new (I.none_of hp))) hl)
  unfold listD at e
  split at e
  · cases e
    obtain ⟨v, rfl, rv⟩ := r.one
    cases rv with
    | lst s rs hl => exact ⟨_, _, rfl, .inl (Evl.ex_l I.ex (Evl.sq_of s)), fin rs hl q⟩
  · cases e
    obtain ⟨v, rfl, rv⟩ := r.one
    cases rv with
    | frl s rs hl => exact ⟨_, _, rfl, .inl (Evl.ex_l I.ex s), fin rs hl q⟩
  · cases e
    obtain ⟨v, rfl, rv⟩ := r.one
    cases rv with
    | tup s rs hl => exact ⟨_, _, rfl, .inr (Evl.ex_t I.ex s), fin rs hl q⟩
  · cases e
theorem rc_tuple : RC K (fun xs H Q => ∃ p ys, xs = [.ref p] ∧ ((SqL K H p ys ∧ ∀ l, H l = none → Q (.ref l) (upd H l (.tup ys))) ∨ (SqT K H p ys ∧ Q (.ref p) H))) tupleD := by
  intro ta Tb H H0 T xs ds dz Q I r e q
  have fin : ∀ {ys : List V} {l : List D}, Reps K ta H0 ys l → l.length ≤ sizeLine → (∀ v H' H0', Go ta H H0 H' H0' → Pu K ta Tb H' H0' T → Rep K ta H0' v (.tup l) → Q v H') → ∀ p, H p = none → Q (.ref p) (upd H p (.tup ys)) := fun rs hl q p hp =>
    q _ _ _ (Go.laid hp I.ex) (I.laid hp nt_tup) (.tup (SqT.of upd_same) (rs.mono (Ex.new (I.none_of hp))) hl)
  unfold tupleD at e
  split at e
  · cases e
    obtain ⟨v, rfl, rv⟩ := r.one
    cases rv with
    | lst s rs hl => exact ⟨_, _, rfl, .inl ⟨Evl.ex_l I.ex (Evl.sq_of s), fin rs hl q⟩⟩
  · cases e
    obtain ⟨v, rfl, rv⟩ := r.one
    cases rv with
    | frl s rs hl => exact ⟨_, _, rfl, .inl ⟨Evl.ex_l I.ex s, fin rs hl q⟩⟩
  · cases e
    obtain ⟨v, rfl, rv⟩ := r.one
    cases rv with
    | tup s rs hl => exact ⟨_, _, rfl, .inr ⟨Evl.ex_t I.ex s, q _ H H0 Go.refl I (.tup s rs hl)⟩⟩
  · cases e
end
end PF

namespace PF
open PySem PySem.Spec PyProof.Rows L2
open Evl (Ex)
/-! targets within a comprehension's own names -/
def GIn (g : TgD) (vs : List Nat) : Prop := ∀ d l, g d = some l → ∀ p ∈ l, p.1 ∈ vs
def GsIn (g : List D → Option (List (Nat × D))) (vs : List Nat) : Prop := ∀ d l, g d = some l → ∀ p ∈ l, p.1 ∈ vs
theorem GIn.nm {i : Nat} {vs : List Nat} (h : i ∈ vs) : GIn (gNm i) vs := fun d l e p hp => by
  cases e
  rw [List.mem_singleton.mp hp]
  exact h
theorem GsIn.nil {vs : List Nat} : GsIn gsNil vs := fun d l e p hp => by
  cases d with
  | nil => cases e; cases hp
  | cons _ _ => cases e
theorem GsIn.cons {g : TgD} {gs : List D → Option (List (Nat × D))} {vs : List Nat} (h1 : GIn g vs) (h2 : GsIn gs vs) : GsIn (gsCons g gs) vs := fun d l e p hp => by
  cases d with
  | nil => cases e
  | cons d ds =>
    unfold gsCons at e
    rw [Option.bind_eq_some_iff] at e
    obtain ⟨l1, e1, e⟩ := e
    rw [Option.map_eq_some_iff] at e
    obtain ⟨l2, e2, rfl⟩ := e
    rcases List.mem_append.mp hp with hp | hp
    · exact h1 _ _ e1 p hp
    · exact h2 _ _ e2 p hp
theorem GIn.tp {n : Nat} {gs : List D → Option (List (Nat × D))} {vs : List Nat} (h : GsIn gs vs) : GIn (gTp n gs) vs := fun d l e p hp => by
  unfold gTp at e
  split at e
  · split at e
    · exact h _ _ e p hp
    · cases e
  · cases e
section
variable {X : Cx} {E : XW} {tg e : Expr} {F : FE}
theorem passesO {P : Program} {w : World} {K : PySem.W.Frag} {mg : Str → Option Value} {base : Heap} {N : List Str} {qual : Str} {scope : Scope} {f : Addr} {cd : Value} {A : Around} {outer : List PySem.Env} {s : Shared} {H : Hp} {E : XK} :
    PassesOwn (model P w) (A.deeper (envOfC qual scope s.heap.objs.size f cd)) (envOfC qual scope s.heap.objs.size f cd) (cxOf (L2.CX P w) P w K mg base N qual scope f cd A outer s H E).xe :=
  passes_of (X := cxOf (L2.CX P w) P w K mg base N qual scope f cd A outer s H E) rfl
/-- a list or a tuple, walked -/
def iSq (F : FE) : FI := fun env => M.bind (F env) fun d => match d with
  | .lst l => M.ret l
  | .frl l => M.ret l
  | .tup l => M.ret l
  | _ => M.bad
def iAny (K : PySem.W.Frag) (tl : TE) : TI := fun σ H R => tl σ H fun x H1 => ∃ a, x = .ref a ∧ ((∃ xs, SqL K H1 a xs ∧ R (Itl K a) H1) ∨ ∃ xs, SqT K H1 a xs ∧ R (Itt K a) H1)
theorem pi_any {l : Expr} {tl : TE} (hl : PE X l tl) : PI X tg l (iAny X.K tl) := by
  refine ⟨fun pins s σ H R I h => ?_⟩
  refine thn (hl.run pins s σ H _ I h) fun v s1 ⟨x, H1, I1, r1, q1⟩ => ?_
  obtain ⟨a, e, q⟩ := q1
  subst e
  cases r1
  have fin : ∀ b ∈ [s1.heap.objs.size], FpOk X pins H1 b := fun b hb => by
    have e : b = s1.heap.objs.size := by simpa using hb
    subst e
    exact I1.fpOk (Nat.le_refl _) (I1.hok.fresh (Nat.le_refl _))
  rcases q with ⟨xs, hq, q⟩ | ⟨xs, hq, q⟩
  · obtain ⟨its, rv, p, hz⟩ := I1.list hq
    refine wpAny_pyIter_list p.isList ?_
    exact ⟨s1.heap.objs.size, [s1.heap.objs.size], _, _, H1, rfl, I1.kept (t' := s1.toks) fun b o e => Heap.get?_push_of_some _ e, turn_list a _, ⟨_, Heap.get?_push_size _ rfl, rfl, rfl⟩, fin, q⟩
  · obtain ⟨its, rv, p, hz⟩ := I1.tuple hq
    refine wpAny_pyIter_tuple (show s1.heap.IsTuple a its.toArray from p) ?_
    exact ⟨s1.heap.objs.size, [s1.heap.objs.size], _, _, H1, rfl, I1.kept (t' := s1.toks) fun b o e => Heap.get?_push_of_some _ e, turn_tuple a _, ⟨_, Heap.get?_push_size _ rfl, rfl, rfl⟩, fin, q⟩
theorem pfi_seq (h : PF X E e F) : PFI X E tg e (iSq F) := PI.imp (pi_any h) fun σ H R q => by
  obtain ⟨ta, H0, env, T, S, I, q⟩ := q
  refine ⟨ta, H0, env, T, S, I, run_end q fun d H1 H01 T1 g1 I1 q1 v rv => ?_⟩
  cases rv with
  | lst s rs hl => exact ⟨_, rfl, .inl ⟨_, Evl.ex_l I1.ex (Evl.sq_of s), Run.ret I1 q1 _ (walkD_list (Evl.sq_of s) rs)⟩⟩
  | frl s rs hl => exact ⟨_, rfl, .inl ⟨_, Evl.ex_l I1.ex s, Run.ret I1 q1 _ (walkD_list s rs)⟩⟩
  | tup s rs hl => exact ⟨_, rfl, .inr ⟨_, Evl.ex_t I1.ex s, Run.ret I1 q1 _ (walkD_tup s rs)⟩⟩
  | _ => exact (run_bad q1).elim
def iaddD : D → D → Option D
  | .int i, .int j => some (.int (i + j))
  | _, _ => none
theorem rd_iadd {K : PySem.W.Frag} : RD K (rI0 fun i j => .int (i + j)) iaddD := by
  intro ta Tb H H0 T x y dx dy dz Q I rx ry e q
  unfold iaddD at e
  split at e
  · cases e; cases rx; cases ry
    exact ⟨_, _, rfl, rfl, q _ H H0 Go.refl I (.int _)⟩
  · cases e
theorem bt_len : bootBuiltins "len" = some (.builtin "len") := by decide +kernel
theorem bt_abs : bootBuiltins "abs" = some (.builtin "abs") := by decide +kernel
theorem bt_isinstance : bootBuiltins "isinstance" = some (.builtin "isinstance") := by decide +kernel
theorem bt_repr : bootBuiltins "repr" = some (.builtin "repr") := by decide +kernel
theorem bt_sum : bootBuiltins "sum" = some (.builtin "sum") := by decide +kernel
theorem bt_any : bootBuiltins "any" = some (.builtin "any") := by decide +kernel
theorem bt_all : bootBuiltins "all" = some (.builtin "all") := by decide +kernel
theorem bt_max : bootBuiltins "max" = some (.builtin "max") := by decide +kernel
theorem bt_min : bootBuiltins "min" = some (.builtin "min") := by decide +kernel
theorem bt_sorted : bootBuiltins "sorted" = some (.builtin "sorted") := by decide +kernel
theorem bt_int : bootBuiltins "int" = some (.type "int") := by decide +kernel
theorem bt_bool : bootBuiltins "bool" = some (.type "bool") := by decide +kernel
theorem bt_str : bootBuiltins "str" = some (.type "str") := by decide +kernel
theorem bt_tuple : bootBuiltins "tuple" = some (.type "tuple") := by decide +kernel
theorem bt_list : bootBuiltins "list" = some (.type "list") := by decide +kernel
theorem bt_dict : bootBuiltins "dict" = some (.type "dict") := by decide +kernel
theorem bt_range : bootBuiltins "range" = some (.type "range") := by decide +kernel
theorem bt_zip : bootBuiltins "zip" = some (.type "zip") := by decide +kernel
theorem bt_enumerate : bootBuiltins "enumerate" = some (.type "enumerate") := by decide +kernel
end
end PF

namespace PF
open PySem PySem.Spec PyProof.Rows L2
open Evl (Ex)

/-! ### try -/
/-- the wish of the try's body -/
def wk (n : Nat) (W : WX) : XK := fun cls d H' => ∀ σ' : L2.St, σ'.length = n → W cls d σ' H'
theorem takes_len {X : Cx} {W : WX} (t : Takes X W) : Takes X fun cls d σ H => σ.length = X.N.length → W cls d σ H :=
  fun u s' ⟨a, B, sI, pins, σ, H, cls, d, e, I, nb, up, sky, na, os, ag, w⟩ => t u s' ⟨a, B, sI, pins, σ, H, cls, d, e, I, nb, up, sky, na, os, ag, w I.len⟩
section
variable {K : PySem.W.Frag} {ta : Option Addr} {He H H0 : Hp} {σ : L2.St} {env : SEnv}
theorem Ss.unset (s : Ss K ta He H H0 σ env) (i : Nat) : Ss K ta He H H0 (σ.set i none) (env.set i .non) := by
  have ne : ∀ j sv, (env.set i .non)[j]? = some sv → sv ≠ .non → j ≠ i ∧ env[j]? = some sv := fun j sv hj n => by
    by_cases z : i = j
    · subst z
      by_cases hi : i < env.length
      · rw [List.getElem?_set_self hi] at hj; cases hj; exact absurd rfl n
      · rw [List.getElem?_eq_none (by simpa using hi)] at hj; cases hj
    · rw [List.getElem?_set_ne z] at hj
      exact ⟨fun q => z q.symm, hj⟩
  refine ⟨by simp [s.len], fun j d hj => ?_, fun j l hj => ?_, fun a b l1 l2 q h1 h2 h3 h4 => ?_⟩
  · obtain ⟨n, h⟩ := ne j _ hj (fun z => by cases z)
    rw [List.getElem?_set_ne (Ne.symm n)]
    exact s.val j d h
  · obtain ⟨n, h⟩ := ne j _ hj (fun z => by cases z)
    rw [List.getElem?_set_ne (Ne.symm n)]
    exact s.own j l h
  · obtain ⟨n1, h1'⟩ := ne a _ h1 (fun z => by cases z)
    obtain ⟨n2, h2'⟩ := ne b _ h2 (fun z => by cases z)
    rw [List.getElem?_set_ne (Ne.symm n1)] at h3
    rw [List.getElem?_set_ne (Ne.symm n2)] at h4
    exact s.sep a b l1 l2 q h1' h2' h3 h4
theorem Ss.blank {n : Nat} (hl : σ.length = n) : Ss K ta He H H0 σ (List.replicate n .non) := by
  have no : ∀ (i : Nat) (sv : Sv), (List.replicate n Sv.non)[i]? = some sv → sv = .non := fun i sv h => (List.mem_replicate.mp (List.mem_of_getElem? h)).2
  exact ⟨by simp [hl], fun i d h => Sv.noConfusion (no i _ h), fun i l h => Sv.noConfusion (no i _ h), fun i j l l' p h _ _ _ => Sv.noConfusion (no i _ h)⟩
end
/-- the clause's class x catches: tab tells which own classes -/
structure Cat (K : PySem.W.Frag) (mg : Str → Option Value) (x : Str) (CS : Addr) (tab : Str → Option Bool) : Prop where
  at_ : mg x = some (.ref CS)
  tells : ∀ c b, tab c = some b → ∃ C, mg c = some (.ref C) ∧ PySem.W.exmOne K (.ref C) (.ref CS) = some b
def Fl.clr (i : Nat) : Fl → Fl
  | .nx e => .nx (e.set i .non)
  | .bk e => .bk (e.set i .non)
  | .ct e => .ct (e.set i .non)
  | .rt d => .rt d
def sTry (F : FS) (h : Str → M Fl) : FS := fun env T => match F env T with
  | some (.ex c T') => h c T'
  | r => r
/-- the environment of an except suite -/
def exEnv (n i : Nat) (a : Addr) : SEnv := (List.replicate n Sv.non).set i (.val (.fn a))
section
variable {X : Cx} {E : XW} {x n : Str} {body suite : List Stmt} {b₀ : Stmt} {np pos pos' : Pos} {CS : Addr} {tab : Str → Option Bool} {F : FS} {h : Str → M Fl} {B : Addr → Str → FS}
theorem pfs_try_as (i : Nat) (hs : X.stack = X.env :: X.outer) (hf : X.env.frame = some X.env.locals) (hN : X.N.Nodup) (hi : X.N[i]? = some n) (hln : X.env.kindOf n = some .local) (hg : Gl X x) (C : Cat X.K X.mg x CS tab) (tk : Takes X fun cls d _ H => E.1 cls d H)
    (hb : ∀ (W : WX) (pn : List (Addr × Obj)) (xe : Value → Shared → Prop), Takes (X.tr pn xe) W → PassesOwn (model X.prog X.w) X.A X.env xe → PFSs (X.tr pn xe) (wk X.N.length W, E.2) body F)
    (hsu : ∀ (a : Addr) (oe : Obj) (c : Str) (Cc : Addr) (pn : List (Addr × Obj)), X.mg c = some (.ref Cc) → tab c = some true → Zc (.ref Cc) none oe → (∃ vs, oe.data = .fields vs) → PFSs (X.suite a ((a, oe) :: pn)) E (b₀ :: suite) (B a c))
    (hh : ∀ a c T, h c T ≠ none → tab c = some true ∧ M.bind (B a c (exEnv X.N.length i a)) (fun fl => M.ret (fl.clr i)) T = h c T)
    (hdb : (x == ("__debug__" : Str)) = false := by decide) : PFS X E (.Try body [.ExceptHandler (some (.Name x np)) (some n) (b₀ :: suite) pos'] [] [] pos) (sTry F h) := by
  refine PS.imp (ps_try_as (i := i) (c := .ref CS) (Wout := fun cls d _ H => E.1 cls d H) (tb := fun W => tS X.K X.mg (wk X.N.length W, E.2) F)
    (ts := fun a cls d Dn σ H => ∃ c Cc, cls = .ref Cc ∧ d = none ∧ X.mg c = some (.ref Cc) ∧ tab c = some true ∧ tS X.K X.mg E (B a c) Dn σ H) hs hf hN hi hln ⟨hg, hdb, .inl C.at_⟩ tk hb fun a oe cls d pn hz hfi => ?_) fun Dn σ H hh' => ?_
  · refine ⟨fun pins s σ H D I hq => ?_⟩
    obtain ⟨c, Cc, rfl, rfl, h1, h2, hq⟩ := hq
    exact (hsu a oe c Cc pn h1 h2 hz hfi).run pins s σ H D I hq
  · obtain ⟨ta, He, He0, H0, env, T, g, I, S, o, e, q⟩ := hh'
    unfold sTry at e
    cases hF : F env T with
    | none => rw [hF] at e; cases e
    | some oF =>
      rw [hF] at e
      cases oF with
      | ok fl T' =>
        cases e
        exact ⟨ta, He, He0, H0, env, T, g, I, S, _, hF, q⟩
      | ex c T' =>
        have e : h c T' = some o := e
        obtain ⟨htb, _⟩ := hh 0 c T' (by rw [e]; simp)
        obtain ⟨Cc, hCc, hex⟩ := C.tells c true htb
        refine ⟨ta, He, He0, H0, env, T, g, I, S, _, hF, Cc, hCc, fun H' H0' g' I' σ' hl => ⟨true, hex, fun _ a ha => ⟨c, Cc, rfl, rfl, hCc, htb, ?_⟩, fun z => Bool.noConfusion z⟩⟩
        obtain ⟨_, hq⟩ := hh a c T' (by rw [e]; simp)
        refine ⟨ta, He, He0, H0', exEnv X.N.length i a, T', g', I', (Ss.blank hl).set (.fn a) i, ?_⟩
        have r : Run X.K X.mg E.1 ta E.2 He He0 T' (M.bind (B a c (exEnv X.N.length i a)) (fun fl => M.ret (fl.clr i))) (EndS X.K ta He Dn) := ⟨o, by rw [hq, e], q⟩
        obtain ⟨o1, e1, q1⟩ := r.bind
        refine ⟨o1, e1, ?_⟩
        cases o1 with
        | ex c1 T1 => exact q1
        | ok fl T1 =>
          intro H1 H01 g1 I1
          have k := ret_go q1 g1 I1
          cases fl with
          | nx ev => exact fun σ1 S1 => k _ (S1.unset i)
          | bk ev => exact fun σ1 S1 => k _ (S1.unset i)
          | ct ev => exact fun σ1 S1 => k _ (S1.unset i)
          | rt d => exact fun v rv => k v rv
/-- the clauses, one after the other -/
def hMany : List ((Str → Option Bool) × M Fl) → Str → M Fl
  | [], _ => M.bad
  | (tab, m) :: r, c => match tab c with
    | some true => m
    | some false => hMany r c
    | none => M.bad
inductive HdF (X : Cx) (E : XW) : List ExceptHandler → List ((Str → Option Bool) × FS) → List (Value × (Addr → Value → Option Addr → TS)) → Prop
  | nil : HdF X E [] [] []
  | cons {x : Str} {CS : Addr} {tab : Str → Option Bool} {B : FS} {b₀ : Stmt} {suite : List Stmt} {np pos' : Pos} {hds : List ExceptHandler} {l : List ((Str → Option Bool) × FS)} {l' : List (Value × (Addr → Value → Option Addr → TS))} (C : Cat X.K X.mg x CS tab) (hg : Gl X x) (hdb : (x == ("__debug__" : Str)) = false)
      (hsu : ∀ (a : Addr) (pn : List (Addr × Obj)), PFSs (X.suite a pn) E (b₀ :: suite) B) (r : HdF X E hds l l') : HdF X E (.ExceptHandler (some (.Name x np)) none (b₀ :: suite) pos' :: hds) ((tab, B) :: l) ((.ref CS, fun _ _ _ => tS X.K X.mg E B) :: l')
theorem HdF.ok {hds : List ExceptHandler} {l : List ((Str → Option Bool) × FS)} {l' : List (Value × (Addr → Value → Option Addr → TS))} (k : HdF X E hds l l') : HdsOk X hds l' := by
  induction k with
  | nil => exact .nil
  | cons C hg hdb hsu r ih => exact .cons ⟨hg, hdb, .inl C.at_⟩ (fun a oe cls d pn _ _ => hsu a _) ih
theorem HdF.wish {hds : List ExceptHandler} {l : List ((Str → Option Bool) × FS)} {l' : List (Value × (Addr → Value → Option Addr → TS))} (k : HdF X E hds l l') {ta : Option Addr} {He He0 H' H0' : Hp} {T' : List D} {o : Ot Fl} {c : Str} {Dn : Ends} {σ' : L2.St} {Wo : WX}
    (hl : σ'.length = X.N.length) (g' : Go ta He He0 H' H0') (I' : Pu X.K ta E.2 H' H0' T') {env : SEnv} (henv : env = List.replicate X.N.length .non) (e : hMany (l.map fun p => (p.1, p.2 env)) c T' = some o) (q : End X.K X.mg E.1 ta E.2 He He0 o (EndS X.K ta He Dn)) :
    ∃ C, X.mg c = some (.ref C) ∧ wMany X.K Wo Dn l' (.ref C) none σ' H' := by
  induction k with
  | nil => cases e
  | @cons x CS tab B b₀ suite np pos' hds l l' C hg hdb hsu r ih =>
    simp only [List.map_cons, hMany] at e
    cases ht : tab c with
    | none => simp [ht] at e; cases e
    | some b =>
      obtain ⟨Cc, hCc, hex⟩ := C.tells c b ht
      cases b with
      | true =>
        simp only [ht] at e
        refine ⟨Cc, hCc, true, hex, fun _ a ha => ?_, fun z => Bool.noConfusion z⟩
        exact ⟨ta, He, He0, H0', env, T', g', I', henv ▸ Ss.blank hl, o, e, q⟩
      | false =>
        simp only [ht] at e
        obtain ⟨C2, h1, h2⟩ := ih e
        rw [h1] at hCc
        cases hCc
        exact ⟨_, h1, false, hex, fun z => Bool.noConfusion z, fun _ => h2⟩
theorem HdF.cls {hds : List ExceptHandler} {l : List ((Str → Option Bool) × FS)} {l' : List (Value × (Addr → Value → Option Addr → TS))} (k : HdF X E hds l l') {c : Str} {T' : List D} {o : Ot Fl} {env : SEnv} (e : hMany (l.map fun p => (p.1, p.2 env)) c T' = some o) : ∃ C, X.mg c = some (.ref C) := by
  cases k with
  | nil => cases e
  | @cons x CS tab B b₀ suite np pos' hds l l' C hg hdb hsu r =>
    simp only [List.map_cons, hMany] at e
    cases ht : tab c with
    | none => simp [ht] at e; cases e
    | some b => exact let ⟨Cc, hCc, _⟩ := C.tells c b ht; ⟨Cc, hCc⟩
theorem pfs_try_many {h₀ : ExceptHandler} {hds : List ExceptHandler} {l : List ((Str → Option Bool) × FS)} {l' : List (Value × (Addr → Value → Option Addr → TS))} (m : Nat) (hm : m = X.N.length) (hs : X.stack = X.env :: X.outer) (hf : X.env.frame = some X.env.locals) (tk : Takes X fun cls d _ H => E.1 cls d H)
    (hb : ∀ (W : WX) (pn : List (Addr × Obj)) (xe : Value → Shared → Prop), Takes (X.tr pn xe) W → PassesOwn (model X.prog X.w) X.A X.env xe → PFSs (X.tr pn xe) (wk X.N.length W, E.2) body F)
    (k : HdF X E (h₀ :: hds) l l') : PFS X E (.Try body (h₀ :: hds) [] [] pos) (sTry F (hMany (l.map fun p => (p.1, p.2 (List.replicate m .non))))) := by
  subst hm
  refine PS.imp (ps_try_many (Wout := fun cls d _ H => E.1 cls d H) (tb := fun W => tS X.K X.mg (wk X.N.length W, E.2) F) hs hf tk hb k.ok) fun Dn σ H hh' => ?_
  obtain ⟨ta, He, He0, H0, env, T, g, I, S, o, e, q⟩ := hh'
  unfold sTry at e
  cases hF : F env T with
  | none => rw [hF] at e; cases e
  | some oF =>
    rw [hF] at e
    cases oF with
    | ok fl T' =>
      cases e
      exact ⟨ta, He, He0, H0, env, T, g, I, S, _, hF, q⟩
    | ex c T' =>
      obtain ⟨Cc, hCc⟩ := k.cls e
      refine ⟨ta, He, He0, H0, env, T, g, I, S, _, hF, Cc, hCc, fun H' H0' g' I' σ' hl => ?_⟩
      obtain ⟨C2, h1, h2⟩ := k.wish (Wo := fun cls d _ H => E.1 cls d H) hl g' I' rfl e q
      rw [h1] at hCc
      cases hCc
      exact h2
end
/-! ### isinstance of the caught error -/
/-- the own class c is (b) a subclass of d -/
def IsEOk (K : PySem.W.Frag) (mg : Str → Option Value) (c d : Str) (b : Bool) : Prop := ∃ C cv, mg c = some (.ref C) ∧ ExcC K C ∧ PySem.W.kitOne K (.ref C) cv = some b ∧ ((∃ A, mg d = some (.ref A) ∧ cv = .ref A) ∨ (∃ t, mg d = none ∧ bootBuiltins d = some (.type t) ∧ cv = .type t))
open Classical in
noncomputable def fIsE (i : Nat) (a : Addr) (ob : Option Bool) : FE := fun env => match ob with
  | some b => if env[i]? = some (some (.fn a)) then M.ret (.bl b) else M.bad
  | none => M.bad
theorem pf_isE {X : Cx} {E : XW} {a Cc : Addr} {oe : Obj} {pn : List (Addr × Obj)} {c d ee : Str} {isT : Str → Str → Option Bool} {p p1 p2 pos : Pos} (i : Nat) (hT : ∀ c d b, isT c d = some b → IsEOk X.K X.mg c d b) (hc : X.mg c = some (.ref Cc)) (hz : Zc (.ref Cc) none oe) (hf : ∃ vs, oe.data = .fields vs)
    (hg : Gl X "isinstance") (hm : X.mg "isinstance" = none) (hgd : Gl X d) (hN : X.N[i]? = some ee := by rfl) (hv : Vis X.env.scope ee := by first | exact Or.inl rfl | exact Or.inr (Or.inl rfl) | exact Or.inr (Or.inr rfl)) (hd : (ee == ("__debug__" : Str)) = false := by decide) (hcd : (ee == ("__classdict__" : Str)) = false := by decide)
    (hn2 : d ≠ "__name__" := by decide) (hd2 : (d == ("__debug__" : Str)) = false := by decide) : PF (X.suite a ((a, oe) :: pn)) E (.Call (.Name "isinstance" p) [.Name ee p1, .Name d p2] [] pos) (fIsE i a (isT c d)) := by
  cases ht : isT c d with
  | none =>
    refine ⟨fun pins s σ H Q I h => ?_⟩
    obtain ⟨ta, H0, env, T, S, J, o, e, q⟩ := h
    cases e
  | some b =>
    obtain ⟨C, cv, h1, hx, hk, hcl⟩ := hT c d b ht
    rw [hc] at h1
    cases h1
    have hcl' : ∃ dc, (∀ ta H, ∃ v : V, Rep X.K ta H v dc ∧ (∀ v', Rep X.K ta H v' dc → v' = v) ∧ ∀ u, RelV v u → u = cv) ∧ PF (X.suite a ((a, oe) :: pn)) E (.Name d p2) (fC dc) := by
      rcases hcl with ⟨A, m, rfl⟩ | ⟨t, m, bb, rfl⟩
      · exact ⟨.fn A, fun ta H => ⟨.ref A, .fn A, fun v' r => by cases r; rfl, fun u r => r⟩, pf_gref hgd m hd2⟩
      · exact ⟨.ty t, fun ta H => ⟨.ty t, .ty t, fun v' r => by cases r; rfl, fun u r => r⟩, pf_ty hgd m bb hn2 hd2⟩
    obtain ⟨dc, hdc, hp⟩ := hcl'
    refine PE.imp (pe_callB (call_isE hx hz hf) hg hm rfl (pfa_cons (E := E) (pf_var i hN hv hd hcd) (pfa_cons hp pfa_nil))) fun σ H Q h => ?_
    obtain ⟨ta, H0, env, T, S, J, q⟩ := h
    unfold fIsE at q
    obtain ⟨o, e, q⟩ := q
    simp only at e
    split at e
    · rename_i he
      cases e
      refine ⟨ta, H0, env, T, S, J, .ok [.fn a, dc] T, ?_, fun H1 H01 g1 I1 vs rvs => ?_⟩
      · simp [aCons, aNil, fVar, fC, he, M.bind, M.ret]
      · cases rvs with
        | cons ra rr =>
          cases rr with
          | cons rb rr =>
            cases rr
            cases ra
            obtain ⟨v, rv, hu, hr⟩ := hdc ta H01
            have := hu _ rb
            subst this
            exact ⟨_, cv, b, rfl, hr, hk, q H1 H01 g1 I1 _ (.bl b)⟩
    · cases e
end PF

namespace PF
open PySem PySem.Spec PyProof.Rows L2
open Evl (Ex)

/-! ### a lambda handed to a def that calls it -/
open Classical in
noncomputable def fAct (L : D) (r : M D) : FE := fun env => if env[0]? = some (some L) then r else M.bad
/-- what a call of the lambda does, at any later state: r -/
def Impl (K : PySem.W.Frag) (mg : Str → Option Value) (tb : List (Addr × Str)) (ta : Option Addr) (Hb : Hp) (r : M D) (tl : XK → Hp → VK → Prop) : Prop :=
  ∀ (ta' : Option Addr) (E : XK) (H H0 : Hp) (T : List D) (Q : VK), (ta = none ∨ ta' = ta) → Ex Hb H0 → Pu K ta' tb H H0 T → Run K mg E ta' tb H H0 T r (fun d H' H0' => ∀ v, Rep K ta' H0' v d → Q v H') → tl E H Q
/-- the word def makes Fw r of the call's reading r -/
def TTw (K : PySem.W.Frag) (mg : Str → Option Value) (tb : List (Addr × Str)) (Fw : M D → M D) : (XK → Hp → VK → Prop) → Hp → VK → Prop := fun tl H Q =>
  ∃ ta H0 T r, Pu K ta tb H H0 T ∧ Impl K mg tb ta H0 r tl ∧ Run K mg C8.E0 ta tb H H0 T (Fw r) fun d H' H0' => ∀ v, Rep K ta H0' v d → Q v H'
/-- the end of a def's body -/
def wend : Fl → M D
  | .rt d => M.ret d
  | .nx _ => M.ret .non
  | _ => M.bad
theorem run_wend {K : PySem.W.Frag} {mg : Str → Option Value} {E : XK} {ta : Option Addr} {tb : List (Addr × Str)} {H H0 : Hp} {T : List D} {m : M Fl} {Q : VK} (q : Run K mg E ta tb H H0 T (M.bind m wend) fun d H' H0' => ∀ v, Rep K ta H0' v d → Q v H') :
    Run K mg E ta tb H H0 T m (EndS K ta H { nx := fun _ H' => Q .non H', rt := Q }) := by
  obtain ⟨o, e, q⟩ := q.bind
  refine ⟨o, e, ?_⟩
  cases o with
  | ex c T' => exact q
  | ok fl T' =>
    intro H' H0' g' I'
    have q : Run K mg E ta tb H H0 T' _ _ := q
    cases fl with
    | nx env => exact fun σ' S' => ret_go q g' I' _ .non
    | rt d => exact fun v rv => ret_go q g' I' v rv
    | bk env => exact (run_bad q).elim
    | ct env => exact (run_bad q).elim
section
variable {X : Cx} {Ng : List Str} {x a q : Str} {sg : Scope} {g : Addr} {cdg : Value} {bg : List Stmt} {tb : List (Addr × Str)} {Fw : M D → M D} {B : D → M D → FS}
theorem gives (hNg : Ng[0]? = some a)
    (hbody : ∀ (s : Shared) (H : Hp) (L : D) (r : M D),
      (∀ (W : WX) (pn : List (Addr × Obj)) (xe : Value → Shared → Prop) (p1 p2 : Pos), Takes ((cxOf C8.CX0 X.prog X.w X.K X.mg X.base Ng x sg g cdg X.A X.stack s H C8.E0).tr pn xe) W →
        PF ((cxOf C8.CX0 X.prog X.w X.K X.mg X.base Ng x sg g cdg X.A X.stack s H C8.E0).tr pn xe) (wk Ng.length W, tb) (.Call (.Name a p1) [] [] p2) (fAct L r)) →
      PFSs (cxOf C8.CX0 X.prog X.w X.K X.mg X.base Ng x sg g cdg X.A X.stack s H C8.E0).nox (C8.E0, tb) bg (B L r))
    (hw : ∀ L r T, M.bind (B L r (.val L :: List.replicate (Ng.length - 1) .non)) wend T = Fw r T) : LamX.GivesTo X Ng x sg g cdg bg a q (TTw X.K X.mg tb Fw) := by
  intro f c' s H Q tl act hc ⟨ta, H0, T, r, I, im, run⟩
  have hcn : H c' = some (LamX.CodeO c' q) := hc
  obtain ⟨H1, I1, hc1, g1⟩ : ∃ H1, Pu X.K ta tb H H1 T ∧ H1 c' = some (LamX.CodeO c' q) ∧ Go ta H H0 H H1 := by
    cases h0 : H0 c' with
    | some o => exact ⟨H0, I, h0.trans ((I.ex c' o h0).symm.trans hcn), Go.refl⟩
    | none =>
      have nt : ta ≠ some c' := fun z => by
        obtain ⟨_, vs, e, _⟩ := I.tp c' z
        rw [hcn] at e
        unfold LamX.CodeO at e
        cases e
      refine ⟨upd H0 c' (LamX.CodeO c' q), I.freeze h0 nt hcn LamX.codeO_ne, upd_same, fun _ _ h _ _ => h, fun _ o h n => ⟨o, h, n, id⟩, fun b o h => by rw [upd_ne (ne_of_none h h0)]; exact h, fun b xs h n => ?_⟩
      rw [upd_ne]
      · exact n
      · intro z
        rw [z, hcn] at h
        unfold LamX.CodeO at h
        cases h
  have hL : Rep X.K ta H1 (.ref f) (.lam f c' q ta H0) := .lam (.inr rfl) g1.up hc1
  have run1 : Run X.K X.mg C8.E0 ta tb H H1 T (Fw r) fun d H' H0' => ∀ v, Rep X.K ta H0' v d → Q v H' := run.go g1
  refine ⟨_, hbody s H (.lam f c' q ta H0) r fun W pn xe p1 p2 tk => ?_, ?_⟩
  · refine PE.imp (act _ pn xe (wk Ng.length W) p1 p2 (takes_len tk) fun cls d σ' H' h hl => h σ' hl) fun σZ HZ QZ h => ?_
    obtain ⟨ta', H0', env, T', S, J, q'⟩ := h
    unfold fAct at q'
    split at q'
    · rename_i he
      obtain ⟨v, hv, rv⟩ := S.get 0 _ he
      cases rv with
      | lam h1 h2 h3 => exact ⟨hv, J.ex _ _ h3, im ta' _ HZ H0' T' QZ h1 h2 J q'⟩
    · exact (run_bad q').elim
  · refine ⟨ta, H, H1, H1, .val (.lam f c' q ta H0) :: List.replicate (Ng.length - 1) .non, T, Go.refl, I1, ?_, run_wend ?_⟩
    · have hn : 1 ≤ Ng.length := by
        cases Ng with
        | nil => cases hNg
        | cons _ _ => simp
      exact start_ss (ds := [D.lam f c' q ta H0]) (.cons hL .nil) hn
    · obtain ⟨o, e, k⟩ := run1
      exact ⟨o, (hw _ r T).trans e, k⟩
end
/-- the word def, at f; Fw: what it makes of the call -/
structure WordOk (P : Program) (w : World) (K : PySem.W.Frag) (mg : Str → Option Value) (tb : List (Addr × Str)) (base : Heap) (x a : Str) (Fw : M D → M D) : Prop where
  ex : ∃ (st : Stmt) (f : Addr) (fd : FuncData) (Ng : List Str), L2.Fun K x x st f fd ∧ mg x = some (.ref f) ∧ Binds K fd [a] [] ∧ FnScope Ng [a] (defScope st) ∧ Ng[0]? = some a ∧ Vis (defScope st) a ∧
    ∀ (X : Cx) (q : Str), X.prog = P → X.w = w → X.K = K → X.mg = mg → X.base = base → LamX.GivesTo X Ng x (defScope st) f fd.code (defBody st) a q (TTw K mg tb Fw)
/-- where lambda code of the def with data fd lies -/
structure LamT (mg : Str → Option Value) (tb : List (Addr × Str)) (base : Heap) (x : Str) (cd : Value) : Prop where
  ex : ∃ c P, cd = .ref c ∧ LamX.TabB base mg c P ∧ (P, x ++ "<lambda>") ∈ tb ∧ ∀ p ∈ tb, p.1 = P → p.2 = x ++ "<lambda>"
def fLam (Fw : M D → M D) (F : FE) : FE := fun env => M.noex (Fw (F env))
theorem passL0 {X : Cx} {A : Around} {outer : List PySem.Env} {s : Shared} {H : Hp} {E : XK} {scope : Scope} {f c' : Addr} : Passes (L2.CX X.prog X.w) (LamX.lamCx X A outer s H E scope f c') E := passes_call (takes_of rfl rfl rfl rfl) fun _ _ _ _ h => h
theorem passL {X : Cx} {C : CXT} {A : Around} {outer : List PySem.Env} {s : Shared} {H : Hp} {E : XK} {scope : Scope} {f c' : Addr} (hC : C = L2.CX X.prog X.w := by rfl) : Passes C (LamX.lamCx X A outer s H E scope f c') E := by
  subst hC
  exact passL0
theorem pf_lamcall {X : Cx} {E : XW} {x a y : Str} {Fw : M D → M D} {F : FE} {k : Nat} {params : Arguments} {body : Expr} {scope : Scope} {p lpos pos : Pos} {cd : Value} (W : WordOk X.prog X.w X.K X.mg E.2 X.base x a Fw) (LT : LamT X.mg E.2 X.base y cd) (hq : X.env.qual = y) (hcd : X.env.code = cd)
    (hg : Gl X x) (hr : Room (k + 2) X.A) (L : LamX.LamS X.env.scope scope)
    (hbody : ∀ (A : Around) (outer : List PySem.Env) (s : Shared) (H : Hp) (E1 : XK) (f c' : Addr), Room k (A.deeper (LamX.lamEnv X scope s.heap.objs.size f c')) → PF (LamX.lamCx X A outer s H E1 scope f c') (E1, E.2) body F)
    (hdef : defaultsOf params X.env = ([], []) := by rfl)
    (hbind : ∀ (q : Str) (cl : List (Str × Addr)) (pm cv ctv : Value), bindArgs (PySem.W.kla_fn "<lambda>" q params body scope cl pm cv ctv) ⟨[], []⟩ = pure [] := by intros; rfl)
    (hdb : (x == ("__debug__" : Str)) = false := by decide) (hd : (a == ("__debug__" : Str)) = false := by decide) (hcd2 : (a == ("__classdict__" : Str)) = false := by decide) : PF X E (.Call (.Name x p) [.Lambda params body scope lpos] [] pos) (fLam Fw F) := by
  obtain ⟨c, P, rfl, TB, hm, hu⟩ := LT.ex
  have hW := W.ex
  obtain ⟨st, f, fd, Ng, Fn, hmg, hb, Sc, hN, hva, G⟩ := hW
  obtain ⟨oc, od, kV, doc, pm, an, cdv, ct, osl, rfl, lk, hcg⟩ := Fn.ex
  subst hq
  refine PE.imp (LamX.pe_lamcall (T := E.2) (t := fun E1 => tF X.K X.mg (E1, E.2) F) hg hmg Fn.kp lk hcg hb Sc hN hva (G X _ rfl rfl rfl rfl rfl) TB hcd hm hu hr L hdef hbind hbody hdb hd hcd2) fun σ H Q h => ?_
  obtain ⟨ta, H0, env, T, S, I, q⟩ := h
  refine ⟨I.tb, fun H1 eN T1 => ?_⟩
  have gN : Go ta H H0 H1 H0 := ⟨fun b o h _ n => eN b o h n, fun b o h n => ⟨o, eN b o h n, n, id⟩, Ex.refl _, fun _ _ _ n => n⟩
  have I1 : Pu X.K ta E.2 H1 H0 T := ⟨fun b o h => eN b o (I.ex b o h) fun ps z => I.nt b ps (by rw [h, z]), fun b e => let ⟨n, vs, h, r⟩ := I.tp b e; ⟨n, vs, eN b _ h nt_lst, r⟩, T1, I.nt⟩
  refine ⟨ta, H0, T, F env, I1, fun ta' E1 HZ HZ0 TZ QZ ht ex J r => ⟨ta', HZ0, env, TZ, ?_, J, r⟩, ?_⟩
  · rcases ht with rfl | rfl
    · exact ⟨S.len, fun i d h => let ⟨v, h1, h2⟩ := S.get i d h; ⟨v, h1, (h2.mono ex).anyTape⟩⟩
    · exact S.mono ex
  · obtain ⟨o, e, k⟩ := q.go gN
    unfold fLam M.noex at e
    cases hx : Fw (F env) T with
    | none => rw [hx] at e; cases e
    | some ox =>
      rw [hx] at e
      cases ox with
      | ok d T' => cases e; exact ⟨_, hx, k⟩
      | ex c T' => cases e
end PF

namespace PF
open PySem PySem.Spec PyProof.Rows L2
open Evl (Ex)

/-! ### flat items -/
def flD : D → Option V
  | .non => some .non
  | .bl b => some (.bl b)
  | .int i => some (.int i)
  | .str s => some (.str s)
  | _ => none
def flDs : List D → Option (List V)
  | [] => some []
  | d :: ds => (flD d).bind fun v => (flDs ds).map fun vs => v :: vs
section
variable {K : PySem.W.Frag} {ta : Option Addr} {H : Hp}
theorem Rep.flat {v w : V} {d : D} (r : Rep K ta H v d) (e : flD d = some w) : v = w ∧ flatV v = true := by
  cases r with
  | non => cases e; exact ⟨rfl, rfl⟩
  | bl b => cases e; exact ⟨rfl, rfl⟩
  | int i => cases e; exact ⟨rfl, rfl⟩
  | str s => cases e; exact ⟨rfl, rfl⟩
  | _ => cases e
theorem Reps.flat : ∀ {vs ws : List V} {ds : List D}, Reps K ta H vs ds → flDs ds = some ws → vs = ws ∧ vs.all flatV = true
  | _, _, _, .nil, e => by cases e; exact ⟨rfl, rfl⟩
  | _, _, _, .cons r t, e => by
    unfold flDs at e
    rw [Option.bind_eq_some_iff] at e
    obtain ⟨v, h1, h2⟩ := e
    rw [Option.map_eq_some_iff] at h2
    obtain ⟨vs, h3, rfl⟩ := h2
    obtain ⟨rfl, f1⟩ := r.flat h1
    obtain ⟨rfl, f2⟩ := t.flat h3
    exact ⟨rfl, by rw [List.all_cons, f1, f2]; rfl⟩
end
/-! in, not in -/
def inD? : D → D → Option Bool
  | .str i, .str j => some (!(Builtin.Str.occurrences j i 0 j.length 1).isEmpty)
  | x, .lst l => (flD x).bind fun v => (flDs l).map fun vs => inV v vs
  | x, .frl l => (flD x).bind fun v => (flDs l).map fun vs => inV v vs
  | x, .tup l => (flD x).bind fun v => (flDs l).map fun vs => inV v vs
  | _, _ => none
def inD (x y : D) : Option D := (inD? x y).map .bl
def ninD (x y : D) : Option D := (inD? x y).map fun b => .bl (!b)
def rInA (K : PySem.W.Frag) : R2 := fun x y H Q => rIn K false x y H Q ∨ ∃ i j, x = .str i ∧ y = .str j ∧ Q (.bl (!(Builtin.Str.occurrences j i 0 j.length 1).isEmpty)) H
def rNinA (K : PySem.W.Frag) : R2 := fun x y H Q => rIn K true x y H Q ∨ ∃ i j, x = .str i ∧ y = .str j ∧ Q (.bl (!(!(Builtin.Str.occurrences j i 0 j.length 1).isEmpty))) H
theorem op_inA {X : Cx} : OpR X (compareOp .In) (rInA X.K) := OpR.or op_in_seq op_in_str
theorem op_ninA {X : Cx} : OpR X (compareOp .NotIn) (rNinA X.K) := OpR.or op_notIn_seq op_notin_str
theorem inD_cases {K : PySem.W.Frag} {ta : Option Addr} {H0 H : Hp} (ex : Ex H0 H) {x y : V} {dx dy : D} {b : Bool} (rx : Rep K ta H0 x dx) (ry : Rep K ta H0 y dy) (e : inD? dx dy = some b) :
    (∃ p xs, y = .ref p ∧ (SqL K H p xs ∨ SqT K H p xs) ∧ flatV x = true ∧ xs.all flatV = true ∧ inV x xs = b) ∨ ∃ i j, x = .str i ∧ y = .str j ∧ (!(Builtin.Str.occurrences j i 0 j.length 1).isEmpty) = b := by
  unfold inD? at e
  split at e
  · cases e; cases rx; cases ry; exact .inr ⟨_, _, rfl, rfl, rfl⟩
  all_goals first
    | (cases e; done)
    | (rw [Option.bind_eq_some_iff] at e
       obtain ⟨v, h1, h2⟩ := e
       rw [Option.map_eq_some_iff] at h2
       obtain ⟨vs, h3, rfl⟩ := h2
       obtain ⟨rfl, f1⟩ := rx.flat h1
       cases ry
       rename_i s r _
       obtain ⟨rfl, f2⟩ := r.flat h3
       first
         | exact .inl ⟨_, _, rfl, .inl (Evl.ex_l ex (Evl.sq_of s)), f1, f2, rfl⟩
         | exact .inl ⟨_, _, rfl, .inl (Evl.ex_l ex s), f1, f2, rfl⟩
         | exact .inl ⟨_, _, rfl, .inr (Evl.ex_t ex s), f1, f2, rfl⟩)
theorem rd_in {K : PySem.W.Frag} : RD K (rInA K) inD := by
  intro ta Tb H H0 T x y dx dy dz Q I rx ry e q
  unfold inD at e
  rw [Option.map_eq_some_iff] at e
  obtain ⟨b, hb, rfl⟩ := e
  have k := q (.bl b) H H0 Go.refl I (.bl b)
  rcases inD_cases I.ex rx ry hb with ⟨p, xs, h1, h2, h3, h4, h5⟩ | ⟨i, j, h1, h2, h3⟩
  · exact .inl ⟨p, xs, h1, h2, h3, h4, by rw [h5]; exact k⟩
  · exact .inr ⟨i, j, h1, h2, by rw [h3]; exact k⟩
theorem rd_nin {K : PySem.W.Frag} : RD K (rNinA K) ninD := by
  intro ta Tb H H0 T x y dx dy dz Q I rx ry e q
  unfold ninD at e
  rw [Option.map_eq_some_iff] at e
  obtain ⟨b, hb, rfl⟩ := e
  have k := q (.bl !b) H H0 Go.refl I (.bl _)
  rcases inD_cases I.ex rx ry hb with ⟨p, xs, h1, h2, h3, h4, h5⟩ | ⟨i, j, h1, h2, h3⟩
  · exact .inl ⟨p, xs, h1, h2, h3, h4, by rw [h5]; exact k⟩
  · exact .inr ⟨i, j, h1, h2, by rw [h3]; exact k⟩
/-! xs.count(x), xs.index(x) -/
theorem cnt_eqU {x : V} : ∀ {ys : List V} {us : List Value}, Vals ys us → ys.all flatV = true → us.countP (eqU x) = ys.countP fun y => eqV y x
  | _, _, .nil, _ => rfl
  | y :: ys, u :: us, .cons ry t, f => by
    rw [List.all_cons, Bool.and_eq_true] at f
    rw [List.countP_cons, List.countP_cons, cnt_eqU t f.2, eqU_of ry f.1]
def rCntF (K : PySem.W.Frag) : V → List V → Hp → VK → Prop := fun x xs H Q => ∃ (p : Addr) (ys : List V) (y : V), x = .ref p ∧ xs = [y] ∧ SqL K H p ys ∧ flatV y = true ∧ ys.all flatV = true ∧ Q (.int (ys.countP fun z => eqV z y : Nat)) H
theorem mt_cntF {X : Cx} : MtR X "list.count" (rCntF X.K) := by
  intro pins s σ H x xs v us Q I rx rxs h
  obtain ⟨p, ys, y, rfl, rfl, sq, fy, fys, q⟩ := h
  cases rx
  obtain ⟨uy, rfl, ruy⟩ := rxs.one
  obtain ⟨its, rv, ⟨⟨cls, dd, data, sl⟩, n, ho, hc, hdn, hd⟩, hlen⟩ := I.list sq
  simp only at hc hd
  subst hc hd
  refine call_meets PySem.F.slot_list_count ⟨_, ho, rfl⟩ PySem.F.entry_list_count (PySem.F.args_list_count_2 _ _) (SeqAt.list_countAt p its.toArray n dd sl uy (eqU y))
    ⟨ho, fun u' hu' => mem_eqAt ruy fy rv fys u' (by simpa using hu'), .int (ys.countP fun z => eqV z y : Nat), H, I.tok _, ⟨s.toks, ?_⟩, q⟩
  have ec : its.toArray.toList.countP (eqU y) = ys.countP fun z => eqV z y := cnt_eqU rv fys
  rw [ec]
def RM (K : PySem.W.Frag) (T : String) (r : V → List V → Hp → VK → Prop) (g : D → List D → Option D) : Prop := ∀ ta Tb H H0 Tp (x : V) (xs : List V) (dx dz : D) (ds : List D) (Q : VK), Pu K ta Tb H H0 Tp → Rep K ta H0 x dx → Reps K ta H0 xs ds → g dx ds = some dz →
  (∀ v H' H0', Go ta H H0 H' H0' → Pu K ta Tb H' H0' Tp → Rep K ta H0' v dz → Q v H') → r x xs H Q
/-- the receiver's type is T -/
def RTy (K : PySem.W.Frag) (T : String) (ok : D → Bool) : Prop := ∀ ta H0 H (x : V) (dx : D), Ex H0 H → Rep K ta H0 x dx → ok dx = true → tyV K T x H
def fMt (ok : D → Bool) (g : D → List D → Option D) (F : FE) (A : FA) : FE := fun env => M.bind (F env) fun x => if ok x = true then M.bind (A env) fun ds => M.of (g x ds) else M.bad
section
variable {X : Cx} {E : XW} {o e : Expr} {es : List Expr} {name : Str} {apos cpos : Pos} {T id : String} {r : V → List V → Hp → VK → Prop} {F : FE} {A : FA} {ok : D → Bool} {g : D → List D → Option D}
theorem pf_bm (pa : PlainAttrs T) (slot : Slot T name id) (hty : typeOf (.builtin id) = pure (.type "method_descriptor")) (hm : MtR X id r) (hr : RM X.K T r g) (ht : RTy X.K T ok) (ho : PF X E o F) (ha : PFA X E (e :: es) A)
    (hbase : attributeBase o name X.env (eval o X.env) = eval o X.env := by rfl)
    (hfew : ((backTo cpos (starEach (e :: es) X.env)).all (fun x => !x.1) && (backToKw cpos (keywordEach [] X.env)).all (fun x => x.1.isSome)
      && decide ((e :: es).length + ([] : List Keyword).length + (if ([] : List Keyword).isEmpty then 0 else 1) < 30)) = true := by rfl)
    (hline : (apos.endLine == cpos.line) = true := by rfl) (hs : starEach (e :: es) X.env = (false, eval e X.env) :: starEach es X.env := by rfl) (hplain : (backTo cpos (starEach es X.env)).any (·.1) = false := by rfl) :
    PF X E (.Call (.Attribute o name apos) (e :: es) [] cpos) (fMt ok g F A) := PE.imp (pe_bm pa slot hty hm ho ha hbase hfew hline hs hplain) fun σ H Q h => by
  obtain ⟨ta, H0, env, T', S, I, q⟩ := h
  refine ⟨ta, H0, env, T', S, I, run_end q fun dx H1 H01 T1 g1 I1 q1 v rv => ?_⟩
  obtain ⟨hok, q1⟩ := run_if q1
  refine ⟨ht ta H01 H1 v dx I1.ex rv hok, ta, H01, env, T1, S.mono g1.up, I1, run_end q1 fun ds H2 H02 T2 g2 I2 q2 vs rvs => ?_⟩
  obtain ⟨dz, ez, k⟩ := q2.of I2
  exact hr ta E.2 H2 H02 T2 v vs dx dz ds Q I2 (rv.mono g2.up) rvs ez fun w H' H0' g3 I3 r3 => k H' H0' g3 I3 w r3
end
def okL : D → Bool
  | .lst _ => true
  | .frl _ => true
  | _ => false
theorem rty_list {K : PySem.W.Frag} : RTy K "list" okL := by
  intro ta H0 H x dx ex r h
  cases r with
  | lst s _ _ => exact .inl ⟨rfl, _, Evl.ex_l ex (Evl.sq_of s)⟩
  | frl s _ _ => exact .inl ⟨rfl, _, Evl.ex_l ex s⟩
  | _ => cases h
def itemsD : D → Option (List D)
  | .lst l => some l
  | .frl l => some l
  | _ => none
theorem Rep.items {K : PySem.W.Frag} {ta : Option Addr} {H0 H : Hp} (ex : Ex H0 H) {x : V} {dx : D} {l : List D} (r : Rep K ta H0 x dx) (e : itemsD dx = some l) : ∃ p vs, x = .ref p ∧ SqL K H p vs ∧ Reps K ta H0 vs l := by
  cases r with
  | lst s rs _ => cases e; exact ⟨_, _, rfl, Evl.ex_l ex (Evl.sq_of s), rs⟩
  | frl s rs _ => cases e; exact ⟨_, _, rfl, Evl.ex_l ex s, rs⟩
  | _ => cases e
def cntD (x : D) (ds : List D) : Option D := match ds with
  | [y] => (itemsD x).bind fun l => (flDs l).bind fun vs => (flD y).map fun v => .int (vs.countP fun z => eqV z v : Nat)
  | _ => none
theorem rm_cnt {K : PySem.W.Frag} : RM K "list" (rCntF K) cntD := by
  intro ta Tb H H0 T x xs dx dz ds Q I rx rxs e q
  unfold cntD at e
  split at e
  · simp only [Option.bind_eq_some_iff, Option.map_eq_some_iff] at e
    obtain ⟨l, h1, vs, h2, v, h3, rfl⟩ := e
    obtain ⟨p, ws, rfl, sq, rs⟩ := rx.items I.ex h1
    obtain ⟨rfl, f2⟩ := rs.flat h2
    obtain ⟨y, rfl, ry⟩ := rxs.one
    obtain ⟨rfl, f1⟩ := ry.flat h3
    exact ⟨p, ws, y, rfl, rfl, sq, f1, f2, q _ H H0 Go.refl I (.int _)⟩
  · cases e
def fndV (v : V) : List V → Nat → Option Nat
  | [], _ => none
  | z :: r, n => if eqV z v = true then some n else fndV v r (n + 1)
theorem fndV_some {v : V} : ∀ {vs : List V} {n k : Nat}, fndV v vs n = some k → n ≤ k ∧ (∃ z, vs[k - n]? = some z ∧ eqV z v = true) ∧ ∀ m z', m < k - n → vs[m]? = some z' → eqV z' v = false
  | [], n, k, h => by cases h
  | z :: r, n, k, h => by
    unfold fndV at h
    by_cases c : eqV z v = true
    · rw [if_pos c] at h; cases h
      exact ⟨Nat.le_refl _, ⟨z, by simp, c⟩, fun m z' hm => by omega⟩
    · rw [if_neg c] at h
      obtain ⟨h1, ⟨y, h2, h3⟩, h4⟩ := fndV_some h
      refine ⟨by omega, ⟨y, ?_, h3⟩, fun m z' hm hz => ?_⟩
      · rw [show k - n = (k - (n + 1)) + 1 from by omega, List.getElem?_cons_succ]; exact h2
      · cases m with
        | zero => simp at hz; subst hz; exact Bool.eq_false_iff.mpr c
        | succ m => exact h4 m z' (by omega) (by simpa using hz)
def idxD (x : D) (ds : List D) : Option D := match ds with
  | [y] => (itemsD x).bind fun l => (flDs l).bind fun vs => (flD y).bind fun v => (fndV v vs 0).map fun n => .int (n : Nat)
  | _ => none
theorem rm_idx {K : PySem.W.Frag} : RM K "list" (rIndex K) idxD := by
  intro ta Tb H H0 T x xs dx dz ds Q I rx rxs e q
  unfold idxD at e
  split at e
  · simp only [Option.bind_eq_some_iff, Option.map_eq_some_iff] at e
    obtain ⟨l, h1, vs, h2, v, h3, n, h4, rfl⟩ := e
    obtain ⟨p, ws, rfl, sq, rs⟩ := rx.items I.ex h1
    obtain ⟨rfl, f2⟩ := rs.flat h2
    obtain ⟨y, rfl, ry⟩ := rxs.one
    obtain ⟨rfl, f1⟩ := ry.flat h3
    obtain ⟨_, ⟨z, h5, h6⟩, h7⟩ := fndV_some h4
    exact ⟨p, ws, y, n, z, rfl, rfl, sq, f1, f2, by simpa using h5, h6, fun m z' hm hz => h7 m z' (by simpa using hm) hz, q _ H H0 Go.refl I (.int _)⟩
  · cases e
end PF

namespace PF
open PySem PySem.Spec PyProof.Rows L2
open Evl (Ex)

/-! ### a def that hands out a new list of its own -/
abbrev FSO := SEnv → M (List D)
def EndO (K : PySem.W.Frag) (ta : Option Addr) (He : Hp) (Dn : Ends) (l : List D) (H' H0' : Hp) : Prop :=
  l.length ≤ 16777216 ∧ ∀ p vs, Fr He p → ta ≠ some p → H0' p = none → H' p = some (.lst vs) → Reps K ta H0' vs l → Dn.rt (.ref p) H'
def tSO (K : PySem.W.Frag) (mg : Str → Option Value) (E : XW) (F : FSO) : TS := fun Dn σ H => ∃ ta He He0 H0 env T, Go ta He He0 H H0 ∧ Pu K ta E.2 H H0 T ∧ Ss K ta He H H0 σ env ∧ Run K mg E.1 ta E.2 He He0 T (F env) (EndO K ta He Dn)
abbrev PFSO (X : Cx) (E : XW) (sts : List Stmt) (F : FSO) : Prop := PSs X sts (tSO X.K X.mg E F)
section
variable {X : Cx} {E : XW} {st : Stmt} {rest : List Stmt} {e : Expr} {es : List Expr} {pos p : Pos} {A : FA} {S1 : FS} {S2 : FSO}
theorem pfso_ret (he : PFL X E e A) : PFSO X E [.Return (some e) pos] (fun env => A (hide env)) := pss_one (PS.imp (ps_ret he) fun Dn σ H h => by
  obtain ⟨ta, He, He0, H0, env, T, g, I, S, q⟩ := h
  refine ⟨ta, H0, hide env, T, S.hide, I, ?_⟩
  obtain ⟨o, e, q⟩ := q
  refine ⟨o, e, ?_⟩
  cases o with
  | ex c T' => obtain ⟨C, e, q⟩ := q; exact ⟨C, e, fun H' H0' g' I' => q H' H0' (g.trans g') I'⟩
  | ok ds T' => intro H' H0' g' I'; obtain ⟨hl, k⟩ := q H' H0' (g.trans g') I'; exact ⟨hl, fun p vs np nt n0 hp r => k p vs (g.free np) nt n0 hp r⟩)
def sSeqO (S1 : FS) (S2 : FSO) : FSO := fun env => M.bind (S1 env) fun fl => match fl with
  | .nx e => S2 e
  | _ => M.bad
theorem pfso_cons (h1 : PFS X E st S1) (h2 : PFSO X E rest S2) : PFSO X E (st :: rest) (sSeqO S1 S2) := PSs.imp (pss_cons h1 h2) fun Dn σ H h => by
  obtain ⟨ta, He, He0, H0, env, T, g, I, S, q⟩ := h
  refine ⟨ta, He, He0, H0, env, T, g, I, S, ?_⟩
  obtain ⟨o, e, q⟩ := q.bind
  refine ⟨o, e, ?_⟩
  cases o with
  | ex c T' => exact q
  | ok fl T' =>
    intro H' H0' g' I'
    have q : Run X.K X.mg E.1 ta E.2 He He0 T' _ _ := q
    cases fl with
    | nx e' => exact fun σ' S' => ⟨ta, He, He0, H0', e', T', g', I', S', q⟩
    | rt d => exact (run_bad q).elim
    | bk e' => exact (run_bad q).elim
    | ct e' => exact (run_bad q).elim
end
abbrev FFO := List D → M (List D)
def spO (mg : Str → Option Value) (K : PySem.W.Frag) (tb : List (Addr × Str)) (n : Nat) (F : FFO) : Sp := fun vs H Q E => vs.length = n ∧ ∃ ta H0 T ds, Pu K ta tb H H0 T ∧ Reps K ta H0 vs ds ∧ Run K mg E ta tb H H0 T (F ds) fun l H' H0' =>
  l.length ≤ 16777216 ∧ ∀ p vs, Fr H p → ta ≠ some p → H0' p = none → H' p = some (.lst vs) → Reps K ta H0' vs l → Q (.ref p) H'
structure DefOw (P : Program) (w : World) (K : PySem.W.Frag) (mg : Str → Option Value) (tb : List (Addr × Str)) (base : Heap) (k : Nat) (x : Str) (f : Addr) (ps : List Str) (F : FFO) : Prop where
  fn : ∃ fd, FnOk P w K mg base (L2.CX P w) k f fd ps (spO mg K tb ps.length F) ∧ Binds K fd ps []
  at_ : mg x = some (.ref f)
  kp : PySem.W.keepIn K (.ref f) = true
  ln : ∀ ds T, F ds T ≠ none → ds.length = ps.length
section
variable {X : Cx} {E : XW} {k : Nat} {x : Str} {f : Addr} {ps : List Str} {F : FFO} {e : Expr} {es : List Expr} {A : FA} {p pos : Pos}
theorem pfl_call (D : DefOw X.prog X.w X.K X.mg E.2 X.base k x f ps F) (hr : Room k X.A) (hx : Passes (L2.CX X.prog X.w) X E.1) (hg : Gl X x) (ha : PFA X E (e :: es) A)
    (hdb : (x == ("__debug__" : Str)) = false := by decide) (he : starEach (e :: es) X.env = (false, eval e X.env) :: starEach es X.env := by rfl) (hpl : (backTo pos (starEach es X.env)).any (·.1) = false := by rfl) :
    PFL X E (.Call (.Name x p) (e :: es) [] pos) (fun env => M.bind (A env) F) := by
  obtain ⟨fd, hF, hb⟩ := D.fn
  refine PE.imp (pe_call hF hr hg D.at_ D.kp hb .nil hx ha hdb he hpl) fun σ H Q h => ?_
  obtain ⟨ta, H0, env, T, S, I, q⟩ := h
  obtain ⟨o, eo, qo⟩ := q.bind
  refine ⟨ta, H0, env, T, S, I, o, eo, ?_⟩
  cases o with
  | ex c T1 => exact qo
  | ok ds T1 =>
    intro H1 H01 g1 I1 vs rvs
    show spO X.mg X.K E.2 ps.length F (vs ++ []) H1 Q E.1
    rw [List.append_nil]
    have q1 : Run X.K X.mg E.1 ta E.2 H H0 T1 (F ds) _ := qo
    obtain ⟨o2, eo2, q2⟩ := q1
    refine ⟨by rw [rvs.length]; exact D.ln ds T1 (by rw [eo2]; simp), ta, H01, T1, ds, I1, rvs, o2, eo2, ?_⟩
    cases o2 with
    | ex c T2 => obtain ⟨C, e, q⟩ := q2; exact ⟨C, e, fun H' H0' g' I' => q H' H0' (g1.trans g') I'⟩
    | ok l T2 => intro H' H0' g' I'; obtain ⟨hl, k⟩ := q2 H' H0' (g1.trans g') I'; exact ⟨hl, fun p vs np nt n0 hp r => k p vs (g1.free np) nt n0 hp r⟩
end
def mkFO (n N : Nat) (body : FSO) : FFO := fun ds => if ds.length = n then body (ds.map .val ++ List.replicate (N - n) .non) else M.bad
theorem def_ow {P : Program} {w : World} {K : PySem.W.Frag} {mg : Str → Option Value} {tb : List (Addr × Str)} {base : Heap} {x : Str} {st : Stmt} {f : Addr} {fd : FuncData} {N ps : List Str} {k : Nat} {B : FSO} (F : Fun K x x st f fd) (hm : mg x = some (.ref f)) (Sc : FnScope N ps (defScope st)) (hb : Binds K fd ps [])
    (hbody : ∀ (cdv : Value), fd.code = cdv → ∀ (A : Around) (outer : List PySem.Env) (s : Shared) (H : Hp) (E : XK), Room k (A.deeper (envOfC x (defScope st) s.heap.objs.size f cdv)) → PFSO (cxOf (L2.CX P w) P w K mg base N x (defScope st) f cdv A outer s H E) (E, tb) (defBody st) B) :
    DefOw P w K mg tb base (k + 1) x f ps (mkFO ps.length N.length B) := by
  have hpl : ps.length ≤ N.length := by
    have := congrArg List.length Sc.pre
    rw [List.length_take] at this
    omega
  refine ⟨⟨fd, okX2 F Sc (fun vs H Q E h => h.1) fun cdv hc A outer s H vs Q E hr h => ⟨_, hbody cdv hc A outer s H E hr, ?_⟩, hb⟩, hm, F.kp, fun ds T h => ?_⟩
  · obtain ⟨hl, ta, H0, T, ds, I, r, q⟩ := h
    have hd : ds.length = ps.length := by rw [← r.length]; exact hl
    unfold mkFO at q
    rw [if_pos hd] at q
    refine ⟨ta, H, H0, H0, _, T, Go.refl, I, start_ss r (by omega), ?_⟩
    rw [show N.length - ds.length = N.length - ps.length from by rw [hd]]
    exact q
  · by_cases z : ds.length = ps.length
    · exact z
    · exfalso
      unfold mkFO at h
      rw [if_neg z] at h
      exact h rfl
/-! ### a list of its own becomes the tape -/
theorem Go.via {ta ta' : Option Addr} {H H0 H1 H01 H2 H02 : Hp} (a : Go ta H H0 H1 H01) (b : Go ta' H1 H01 H2 H02) (n : ∀ p, ta' = some p → Fr H p) : Go ta H H0 H2 H02 :=
  ⟨fun x o h m t => b.keep x o (a.keep x o h m t) (fun z => n x z o h t) t, fun x o h m => let ⟨o', h', m', l'⟩ := a.dom x o h m; let ⟨o2, h2, m2, l2⟩ := b.dom x o' h' m'; ⟨o2, h2, m2, fun z => l2 (l' z)⟩, a.up.trans b.up,
    fun x xs h n => let ⟨o', h', m', l'⟩ := a.dom x _ h (fun _ z => by cases z); let ⟨ys, e⟩ := l' ⟨_, rfl⟩; b.new x ys (e ▸ h') (a.new x xs h n)⟩
def svPlain : Sv → Bool
  | .non => true
  | .val d => noTp d
  | .own _ => false
def sMk (i : Nat) (S : FS) : FS := fun env T => match env[i]? with
  | some (.own l) => if noTps l = true ∧ (env.set i .non).all svPlain = true then (match S (env.set i (.val .tape)) l with
      | some (.ok (.rt d) _) => if noTp d = true then some (.ok (.rt d) T) else none
      | some (.ex c _) => some (.ex c T)
      | _ => none) else none
  | _ => none
theorem pfss_mk {X : Cx} {E : XW} {rest : List Stmt} {S : FS} (i : Nat) (h : PFSs X E rest S) : PFSs X E rest (sMk i S) := PSs.imp h fun Dn σ H h => by
  obtain ⟨ta, He, He0, H0, env, T, g, I, Sl, o, e, q⟩ := h
  unfold sMk at e
  split at e
  · rename_i l hl
    split at e
    · rename_i hc
      obtain ⟨hnl, hall⟩ := hc
      obtain ⟨p, vs, hσ, hfr, h0, nt, hp, r, hll⟩ := Sl.own i l hl
      have plain : ∀ j sv, j ≠ i → env[j]? = some sv → svPlain sv = true := fun j sv hj he => List.all_eq_true.mp hall sv (List.mem_of_getElem? (i := j) (by rw [List.getElem?_set_ne (Ne.symm hj)]; exact he))
      have I' : Pu X.K (some p) E.2 H H0 l := ⟨I.ex, fun a ea => by cases ea; exact ⟨h0, vs, hp, r.offTape hnl⟩, I.tb, I.nt⟩
      have S' : Ss X.K (some p) H H H0 σ (env.set i (.val .tape)) := by
        have hi : i < env.length := (List.getElem?_eq_some_iff.mp hl).1
        refine ⟨by simp [Sl.len], fun j d hj => ?_, fun j l' hj => ?_, fun a b l1 l2 q h1 h2 h3 h4 => ?_⟩
        · by_cases z : j = i
          · subst z
            rw [List.getElem?_set_self hi] at hj
            cases hj
            exact ⟨_, hσ, .tape rfl⟩
          · rw [List.getElem?_set_ne (Ne.symm z)] at hj
            obtain ⟨v, h1, h2⟩ := Sl.val j d hj
            exact ⟨v, h1, h2.offTape (plain j _ z hj)⟩
        · exfalso
          by_cases z : j = i
          · subst z
            rw [List.getElem?_set_self hi] at hj
            cases hj
          · rw [List.getElem?_set_ne (Ne.symm z)] at hj
            have := plain j _ z hj
            cases this
        · exfalso
          by_cases z : a = i
          · subst z
            rw [List.getElem?_set_self hi] at h1
            cases h1
          · rw [List.getElem?_set_ne (Ne.symm z)] at h1
            have := plain a _ z h1
            cases this
      have back : ∀ {H' H0' : Hp} {T' : List D}, Go (some p) H H0 H' H0' → Pu X.K (some p) E.2 H' H0' T' → Go ta He He0 H' H0' ∧ Pu X.K ta E.2 H' H0' T := fun {H' H0' T'} g' J => by
        refine ⟨g.via g' fun q z => by cases z; exact hfr, J.ex, fun a ea => ?_, J.tb, J.nt⟩
        obtain ⟨n, us, hu, ru⟩ := I.tp a ea
        have na : a ≠ p := fun z => nt (by rw [ea, z])
        exact ⟨g'.new a us hu n, us, g'.keep a _ hu (fun z => na (by cases z; rfl)) nt_lst, ru.mono g'.up⟩
      refine ⟨some p, H, H0, H0, _, l, Go.refl, I', S', ?_⟩
      cases hS : S (env.set i (.val .tape)) l with
      | none => rw [hS] at e; cases e
      | some oS =>
        rw [hS] at e
        refine ⟨_, hS, ?_⟩
        cases oS with
        | ex c T' =>
          cases e
          obtain ⟨C, e, q⟩ := q
          exact ⟨C, e, fun H' H0' g' J => let ⟨a, b⟩ := back g' J; q H' H0' a b⟩
        | ok fl T' =>
          cases fl with
          | rt d =>
            simp only at e
            split at e
            · rename_i hn
              cases e
              intro H' H0' g' J v rv
              obtain ⟨a, b⟩ := back g' J
              exact q H' H0' a b v (rv.offTape hn)
            · cases e
          | nx _ => cases e
          | bk _ => cases e
          | ct _ => cases e
    · cases e
  · cases e
end PF

namespace PF
open PySem PySem.Spec PyProof.Rows L2
open Evl (Ex)
theorem cx_qual {CXX : CXT} {P : Program} {w : World} {K : PySem.W.Frag} {mg : Str → Option Value} {base : Heap} {N : List Str} {qual : Str} {scope : Scope} {f : Addr} {cd : Value} {A : Around} {outer : List PySem.Env} {s : Shared} {H : Hp} {E : XK} : (cxOf CXX P w K mg base N qual scope f cd A outer s H E).env.qual = qual ++ ".<locals>." := rfl
theorem cx_code {CXX : CXT} {P : Program} {w : World} {K : PySem.W.Frag} {mg : Str → Option Value} {base : Heap} {N : List Str} {qual : Str} {scope : Scope} {f : Addr} {cd : Value} {A : Around} {outer : List PySem.Env} {s : Shared} {H : Hp} {E : XK} : (cxOf CXX P w K mg base N qual scope f cd A outer s H E).env.code = cd := rfl
/-- == of scalars alone -/
def eqS : D → D → Option D
  | .int i, .int j => some (.bl (decide (i = j)))
  | .str i, .str j => some (.bl (decide (i = j)))
  | _, _ => none
theorem rd_eqS {K : PySem.W.Frag} : RD K rEq eqS := by
  intro ta Tb H H0 T x y dx dy dz Q I rx ry e q
  unfold eqS at e
  split at e
  · cases e; cases rx; cases ry; exact ⟨rfl, by simpa using q _ H H0 Go.refl I (.bl _)⟩
  · cases e; cases rx; cases ry; exact ⟨rfl, by simpa using q _ H H0 Go.refl I (.bl _)⟩
  · cases e
section
variable {X : Cx} {E : XW} {e : Expr} {es : List Expr} {pos : Pos} {F : FE} {A B : FA}
/-- {} -/
theorem pf_dict0 : PF X E (.Dict [] [] pos) (fC (.dct [] [])) := PE.imp pe_dnewK fun σ H Q h => by
  obtain ⟨ta, H0, env, T, S, I, q⟩ := h
  intro p hp
  have k := ret_go q (Go.laid (p := p) (o := .dK []) hp I.ex) (I.laid hp fun _ z => by cases z)
  exact k _ (.dct (xs := []) upd_same rfl .nil (Nat.zero_le _))
/-- a list of its own out of a reading that sees the others -/
def sOwnU (i : Nat) (A : FA) : FS := fun env => M.bind (runX noLsts true A env) fun l => if l.length ≤ 16777216 then M.ret (.nx (env.set i (.own l))) else M.bad
theorem Ss.backReps {K : PySem.W.Frag} {ta : Option Addr} {He H H0 H' H0' : Hp} {σ : L2.St} {env : SEnv} (s : Ss K ta He H H0 σ env) (g : Go none H (shown σ env H H0) H' H0') : ∀ {vs : List V} {ds : List D}, noLsts ds = true → Reps K none H0' vs ds → Reps K ta (hidden σ env H0') vs ds
  | _, _, _, .nil => .nil
  | _, _, h, .cons r t => by
    unfold noLsts at h
    rw [Bool.and_eq_true] at h
    exact .cons (s.backRep g h.1 r) (s.backReps g h.2 t)
theorem pfs_ownU (i : Nat) {x : Str} {pos' : Pos} (hN : X.N.Nodup) (he : PFL X E e A) (hi : X.N[i]? = some x := by rfl) (hx : Loc X.env.scope x := by first | exact Or.inl rfl | exact Or.inr rfl) (hs : swapsWith e (some (.Name x pos')) pos.line X.env = pure false := by rfl)
    (hf : X.fn x = true ∨ X.env.scope.names.lookup x = some .local := by first | exact .inl rfl | exact .inr rfl | assumption) : PFS X E (.Assign [.Name x pos'] e pos) (sOwnU i A) := PS.imp (ps_set hN hi hx he hs hf) fun Dn σ H h => by
  obtain ⟨ta, He, He0, H0, env, T, g, I, S, q⟩ := h
  refine ⟨none, shown σ env H H0, frz env, [], S.shownSl, S.shownPu I, ?_⟩
  obtain ⟨o, e, q⟩ := q.bind
  unfold runX at e
  rw [if_pos rfl] at e
  cases hF : A (frz env) [] with
  | none => rw [hF] at e; cases e
  | some ox =>
    rw [hF] at e
    refine ⟨ox, hF, ?_⟩
    cases ox with
    | ex c T' =>
      cases e
      obtain ⟨C, e1, q⟩ := q
      exact ⟨C, e1, fun H1 H01 g1 I1 => q H1 (hidden σ env H01) (g.trans (S.backGo g1)) (S.backPu I g1 I1)⟩
    | ok ds T' =>
      by_cases z : noLsts ds = true
      · simp only [z, if_true] at e
        cases e
        intro H1 H01 g1 I1
        obtain ⟨hl, q2⟩ := run_if (show Run X.K X.mg E.1 ta E.2 He He0 T _ _ from q)
        refine ⟨hl, fun p vs np nt n0 hp r => ?_⟩
        have gb := S.backGo g1
        have Ib := S.backPu I g1 I1
        have nta : ta ≠ some p := fun z => by
          obtain ⟨_, us, hu, _⟩ := I.tp p z
          exact np _ hu nt_lst
        have nh : hidden σ env H01 p = none := by
          by_cases w : OwnAt σ env p
          · exact hidden_own w
          · rw [hidden_not w]; exact n0
        refine runS_nx (g.trans gb) Ib q2 ((S.go gb).setOwn (g.free np) nh nta hp (S.backReps g1 z r) hl fun j l' hj hj2 zz => ?_)
        obtain ⟨p', vs', h1, _, _, _, h2, _⟩ := S.own j l' hj2
        rw [h1] at zz
        cases zz
        exact np _ h2 nt_lst
      · simp [z] at e
end
end PF

namespace PF
open PySem PySem.Spec PyProof.Rows L2
open Evl (Ex)
/-! ### the end -/
/-- an own class of errors asked by isinstance -/
def excCB (K : PySem.W.Frag) (D : Addr) : Bool :=
  decide (PySem.W.findIn K (.ref D) "__getattribute__" = some (some (.builtin "BaseException.__getattribute__"))) && decide (PySem.W.findIn K (.ref D) "__getattr__" = some none) && decide (PySem.W.subIn K (.ref D) (.type "BaseException") = some true) && PySem.W.hasDictIn K D &&
    decide (PySem.W.findIn K (.ref D) "__class__" = some (some (.builtin "object.__class__"))) && decide (PySem.W.specialIn K (.builtin "object.__class__") "__get__" = some (some (.builtin "getset_descriptor.__get__"))) && decide (PySem.W.takesIn K (.builtin "object.__class__") = some true) && decide (PySem.W.mroIn K D (.type "object") = some true)
theorem excCB_ok {K : PySem.W.Frag} {D : Addr} (h : excCB K D = true) : ExcC K D := by
  unfold excCB at h
  simp only [Bool.and_eq_true, decide_eq_true_eq] at h
  obtain ⟨⟨⟨⟨⟨⟨⟨h1, h2⟩, h3⟩, h4⟩, h5⟩, h6⟩, h7⟩, h8⟩ := h
  exact ⟨h1, h2, h3, h4, h5, h6, h7, h8⟩
/-- c is (b) below d; own: d is an own class -/
def isEB (K : PySem.W.Frag) (c d : Str) (own : Bool) (b : Bool) : Bool := excCB K (He.ga K c) && decide (PySem.W.kitOne K (.ref (He.ga K c)) (if own then .ref (He.ga K d) else (match bootBuiltins d with | some v => v | none => .none)) = some b)
section
variable {K : PySem.W.Frag} {h : Heap} {mg : Str → Option Value}
theorem isEB_own {c d : Str} {b : Bool} (X : K.In h) (G : h.Ns mainGlobals mg) (gc : (He.Fa.glo c).ok K = true) (gd : (He.Fa.glo d).ok K = true) (e : isEB K c d true b = true) : IsEOk K mg c d b := by
  unfold isEB at e
  rw [Bool.and_eq_true, decide_eq_true_eq] at e
  exact ⟨_, _, He.glo_ok X G gc, excCB_ok e.1, e.2, .inl ⟨_, He.glo_ok X G gd, rfl⟩⟩
theorem isEB_ty {c d : Str} {t : String} {b : Bool} (X : K.In h) (G : h.Ns mainGlobals mg) (gc : (He.Fa.glo c).ok K = true) (gd : (He.Fa.free d).ok K = true) (hb : bootBuiltins d = some (.type t)) (e : isEB K c d false b = true) : IsEOk K mg c d b := by
  unfold isEB at e
  rw [hb] at e
  rw [Bool.and_eq_true, decide_eq_true_eq] at e
  exact ⟨_, _, He.glo_ok X G gc, excCB_ok e.1, e.2, .inr ⟨t, He.free_ok X G gd, hb, rfl⟩⟩
theorem err_of {x : Str} (X : K.In h) (G : h.Ns mainGlobals mg) (g : (He.Fa.glo x).ok K = true) (e : (He.Fa.exc x).ok K = true) : ∃ C, ErrOk K mg x C := by
  obtain ⟨h1, h2, h3, h4⟩ := He.exc_ok e
  exact ⟨_, He.glo_ok X G g, h2, h1, h3, h4⟩
theorem fun_of {x : Str} {st : Stmt} {ps : List Str} (X : K.In h) (G : h.Ns mainGlobals mg) (g : (He.Fa.glo x).ok K = true) {params : Arguments} {body : List Stmt} {scope : Scope} (F : ∃ fd, FunD K x x params body scope [] [] (He.fAd K (x, none)) fd) (e1 : params = defArgs st) (e2 : body = defBody st) (e3 : scope = defScope st)
    (hb : ∀ (kV doc pm : Value) (an : Option Addr) (cdv ct : Value) (us : List Value), us.length = ps.length → bindArgs (PySem.W.fnOf x x (defArgs st) (defBody st) (defScope st) .none kV doc pm an cdv ct) ⟨us, []⟩ = pure (ps.zip us)) :
    ∃ f fd, Fun K x x st f fd ∧ mg x = some (.ref f) ∧ Binds K fd ps [] ∧ ∃ c, fd.code = .ref c ∧ c = He.codeOf K (x, none) := by
  subst e1 e2 e3
  obtain ⟨fd, ⟨oc, od, dV, kV, doc, pm, an, cdv, ct, osl, rfl, lk, hc, hd, hk⟩, kp⟩ := F
  have hdn : dV = .none := by
    rcases hd with ⟨_, e⟩ | ⟨e, _⟩
    · exact e
    · exact absurd rfl e
  subst hdn
  obtain ⟨c, rfl⟩ := He.codeIn_ref hc
  have FF := fun_mk lk hc kp
  exact ⟨_, _, FF, He.glo_ok X G g, FF.binds hb, c, rfl, (He.codeOf_eq lk rfl).symm⟩
end
theorem cx_false {P : Program} {w : World} {H : Hp} {s s' : Shared} {e : Value} (h : L2.CX P w [] H s (fun _ _ _ => False) e s') : False := by
  obtain ⟨_, _, _, _, _, _, _, _, _, _, _, _, z⟩ := h
  exact z
open Classical in
theorem law_end {l : PySem.W.OpenLaw} {w : World} {K : PySem.W.Frag} {mg : Str → Option Value} {h : Heap} {fa : Addr} {k n : Nat} {fd : FuncData} {cs : List (Addr × Addr)} {tb : List (Addr × Str)} {F : FF}
    (hT : ∀ p ∈ cs, h.get? p.2 = some { cls := .none, data := .fields #[] }) (nT : ∀ p ∈ cs, K.lookup p.2 = none) (C : ∀ p ∈ cs, PySem.W.CodeHd h p.1 p.2) (hb : Binds K fd ["script"] []) (hbx : ∀ (s : Shared) (u : Value), BindsTo s fd ⟨[u], []⟩ [("script", u)]) (htb : ∀ q ∈ tb, ∃ p ∈ cs, p.2 = q.1) (hn : n ≤ sizeLine)
    (hF : ∀ base : Heap, K.In base → base.Ns mainGlobals mg → (∀ p ∈ cs, LamX.TabB base mg p.1 p.2) → FnOk l.prog w K mg base (L2.CX l.prog w) k fa fd ["script"] (spF mg K tb 1 F))
    (law : ∀ ns : List Int, ns.length ≤ n → (∀ z ∈ ns, Builtin.Int.intBits z ≤ 1048576) → ∃ T', F [.frl (ns.map .int)] [] = some (.ok (.bl true) T')) : LamX.LawAtS l w K (L2.CX l.prog w) k n "script" mg fa h := by
  refine ⟨fd, cs, _, hT, nT, C, hbx, fun H a ns hl hbits hH hS => ?_, hF⟩
  let H0 : Hp := fun b => if ∃ ps, H b = some (.tbl ps) then none else H b
  have h0 : ∀ b o, H0 b = some o → H b = some o ∧ ∀ ps, o ≠ .tbl ps := fun b o e => by
    by_cases z : ∃ ps, H b = some (.tbl ps)
    · rw [show H0 b = none from if_pos z] at e; cases e
    · rw [show H0 b = H b from if_neg z] at e
      exact ⟨e, fun ps q => z ⟨ps, by rw [e, q]⟩⟩
  have h1 : ∀ b o, H b = some o → (∀ ps, o ≠ .tbl ps) → H0 b = some o := fun b o e m => by
    have z : ¬ ∃ ps, H b = some (.tbl ps) := fun ⟨ps, q⟩ => m ps (by rw [e] at q; exact Option.some.inj q)
    rw [show H0 b = H b from if_neg z]; exact e
  have hS0 : SqL K H0 a (ns.map V.int) := by
    rcases hS with (s | ⟨o, s⟩) | s
    · exact .inl (.inl (h1 _ _ s fun _ z => by cases z))
    · exact .inl (.inr ⟨o, h1 _ _ s fun _ z => by cases z⟩)
    · exact .inr s
  have hrep : ∀ l : List Int, Reps K none H0 (l.map V.int) (l.map D.int) := fun l => by
    induction l with
    | nil => exact .nil
    | cons i r ih => exact .cons (.int i) ih
  obtain ⟨T', e⟩ := law ns hl hbits
  refine ⟨rfl, none, H0, [], [.frl (ns.map .int)], ⟨fun b o e => (h0 b o e).1, fun b z => (by cases z), fun q hq => ?_, fun b ps e => (h0 b _ e).2 ps rfl⟩, .cons (.frl hS0 (hrep ns) (by rw [List.length_map]; exact Nat.le_trans hl hn)) .nil, _, e, fun H' H0' g I v rv => ?_⟩
  · obtain ⟨p, hp, eq⟩ := htb q hq
    exact LamX.TabS.nil (by rw [← eq]; exact hH p hp)
  · cases rv; rfl
/-- the tables of the defs tf -/
def tbOf (K : PySem.W.Frag) (ds : List Str) : List (Addr × Str) := ds.map fun x => ((He.cT K (x, none)).2, (x ++ ".<locals>.") ++ "<lambda>")
theorem lamt_of {K : PySem.W.Frag} {mg : Str → Option Value} {base : Heap} {ds : List Str} {x : Str} {cd : Value} (hx : x ∈ ds) (nd : (ds.map fun x => (He.cT K (x, none)).2).Nodup) (TB : ∀ p ∈ ds.map (fun x => He.cT K (x, none)), LamX.TabB base mg p.1 p.2) (hc : ∃ c, cd = .ref c ∧ c = He.codeOf K (x, none)) : LamT mg (tbOf K ds) base (x ++ ".<locals>.") cd := by
  obtain ⟨c, rfl, rfl⟩ := hc
  refine ⟨⟨_, _, rfl, TB _ (List.mem_map.mpr ⟨x, hx, rfl⟩), List.mem_map.mpr ⟨x, hx, rfl⟩, fun p hp e => ?_⟩⟩
  obtain ⟨y, hy, rfl⟩ := List.mem_map.mp hp
  have : y = x := by
    clear TB hp
    induction ds with
    | nil => cases hx
    | cons d r ih =>
      rw [List.map_cons, List.nodup_cons] at nd
      rcases List.mem_cons.mp hx with rfl | hx'
      · rcases List.mem_cons.mp hy with rfl | hy'
        · rfl
        · exact absurd (List.mem_map.mpr ⟨y, hy', e⟩) nd.1
      · rcases List.mem_cons.mp hy with rfl | hy'
        · exact absurd (List.mem_map.mpr ⟨x, hx', e.symm⟩) nd.1
        · exact ih hx' nd.2 hy'
  rw [this]
end PF

namespace PF
open PySem PySem.Spec PyProof.Rows L2
/-! ### the plain laws: what a computation ends in -/
def WP {α : Type} (x : M α) (T : List D) (P : α → List D → Prop) : Prop := ∃ a T', x T = some (.ok a T') ∧ P a T'
section
variable {α β : Type} {x y : M α} {f : α → M β} {T : List D} {P : α → List D → Prop} {Q : β → List D → Prop}
theorem w_bind : WP (M.bind x f) T Q ↔ WP x T fun a T' => WP (f a) T' Q := by
  constructor
  · rintro ⟨b, T', e, q⟩
    unfold M.bind at e
    cases hx : x T with
    | none => rw [hx] at e; cases e
    | some o =>
      rw [hx] at e
      cases o with
      | ok a T1 => exact ⟨a, T1, hx, b, T', e, q⟩
      | ex c T1 => cases e
  · rintro ⟨a, T1, e, b, T', e2, q⟩
    refine ⟨b, T', ?_, q⟩
    unfold M.bind
    rw [e]
    exact e2
theorem w_ret {a : α} : WP (M.ret a) T P ↔ P a T := ⟨fun ⟨b, T', e, q⟩ => by cases e; exact q, fun q => ⟨a, T, rfl, q⟩⟩
theorem w_bad : WP (M.bad : M α) T P ↔ False := ⟨fun ⟨b, T', e, q⟩ => (by cases e), False.elim⟩
theorem w_raise {c : Str} : WP (M.raise c : M α) T P ↔ False := ⟨fun ⟨b, T', e, q⟩ => (by cases e), False.elim⟩
theorem w_of {o : Option α} : WP (M.of o) T P ↔ ∃ a, o = some a ∧ P a T := by
  cases o with
  | none => exact ⟨fun h => (w_bad.mp h).elim, fun ⟨a, e, _⟩ => by cases e⟩
  | some b => exact ⟨fun h => ⟨b, rfl, w_ret.mp h⟩, fun ⟨a, e, q⟩ => by cases e; exact w_ret.mpr q⟩
theorem w_look {g : List D → Option α} : WP (M.look g) T P ↔ ∃ a, g T = some a ∧ P a T := by
  unfold WP M.look
  cases h : g T with
  | none => simp [h]
  | some b => simp only [h]; exact ⟨fun ⟨a, T', e, q⟩ => by cases e; exact ⟨b, rfl, q⟩, fun ⟨a, e, q⟩ => by cases e; exact ⟨b, T, rfl, q⟩⟩
theorem w_noex : WP (M.noex x) T P ↔ WP x T P := by
  unfold WP M.noex
  cases h : x T with
  | none => simp
  | some o => cases o <;> simp
theorem w_ite {c : Prop} [Decidable c] : WP (if c then x else y) T P ↔ if c then WP x T P else WP y T P := by
  by_cases h : c <;> simp [h]
theorem WP.mono {P' : α → List D → Prop} (h : WP x T P) (i : ∀ a T', P a T' → P' a T') : WP x T P' := let ⟨a, T', e, q⟩ := h; ⟨a, T', e, i a T' q⟩
theorem w_of_eq {a : α} {T' : List D} (e : x T = some (.ok a T')) : WP x T P ↔ P a T' := ⟨fun ⟨b, T1, e2, q⟩ => by rw [e] at e2; cases e2; exact q, fun q => ⟨a, T', e, q⟩⟩
theorem WP.eq (h : WP x T fun a T' => a = b ∧ T' = T1) : x T = some (.ok b T1) := let ⟨a, T', e, h1, h2⟩ := h; by rw [e, h1, h2]
end
theorem w_tp {k : Int} {env : SEnv} {d : D} {T : List D} {P : Fl → List D → Prop} : WP (fun T => (ixN T.length k).bind fun j => some (.ok (Fl.nx env) (T.set j d))) T P ↔ ∃ j, ixN T.length k = some j ∧ P (.nx env) (T.set j d) := by
  unfold WP
  cases h : ixN T.length k with
  | none => simp [h]
  | some j => simp only [h, Option.bind_some]; exact ⟨fun ⟨a, T', e, q⟩ => by cases e; exact ⟨j, rfl, q⟩, fun ⟨i, e, q⟩ => by cases e; exact ⟨_, _, rfl, q⟩⟩
theorem some_ite {α : Type} {c : Prop} [Decidable c] {a b : α} : (if c then some a else none) = some b ↔ c ∧ a = b := by
  by_cases h : c <;> simp [h]
/-- while, by an invariant with a measure -/
theorem wp_while {u : Bool} {C : FT} {F : FS} {Q : Fl → List D → Prop} (I : Nat → SEnv → List D → Prop)
    (step : ∀ k env T, I k env T → WP (runX (fun _ => true) u C env) T fun b T1 => if b = true then WP (F env) T1 fun fl T2 => match fl with
      | .nx e => ∃ j, j < k ∧ I j e T2
      | .ct e => ∃ j, j < k ∧ I j e T2
      | .bk e => Q (.nx e) T2
      | .rt d => Q (.rt d) T2 else Q (.nx env) T1) : ∀ k env T, I k env T → WP (sWh u C F env) T Q := by
  intro k
  induction k using Nat.strongRecOn with
  | _ k ih =>
    intro env T h
    rw [sWh_eq, w_bind]
    refine (step k env T h).mono fun b T1 hb => ?_
    rw [w_ite]
    by_cases c : b = true
    · rw [if_pos c] at hb ⊢
      rw [w_bind]
      refine hb.mono fun fl T2 hf => ?_
      cases fl with
      | nx e => obtain ⟨j, hj, hI⟩ := hf; exact ih j hj e T2 hI
      | ct e => obtain ⟨j, hj, hI⟩ := hf; exact ih j hj e T2 hI
      | bk e => exact w_ret.mpr hf
      | rt d => exact w_ret.mpr hf
    · rw [if_neg c] at hb ⊢
      exact w_ret.mpr hb
/-- for, by an invariant -/
theorem wp_for {g : TgD} {F : FS} {Q : Fl → List D → Prop} (I : SEnv → List D → Prop) (end_ : ∀ env T, I env T → Q (.nx env) T) : ∀ ds : List D,
    (∀ d ∈ ds, ∀ env T, I env T → ∃ l, g d = some l ∧ WP (F (setV env l)) T fun fl T2 => match fl with
      | .nx e => I e T2
      | .ct e => I e T2
      | .bk e => Q (.nx e) T2
      | .rt d => Q (.rt d) T2) → ∀ env T, I env T → WP (forL g F ds env) T Q
  | [], _, env, T, h => w_ret.mpr (end_ env T h)
  | d :: ds, hd, env, T, h => by
    unfold forL
    obtain ⟨l, hl, hw⟩ := hd d List.mem_cons_self env T h
    rw [w_bind, w_of]
    refine ⟨l, hl, ?_⟩
    rw [w_bind]
    refine hw.mono fun fl T2 hf => ?_
    cases fl with
    | nx e => exact wp_for I end_ ds (fun d' h' => hd d' (List.mem_cons_of_mem _ h')) e T2 hf
    | ct e => exact wp_for I end_ ds (fun d' h' => hd d' (List.mem_cons_of_mem _ h')) e T2 hf
    | bk e => exact w_ret.mpr hf
    | rt d => exact w_ret.mpr hf
/-- a comprehension without a test over pure items -/
theorem lcM_map {env : Env} {g : TgD} {F : FE} {f : D → D} {ds T : List D} (h : ∀ d ∈ ds, ∃ l, g d = some l ∧ ∀ T, F (setL env l) T = some (.ok (f d) T)) : lcM env g tyYes F ds T = some (.ok (ds.map f) T) := by
  induction ds with
  | nil => rfl
  | cons d ds ih =>
    obtain ⟨l, hl, hf⟩ := h d List.mem_cons_self
    unfold lcM
    have ih := ih fun d' h' => h d' (List.mem_cons_of_mem _ h')
    simp only [hl, M.bind, M.of, M.ret, M.noex, tyYes, hf, ih, if_true, List.map_cons]
end PF

namespace PF
open PySem PySem.Spec PyProof.Rows L2
/-! ### each reading, what it ends in -/
section
variable {T : List D} {env : Env} {se : SEnv} {F G J : FE} {A : FA} {C R : FT} {S1 S2 : FS} {P : D → List D → Prop} {PB : Bool → List D → Prop} {PA : List D → List D → Prop} {PO : Option Int → List D → Prop} {Q : Fl → List D → Prop} {g g' : D → D → Option D} {i j k n N : Nat}
theorem w_var : WP (fVar i env) T P ↔ ∃ d, env[i]? = some (some d) ∧ P d T := by
  unfold fVar
  split
  · rename_i d e; rw [w_ret, e]; exact ⟨fun h => ⟨d, rfl, h⟩, fun ⟨d', e', h⟩ => by cases e'; exact h⟩
  · rename_i h; rw [w_bad]; exact ⟨False.elim, fun ⟨d, e, _⟩ => h d e⟩
theorem w_c {d : D} : WP (fC d env) T P ↔ P d T := w_ret
theorem w_op : WP (fOp g F G env) T P ↔ WP (F env) T fun x T1 => WP (G env) T1 fun y T2 => ∃ z, g x y = some z ∧ P z T2 := by unfold fOp; simp only [w_bind, w_of]
theorem w_un {u : D → Option D} : WP (fUn u F env) T P ↔ WP (F env) T fun x T1 => ∃ z, u x = some z ∧ P z T1 := by unfold fUn; simp only [w_bind, w_of]
theorem w_len {α : Type} {c : Prop} [Decidable c] {a : α} {PP : α → List D → Prop} : WP (if c then M.ret a else M.bad) T PP ↔ c ∧ PP a T := by by_cases h : c <;> simp [h, w_ret, w_bad]
theorem w_tup : WP (fTup A env) T P ↔ WP (A env) T fun ds T1 => ds.length ≤ 16777216 ∧ P (.tup ds) T1 := by unfold fTup; simp only [w_bind, w_len]
theorem w_lst : WP (fLst A env) T P ↔ WP (A env) T fun ds T1 => ds.length ≤ 16777216 ∧ P (.lst ds) T1 := by unfold fLst; simp only [w_bind, w_len]
theorem w_acons : WP (aCons F A env) T PA ↔ WP (F env) T fun d T1 => WP (A env) T1 fun ds T2 => PA (d :: ds) T2 := by unfold aCons; simp only [w_bind, w_ret]
theorem w_anil : WP (aNil env) T PA ↔ PA [] T := w_ret
def ixV (x y : D) (T : List D) : Option D := match x, y with
  | .tup l, .int i => L2.atI l i
  | .lst l, .int i => L2.atI l i
  | .str s, .int i => if s.length ≤ 16777216 then (L2.atI s.cps.toList i).map fun c => .str ⟨#[c]⟩ else none
  | .tape, .int i => L2.atI T i
  | _, _ => none
theorem w_ix : WP (fIx F G env) T P ↔ WP (F env) T fun x T1 => WP (G env) T1 fun y T2 => ∃ z, ixV x y T2 = some z ∧ P z T2 := by unfold fIx; simp only [w_bind, w_look]; rfl
theorem w_onone : WP (oNone env) T PO ↔ PO none T := w_ret
theorem w_osome : WP (oSome F env) T PO ↔ WP (F env) T fun d T1 => ∃ i, d = .int i ∧ PO (some i) T1 := by
  unfold oSome
  rw [w_bind]
  constructor
  · intro h
    refine h.mono fun d T1 h => ?_
    cases d with
    | int i => exact ⟨i, rfl, w_ret.mp h⟩
    | _ => exact (w_bad.mp h).elim
  · intro h
    refine h.mono fun d T1 ⟨i, e, h⟩ => ?_
    subst e
    exact w_ret.mpr h
theorem w_sl {A B : FO} : WP (fSl F A B env) T P ↔ WP (F env) T fun x T1 => WP (A env) T1 fun lo T2 => WP (B env) T2 fun hi T3 => ∃ z, slD x lo hi = some z ∧ P z T3 := by unfold fSl; simp only [w_bind, w_of]
theorem w_bool : WP (fBool F env) T PB ↔ WP (F env) T fun x T1 => ∃ b, blD x = some b ∧ PB b T1 := by unfold fBool; simp only [w_bind, w_of]
theorem w_tru : WP (fTru F env) T PB ↔ WP (F env) T fun x T1 => ∃ b, truD x = some b ∧ PB b T1 := by unfold fTru; simp only [w_bind, w_of]
theorem w_ifx : WP (fIf C F G env) T P ↔ WP (C env) T fun b T1 => if b = true then WP (F env) T1 P else WP (G env) T1 P := by unfold fIf; simp only [w_bind, w_ite]
theorem w_and : WP (fAnd F G env) T P ↔ WP (F env) T fun x T1 => ∃ b, blD x = some b ∧ if b = true then WP (G env) T1 P else P (.bl false) T1 := by unfold fAnd; simp only [w_bind, w_of, w_ite, w_ret]
theorem w_or : WP (fOr F G env) T P ↔ WP (F env) T fun x T1 => ∃ b, blD x = some b ∧ if b = true then P (.bl true) T1 else WP (G env) T1 P := by unfold fOr; simp only [w_bind, w_of, w_ite, w_ret]
theorem w_not : WP (fNot F env) T P ↔ WP (F env) T fun x T1 => ∃ b, blD x = some b ∧ P (.bl (!b)) T1 := by unfold fNot; simp only [w_bind, w_of, w_ret]
theorem wt_not : WP (tyNot C env) T PB ↔ WP (C env) T fun b T1 => PB (!b) T1 := by unfold tyNot; simp only [w_bind, w_ret]
theorem wt_and : WP (tyAnd C R env) T PB ↔ WP (C env) T fun b T1 => if b = true then WP (R env) T1 PB else PB false T1 := by unfold tyAnd; simp only [w_bind, w_ite, w_ret]
theorem wt_or : WP (tyOr C R env) T PB ↔ WP (C env) T fun b T1 => if b = true then PB true T1 else WP (R env) T1 PB := by unfold tyOr; simp only [w_bind, w_ite, w_ret]
theorem w_chain : WP (fChain g g' F G J env) T P ↔ WP (F env) T fun x T1 => WP (G env) T1 fun y T2 => ∃ b, (g x y).bind blD = some b ∧ if b = true then WP (J env) T2 (fun z T3 => ∃ u, g' y z = some u ∧ P u T3) else P (.bl false) T2 := by unfold fChain; simp only [w_bind, w_of, w_ite, w_ret]
theorem w_call {H : FF} : WP (fCall H A env) T P ↔ WP (A env) T fun ds T1 => WP (H ds) T1 P := by unfold fCall; simp only [w_bind]
theorem w_cb {h : List D → Option D} : WP (fCB h A env) T P ↔ WP (A env) T fun ds T1 => ∃ z, h ds = some z ∧ P z T1 := by unfold fCB; simp only [w_bind, w_of]
theorem w_mt {ok : D → Bool} {h : D → List D → Option D} : WP (fMt ok h F A env) T P ↔ WP (F env) T fun x T1 => ok x = true ∧ WP (A env) T1 fun ds T2 => ∃ z, h x ds = some z ∧ P z T2 := by
  unfold fMt
  rw [w_bind]
  have e : ∀ (x : D) (T1 : List D), WP (if ok x = true then M.bind (A env) fun ds => M.of (h x ds) else M.bad) T1 P ↔ (ok x = true ∧ WP (A env) T1 fun ds T2 => ∃ z, h x ds = some z ∧ P z T2) := fun x T1 => by
    by_cases c : ok x = true <;> simp [c, w_bad, w_bind, w_of]
  simp only [e]
/-! statements -/
def seqK (S : FS) (Q : Fl → List D → Prop) (fl : Fl) (T : List D) : Prop := match fl with
  | .nx e => WP (S e) T Q
  | o => Q o T
theorem k_nx : seqK S1 Q (.nx se) T ↔ WP (S1 se) T Q := Iff.rfl
theorem k_rt {d : D} : seqK S1 Q (.rt d) T ↔ Q (.rt d) T := Iff.rfl
theorem k_bk : seqK S1 Q (.bk se) T ↔ Q (.bk se) T := Iff.rfl
theorem k_ct : seqK S1 Q (.ct se) T ↔ Q (.ct se) T := Iff.rfl
theorem w_seq : WP (sSeq S1 S2 se) T Q ↔ WP (S1 se) T (seqK S2 Q) := by
  unfold sSeq
  rw [w_bind]
  have e : ∀ (fl : Fl) (T1 : List D), WP (match fl with | .nx e => S2 e | o => M.ret o) T1 Q ↔ seqK S2 Q fl T1 := fun fl T1 => by
    cases fl with
    | nx e => exact Iff.rfl
    | rt d => exact w_ret
    | bk e => exact w_ret
    | ct e => exact w_ret
  exact ⟨fun h => h.mono fun a T1 h => (e a T1).mp h, fun h => h.mono fun a T1 h => (e a T1).mpr h⟩
theorem w_rx {α : Type} {ok : α → Bool} {X : Env → M α} {PP : α → List D → Prop} : WP (runX ok false X se) T PP ↔ WP (X (hide se)) T PP := by unfold runX; rw [if_neg Bool.false_ne_true]
theorem w_if : WP (sIf false C S1 S2 se) T Q ↔ WP (C (hide se)) T fun b T1 => if b = true then WP (S1 se) T1 Q else WP (S2 se) T1 Q := by unfold sIf; simp only [w_bind, w_rx, w_ite]
theorem w_set : WP (sSet false i F se) T Q ↔ WP (F (hide se)) T fun d T1 => Q (.nx (se.set i (.val d))) T1 := by unfold sSet; simp only [w_bind, w_rx, w_ret]
theorem w_asg {t : TgD} : WP (sAsg false F t se) T Q ↔ WP (F (hide se)) T fun d T1 => ∃ l, t d = some l ∧ Q (.nx (setV se l)) T1 := by unfold sAsg; simp only [w_bind, w_rx, w_ret, w_of]
theorem w_par2 : WP (sPar2 false i j A se) T Q ↔ WP (A (hide se)) T fun ds T1 => ∃ a b, ds = [a, b] ∧ Q (.nx ((se.set i (.val a)).set j (.val b))) T1 := by
  unfold sPar2
  rw [w_bind, w_rx]
  have e : ∀ (ds : List D) (T1 : List D), WP (match ds with | [a, b] => M.ret (.nx ((se.set i (.val a)).set j (.val b))) | _ => M.bad) T1 Q ↔ ∃ a b, ds = [a, b] ∧ Q (.nx ((se.set i (.val a)).set j (.val b))) T1 := fun ds T1 => by
    split
    · rename_i a b; rw [w_ret]; exact ⟨fun h => ⟨a, b, rfl, h⟩, fun ⟨a', b', e, h⟩ => by cases e; exact h⟩
    · rename_i h; rw [w_bad]; exact ⟨False.elim, fun ⟨a, b, e, _⟩ => h a b e⟩
  exact ⟨fun h => h.mono fun a T1 h => (e a T1).mp h, fun h => h.mono fun a T1 h => (e a T1).mpr h⟩
theorem w_par3 : WP (sPar3 false i j k A se) T Q ↔ WP (A (hide se)) T fun ds T1 => ∃ a b c, ds = [a, b, c] ∧ Q (.nx (((se.set i (.val a)).set j (.val b)).set k (.val c))) T1 := by
  unfold sPar3
  rw [w_bind, w_rx]
  have e : ∀ (ds : List D) (T1 : List D), WP (match ds with | [a, b, c] => M.ret (.nx (((se.set i (.val a)).set j (.val b)).set k (.val c))) | _ => M.bad) T1 Q ↔ ∃ a b c, ds = [a, b, c] ∧ Q (.nx (((se.set i (.val a)).set j (.val b)).set k (.val c))) T1 := fun ds T1 => by
    split
    · rename_i a b c; rw [w_ret]; exact ⟨fun h => ⟨a, b, c, rfl, h⟩, fun ⟨a', b', c', e, h⟩ => by cases e; exact h⟩
    · rename_i h; rw [w_bad]; exact ⟨False.elim, fun ⟨a, b, c, e, _⟩ => h a b c e⟩
  exact ⟨fun h => h.mono fun a T1 h => (e a T1).mp h, fun h => h.mono fun a T1 h => (e a T1).mpr h⟩
theorem w_aug : WP (sAug false i g F se) T Q ↔ ∃ x, se[i]? = some (.val x) ∧ WP (F (hide se)) T fun y T1 => ∃ z, g x y = some z ∧ Q (.nx (se.set i (.val z))) T1 := by
  unfold sAug
  split
  · rename_i x e; simp only [w_bind, w_rx, w_ret, w_of, e]; exact ⟨fun h => ⟨x, rfl, h⟩, fun ⟨x', e', h⟩ => by cases e'; exact h⟩
  · rename_i h; rw [w_bad]; exact ⟨False.elim, fun ⟨x, e, _⟩ => h x e⟩
theorem w_ex : WP (sEx false F se) T Q ↔ WP (F (hide se)) T fun _ T1 => Q (.nx se) T1 := by unfold sEx; simp only [w_bind, w_rx, w_ret]
theorem w_sret : WP (sRet false F se) T Q ↔ WP (F (hide se)) T fun d T1 => Q (.rt d) T1 := by unfold sRet runR; simp only [w_bind, w_ret, Bool.false_eq_true, if_false]
theorem ws_next : WP (sNext se) T Q ↔ Q (.nx se) T := w_ret
theorem w_brk : WP (sBreak se) T Q ↔ Q (.bk se) T := w_ret
theorem w_cnt : WP (sCont se) T Q ↔ Q (.ct se) T := w_ret
theorem w_sraise {c : Str} : WP (sRaise c se) T Q ↔ False := w_raise
theorem w_stp : WP (sTp i F G se) T Q ↔ se[i]? = some (.val .tape) ∧ WP (G (hide se)) T fun d T1 => WP (F (hide se)) T1 fun kk T2 => ∃ k, kk = .int k ∧ ∃ j, L2.ixN T2.length k = some j ∧ Q (.nx se) (T2.set j d) := by
  unfold sTp
  split
  · rename_i e
    simp only [e, true_and, w_bind]
    constructor
    · intro h
      refine h.mono fun d T1 h => h.mono fun kk T2 h => ?_
      cases kk with
      | int k => exact ⟨k, rfl, w_tp.mp h⟩
      | _ => exact (w_bad.mp h).elim
    · intro h
      refine h.mono fun d T1 h => h.mono fun kk T2 h => ?_
      obtain ⟨k, rfl, h⟩ := h
      exact w_tp.mpr h
  · rename_i h
    rw [w_bad]
    exact ⟨False.elim, fun ⟨e, _⟩ => h e⟩
/-- what is wanted behind a def's body -/
def endK (P : D → List D → Prop) (fl : Fl) (T : List D) : Prop := match fl with
  | .rt d => P d T
  | .nx _ => P .non T
  | _ => False
theorem e_rt {d : D} : endK P (.rt d) T ↔ P d T := Iff.rfl
theorem e_nx : endK P (.nx se) T ↔ P .non T := Iff.rfl
theorem w_mkF {ds : List D} : WP (mkF n N S1 ds) T P ↔ ds.length = n ∧ WP (S1 (ds.map .val ++ List.replicate (N - n) .non)) T (endK P) := by
  unfold mkF
  by_cases c : ds.length = n
  · rw [if_pos c, w_bind]
    simp only [c, true_and]
    have e : ∀ (fl : Fl) (T1 : List D), WP (match fl with | .rt d => M.ret d | .nx _ => M.ret .non | _ => M.bad) T1 P ↔ endK P fl T1 := fun fl T1 => by
      cases fl with
      | nx e => exact w_ret
      | rt d => exact w_ret
      | bk e => exact w_bad
      | ct e => exact w_bad
    exact ⟨fun h => h.mono fun a T1 h => (e a T1).mp h, fun h => h.mono fun a T1 h => (e a T1).mpr h⟩
  · rw [if_neg c, w_bad]
    simp [c]
theorem w_for {I : FI} {t : TgD} : WP (sFor I t S1 se) T Q ↔ WP (I (hide se)) T fun ds T1 => WP (forL t S1 ds se) T1 Q := by unfold sFor; simp only [w_bind]
end
theorem seq_step {S1 S2 : FS} {se : SEnv} {T : List D} {Q : Fl → List D → Prop} (R : Fl → List D → Prop) (h1 : WP (S1 se) T R) (h2 : ∀ fl T1, R fl T1 → seqK S2 Q fl T1) : WP (sSeq S1 S2 se) T Q := w_seq.mpr (h1.mono h2)
/-- for, by an invariant that counts -/
theorem wp_forN {g : TgD} {F : FS} {Q : Fl → List D → Prop} (I : Nat → SEnv → List D → Prop) : ∀ (ds : List D) (i : Nat) (end_ : ∀ env T, I (i + ds.length) env T → Q (.nx env) T),
    (∀ m, m < ds.length → ∀ d, ds[m]? = some d → ∀ env T, I (i + m) env T → ∃ l, g d = some l ∧ WP (F (setV env l)) T fun fl T2 => match fl with
      | .nx e => I (i + m + 1) e T2
      | .ct e => I (i + m + 1) e T2
      | .bk e => Q (.nx e) T2
      | .rt d => Q (.rt d) T2) → ∀ env T, I i env T → WP (forL g F ds env) T Q
  | [], i, end_, _, env, T, h => w_ret.mpr (end_ env T h)
  | d :: ds, i, end_, hd, env, T, h => by
    unfold forL
    obtain ⟨l, hl, hw⟩ := hd 0 (by simp) d rfl env T h
    rw [w_bind, w_of]
    refine ⟨l, hl, ?_⟩
    rw [w_bind]
    have rec_ : ∀ e T2, I (i + 1) e T2 → WP (forL g F ds e) T2 Q := wp_forN I ds (i + 1) (fun env T h => end_ env T (by rw [List.length_cons]; rw [show i + (ds.length + 1) = i + 1 + ds.length from by omega]; exact h)) fun m hm d' hd' env T h => by
      have := hd (m + 1) (by rw [List.length_cons]; omega) d' (by simpa using hd') env T (by rw [show i + (m + 1) = i + 1 + m from by omega]; exact h)
      rw [show i + (m + 1) + 1 = i + 1 + m + 1 from by omega] at this
      exact this
    refine hw.mono fun fl T2 hf => ?_
    cases fl with
    | nx e => exact rec_ e T2 hf
    | ct e => exact rec_ e T2 hf
    | bk e => exact w_ret.mpr hf
    | rt d => exact w_ret.mpr hf
end PF

namespace N69
/-- f 0 + .. + f (n - 1) -/
def sm (f : Nat → Int) : Nat → Int
  | 0 => 0
  | n + 1 => sm f n + f n
theorem sm_front (f : Nat → Int) : ∀ n, sm f (n + 1) = f 0 + sm (fun j => f (j + 1)) n
  | 0 => by simp [sm]
  | n + 1 => by rw [sm, sm_front f n, sm]; omega
theorem sm_congr {f g : Nat → Int} : ∀ {n : Nat}, (∀ j, j < n → f j = g j) → sm f n = sm g n
  | 0, _ => rfl
  | n + 1, h => by rw [sm, sm, sm_congr (fun j hj => h j (by omega)), h n (by omega)]
theorem sm_rev (f : Nat → Int) : ∀ n, sm (fun j => f (n - 1 - j)) n = sm f n
  | 0 => rfl
  | n + 1 => by
    rw [sm_front]
    have e : sm (fun j => f (n + 1 - 1 - (j + 1))) n = sm (fun j => f (n - 1 - j)) n := sm_congr fun j hj => by congr 1; omega
    rw [e, sm_rev f n, sm]
    have e2 : n + 1 - 1 - 0 = n := by omega
    rw [e2]
    omega
theorem sm_add (f g : Nat → Int) : ∀ n, sm (fun j => f j + g j) n = sm f n + sm g n
  | 0 => rfl
  | n + 1 => by rw [sm, sm, sm, sm_add f g n]; omega
theorem sm_sub (f g : Nat → Int) : ∀ n, sm (fun j => f j - g j) n = sm f n - sm g n
  | 0 => rfl
  | n + 1 => by rw [sm, sm, sm, sm_sub f g n]; omega
theorem sm_const (c : Int) : ∀ n : Nat, sm (fun _ => c) n = c * n
  | 0 => by simp [sm]
  | n + 1 => by rw [sm, sm_const c n]; rw [Int.natCast_succ, Int.mul_add]; omega
theorem sm_mul (c : Int) (f : Nat → Int) : ∀ n, sm (fun j => c * f j) n = c * sm f n
  | 0 => by simp [sm]
  | n + 1 => by rw [sm, sm, sm_mul c f n, Int.mul_add]
theorem sm_split (f : Nat → Int) (k : Nat) : ∀ j, sm f (k + j) = sm f k + sm (fun i => f (k + i)) j
  | 0 => by simp [sm]
  | j + 1 => by rw [← Nat.add_assoc, sm, sm_split f k j, sm]; omega
def tri (n : Nat) : Int := sm (fun j => (j : Int)) n
theorem tri_two : ∀ n : Nat, 2 * tri n = (n : Int) * ((n : Int) - 1)
  | 0 => by simp [tri, sm]
  | n + 1 => by
    have ih := tri_two n
    unfold tri at ih ⊢
    rw [sm, Int.mul_add, ih, Int.natCast_succ]
    grind
/-- sum of the floors of (a i + b) / m -/
def S (a b m : Int) (n : Nat) : Int := sm (fun i => (a * (i : Int) + b) / m) n
theorem S_shift (a b q p m : Int) (hm : 0 < m) (n : Nat) : S (a + q * m) (b + p * m) m n = S a b m n + q * tri n + p * n := by
  unfold S tri
  rw [← sm_mul, ← sm_const, ← sm_add, ← sm_add]
  refine sm_congr fun j _ => ?_
  have e : (a + q * m) * (j : Int) + (b + p * m) = (a * (j : Int) + b) + (q * j + p) * m := by grind
  rw [e, Int.add_mul_ediv_right _ _ (by omega)]
  omega
theorem S_mod (a b m : Int) (hm : 0 < m) (n : Nat) : S a b m n = S (a % m) (b % m) m n + (a / m) * tri n + (b / m) * n := by
  have e1 : a % m + a / m * m = a := by have := Int.mul_ediv_add_emod a m; grind
  have e2 : b % m + b / m * m = b := by have := Int.mul_ediv_add_emod b m; grind
  rw [← S_shift (a % m) (b % m) (a / m) (b / m) m hm n, e1, e2]
theorem S_cut (a b m : Int) (k j : Nat) : S a b m (k + j) = S a b m k + S a (b + a * k) m j := by
  unfold S
  rw [sm_split]
  congr 1
  refine sm_congr fun i _ => ?_
  congr 1
  push_cast
  grind
theorem S_same {a b m c : Int} {x : Nat} : ∀ d : Nat, (∀ j : Nat, x ≤ j → j < x + d → (a * (j : Int) + b) / m = c) → S a b m (x + d) = S a b m x + c * d
  | 0, _ => by simp
  | d + 1, h => by
    have ih := S_same d fun j h1 h2 => h j h1 (by omega)
    unfold S at ih ⊢
    rw [← Nat.add_assoc, sm, ih, h (x + d) (by omega) (by omega), Int.natCast_succ, Int.mul_add]
    omega
/-- the floors of one, counted by the other way -/
theorem S_flip {a b m : Int} (ha : 0 < a) (hm : 0 < m) (hb : 0 ≤ b) (hbm : b < m) : ∀ n : Nat, S a b m (n + 1) + S m (m - b - 1 + a) a ((a * n + b) / m).toNat = (n + 1) * ((a * n + b) / m)
  | 0 => by
    have e : b / m = 0 := Int.ediv_eq_zero_of_lt hb hbm
    simp [S, sm, e]
  | n + 1 => by
    have ih := S_flip ha hm hb hbm n
    have h1 : 0 ≤ (a * n + b) / m := Int.ediv_nonneg (by have := Int.mul_nonneg (Int.le_of_lt ha) (Int.natCast_nonneg n); omega) (Int.le_of_lt hm)
    have h2 : (a * n + b) / m ≤ (a * ((n + 1 : Nat) : Int) + b) / m := Int.ediv_le_ediv hm (by push_cast; grind)
    obtain ⟨x, hx⟩ : ∃ x, x = (a * n + b) / m := ⟨_, rfl⟩
    obtain ⟨y, hy⟩ : ∃ y, y = (a * ((n + 1 : Nat) : Int) + b) / m := ⟨_, rfl⟩
    rw [← hx] at ih h1 h2
    rw [← hy] at h2 ⊢
    have hxy : y.toNat = x.toNat + (y - x).toNat := by omega
    have hs := S_same (a := m) (b := m - b - 1 + a) (m := a) (c := (n + 1 : Nat)) (x := x.toNat) (y - x).toNat fun j h3 h4 => by
      have l1 : a * n + b < m * (x + 1) := by
        have := Int.lt_mul_ediv_self_add (x := a * n + b) hm
        rw [← hx] at this
        grind
      have l2 : m * y ≤ a * ((n + 1 : Nat) : Int) + b := by
        have := Int.mul_ediv_self_le (x := a * ((n + 1 : Nat) : Int) + b) (k := m) (by omega)
        rw [← hy] at this
        exact this
      have j1 : x + 1 ≤ (j : Int) + 1 := by omega
      have j2 : (j : Int) + 1 ≤ y := by omega
      have l3 : m * (x + 1) ≤ m * ((j : Int) + 1) := Int.mul_le_mul_of_nonneg_left j1 (Int.le_of_lt hm)
      have l4 : m * ((j : Int) + 1) ≤ m * y := Int.mul_le_mul_of_nonneg_left j2 (Int.le_of_lt hm)
      have l5 : m * ((j : Int) + 1) = m * j + m := by grind
      have l6 : a * ((n + 1 : Nat) : Int) = a * n + a := by push_cast; grind
      have l7 : ((n + 1 : Nat) : Int) * a = a * ((n + 1 : Nat) : Int) := Int.mul_comm _ _
      rw [Int.ediv_eq_iff_of_pos ha]
      constructor
      · have : ((n + 1 : Nat) : Int) * a = a * n + a := by push_cast; grind
        omega
      · have : (((n + 1 : Nat) : Int) + 1) * a = a * n + a + a := by push_cast; grind
        omega
    rw [hxy, hs]
    have e : S a b m (n + 1 + 1) = S a b m (n + 1) + y := by
      rw [hy]
      rfl
    rw [e]
    have e2 : ((y - x).toNat : Int) = y - x := by omega
    rw [e2]
    push_cast at *
    grind
theorem S_sym {a m : Nat} (ha : 0 < a) (hm : 0 < m) : S a 0 m m = S m 0 a a := by
  have h := S_flip (a := a) (b := 0) (m := m) (by omega) (by omega) (by omega) (by omega) m
  have e : ((a : Int) * m + 0) / m = a := by rw [Int.add_zero, Int.mul_ediv_cancel _ (by omega)]
  rw [e] at h
  have e1 : S a 0 m (m + 1) = S a 0 m m + a := by
    have e0 : S a 0 m (m + 1) = S a 0 m m + ((a : Int) * m + 0) / m := rfl
    rw [e0, e]
  have e2 : S (m : Int) ((m : Int) - 0 - 1 + a) a (a : Int).toNat = m * a - S m 0 a a := by
    rw [Int.toNat_natCast]
    unfold S
    rw [← sm_const, ← sm_sub, ← sm_rev]
    refine sm_congr fun j hj => ?_
    have e3 : (m : Int) * ((a - 1 - j : Nat) : Int) + ((m : Int) - 0 - 1 + a) = (-((m : Int) * j) - 1) + ((m : Int) + 1) * a := by
      rw [show ((a - 1 - j : Nat) : Int) = (a : Int) - 1 - j from by omega]
      grind
    rw [e3, Int.add_mul_ediv_right _ _ (by omega), Int.add_zero]
    have e4 : (-((m : Int) * j) - 1) / a = -((m : Int) * j / a) - 1 := by
      rw [Int.ediv_eq_iff_of_pos (by omega)]
      have := Int.mul_ediv_self_le (x := (m : Int) * j) (k := a) (by omega)
      have := Int.lt_mul_ediv_self_add (x := (m : Int) * j) (k := a) (by omega)
      constructor <;> grind
    rw [e4]
    omega
  rw [e1, e2] at h
  grind
theorem S_gcd (m : Nat) : ∀ a : Nat, 0 < a → 0 < m → 2 * S a 0 m m = ((a : Int) - 1) * (m - 1) + Nat.gcd a m - 1 := by
  induction m using Nat.strongRecOn with
  | _ m ih =>
    intro a ha hm
    have e := S_mod a 0 m (by omega) m
    rw [Int.zero_emod, Int.zero_ediv] at e
    have t := tri_two m
    by_cases hr : a % m = 0
    · have e2 : (a : Int) % m = 0 := by omega
      rw [e2] at e
      have z : S 0 0 m m = 0 := by
        unfold S
        rw [sm_congr (g := fun _ => 0) (fun j _ => by simp), sm_const]
        simp
      rw [z] at e
      have g : Nat.gcd a m = m := by rw [Nat.gcd_comm, Nat.gcd_rec, hr, Nat.gcd_zero_left]
      rw [g, e]
      have h3 : (a : Int) = m * ((a : Int) / m) := by have := Int.mul_ediv_add_emod (a : Int) m; omega
      generalize (a : Int) / m = q at *
      rw [h3]
      grind
    · have hr0 : 0 < a % m := Nat.pos_of_ne_zero hr
      have e2 : (a : Int) % m = ((a % m : Nat) : Int) := by simp
      rw [e2, S_sym hr0 hm] at e
      have i := ih (a % m) (Nat.mod_lt _ hm) m hm hr0
      have g : Nat.gcd a m = Nat.gcd m (a % m) := by rw [Nat.gcd_comm a m, Nat.gcd_rec m a, Nat.gcd_comm]
      have h3 : (a : Int) = m * ((a : Int) / m) + ((a % m : Nat) : Int) := by have := Int.mul_ediv_add_emod (a : Int) m; omega
      rw [g]
      generalize ((Nat.gcd m (a % m) : Nat) : Int) = gg at *
      generalize (a : Int) / m = q at *
      generalize ((a % m : Nat) : Int) = r at *
      grind
end N69

namespace G69
open PySem PySem.Spec PyProof.Rows L2 PF
noncomputable section
def top (i : Nat) : Stmt := PySem.Challenge.pw_ratiohouse_k69_whole_sums_of_whole_parts.main.body.getD i (.Pass ⟨0, 0, 0, 0⟩)
abbrev st_is_integer : Stmt := top 1
abbrev ns_is_integer : List Str := ["thing"]
theorem sc_is_integer : FnScope ns_is_integer ["thing"] (defScope st_is_integer) := ⟨rfl, rfl, rfl, by decide +kernel, rfl, by decide +kernel, by decide +kernel⟩
abbrev st_is_within : Stmt := top 2
abbrev ns_is_within : List Str := ["thing", "low", "high"]
theorem sc_is_within : FnScope ns_is_within ["thing", "low", "high"] (defScope st_is_within) := ⟨rfl, rfl, rfl, by decide +kernel, rfl, by decide +kernel, by decide +kernel⟩
abbrev st_check_floors : Stmt := top 9
abbrev ns_check_floors : List Str := ["n", "a", "b", "m"]
theorem sc_check_floors : FnScope ns_check_floors ["n", "a", "b", "m"] (defScope st_check_floors) := ⟨rfl, rfl, rfl, by decide +kernel, rfl, by decide +kernel, by decide +kernel⟩
abbrev st_floors_of : Stmt := top 10
abbrev ns_floors_of : List Str := ["n", "a", "b", "m", "found", "sign", "turns", "most"]
theorem sc_floors_of : FnScope ns_floors_of ["n", "a", "b", "m"] (defScope st_floors_of) := ⟨rfl, rfl, rfl, by decide +kernel, rfl, by decide +kernel, by decide +kernel⟩
abbrev st_floor_sum : Stmt := top 11
abbrev ns_floor_sum : List Str := ["n", "a", "b", "m"]
theorem sc_floor_sum : FnScope ns_floor_sum ["n", "a", "b", "m"] (defScope st_floor_sum) := ⟨rfl, rfl, rfl, by decide +kernel, rfl, by decide +kernel, by decide +kernel⟩
abbrev st_floor_steps : Stmt := top 12
abbrev ns_floor_steps : List Str := ["n", "a", "b", "m"]
theorem sc_floor_steps : FnScope ns_floor_steps ["n", "a", "b", "m"] (defScope st_floor_steps) := ⟨rfl, rfl, rfl, by decide +kernel, rfl, by decide +kernel, by decide +kernel⟩
abbrev st__law_tape : Stmt := top 14
abbrev ns__law_tape : List Str := ["script", "cells", "cell"]
theorem sc__law_tape : FnScope ns__law_tape ["script"] (defScope st__law_tape) := ⟨rfl, rfl, rfl, by decide +kernel, rfl, by decide +kernel, by decide +kernel⟩
abbrev st__law_pick : Stmt := top 15
abbrev ns__law_pick : List Str := ["tape", "many", "cell", "digit", "number"]
theorem sc__law_pick : FnScope ns__law_pick ["tape", "many"] (defScope st__law_pick) := ⟨rfl, rfl, rfl, by decide +kernel, rfl, by decide +kernel, by decide +kernel⟩
abbrev st__law_any : Stmt := top 16
abbrev ns__law_any : List Str := ["tape", "things"]
theorem sc__law_any : FnScope ns__law_any ["tape", "things"] (defScope st__law_any) := ⟨rfl, rfl, rfl, by decide +kernel, rfl, by decide +kernel, by decide +kernel⟩
abbrev st__law_shared : Stmt := top 17
abbrev ns__law_shared : List Str := ["one", "other"]
theorem sc__law_shared : FnScope ns__law_shared ["one", "other"] (defScope st__law_shared) := ⟨rfl, rfl, rfl, by decide +kernel, rfl, by decide +kernel, by decide +kernel⟩
abbrev st__law_word : Stmt := top 18
abbrev ns__law_word : List Str := ["call", "found", "e", "flags"]
theorem sc__law_word : FnScope ns__law_word ["call"] (defScope st__law_word) := ⟨rfl, rfl, rfl, by decide +kernel, rfl, by decide +kernel, by decide +kernel⟩
abbrev st__law_great_sum : Stmt := top 19
abbrev ns__law_great_sum : List Str := ["n", "a", "b", "m", "found", "sign", "most"]
theorem sc__law_great_sum : FnScope ns__law_great_sum ["n", "a", "b", "m"] (defScope st__law_great_sum) := ⟨rfl, rfl, rfl, by decide +kernel, rfl, by decide +kernel, by decide +kernel⟩
abbrev st__law_drawn : Stmt := top 20
abbrev ns__law_drawn : List Str := ["tape", "size", "n", "a", "b"]
theorem sc__law_drawn : FnScope ns__law_drawn ["tape", "size"] (defScope st__law_drawn) := ⟨rfl, rfl, rfl, by decide +kernel, rfl, by decide +kernel, by decide +kernel⟩
abbrev st__law_pairs : Stmt := top 21
abbrev ns__law_pairs : List Str := ["a", "m", "found"]
theorem sc__law_pairs : FnScope ns__law_pairs ["a", "m"] (defScope st__law_pairs) := ⟨rfl, rfl, rfl, by decide +kernel, rfl, by decide +kernel, by decide +kernel⟩
abbrev st__law_is_right : Stmt := top 22
abbrev ns__law_is_right : List Str := ["tape", "n", "a", "b", "m", "due", "cut", "more", "over", "steps", "big", "near", "whole", "i"]
theorem sc__law_is_right : FnScope ns__law_is_right ["tape", "n", "a", "b", "m"] (defScope st__law_is_right) := ⟨rfl, rfl, rfl, by decide +kernel, rfl, by decide +kernel, by decide +kernel⟩
abbrev st__law_is_great_right : Stmt := top 23
abbrev ns__law_is_great_right : List Str := ["tape", "n", "a", "b", "m", "told"]
theorem sc__law_is_great_right : FnScope ns__law_is_great_right ["tape"] (defScope st__law_is_great_right) := ⟨rfl, rfl, rfl, by decide +kernel, rfl, by decide +kernel, by decide +kernel⟩
abbrev st__law_is_refused : Stmt := top 24
abbrev ns__law_is_refused : List Str := ["tape", "bad", "great", "none", "zero", "words"]
theorem sc__law_is_refused : FnScope ns__law_is_refused ["tape"] (defScope st__law_is_refused) := ⟨rfl, rfl, rfl, by decide +kernel, rfl, by decide +kernel, by decide +kernel⟩
abbrev st__law_word_of : Stmt := top 25
abbrev ns__law_word_of : List Str := ["n", "a", "b", "m"]
theorem sc__law_word_of : FnScope ns__law_word_of ["n", "a", "b", "m"] (defScope st__law_word_of) := ⟨rfl, rfl, rfl, by decide +kernel, rfl, by decide +kernel, by decide +kernel⟩
abbrev st_law : Stmt := top 26
abbrev ns_law : List Str := ["script", "tape", "told", "turn", "n", "a", "b", "m"]
theorem sc_law : FnScope ns_law ["script"] (defScope st_law) := ⟨rfl, rfl, rfl, by decide +kernel, rfl, by decide +kernel, by decide +kernel⟩
def ct_RatioError : Str → Option Bool := fun c => if c = "NoNumber" then some true else none
def isT : Str → Str → Option Bool := fun c d => if c = "NoNumber" ∧ d = "NoNumber" then some true else if c = "NoNumber" ∧ d = "ValueError" then some true else none
def B_is_integer : FS := (sRet false (fAnd (fCB isiD (aCons (fVar 0) (aCons (fC (.ty "int")) aNil))) (fNot (fCB isiD (aCons (fVar 0) (aCons (fC (.ty "bool")) aNil))))))
def F_is_integer : FF := mkF 1 1 B_is_integer
def B_is_within : FS := (sRet false (fAnd (fCall F_is_integer (aCons (fVar 0) aNil)) (fChain leD leD (fVar 1) (fVar 0) (fVar 2))))
def F_is_within : FF := mkF 3 3 B_is_within
def B_check_floors : FS := (sSeq (sIf false (tyOr (tyNot (fTru (fCall F_is_within (aCons (fVar 0) (aCons (fC (.int 0)) (aCons (fC (.int 1000000000)) aNil)))))) (tyNot (fTru (fCall F_is_within (aCons (fVar 1) (aCons (fOp subD (fC (.int 1)) (fC (.int 1000000000000))) (aCons (fOp subD (fC (.int 1000000000000)) (fC (.int 1))) aNil)))))))
    (sRaise "NoNumber")
    sNext)
    (sIf false (tyOr (tyNot (fTru (fCall F_is_within (aCons (fVar 2) (aCons (fOp subD (fC (.int 1)) (fC (.int 1000000000000))) (aCons (fOp subD (fC (.int 1000000000000)) (fC (.int 1))) aNil)))))) (tyNot (fTru (fCall F_is_within (aCons (fVar 3) (aCons (fC (.int 1)) (aCons (fC (.int 1000000000000)) aNil)))))))
    (sRaise "NoNumber")
    sNext))
def F_check_floors : FF := mkF 4 4 B_check_floors
def B_floors_of : FS := (sSeq (sAsg false (fTup (aCons (fC (.int 0)) (aCons (fC (.int 1)) (aCons (fC (.int 0)) aNil)))) (gTp 3 (gsCons (gNm 4) (gsCons (gNm 5) (gsCons (gNm 6) gsNil)))))
    (sSeq (sWh false (fBool (fOp gtD (fVar 0) (fC (.int 0))))
    (sSeq (sAug false 4 iaddD (fOp mulD (fVar 5) (fOp addD (fOp mulD (fOp fdivD (fOp mulD (fOp subD (fVar 0) (fC (.int 1))) (fVar 0)) (fC (.int 2))) (fOp fdivD (fVar 1) (fVar 3))) (fOp mulD (fVar 0) (fOp fdivD (fVar 2) (fVar 3))))))
    (sSeq (sPar2 false 1 2 (aCons (fOp modD (fVar 1) (fVar 3)) (aCons (fOp modD (fVar 2) (fVar 3)) aNil)))
    (sSeq (sSet false 7 (fOp fdivD (fOp addD (fOp mulD (fVar 1) (fOp subD (fVar 0) (fC (.int 1)))) (fVar 2)) (fVar 3)))
    (sSeq (sIf false (fBool (fOp eqD (fVar 7) (fC (.int 0))))
    sBreak
    sNext)
    (sSeq (sAug false 4 iaddD (fOp mulD (fOp mulD (fVar 5) (fVar 7)) (fVar 0)))
    (sSeq (sPar2 false 5 6 (aCons (fOp subD (fC (.int 0)) (fVar 5)) (aCons (fOp addD (fVar 6) (fC (.int 1))) aNil)))
    (sAsg false (fTup (aCons (fVar 7) (aCons (fVar 3) (aCons (fOp addD (fOp subD (fOp subD (fVar 3) (fVar 2)) (fC (.int 1))) (fVar 1)) (aCons (fVar 1) aNil))))) (gTp 4 (gsCons (gNm 0) (gsCons (gNm 1) (gsCons (gNm 2) (gsCons (gNm 3) gsNil)))))))))))))
    (sRet false (fTup (aCons (fVar 4) (aCons (fVar 6) aNil))))))
def F_floors_of : FF := mkF 4 8 B_floors_of
def B_floor_sum : FS := (sSeq (sEx false (fCall F_check_floors (aCons (fVar 0) (aCons (fVar 1) (aCons (fVar 2) (aCons (fVar 3) aNil))))))
    (sRet false (fIx (fCall F_floors_of (aCons (fVar 0) (aCons (fVar 1) (aCons (fVar 2) (aCons (fVar 3) aNil))))) (fC (.int 0)))))
def F_floor_sum : FF := mkF 4 4 B_floor_sum
def B_floor_steps : FS := (sSeq (sEx false (fCall F_check_floors (aCons (fVar 0) (aCons (fVar 1) (aCons (fVar 2) (aCons (fVar 3) aNil))))))
    (sRet false (fIx (fCall F_floors_of (aCons (fVar 0) (aCons (fVar 1) (aCons (fVar 2) (aCons (fVar 3) aNil))))) (fC (.int 1)))))
def F_floor_steps : FF := mkF 4 4 B_floor_steps
def B__law_tape : FSO := (sSeqO (sSet false 1 (fLc (iSq (fSl (fVar 0) oNone (oSome (fC (.int 63))))) [2] (gNm 2) tyYes (fCB absD (aCons (fCB intD (aCons (fVar 2) aNil)) aNil)))) (fun env => (aCons (fVar 1) (aCons (fC (.int 0)) (aCons (fC (.int 0)) (aCons (fOp addD (fC (.int 31)) (fCB lenD (aCons (fVar 1) aNil))) (aCons (fC (.int 0)) aNil))))) (hide env)))
def F__law_tape : FFO := mkFO 1 3 B__law_tape
def B__law_pick : FS := (sSeq (sIf false (tyAnd (fBool (fOp eqD (fIx (fVar 0) (fC (.int 2))) (fC (.int 0)))) (fBool (fOp ltD (fIx (fVar 0) (fC (.int 1))) (fCB lenD (aCons (fIx (fVar 0) (fC (.int 0))) aNil)))))
    (sSeq (sSet false 2 (fIx (fIx (fVar 0) (fC (.int 0))) (fIx (fVar 0) (fC (.int 1)))))
    (sSeq (sTp 0 (fC (.int 1)) (fOp addD (fIx (fVar 0) (fC (.int 1))) (fC (.int 1))))
    (sSeq (sTp 0 (fC (.int 3)) (fOp modD (fCB intD (aCons (fOp addD (fOp addD (fOp mulD (fIx (fVar 0) (fC (.int 3))) (fC (.int 69621))) (fVar 2)) (fC (.int 11))) aNil)) (fC (.int 2147483629))))
    (sIf false (fBool (fOp geD (fVar 2) (fOp powD (fC (.int 10)) (fC (.int 18)))))
    (sTp 0 (fC (.int 2)) (fVar 2))
    sNext))))
    sNext)
    (sSeq (sIf false (fBool (fOp gtD (fIx (fVar 0) (fC (.int 2))) (fC (.int 0))))
    (sSeq (sSet false 3 (fOp modD (fCB intD (aCons (fIx (fVar 0) (fC (.int 2))) aNil)) (fVar 1)))
    (sSeq (sTp 0 (fC (.int 2)) (fOp fdivD (fIx (fVar 0) (fC (.int 2))) (fVar 1)))
    (sRet false (fVar 3))))
    sNext)
    (sSeq (sTp 0 (fC (.int 4)) (fOp addD (fIx (fVar 0) (fC (.int 4))) (fC (.int 1))))
    (sSeq (sSet false 4 (fOp modD (fCB intD (aCons (fOp mulD (fCB intD (aCons (fOp addD (fIx (fVar 0) (fC (.int 3))) (fOp mulD (fC (.int 7919)) (fIx (fVar 0) (fC (.int 4))))) aNil)) (fC (.int 48271))) aNil)) (fC (.int 2147483647))))
    (sSeq (sSet false 4 (fOp modD (fCB intD (aCons (fOp mulD (fVar 4) (fOp addD (fOp fdivD (fVar 4) (fC (.int 1009))) (fC (.int 69621)))) aNil)) (fC (.int 2147483647))))
    (sSeq (sSet false 4 (fOp modD (fCB intD (aCons (fOp mulD (fVar 4) (fOp addD (fOp fdivD (fVar 4) (fC (.int 2003))) (fC (.int 40692)))) aNil)) (fC (.int 2147483399))))
    (sRet false (fOp modD (fCB intD (aCons (fOp fdivD (fVar 4) (fC (.int 16))) aNil)) (fVar 1)))))))))
def F__law_pick : FF := mkF 2 5 B__law_pick
def B__law_any : FS := (sRet false (fIx (fVar 1) (fCall F__law_pick (aCons (fVar 0) (aCons (fCB lenD (aCons (fVar 1) aNil)) aNil)))))
def F__law_any : FF := mkF 2 2 B__law_any
def B__law_shared : FS := (sSeq (sPar2 false 0 1 (aCons (fCB absD (aCons (fVar 0) aNil)) (aCons (fCB absD (aCons (fVar 1) aNil)) aNil)))
    (sSeq (sWh false (fBool (fOp gtD (fVar 1) (fC (.int 0))))
    (sPar2 false 0 1 (aCons (fVar 1) (aCons (fOp modD (fCB intD (aCons (fVar 0) aNil)) (fVar 1)) aNil))))
    (sRet false (fVar 0))))
def F__law_shared : FF := mkF 2 2 B__law_shared
def Bs__law_word (a : Addr) (c : Str) : FS := (sSeq (sSet false 3 (fLst (aCons (fIsE 2 a (isT c "NoNumber")) aNil)))
    (sSeq (sSet false 1 (fIf (fBool (fOp eqS (fMt okL cntD (fVar 3) (aCons (fC (.bl true)) aNil)) (fC (.int 1)))) (fIx (fLst (aCons (fC (.str "number")) aNil)) (fMt okL idxD (fVar 3) (aCons (fC (.bl true)) aNil))) (fC (.str "other"))))
    (sIf false (tyNot (fTru (fIsE 2 a (isT c "ValueError"))))
    (sSet false 1 (fC (.str "other")))
    sNext)))
def h__law_word (c : Str) : M Fl := match ct_RatioError c with
  | some true => M.bind (Bs__law_word 0 c (exEnv 4 2 0)) (fun fl => M.ret (fl.clr 2))
  | _ => M.bad
def B__law_word (L : D) (r : M D) : FS := (sSeq (sSet false 1 (fC (.str "let")))
    (sSeq (sTry (sEx false (fAct L r)) h__law_word)
    (sRet false (fVar 1))))
def Fw__law_word : M D → M D := fun r => M.bind (B__law_word .non r (.val .non :: List.replicate 3 .non)) wend
def B__law_great_sum : FS := (sSeq (sAsg false (fTup (aCons (fC (.int 0)) (aCons (fC (.int 1)) aNil))) (gTp 2 (gsCons (gNm 4) (gsCons (gNm 5) gsNil))))
    (sSeq (sWh false (fBool (fOp gtD (fVar 0) (fC (.int 0))))
    (sSeq (sSet false 4 (fOp addD (fVar 4) (fOp mulD (fVar 5) (fOp addD (fOp mulD (fOp fdivD (fVar 1) (fVar 3)) (fOp fdivD (fOp mulD (fVar 0) (fOp subD (fVar 0) (fC (.int 1)))) (fC (.int 2)))) (fOp mulD (fOp fdivD (fVar 2) (fVar 3)) (fVar 0))))))
    (sSeq (sPar2 false 1 2 (aCons (fOp modD (fCB intD (aCons (fVar 1) aNil)) (fVar 3)) (aCons (fOp modD (fCB intD (aCons (fVar 2) aNil)) (fVar 3)) aNil)))
    (sSeq (sSet false 6 (fOp fdivD (fOp addD (fOp mulD (fVar 1) (fVar 0)) (fVar 2)) (fVar 3)))
    (sSeq (sIf false (fBool (fOp eqD (fVar 6) (fC (.int 0))))
    (sRet false (fVar 4))
    sNext)
    (sSeq (sSet false 4 (fOp addD (fVar 4) (fOp mulD (fOp mulD (fVar 5) (fVar 6)) (fVar 0))))
    (sSeq (sAsg false (fTup (aCons (fVar 6) (aCons (fVar 3) (aCons (fOp subD (fOp addD (fOp subD (fVar 3) (fVar 2)) (fVar 1)) (fC (.int 1))) (aCons (fVar 1) aNil))))) (gTp 4 (gsCons (gNm 0) (gsCons (gNm 1) (gsCons (gNm 2) (gsCons (gNm 3) gsNil))))))
    (sSet false 5 (fOp subD (fC (.int 0)) (fVar 5))))))))))
    (sRet false (fVar 4))))
def F__law_great_sum : FF := mkF 4 7 B__law_great_sum
def B__law_drawn : FS := (sSeq (sSet false 2 (fCall F__law_pick (aCons (fVar 0) (aCons (fCall F__law_any (aCons (fVar 0) (aCons (fLst (aCons (fC (.int 2)) (aCons (fC (.int 20)) (aCons (fC (.int 200)) aNil)))) aNil))) aNil))))
    (sSeq (sPar2 false 3 4 (aCons (fOp mulD (fCall F__law_pick (aCons (fVar 0) (aCons (fVar 1) aNil))) (fCall F__law_any (aCons (fVar 0) (aCons (fLst (aCons (fC (.int 1)) (aCons (fC (.int 1)) (aCons (fUn negD (fC (.int 1))) aNil)))) aNil)))) (aCons (fOp mulD (fCall F__law_pick (aCons (fVar 0) (aCons (fVar 1) aNil))) (fCall F__law_any (aCons (fVar 0) (aCons (fLst (aCons (fC (.int 1)) (aCons (fC (.int 1)) (aCons (fUn negD (fC (.int 1))) aNil)))) aNil)))) aNil)))
    (sRet false (fTup (aCons (fVar 2) (aCons (fVar 3) (aCons (fVar 4) (aCons (fOp addD (fC (.int 1)) (fCall F__law_pick (aCons (fVar 0) (aCons (fCall F__law_any (aCons (fVar 0) (aCons (fLst (aCons (fC (.int 1)) (aCons (fC (.int 12)) (aCons (fVar 1) aNil)))) aNil))) aNil)))) aNil))))))))
def F__law_drawn : FF := mkF 2 5 B__law_drawn
def B__law_pairs : FS := (sSeq (sSet false 2 (fC (.int 0)))
    (sSeq (sWh false (fBool (fOp gtD (fVar 1) (fC (.int 0))))
    (sPar3 false 0 1 2 (aCons (fVar 1) (aCons (fOp modD (fCB intD (aCons (fVar 0) aNil)) (fVar 1)) (aCons (fOp addD (fVar 2) (fC (.int 1))) aNil)))))
    (sRet false (fVar 2))))
def F__law_pairs : FF := mkF 2 3 B__law_pairs
def B__law_is_right : FS := (sSeq (sSet false 5 (fCB sumD (aCons (fLc (iRg1 (aCons (fVar 1) aNil)) [13] (gNm 13) tyYes (fOp fdivD (fOp addD (fOp mulD (fVar 2) (fVar 13)) (fVar 3)) (fVar 4))) aNil)))
    (sSeq (sIf false (fBool (fOp neD (fCB reprD (aCons (fCall F_floor_sum (aCons (fVar 1) (aCons (fVar 2) (aCons (fVar 3) (aCons (fVar 4) aNil))))) aNil)) (fCB reprD (aCons (fVar 5) aNil))))
    (sRet false (fC (.bl false)))
    sNext)
    (sSeq (sPar3 false 6 7 8 (aCons (fCall F__law_pick (aCons (fVar 0) (aCons (fOp addD (fVar 1) (fC (.int 1))) aNil))) (aCons (fOp subD (fCall F__law_pick (aCons (fVar 0) (aCons (fC (.int 7)) aNil))) (fC (.int 3))) (aCons (fOp subD (fCall F__law_pick (aCons (fVar 0) (aCons (fC (.int 7)) aNil))) (fC (.int 3))) aNil))))
    (sSeq (sIf false (fBool (fOp neD (fOp addD (fCall F_floor_sum (aCons (fVar 6) (aCons (fVar 2) (aCons (fVar 3) (aCons (fVar 4) aNil))))) (fCall F_floor_sum (aCons (fOp subD (fVar 1) (fVar 6)) (aCons (fVar 2) (aCons (fOp addD (fVar 3) (fOp mulD (fVar 2) (fVar 6))) (aCons (fVar 4) aNil)))))) (fVar 5)))
    (sRet false (fC (.bl false)))
    sNext)
    (sSeq (sIf false (fBool (fOp neD (fCall F_floor_sum (aCons (fVar 1) (aCons (fOp addD (fVar 2) (fOp mulD (fVar 7) (fVar 4))) (aCons (fOp addD (fVar 3) (fOp mulD (fVar 8) (fVar 4))) (aCons (fVar 4) aNil))))) (fOp addD (fOp addD (fVar 5) (fOp mulD (fVar 7) (fOp fdivD (fOp mulD (fVar 1) (fOp subD (fVar 1) (fC (.int 1)))) (fC (.int 2))))) (fOp mulD (fVar 8) (fVar 1)))))
    (sRet false (fC (.bl false)))
    sNext)
    (sSeq (sSet false 9 (fCall F_floor_steps (aCons (fVar 1) (aCons (fVar 2) (aCons (fVar 3) (aCons (fVar 4) aNil))))))
    (sSeq (sIf false (tyOr (fBool (fOp neD (fCB reprD (aCons (fVar 9) aNil)) (fCB reprD (aCons (fCall F_floor_steps (aCons (fVar 1) (aCons (fOp modD (fCB intD (aCons (fVar 2) aNil)) (fVar 4)) (aCons (fOp modD (fCB intD (aCons (fVar 3) aNil)) (fVar 4)) (aCons (fVar 4) aNil))))) aNil)))) (tyNot (fBool (fChain leD leD (fC (.int 0)) (fVar 9) (fOp addD (fCall F__law_pairs (aCons (fVar 2) (aCons (fVar 4) aNil))) (fC (.int 1)))))))
    (sRet false (fC (.bl false)))
    sNext)
    (sSeq (sIf false (fBool (fOp neD (fOr (fOp eqD (fVar 1) (fC (.int 0))) (fOp ltD (fOp addD (fOp mulD (fOp modD (fCB intD (aCons (fVar 2) aNil)) (fVar 4)) (fOp subD (fVar 1) (fC (.int 1)))) (fOp modD (fCB intD (aCons (fVar 3) aNil)) (fVar 4))) (fVar 4))) (fOp eqD (fVar 9) (fC (.int 0)))))
    (sRet false (fC (.bl false)))
    sNext)
    (sSeq (sPar2 false 10 11 (aCons (fOp addD (fCB absD (aCons (fVar 2) aNil)) (fC (.int 1))) (aCons (fVar 4) aNil)))
    (sSeq (sSet false 12 (fCall F_floor_sum (aCons (fVar 11) (aCons (fVar 10) (aCons (fC (.int 0)) (aCons (fVar 11) aNil))))))
    (sSeq (sIf false (fBool (fOp neD (fOp mulD (fC (.int 2)) (fVar 12)) (fOp subD (fOp addD (fOp mulD (fOp subD (fVar 10) (fC (.int 1))) (fOp subD (fVar 11) (fC (.int 1)))) (fCall F__law_shared (aCons (fVar 10) (aCons (fVar 11) aNil)))) (fC (.int 1)))))
    (sRet false (fC (.bl false)))
    sNext)
    (sRet false (fOp eqD (fVar 12) (fCall F_floor_sum (aCons (fVar 10) (aCons (fVar 11) (aCons (fC (.int 0)) (aCons (fVar 10) aNil))))))))))))))))))
def F__law_is_right : FF := mkF 5 14 B__law_is_right
def B__law_is_great_right : FS := (sSeq (sPar3 false 1 2 3 (aCons (fCall F__law_pick (aCons (fVar 0) (aCons (fOp addD (fOp powD (fC (.int 10)) (fC (.int 9))) (fC (.int 1))) aNil))) (aCons (fCall F__law_pick (aCons (fVar 0) (aCons (fOp powD (fC (.int 10)) (fC (.int 12))) aNil))) (aCons (fCall F__law_pick (aCons (fVar 0) (aCons (fOp powD (fC (.int 10)) (fC (.int 12))) aNil))) aNil))))
    (sSeq (sSet false 4 (fOp addD (fC (.int 1)) (fCall F__law_pick (aCons (fVar 0) (aCons (fOp powD (fC (.int 10)) (fC (.int 12))) aNil)))))
    (sSeq (sPar2 false 2 3 (aCons (fOp mulD (fVar 2) (fCall F__law_any (aCons (fVar 0) (aCons (fLst (aCons (fC (.int 1)) (aCons (fUn negD (fC (.int 1))) aNil))) aNil)))) (aCons (fOp mulD (fVar 3) (fCall F__law_any (aCons (fVar 0) (aCons (fLst (aCons (fC (.int 1)) (aCons (fUn negD (fC (.int 1))) aNil))) aNil)))) aNil)))
    (sSeq (sSet false 5 (fCall F_floor_sum (aCons (fVar 1) (aCons (fVar 2) (aCons (fVar 3) (aCons (fVar 4) aNil))))))
    (sSeq (sIf false (fBool (fOp neD (fVar 5) (fCall F__law_great_sum (aCons (fVar 1) (aCons (fVar 2) (aCons (fVar 3) (aCons (fVar 4) aNil)))))))
    (sRet false (fC (.bl false)))
    sNext)
    (sRet false (fOp leD (fCall F_floor_steps (aCons (fVar 1) (aCons (fVar 2) (aCons (fVar 3) (aCons (fVar 4) aNil))))) (fOp addD (fCall F__law_pairs (aCons (fCB absD (aCons (fVar 2) aNil)) (aCons (fVar 4) aNil))) (fC (.int 1))))))))))
def F__law_is_great_right : FF := mkF 1 6 B__law_is_great_right
def B__law_word_of : FS := (sRet false (fLam Fw__law_word (fCall F_floor_steps (aCons (fVar 0) (aCons (fVar 1) (aCons (fVar 2) (aCons (fVar 3) aNil)))))))
def F__law_word_of : FF := mkF 4 4 B__law_word_of
def B__law_is_refused : FS := (sSeq (sSet false 1 (fCall F__law_any (aCons (fVar 0) (aCons (fLst (aCons (fC .non) (aCons (fC (.bl true)) (aCons (fC (.str "5")) (aCons (fTup (aCons (fC (.int 5)) aNil)) (aCons (fLst (aCons (fC (.int 5)) aNil)) (aCons (fC (.dct [] [])) aNil))))))) aNil))))
    (sSeq (sAsg false (fTup (aCons (fCall F__law_any (aCons (fVar 0) (aCons (fLst (aCons (fVar 1) (aCons (fOp powD (fC (.int 10)) (fC (.int 12))) (aCons (fOp subD (fC (.int 0)) (fOp powD (fC (.int 10)) (fC (.int 12)))) aNil)))) aNil))) (aCons (fCall F__law_any (aCons (fVar 0) (aCons (fLst (aCons (fVar 1) (aCons (fUn negD (fC (.int 1))) (aCons (fOp addD (fOp powD (fC (.int 10)) (fC (.int 9))) (fC (.int 1))) aNil)))) aNil))) aNil))) (gTp 2 (gsCons (gNm 2) (gsCons (gNm 3) gsNil))))
    (sSeq (sSet false 4 (fCall F__law_any (aCons (fVar 0) (aCons (fLst (aCons (fVar 1) (aCons (fC (.int 0)) (aCons (fUn negD (fC (.int 1))) (aCons (fOp addD (fOp powD (fC (.int 10)) (fC (.int 12))) (fC (.int 1))) aNil))))) aNil))))
    (sSeq (sOwn 5 (aCons (fLam Fw__law_word (fCall F_floor_sum (aCons (fVar 3) (aCons (fC (.int 1)) (aCons (fC (.int 1)) (aCons (fC (.int 1)) aNil)))))) (aCons (fCall F__law_word_of (aCons (fC (.int 1)) (aCons (fVar 2) (aCons (fC (.int 1)) (aCons (fC (.int 1)) aNil))))) (aCons (fCall F__law_word_of (aCons (fC (.int 1)) (aCons (fC (.int 1)) (aCons (fVar 2) (aCons (fC (.int 1)) aNil))))) aNil))))
    (sSeq (sOwnU 5 (aCat (fVar 5) (fLst (aCons (fCall F__law_word_of (aCons (fC (.int 1)) (aCons (fC (.int 1)) (aCons (fC (.int 1)) (aCons (fVar 4) aNil))))) (aCons (fCall F__law_word_of (aCons (fVar 3) (aCons (fVar 2) (aCons (fVar 2) (aCons (fVar 4) aNil))))) aNil)))))
    (sSeq (sApp false 5 (fLam Fw__law_word (fCall F_floor_sum (aCons (fC (.int 1)) (aCons (fC (.int 1)) (aCons (fC (.int 1)) (aCons (fVar 4) aNil)))))))
    (sSeq (sApp false 5 (fLam Fw__law_word (fCall F_floor_sum (aCons (fC (.int 1)) (aCons (fVar 2) (aCons (fC (.int 1)) (aCons (fC (.int 1)) aNil)))))))
    (sRet true (fOp eqD (fVar 5) (fOp mulD (fLst (aCons (fC (.str "number")) aNil)) (fC (.int 7))))))))))))
def F__law_is_refused : FF := mkF 1 6 B__law_is_refused
def B_law : FS := (sSeq (sOwn 1 (fun env => M.bind ((aCons (fVar 0) aNil) env) F__law_tape)) (sMk 1
    (sSeq (sSet false 2 (fLst (aCons (fCall F_floor_sum (aCons (fC (.int 4)) (aCons (fC (.int 3)) (aCons (fC (.int 1)) (aCons (fC (.int 2)) aNil))))) (aCons (fCall F_floor_sum (aCons (fC (.int 0)) (aCons (fC (.int 5)) (aCons (fC (.int 5)) (aCons (fC (.int 5)) aNil))))) (aCons (fCall F_floor_sum (aCons (fC (.int 3)) (aCons (fUn negD (fC (.int 1))) (aCons (fC (.int 0)) (aCons (fC (.int 2)) aNil))))) (aCons (fCall F_floor_sum (aCons (fC (.int 7)) (aCons (fC (.int 5)) (aCons (fC (.int 0)) (aCons (fC (.int 7)) aNil))))) aNil))))))
    (sSeq (sIf false (tyOr (fBool (fOp neD (fVar 2) (fLst (aCons (fC (.int 10)) (aCons (fC (.int 0)) (aCons (fUn negD (fC (.int 2))) (aCons (fC (.int 12)) aNil))))))) (fBool (fOp neD (fCall F_floor_sum (aCons (fC (.int 1)) (aCons (fC (.int 0)) (aCons (fUn negD (fC (.int 3))) (aCons (fC (.int 2)) aNil))))) (fUn negD (fC (.int 2))))))
    (sRet false (fC (.bl false)))
    sNext)
    (sSeq (sFor (iRg1 (aCons (fC (.int 5)) aNil)) (gNm 3)
    (sSeq (sAsg false (fCall F__law_drawn (aCons (fVar 1) (aCons (fCall F__law_any (aCons (fVar 1) (aCons (fLst (aCons (fC (.int 10)) (aCons (fC (.int 100)) (aCons (fOp powD (fC (.int 10)) (fC (.int 6))) aNil)))) aNil))) aNil))) (gTp 4 (gsCons (gNm 4) (gsCons (gNm 5) (gsCons (gNm 6) (gsCons (gNm 7) gsNil))))))
    (sIf false (tyOr (tyNot (fTru (fCall F__law_is_right (aCons (fVar 1) (aCons (fVar 4) (aCons (fVar 5) (aCons (fVar 6) (aCons (fVar 7) aNil)))))))) (tyOr (tyNot (fTru (fCall F__law_is_great_right (aCons (fVar 1) aNil)))) (tyNot (fTru (fCall F__law_is_refused (aCons (fVar 1) aNil))))))
    (sRet false (fC (.bl false)))
    sNext)))
    (sRet false (fC (.bl true))))))))
def F_law : FF := mkF 1 8 B_law
structure Tx (K : PySem.W.Frag) (mg : Str → Option Value) (tb : List (Addr × Str)) (base : Heap) : Prop where
  d_is_integer : ∃ f fd, Fun K "is_integer" "is_integer" st_is_integer f fd ∧ mg "is_integer" = some (.ref f) ∧ Binds K fd ["thing"] []
  d_is_within : ∃ f fd, Fun K "is_within" "is_within" st_is_within f fd ∧ mg "is_within" = some (.ref f) ∧ Binds K fd ["thing", "low", "high"] []
  d_check_floors : ∃ f fd, Fun K "check_floors" "check_floors" st_check_floors f fd ∧ mg "check_floors" = some (.ref f) ∧ Binds K fd ["n", "a", "b", "m"] []
  d_floors_of : ∃ f fd, Fun K "floors_of" "floors_of" st_floors_of f fd ∧ mg "floors_of" = some (.ref f) ∧ Binds K fd ["n", "a", "b", "m"] []
  d_floor_sum : ∃ f fd, Fun K "floor_sum" "floor_sum" st_floor_sum f fd ∧ mg "floor_sum" = some (.ref f) ∧ Binds K fd ["n", "a", "b", "m"] []
  d_floor_steps : ∃ f fd, Fun K "floor_steps" "floor_steps" st_floor_steps f fd ∧ mg "floor_steps" = some (.ref f) ∧ Binds K fd ["n", "a", "b", "m"] []
  d__law_tape : ∃ f fd, Fun K "_law_tape" "_law_tape" st__law_tape f fd ∧ mg "_law_tape" = some (.ref f) ∧ Binds K fd ["script"] []
  d__law_pick : ∃ f fd, Fun K "_law_pick" "_law_pick" st__law_pick f fd ∧ mg "_law_pick" = some (.ref f) ∧ Binds K fd ["tape", "many"] []
  d__law_any : ∃ f fd, Fun K "_law_any" "_law_any" st__law_any f fd ∧ mg "_law_any" = some (.ref f) ∧ Binds K fd ["tape", "things"] []
  d__law_shared : ∃ f fd, Fun K "_law_shared" "_law_shared" st__law_shared f fd ∧ mg "_law_shared" = some (.ref f) ∧ Binds K fd ["one", "other"] []
  d__law_word : ∃ f fd, Fun K "_law_word" "_law_word" st__law_word f fd ∧ mg "_law_word" = some (.ref f) ∧ Binds K fd ["call"] []
  d__law_great_sum : ∃ f fd, Fun K "_law_great_sum" "_law_great_sum" st__law_great_sum f fd ∧ mg "_law_great_sum" = some (.ref f) ∧ Binds K fd ["n", "a", "b", "m"] []
  d__law_drawn : ∃ f fd, Fun K "_law_drawn" "_law_drawn" st__law_drawn f fd ∧ mg "_law_drawn" = some (.ref f) ∧ Binds K fd ["tape", "size"] []
  d__law_pairs : ∃ f fd, Fun K "_law_pairs" "_law_pairs" st__law_pairs f fd ∧ mg "_law_pairs" = some (.ref f) ∧ Binds K fd ["a", "m"] []
  d__law_is_right : ∃ f fd, Fun K "_law_is_right" "_law_is_right" st__law_is_right f fd ∧ mg "_law_is_right" = some (.ref f) ∧ Binds K fd ["tape", "n", "a", "b", "m"] []
  d__law_is_great_right : ∃ f fd, Fun K "_law_is_great_right" "_law_is_great_right" st__law_is_great_right f fd ∧ mg "_law_is_great_right" = some (.ref f) ∧ Binds K fd ["tape"] []
  d__law_is_refused : ∃ f fd, Fun K "_law_is_refused" "_law_is_refused" st__law_is_refused f fd ∧ mg "_law_is_refused" = some (.ref f) ∧ Binds K fd ["tape"] [] ∧ LamT mg tb base ("_law_is_refused" ++ ".<locals>.") fd.code
  d__law_word_of : ∃ f fd, Fun K "_law_word_of" "_law_word_of" st__law_word_of f fd ∧ mg "_law_word_of" = some (.ref f) ∧ Binds K fd ["n", "a", "b", "m"] [] ∧ LamT mg tb base ("_law_word_of" ++ ".<locals>.") fd.code
  d_law : ∃ f fd, Fun K "law" "law" st_law f fd ∧ mg "law" = some (.ref f) ∧ Binds K fd ["script"] []
  n_abs : mg "abs" = none
  n_bool : mg "bool" = none
  n_int : mg "int" = none
  n_isinstance : mg "isinstance" = none
  n_len : mg "len" = none
  n_range : mg "range" = none
  n_repr : mg "repr" = none
  n_sum : mg "sum" = none
  e_NoNumber : ∃ C, ErrOk K mg "NoNumber" C
  k_RatioError : ∃ CS, Cat K mg "RatioError" CS ct_RatioError
  i_all : ∀ c d b, isT c d = some b → IsEOk K mg c d b
  c_MOST_COUNT : ∃ t, mg "MOST_COUNT" = some (.int 1000000000 t)
  c_MOST_PART : ∃ t, mg "MOST_PART" = some (.int 1000000000000 t)
section
variable {P : Program} {w : World} {K : PySem.W.Frag} {mg : Str → Option Value} {tb : List (Addr × Str)} {base : Heap}
theorem ok_is_integer (T : Tx K mg tb base) : ∃ f, DefOk P w K mg tb base 1 "is_integer" f ["thing"] F_is_integer := by
  obtain ⟨f, fd, F, hm, hb⟩ := T.d_is_integer
  have n_bool := T.n_bool
  have n_int := T.n_int
  have n_isinstance := T.n_isinstance
  have nd := sc_is_integer.nd
  refine ⟨f, def_ok F hm sc_is_integer hb fun cdv hcd A outer s H E hr => ?_⟩
  exact (pfs_one (pfs_ret false (pf_and (pf_cb call_isi rc_isi (by rfl) n_isinstance bt_isinstance (pfa_cons (pf_var 0) (pfa_cons (pf_ty (by rfl) n_int bt_int) pfa_nil))) (pf_and1 (pf_not (pf_cb call_isi rc_isi (by rfl) n_isinstance bt_isinstance (pfa_cons (pf_var 0) (pfa_cons (pf_ty (by rfl) n_bool bt_bool) pfa_nil))))))))
theorem ok_is_within (T : Tx K mg tb base) : ∃ f, DefOk P w K mg tb base 2 "is_within" f ["thing", "low", "high"] F_is_within := by
  obtain ⟨f, fd, F, hm, hb⟩ := T.d_is_within
  obtain ⟨f_is_integer, ok_is_integer⟩ := ok_is_integer (P := P) (w := w) T
  have nd := sc_is_within.nd
  refine ⟨f, def_ok F hm sc_is_within hb fun cdv hcd A outer s H E hr => ?_⟩
  exact (pfs_one (pfs_ret false (pf_and (pf_call ok_is_integer (hr.mono (by decide)) passesE (by rfl) (pfa_cons (pf_var 0) pfa_nil)) (pf_and1 (pf_chain op_le rd_le op_le rd_le (pf_var 1) (pf_var 0) (pf_var 2))))))
theorem ok_check_floors (T : Tx K mg tb base) : ∃ f, DefOk P w K mg tb base 3 "check_floors" f ["n", "a", "b", "m"] F_check_floors := by
  obtain ⟨f, fd, F, hm, hb⟩ := T.d_check_floors
  obtain ⟨f_is_within, ok_is_within⟩ := ok_is_within (P := P) (w := w) T
  obtain ⟨C_NoNumber, e_NoNumber⟩ := T.e_NoNumber
  obtain ⟨t_MOST_COUNT, c_MOST_COUNT⟩ := T.c_MOST_COUNT
  obtain ⟨t_MOST_PART, c_MOST_PART⟩ := T.c_MOST_PART
  have nd := sc_check_floors.nd
  refine ⟨f, def_ok F hm sc_check_floors hb fun cdv hcd A outer s H E hr => ?_⟩
  exact (pfs_cons (pfs_if false (PW.pt (pfw_or (pft_not (pft_tru (pf_call ok_is_within (hr.mono (by decide)) passesE (by rfl) (pfa_cons (pf_var 0) (pfa_cons pf_int (pfa_cons (pf_gint (by rfl) c_MOST_COUNT ⟨_, rfl⟩) pfa_nil)))))) (pfw_or1 (pft_not (pft_tru (pf_call ok_is_within (hr.mono (by decide)) passesE (by rfl) (pfa_cons (pf_var 1) (pfa_cons (pf_op op_sub rd_sub pf_int (pf_gint (by rfl) c_MOST_PART ⟨_, rfl⟩)) (pfa_cons (pf_op op_sub rd_sub (pf_gint (by rfl) c_MOST_PART ⟨_, rfl⟩) pf_int) pfa_nil)))))))))
      (pfs_one (pfs_raise rfl takesE e_NoNumber (by rfl)))
      pfs_nil)
      (pfs_one (pfs_if false (PW.pt (pfw_or (pft_not (pft_tru (pf_call ok_is_within (hr.mono (by decide)) passesE (by rfl) (pfa_cons (pf_var 2) (pfa_cons (pf_op op_sub rd_sub pf_int (pf_gint (by rfl) c_MOST_PART ⟨_, rfl⟩)) (pfa_cons (pf_op op_sub rd_sub (pf_gint (by rfl) c_MOST_PART ⟨_, rfl⟩) pf_int) pfa_nil)))))) (pfw_or1 (pft_not (pft_tru (pf_call ok_is_within (hr.mono (by decide)) passesE (by rfl) (pfa_cons (pf_var 3) (pfa_cons pf_int (pfa_cons (pf_gint (by rfl) c_MOST_PART ⟨_, rfl⟩) pfa_nil)))))))))
      (pfs_one (pfs_raise rfl takesE e_NoNumber (by rfl)))
      pfs_nil)))
theorem ok_floors_of (T : Tx K mg tb base) : ∃ f, DefOk P w K mg tb base 1 "floors_of" f ["n", "a", "b", "m"] F_floors_of := by
  obtain ⟨f, fd, F, hm, hb⟩ := T.d_floors_of
  have nd := sc_floors_of.nd
  refine ⟨f, def_ok F hm sc_floors_of hb fun cdv hcd A outer s H E hr => ?_⟩
  exact (pfs_cons (pfs_asg false (pf_tup (pfa_cons pf_int (pfa_cons pf_int (pfa_cons pf_int pfa_nil)))) (pgd_tup rfl (pgds_cons (pgd_name 4 nd) (pgds_cons (pgd_name 5 nd) (pgds_cons (pgd_name 6 nd) pgds_nil)))))
      (pfs_cons (pfs_while false passesO (pft_cmp op_gt rd_gt (pf_var 0) pf_int (nomark _))
      (pfs_cons (pfs_aug false 4 nd iop_add rd_iadd (pf_op op_mulA rd_mul (pf_var 5) (pf_op op_addA rd_add (pf_op op_mulA rd_mul (pf_op op_fdivA rd_fdiv (pf_op op_mulA rd_mul (pf_op op_sub rd_sub (pf_var 0) pf_int) (pf_var 0)) pf_int) (pf_op op_fdivA rd_fdiv (pf_var 1) (pf_var 3))) (pf_op op_mulA rd_mul (pf_var 0) (pf_op op_fdivA rd_fdiv (pf_var 2) (pf_var 3))))))
      (pfs_cons (pfs_par2 false 1 2 rfl nd (pfa_cons (pf_op op_modN rd_mod (pf_var 1) (pf_var 3)) (pfa_cons (pf_op op_modN rd_mod (pf_var 2) (pf_var 3)) pfa_nil)))
      (pfs_cons (pfs_set false 7 nd (pf_op op_fdivA rd_fdiv (pf_op op_addA rd_add (pf_op op_mulA rd_mul (pf_var 1) (pf_op op_sub rd_sub (pf_var 0) pf_int)) (pf_var 2)) (pf_var 3)))
      (pfs_cons (pfs_if false (pft_cmp (op_eqA hr.units) rd_eq (pf_var 7) pf_int (nomark _))
      (pfs_one pfs_break)
      pfs_nil)
      (pfs_cons (pfs_aug false 4 nd iop_add rd_iadd (pf_op op_mulA rd_mul (pf_op op_mulA rd_mul (pf_var 5) (pf_var 7)) (pf_var 0)))
      (pfs_cons (pfs_par2 false 5 6 rfl nd (pfa_cons (pf_op op_sub rd_sub pf_int (pf_var 5)) (pfa_cons (pf_op op_addA rd_add (pf_var 6) pf_int) pfa_nil)))
      (pfs_one (pfs_asg false (pf_tup (pfa_cons (pf_var 7) (pfa_cons (pf_var 3) (pfa_cons (pf_op op_addA rd_add (pf_op op_sub rd_sub (pf_op op_sub rd_sub (pf_var 3) (pf_var 2)) pf_int) (pf_var 1)) (pfa_cons (pf_var 1) pfa_nil))))) (pgd_tup rfl (pgds_cons (pgd_name 0 nd) (pgds_cons (pgd_name 1 nd) (pgds_cons (pgd_name 2 nd) (pgds_cons (pgd_name 3 nd) pgds_nil))))))))))))))
      (pfs_one (pfs_ret false (pf_tup (pfa_cons (pf_var 4) (pfa_cons (pf_var 6) pfa_nil)))))))
theorem ok_floor_sum (T : Tx K mg tb base) : ∃ f, DefOk P w K mg tb base 4 "floor_sum" f ["n", "a", "b", "m"] F_floor_sum := by
  obtain ⟨f, fd, F, hm, hb⟩ := T.d_floor_sum
  obtain ⟨f_check_floors, ok_check_floors⟩ := ok_check_floors (P := P) (w := w) T
  obtain ⟨f_floors_of, ok_floors_of⟩ := ok_floors_of (P := P) (w := w) T
  have nd := sc_floor_sum.nd
  refine ⟨f, def_ok F hm sc_floor_sum hb fun cdv hcd A outer s H E hr => ?_⟩
  exact (pfs_cons (pfs_expr false (pf_call ok_check_floors (hr.mono (by decide)) passesE (by rfl) (pfa_cons (pf_var 0) (pfa_cons (pf_var 1) (pfa_cons (pf_var 2) (pfa_cons (pf_var 3) pfa_nil))))))
      (pfs_one (pfs_ret false (pf_ix (pf_call ok_floors_of (hr.mono (by decide)) passesE (by rfl) (pfa_cons (pf_var 0) (pfa_cons (pf_var 1) (pfa_cons (pf_var 2) (pfa_cons (pf_var 3) pfa_nil))))) pf_int))))
theorem ok_floor_steps (T : Tx K mg tb base) : ∃ f, DefOk P w K mg tb base 4 "floor_steps" f ["n", "a", "b", "m"] F_floor_steps := by
  obtain ⟨f, fd, F, hm, hb⟩ := T.d_floor_steps
  obtain ⟨f_check_floors, ok_check_floors⟩ := ok_check_floors (P := P) (w := w) T
  obtain ⟨f_floors_of, ok_floors_of⟩ := ok_floors_of (P := P) (w := w) T
  have nd := sc_floor_steps.nd
  refine ⟨f, def_ok F hm sc_floor_steps hb fun cdv hcd A outer s H E hr => ?_⟩
  exact (pfs_cons (pfs_expr false (pf_call ok_check_floors (hr.mono (by decide)) passesE (by rfl) (pfa_cons (pf_var 0) (pfa_cons (pf_var 1) (pfa_cons (pf_var 2) (pfa_cons (pf_var 3) pfa_nil))))))
      (pfs_one (pfs_ret false (pf_ix (pf_call ok_floors_of (hr.mono (by decide)) passesE (by rfl) (pfa_cons (pf_var 0) (pfa_cons (pf_var 1) (pfa_cons (pf_var 2) (pfa_cons (pf_var 3) pfa_nil))))) pf_int))))
theorem ok__law_tape (T : Tx K mg tb base) : ∃ f, DefOw P w K mg tb base 1 "_law_tape" f ["script"] F__law_tape := by
  obtain ⟨f, fd, F, hm, hb⟩ := T.d__law_tape
  have n_abs := T.n_abs
  have n_int := T.n_int
  have n_len := T.n_len
  have nd := sc__law_tape.nd
  refine ⟨f, def_ow F hm sc__law_tape hb fun cdv hcd A outer s H E hr => ?_⟩
  exact (pfso_cons (pfs_setLc false (i := 1) (own := [("cell", 2)]) rfl nd rfl rfl (sw_true rfl rfl rfl (by decide +kernel)) (pfi_seq (pf_sl (pf_var 0) pfo_none (pfo_some pf_int))) (blkOk_by (own := [("cell", 2)]) (N := ns__law_tape) (sc := defScope st__law_tape) (by decide +kernel)) (fun _ _ _ _ _ => (pgd_name 2 nd)) (fun _ _ _ _ _ => pfts_nil) (fun _ _ _ _ _ => (pf_cb call_abs rc_abs (by rfl) n_abs bt_abs (pfa_cons (pf_ct call_int1 rc_int (by rfl) n_int bt_int (pfa_cons (pf_var 2) pfa_nil)) pfa_nil))) (GIn.nm (by decide))) (pfso_ret (pfl_lst (pfa_cons (pf_var 1) (pfa_cons pf_int (pfa_cons pf_int (pfa_cons (pf_op op_addA rd_add pf_int (pf_cb call_len rc_len (by rfl) n_len bt_len (pfa_cons (pf_var 1) pfa_nil))) (pfa_cons pf_int pfa_nil))))))))
theorem ok__law_pick (T : Tx K mg tb base) : ∃ f, DefOk P w K mg tb base 1 "_law_pick" f ["tape", "many"] F__law_pick := by
  obtain ⟨f, fd, F, hm, hb⟩ := T.d__law_pick
  have n_int := T.n_int
  have n_len := T.n_len
  have nd := sc__law_pick.nd
  refine ⟨f, def_ok F hm sc__law_pick hb fun cdv hcd A outer s H E hr => ?_⟩
  exact (pfs_cons (pfs_if false (PW.pt (pfw_and (pft_cmp (op_eqA hr.units) rd_eq (pf_ix (pf_var 0) pf_int) pf_int (nomark _)) (pfw_and1 (pft_cmp (op_ltA hr.units0) rd_lt (pf_ix (pf_var 0) pf_int) (pf_cb call_len rc_len (by rfl) n_len bt_len (pfa_cons (pf_ix (pf_var 0) pf_int) pfa_nil)) (nomark _)))))
      (pfs_cons (pfs_set false 2 nd (pf_ix (pf_ix (pf_var 0) pf_int) (pf_ix (pf_var 0) pf_int)))
      (pfs_cons (pfs_tape 0 (pf_op op_addA rd_add (pf_ix (pf_var 0) pf_int) pf_int) pf_int)
      (pfs_cons (pfs_tape 0 (pf_op op_modN rd_mod (pf_ct call_int1 rc_int (by rfl) n_int bt_int (pfa_cons (pf_op op_addA rd_add (pf_op op_addA rd_add (pf_op op_mulA rd_mul (pf_ix (pf_var 0) pf_int) pf_int) (pf_var 2)) pf_int) pfa_nil)) pf_int) pf_int)
      (pfs_one (pfs_if false (pft_cmp op_ge rd_ge (pf_var 2) (pf_op op_pow rd_pow pf_int pf_int) (nomark _))
      (pfs_one (pfs_tape 0 (pf_var 2) pf_int))
      pfs_nil)))))
      pfs_nil)
      (pfs_cons (pfs_if false (pft_cmp op_gt rd_gt (pf_ix (pf_var 0) pf_int) pf_int (nomark _))
      (pfs_cons (pfs_set false 3 nd (pf_op op_modN rd_mod (pf_ct call_int1 rc_int (by rfl) n_int bt_int (pfa_cons (pf_ix (pf_var 0) pf_int) pfa_nil)) (pf_var 1)))
      (pfs_cons (pfs_tape 0 (pf_op op_fdivA rd_fdiv (pf_ix (pf_var 0) pf_int) (pf_var 1)) pf_int)
      (pfs_one (pfs_ret false (pf_var 3)))))
      pfs_nil)
      (pfs_cons (pfs_tape 0 (pf_op op_addA rd_add (pf_ix (pf_var 0) pf_int) pf_int) pf_int)
      (pfs_cons (pfs_set false 4 nd (pf_op op_modN rd_mod (pf_ct call_int1 rc_int (by rfl) n_int bt_int (pfa_cons (pf_op op_mulA rd_mul (pf_ct call_int1 rc_int (by rfl) n_int bt_int (pfa_cons (pf_op op_addA rd_add (pf_ix (pf_var 0) pf_int) (pf_op op_mulA rd_mul pf_int (pf_ix (pf_var 0) pf_int))) pfa_nil)) pf_int) pfa_nil)) pf_int))
      (pfs_cons (pfs_set false 4 nd (pf_op op_modN rd_mod (pf_ct call_int1 rc_int (by rfl) n_int bt_int (pfa_cons (pf_op op_mulA rd_mul (pf_var 4) (pf_op op_addA rd_add (pf_op op_fdivA rd_fdiv (pf_var 4) pf_int) pf_int)) pfa_nil)) pf_int))
      (pfs_cons (pfs_set false 4 nd (pf_op op_modN rd_mod (pf_ct call_int1 rc_int (by rfl) n_int bt_int (pfa_cons (pf_op op_mulA rd_mul (pf_var 4) (pf_op op_addA rd_add (pf_op op_fdivA rd_fdiv (pf_var 4) pf_int) pf_int)) pfa_nil)) pf_int))
      (pfs_one (pfs_ret false (pf_op op_modN rd_mod (pf_ct call_int1 rc_int (by rfl) n_int bt_int (pfa_cons (pf_op op_fdivA rd_fdiv (pf_var 4) pf_int) pfa_nil)) (pf_var 1))))))))))
theorem ok__law_any (T : Tx K mg tb base) : ∃ f, DefOk P w K mg tb base 2 "_law_any" f ["tape", "things"] F__law_any := by
  obtain ⟨f, fd, F, hm, hb⟩ := T.d__law_any
  obtain ⟨f__law_pick, ok__law_pick⟩ := ok__law_pick (P := P) (w := w) T
  have n_len := T.n_len
  have nd := sc__law_any.nd
  refine ⟨f, def_ok F hm sc__law_any hb fun cdv hcd A outer s H E hr => ?_⟩
  exact (pfs_one (pfs_ret false (pf_ix (pf_var 1) (pf_call ok__law_pick (hr.mono (by decide)) passesE (by rfl) (pfa_cons (pf_var 0) (pfa_cons (pf_cb call_len rc_len (by rfl) n_len bt_len (pfa_cons (pf_var 1) pfa_nil)) pfa_nil))))))
theorem ok__law_shared (T : Tx K mg tb base) : ∃ f, DefOk P w K mg tb base 1 "_law_shared" f ["one", "other"] F__law_shared := by
  obtain ⟨f, fd, F, hm, hb⟩ := T.d__law_shared
  have n_abs := T.n_abs
  have n_int := T.n_int
  have nd := sc__law_shared.nd
  refine ⟨f, def_ok F hm sc__law_shared hb fun cdv hcd A outer s H E hr => ?_⟩
  exact (pfs_cons (pfs_par2 false 0 1 rfl nd (pfa_cons (pf_cb call_abs rc_abs (by rfl) n_abs bt_abs (pfa_cons (pf_var 0) pfa_nil)) (pfa_cons (pf_cb call_abs rc_abs (by rfl) n_abs bt_abs (pfa_cons (pf_var 1) pfa_nil)) pfa_nil)))
      (pfs_cons (pfs_while false passesO (pft_cmp op_gt rd_gt (pf_var 1) pf_int (nomark _))
      (pfs_one (pfs_par2 false 0 1 rfl nd (pfa_cons (pf_var 1) (pfa_cons (pf_op op_modN rd_mod (pf_ct call_int1 rc_int (by rfl) n_int bt_int (pfa_cons (pf_var 0) pfa_nil)) (pf_var 1)) pfa_nil)))))
      (pfs_one (pfs_ret false (pf_var 0)))))
theorem hh__law_word : ∀ a c T, h__law_word c T ≠ none → ct_RatioError c = some true ∧ M.bind (Bs__law_word a c (exEnv 4 2 a)) (fun fl => M.ret (fl.clr 2)) T = h__law_word c T := by
  intro a c T h
  cases hc : ct_RatioError c with
  | none => exact absurd (by simp only [h__law_word, hc]; rfl) h
  | some b => cases b with
    | false => exact absurd (by simp only [h__law_word, hc]; rfl) h
    | true =>
      refine ⟨rfl, ?_⟩
      simp only [h__law_word, hc]
      by_cases e0 : c = "NoNumber"
      · subst e0
        simp [Bs__law_word, sTry, sEx, sSeq, sSet, sIf, sNext, sRet, runX, runR, hide, frz, Sv.hide, exEnv, fLst, fTup, fC, fVar, fIsE, fMt, fIf, fIx, fOp, fBool, fTru, tyNot, tyAnd, tyOr, aCons, aNil, fNot, fAnd, fOr, M.bind, M.ret, M.bad, M.of, M.look, Fl.clr, wend, isT, List.replicate, List.set, cntD, idxD, flDs, flD, fndV, itemsD, okL, eqV, eqS, L2.atI, L2.ixN, blD, truD, toPy]
      exact absurd hc (by simp [ct_RatioError, e0])
theorem hw__law_word : ∀ L r T, M.bind (B__law_word L r (.val L :: List.replicate (ns__law_word.length - 1) .non)) wend T = Fw__law_word r T := by
  intro L r T
  rcases hr : r T with _ | (⟨a, T2⟩ | ⟨c, T2⟩) <;> simp [Fw__law_word, B__law_word, sSeq, sSet, sTry, sEx, sRet, runX, runR, fVar, hide, Sv.hide, fAct, fC, M.bind, M.ret, hr]
theorem ok__law_word (T : Tx K mg tb base) : WordOk P w K mg tb base "_law_word" "call" Fw__law_word := by
  obtain ⟨f, fd, F, hm, hb⟩ := T.d__law_word
  refine ⟨st__law_word, f, fd, ns__law_word, F, hm, hb, sc__law_word, rfl, by first | exact Or.inl rfl | exact Or.inr (Or.inl rfl), fun X q h1 h2 h3 h4 h5 => ?_⟩
  subst h1 h2 h3 h4 h5
  obtain ⟨CS_RatioError, c_RatioError⟩ := T.k_RatioError
  have n_isinstance := T.n_isinstance
  have nd := sc__law_word.nd
  exact gives rfl (fun s H L r act => (pfs_cons (pfs_set false 1 nd pf_str)
      (pfs_cons (pfs_try_as (tab := ct_RatioError) (h := h__law_word) (B := Bs__law_word) 2 rfl rfl nd rfl rfl (by rfl) c_RatioError LamX.takes0 (fun W pn xe tk _ => pfs_one (pfs_expr false (act W pn xe _ _ tk))) (fun a oe c Cc pn hc ht hz hf => (pfs_cons (pfs_set false 3 nd (pf_lst (pfa_cons (pf_isE 2 T.i_all hc hz hf (by rfl) n_isinstance (by rfl)) pfa_nil)))
      (pfs_cons (pfs_set false 1 nd (pf_if (pft_cmp op_eq rd_eqS (pf_bm PySem.F.plainAttrs_list PySem.F.slot_list_count PySem.F.type_list_count mt_cntF rm_cnt rty_list (pf_var 3) (pfa_cons pf_bl pfa_nil)) pf_int (nomark _)) (pf_ix (pf_lst (pfa_cons pf_str pfa_nil)) (pf_bm PySem.F.plainAttrs_list PySem.F.slot_list_index PySem.F.type_list_index mt_index rm_idx rty_list (pf_var 3) (pfa_cons pf_bl pfa_nil))) pf_str))
      (pfs_one (pfs_if false (pft_not (pft_tru (pf_isE 2 T.i_all hc hz hf (by rfl) n_isinstance (by rfl))))
      (pfs_one (pfs_set false 1 nd pf_str))
      pfs_nil))))) hh__law_word)
      (pfs_one (pfs_ret false (pf_var 1)))))) hw__law_word
theorem ok__law_great_sum (T : Tx K mg tb base) : ∃ f, DefOk P w K mg tb base 1 "_law_great_sum" f ["n", "a", "b", "m"] F__law_great_sum := by
  obtain ⟨f, fd, F, hm, hb⟩ := T.d__law_great_sum
  have n_int := T.n_int
  have nd := sc__law_great_sum.nd
  refine ⟨f, def_ok F hm sc__law_great_sum hb fun cdv hcd A outer s H E hr => ?_⟩
  exact (pfs_cons (pfs_asg false (pf_tup (pfa_cons pf_int (pfa_cons pf_int pfa_nil))) (pgd_tup rfl (pgds_cons (pgd_name 4 nd) (pgds_cons (pgd_name 5 nd) pgds_nil))))
      (pfs_cons (pfs_while false passesO (pft_cmp op_gt rd_gt (pf_var 0) pf_int (nomark _))
      (pfs_cons (pfs_set false 4 nd (pf_op op_addA rd_add (pf_var 4) (pf_op op_mulA rd_mul (pf_var 5) (pf_op op_addA rd_add (pf_op op_mulA rd_mul (pf_op op_fdivA rd_fdiv (pf_var 1) (pf_var 3)) (pf_op op_fdivA rd_fdiv (pf_op op_mulA rd_mul (pf_var 0) (pf_op op_sub rd_sub (pf_var 0) pf_int)) pf_int)) (pf_op op_mulA rd_mul (pf_op op_fdivA rd_fdiv (pf_var 2) (pf_var 3)) (pf_var 0))))))
      (pfs_cons (pfs_par2 false 1 2 rfl nd (pfa_cons (pf_op op_modN rd_mod (pf_ct call_int1 rc_int (by rfl) n_int bt_int (pfa_cons (pf_var 1) pfa_nil)) (pf_var 3)) (pfa_cons (pf_op op_modN rd_mod (pf_ct call_int1 rc_int (by rfl) n_int bt_int (pfa_cons (pf_var 2) pfa_nil)) (pf_var 3)) pfa_nil)))
      (pfs_cons (pfs_set false 6 nd (pf_op op_fdivA rd_fdiv (pf_op op_addA rd_add (pf_op op_mulA rd_mul (pf_var 1) (pf_var 0)) (pf_var 2)) (pf_var 3)))
      (pfs_cons (pfs_if false (pft_cmp (op_eqA hr.units) rd_eq (pf_var 6) pf_int (nomark _))
      (pfs_one (pfs_ret false (pf_var 4)))
      pfs_nil)
      (pfs_cons (pfs_set false 4 nd (pf_op op_addA rd_add (pf_var 4) (pf_op op_mulA rd_mul (pf_op op_mulA rd_mul (pf_var 5) (pf_var 6)) (pf_var 0))))
      (pfs_cons (pfs_asg false (pf_tup (pfa_cons (pf_var 6) (pfa_cons (pf_var 3) (pfa_cons (pf_op op_sub rd_sub (pf_op op_addA rd_add (pf_op op_sub rd_sub (pf_var 3) (pf_var 2)) (pf_var 1)) pf_int) (pfa_cons (pf_var 1) pfa_nil))))) (pgd_tup rfl (pgds_cons (pgd_name 0 nd) (pgds_cons (pgd_name 1 nd) (pgds_cons (pgd_name 2 nd) (pgds_cons (pgd_name 3 nd) pgds_nil))))))
      (pfs_one (pfs_set false 5 nd (pf_op op_sub rd_sub pf_int (pf_var 5)))))))))))
      (pfs_one (pfs_ret false (pf_var 4)))))
theorem ok__law_drawn (T : Tx K mg tb base) : ∃ f, DefOk P w K mg tb base 3 "_law_drawn" f ["tape", "size"] F__law_drawn := by
  obtain ⟨f, fd, F, hm, hb⟩ := T.d__law_drawn
  obtain ⟨f__law_any, ok__law_any⟩ := ok__law_any (P := P) (w := w) T
  obtain ⟨f__law_pick, ok__law_pick⟩ := ok__law_pick (P := P) (w := w) T
  have nd := sc__law_drawn.nd
  refine ⟨f, def_ok F hm sc__law_drawn hb fun cdv hcd A outer s H E hr => ?_⟩
  exact (pfs_cons (pfs_set false 2 nd (pf_call ok__law_pick (hr.mono (by decide)) passesE (by rfl) (pfa_cons (pf_var 0) (pfa_cons (pf_call ok__law_any (hr.mono (by decide)) passesE (by rfl) (pfa_cons (pf_var 0) (pfa_cons (pf_lst (pfa_cons pf_int (pfa_cons pf_int (pfa_cons pf_int pfa_nil)))) pfa_nil))) pfa_nil))))
      (pfs_cons (pfs_par2 false 3 4 rfl nd (pfa_cons (pf_op op_mulA rd_mul (pf_call ok__law_pick (hr.mono (by decide)) passesE (by rfl) (pfa_cons (pf_var 0) (pfa_cons (pf_var 1) pfa_nil))) (pf_call ok__law_any (hr.mono (by decide)) passesE (by rfl) (pfa_cons (pf_var 0) (pfa_cons (pf_lst (pfa_cons pf_int (pfa_cons pf_int (pfa_cons (pf_neg pf_int) pfa_nil)))) pfa_nil)))) (pfa_cons (pf_op op_mulA rd_mul (pf_call ok__law_pick (hr.mono (by decide)) passesE (by rfl) (pfa_cons (pf_var 0) (pfa_cons (pf_var 1) pfa_nil))) (pf_call ok__law_any (hr.mono (by decide)) passesE (by rfl) (pfa_cons (pf_var 0) (pfa_cons (pf_lst (pfa_cons pf_int (pfa_cons pf_int (pfa_cons (pf_neg pf_int) pfa_nil)))) pfa_nil)))) pfa_nil)))
      (pfs_one (pfs_ret false (pf_tup (pfa_cons (pf_var 2) (pfa_cons (pf_var 3) (pfa_cons (pf_var 4) (pfa_cons (pf_op op_addA rd_add pf_int (pf_call ok__law_pick (hr.mono (by decide)) passesE (by rfl) (pfa_cons (pf_var 0) (pfa_cons (pf_call ok__law_any (hr.mono (by decide)) passesE (by rfl) (pfa_cons (pf_var 0) (pfa_cons (pf_lst (pfa_cons pf_int (pfa_cons pf_int (pfa_cons (pf_var 1) pfa_nil)))) pfa_nil))) pfa_nil)))) pfa_nil)))))))))
theorem ok__law_pairs (T : Tx K mg tb base) : ∃ f, DefOk P w K mg tb base 1 "_law_pairs" f ["a", "m"] F__law_pairs := by
  obtain ⟨f, fd, F, hm, hb⟩ := T.d__law_pairs
  have n_int := T.n_int
  have nd := sc__law_pairs.nd
  refine ⟨f, def_ok F hm sc__law_pairs hb fun cdv hcd A outer s H E hr => ?_⟩
  exact (pfs_cons (pfs_set false 2 nd pf_int)
      (pfs_cons (pfs_while false passesO (pft_cmp op_gt rd_gt (pf_var 1) pf_int (nomark _))
      (pfs_one (pfs_par3 false 0 1 2 rfl nd (pfa_cons (pf_var 1) (pfa_cons (pf_op op_modN rd_mod (pf_ct call_int1 rc_int (by rfl) n_int bt_int (pfa_cons (pf_var 0) pfa_nil)) (pf_var 1)) (pfa_cons (pf_op op_addA rd_add (pf_var 2) pf_int) pfa_nil))))))
      (pfs_one (pfs_ret false (pf_var 2)))))
theorem ok__law_is_right (T : Tx K mg tb base) : ∃ f, DefOk P w K mg tb base 5 "_law_is_right" f ["tape", "n", "a", "b", "m"] F__law_is_right := by
  obtain ⟨f, fd, F, hm, hb⟩ := T.d__law_is_right
  obtain ⟨f__law_pairs, ok__law_pairs⟩ := ok__law_pairs (P := P) (w := w) T
  obtain ⟨f__law_pick, ok__law_pick⟩ := ok__law_pick (P := P) (w := w) T
  obtain ⟨f__law_shared, ok__law_shared⟩ := ok__law_shared (P := P) (w := w) T
  obtain ⟨f_floor_steps, ok_floor_steps⟩ := ok_floor_steps (P := P) (w := w) T
  obtain ⟨f_floor_sum, ok_floor_sum⟩ := ok_floor_sum (P := P) (w := w) T
  have n_abs := T.n_abs
  have n_int := T.n_int
  have n_range := T.n_range
  have n_repr := T.n_repr
  have n_sum := T.n_sum
  have nd := sc__law_is_right.nd
  refine ⟨f, def_ok F hm sc__law_is_right hb fun cdv hcd A outer s H E hr => ?_⟩
  exact (pfs_cons (pfs_set false 5 nd (pf_cb (cr_sum rfl) rc_sum (by rfl) n_sum bt_sum (pfa_cons (pf_lc (own := [("i", 13)]) rfl nd (pfi_range1 (by rfl) n_range (pfa_cons (pf_var 1) pfa_nil)) (blkOk_by (own := [("i", 13)]) (N := ns__law_is_right) (sc := defScope st__law_is_right) (by decide +kernel)) (fun _ _ _ _ _ => (pgd_name 13 nd)) (fun _ _ _ _ _ => pfts_nil) (fun _ _ _ _ _ => (pf_op op_fdivA rd_fdiv (pf_op op_addA rd_add (pf_op op_mulA rd_mul (pf_var 2) (pf_var 13)) (pf_var 3)) (pf_var 4))) (GIn.nm (by decide))) pfa_nil)))
      (pfs_cons (pfs_if false (pft_cmp (op_neA hr.units) rd_ne (pf_cb SkE.call_repr_int rc_repr (by rfl) n_repr bt_repr (pfa_cons (pf_call ok_floor_sum (hr.mono (by decide)) passesE (by rfl) (pfa_cons (pf_var 1) (pfa_cons (pf_var 2) (pfa_cons (pf_var 3) (pfa_cons (pf_var 4) pfa_nil))))) pfa_nil)) (pf_cb SkE.call_repr_int rc_repr (by rfl) n_repr bt_repr (pfa_cons (pf_var 5) pfa_nil)) (nomark _))
      (pfs_one (pfs_ret false pf_bl))
      pfs_nil)
      (pfs_cons (pfs_par3 false 6 7 8 rfl nd (pfa_cons (pf_call ok__law_pick (hr.mono (by decide)) passesE (by rfl) (pfa_cons (pf_var 0) (pfa_cons (pf_op op_addA rd_add (pf_var 1) pf_int) pfa_nil))) (pfa_cons (pf_op op_sub rd_sub (pf_call ok__law_pick (hr.mono (by decide)) passesE (by rfl) (pfa_cons (pf_var 0) (pfa_cons pf_int pfa_nil))) pf_int) (pfa_cons (pf_op op_sub rd_sub (pf_call ok__law_pick (hr.mono (by decide)) passesE (by rfl) (pfa_cons (pf_var 0) (pfa_cons pf_int pfa_nil))) pf_int) pfa_nil))))
      (pfs_cons (pfs_if false (pft_cmp (op_neA hr.units) rd_ne (pf_op op_addA rd_add (pf_call ok_floor_sum (hr.mono (by decide)) passesE (by rfl) (pfa_cons (pf_var 6) (pfa_cons (pf_var 2) (pfa_cons (pf_var 3) (pfa_cons (pf_var 4) pfa_nil))))) (pf_call ok_floor_sum (hr.mono (by decide)) passesE (by rfl) (pfa_cons (pf_op op_sub rd_sub (pf_var 1) (pf_var 6)) (pfa_cons (pf_var 2) (pfa_cons (pf_op op_addA rd_add (pf_var 3) (pf_op op_mulA rd_mul (pf_var 2) (pf_var 6))) (pfa_cons (pf_var 4) pfa_nil)))))) (pf_var 5) (nomark _))
      (pfs_one (pfs_ret false pf_bl))
      pfs_nil)
      (pfs_cons (pfs_if false (pft_cmp (op_neA hr.units) rd_ne (pf_call ok_floor_sum (hr.mono (by decide)) passesE (by rfl) (pfa_cons (pf_var 1) (pfa_cons (pf_op op_addA rd_add (pf_var 2) (pf_op op_mulA rd_mul (pf_var 7) (pf_var 4))) (pfa_cons (pf_op op_addA rd_add (pf_var 3) (pf_op op_mulA rd_mul (pf_var 8) (pf_var 4))) (pfa_cons (pf_var 4) pfa_nil))))) (pf_op op_addA rd_add (pf_op op_addA rd_add (pf_var 5) (pf_op op_mulA rd_mul (pf_var 7) (pf_op op_fdivA rd_fdiv (pf_op op_mulA rd_mul (pf_var 1) (pf_op op_sub rd_sub (pf_var 1) pf_int)) pf_int))) (pf_op op_mulA rd_mul (pf_var 8) (pf_var 1))) (nomark _))
      (pfs_one (pfs_ret false pf_bl))
      pfs_nil)
      (pfs_cons (pfs_set false 9 nd (pf_call ok_floor_steps (hr.mono (by decide)) passesE (by rfl) (pfa_cons (pf_var 1) (pfa_cons (pf_var 2) (pfa_cons (pf_var 3) (pfa_cons (pf_var 4) pfa_nil))))))
      (pfs_cons (pfs_if false (PW.pt (pfw_or (pft_cmp (op_neA hr.units) rd_ne (pf_cb SkE.call_repr_int rc_repr (by rfl) n_repr bt_repr (pfa_cons (pf_var 9) pfa_nil)) (pf_cb SkE.call_repr_int rc_repr (by rfl) n_repr bt_repr (pfa_cons (pf_call ok_floor_steps (hr.mono (by decide)) passesE (by rfl) (pfa_cons (pf_var 1) (pfa_cons (pf_op op_modN rd_mod (pf_ct call_int1 rc_int (by rfl) n_int bt_int (pfa_cons (pf_var 2) pfa_nil)) (pf_var 4)) (pfa_cons (pf_op op_modN rd_mod (pf_ct call_int1 rc_int (by rfl) n_int bt_int (pfa_cons (pf_var 3) pfa_nil)) (pf_var 4)) (pfa_cons (pf_var 4) pfa_nil))))) pfa_nil)) (nomark _)) (pfw_or1 (pft_not (pft_chain op_le rd_le op_le rd_le pf_int (pf_var 9) (pf_op op_addA rd_add (pf_call ok__law_pairs (hr.mono (by decide)) passesE (by rfl) (pfa_cons (pf_var 2) (pfa_cons (pf_var 4) pfa_nil))) pf_int))))))
      (pfs_one (pfs_ret false pf_bl))
      pfs_nil)
      (pfs_cons (pfs_if false (pft_cmp (op_neA hr.units) rd_ne (pf_or (pf_cmp (op_eqA hr.units) rd_eq (pf_var 1) pf_int (nomark _)) (pf_and1 (pf_cmp (op_ltA hr.units0) rd_lt (pf_op op_addA rd_add (pf_op op_mulA rd_mul (pf_op op_modN rd_mod (pf_ct call_int1 rc_int (by rfl) n_int bt_int (pfa_cons (pf_var 2) pfa_nil)) (pf_var 4)) (pf_op op_sub rd_sub (pf_var 1) pf_int)) (pf_op op_modN rd_mod (pf_ct call_int1 rc_int (by rfl) n_int bt_int (pfa_cons (pf_var 3) pfa_nil)) (pf_var 4))) (pf_var 4) (nomark _)))) (pf_cmp (op_eqA hr.units) rd_eq (pf_var 9) pf_int (nomark _)) (nomark _))
      (pfs_one (pfs_ret false pf_bl))
      pfs_nil)
      (pfs_cons (pfs_par2 false 10 11 rfl nd (pfa_cons (pf_op op_addA rd_add (pf_cb call_abs rc_abs (by rfl) n_abs bt_abs (pfa_cons (pf_var 2) pfa_nil)) pf_int) (pfa_cons (pf_var 4) pfa_nil)))
      (pfs_cons (pfs_set false 12 nd (pf_call ok_floor_sum (hr.mono (by decide)) passesE (by rfl) (pfa_cons (pf_var 11) (pfa_cons (pf_var 10) (pfa_cons pf_int (pfa_cons (pf_var 11) pfa_nil))))))
      (pfs_cons (pfs_if false (pft_cmp (op_neA hr.units) rd_ne (pf_op op_mulA rd_mul pf_int (pf_var 12)) (pf_op op_sub rd_sub (pf_op op_addA rd_add (pf_op op_mulA rd_mul (pf_op op_sub rd_sub (pf_var 10) pf_int) (pf_op op_sub rd_sub (pf_var 11) pf_int)) (pf_call ok__law_shared (hr.mono (by decide)) passesE (by rfl) (pfa_cons (pf_var 10) (pfa_cons (pf_var 11) pfa_nil)))) pf_int) (nomark _))
      (pfs_one (pfs_ret false pf_bl))
      pfs_nil)
      (pfs_one (pfs_ret false (pf_cmp (op_eqA hr.units) rd_eq (pf_var 12) (pf_call ok_floor_sum (hr.mono (by decide)) passesE (by rfl) (pfa_cons (pf_var 10) (pfa_cons (pf_var 11) (pfa_cons pf_int (pfa_cons (pf_var 10) pfa_nil))))) (nomark _)))))))))))))))
theorem ok__law_is_great_right (T : Tx K mg tb base) : ∃ f, DefOk P w K mg tb base 5 "_law_is_great_right" f ["tape"] F__law_is_great_right := by
  obtain ⟨f, fd, F, hm, hb⟩ := T.d__law_is_great_right
  obtain ⟨f__law_any, ok__law_any⟩ := ok__law_any (P := P) (w := w) T
  obtain ⟨f__law_great_sum, ok__law_great_sum⟩ := ok__law_great_sum (P := P) (w := w) T
  obtain ⟨f__law_pairs, ok__law_pairs⟩ := ok__law_pairs (P := P) (w := w) T
  obtain ⟨f__law_pick, ok__law_pick⟩ := ok__law_pick (P := P) (w := w) T
  obtain ⟨f_floor_steps, ok_floor_steps⟩ := ok_floor_steps (P := P) (w := w) T
  obtain ⟨f_floor_sum, ok_floor_sum⟩ := ok_floor_sum (P := P) (w := w) T
  have n_abs := T.n_abs
  have nd := sc__law_is_great_right.nd
  refine ⟨f, def_ok F hm sc__law_is_great_right hb fun cdv hcd A outer s H E hr => ?_⟩
  exact (pfs_cons (pfs_par3 false 1 2 3 rfl nd (pfa_cons (pf_call ok__law_pick (hr.mono (by decide)) passesE (by rfl) (pfa_cons (pf_var 0) (pfa_cons (pf_op op_addA rd_add (pf_op op_pow rd_pow pf_int pf_int) pf_int) pfa_nil))) (pfa_cons (pf_call ok__law_pick (hr.mono (by decide)) passesE (by rfl) (pfa_cons (pf_var 0) (pfa_cons (pf_op op_pow rd_pow pf_int pf_int) pfa_nil))) (pfa_cons (pf_call ok__law_pick (hr.mono (by decide)) passesE (by rfl) (pfa_cons (pf_var 0) (pfa_cons (pf_op op_pow rd_pow pf_int pf_int) pfa_nil))) pfa_nil))))
      (pfs_cons (pfs_set false 4 nd (pf_op op_addA rd_add pf_int (pf_call ok__law_pick (hr.mono (by decide)) passesE (by rfl) (pfa_cons (pf_var 0) (pfa_cons (pf_op op_pow rd_pow pf_int pf_int) pfa_nil)))))
      (pfs_cons (pfs_par2 false 2 3 rfl nd (pfa_cons (pf_op op_mulA rd_mul (pf_var 2) (pf_call ok__law_any (hr.mono (by decide)) passesE (by rfl) (pfa_cons (pf_var 0) (pfa_cons (pf_lst (pfa_cons pf_int (pfa_cons (pf_neg pf_int) pfa_nil))) pfa_nil)))) (pfa_cons (pf_op op_mulA rd_mul (pf_var 3) (pf_call ok__law_any (hr.mono (by decide)) passesE (by rfl) (pfa_cons (pf_var 0) (pfa_cons (pf_lst (pfa_cons pf_int (pfa_cons (pf_neg pf_int) pfa_nil))) pfa_nil)))) pfa_nil)))
      (pfs_cons (pfs_set false 5 nd (pf_call ok_floor_sum (hr.mono (by decide)) passesE (by rfl) (pfa_cons (pf_var 1) (pfa_cons (pf_var 2) (pfa_cons (pf_var 3) (pfa_cons (pf_var 4) pfa_nil))))))
      (pfs_cons (pfs_if false (pft_cmp (op_neA hr.units) rd_ne (pf_var 5) (pf_call ok__law_great_sum (hr.mono (by decide)) passesE (by rfl) (pfa_cons (pf_var 1) (pfa_cons (pf_var 2) (pfa_cons (pf_var 3) (pfa_cons (pf_var 4) pfa_nil))))) (nomark _))
      (pfs_one (pfs_ret false pf_bl))
      pfs_nil)
      (pfs_one (pfs_ret false (pf_cmp op_le rd_le (pf_call ok_floor_steps (hr.mono (by decide)) passesE (by rfl) (pfa_cons (pf_var 1) (pfa_cons (pf_var 2) (pfa_cons (pf_var 3) (pfa_cons (pf_var 4) pfa_nil))))) (pf_op op_addA rd_add (pf_call ok__law_pairs (hr.mono (by decide)) passesE (by rfl) (pfa_cons (pf_cb call_abs rc_abs (by rfl) n_abs bt_abs (pfa_cons (pf_var 2) pfa_nil)) (pfa_cons (pf_var 4) pfa_nil))) pf_int) (nomark _)))))))))
theorem ok__law_word_of (T : Tx K mg tb base) : ∃ f, DefOk P w K mg tb base 7 "_law_word_of" f ["n", "a", "b", "m"] F__law_word_of := by
  obtain ⟨f, fd, F, hm, hb, lt⟩ := T.d__law_word_of
  obtain ⟨f_floor_steps, ok_floor_steps⟩ := ok_floor_steps (P := P) (w := w) T
  have ok__law_word := ok__law_word (P := P) (w := w) T
  have nd := sc__law_word_of.nd
  refine ⟨f, def_ok F hm sc__law_word_of hb fun cdv hcd A outer s H E hr => ?_⟩
  exact (pfs_one (pfs_ret false (pf_lamcall (k := 4) ok__law_word lt cx_qual (cx_code.trans hcd.symm) (by rfl) (hr.mono (by decide)) (LamX.lamS_by (sc := defScope st__law_word_of) (by decide +kernel)) (fun A outer s H E1 f c2 hr => (pf_call ok_floor_steps (hr.mono (by decide)) passL (by rfl) (pfa_cons (pf_var 0) (pfa_cons (pf_var 1) (pfa_cons (pf_var 2) (pfa_cons (pf_var 3) pfa_nil)))))))))
theorem ok__law_is_refused (T : Tx K mg tb base) : ∃ f, DefOk P w K mg tb base 8 "_law_is_refused" f ["tape"] F__law_is_refused := by
  obtain ⟨f, fd, F, hm, hb, lt⟩ := T.d__law_is_refused
  obtain ⟨f__law_any, ok__law_any⟩ := ok__law_any (P := P) (w := w) T
  obtain ⟨f__law_word_of, ok__law_word_of⟩ := ok__law_word_of (P := P) (w := w) T
  obtain ⟨f_floor_sum, ok_floor_sum⟩ := ok_floor_sum (P := P) (w := w) T
  have ok__law_word := ok__law_word (P := P) (w := w) T
  have nd := sc__law_is_refused.nd
  refine ⟨f, def_ok F hm sc__law_is_refused hb fun cdv hcd A outer s H E hr => ?_⟩
  exact (pfs_cons (pfs_set false 1 nd (pf_call ok__law_any (hr.mono (by decide)) passesE (by rfl) (pfa_cons (pf_var 0) (pfa_cons (pf_lst (pfa_cons pf_non (pfa_cons pf_bl (pfa_cons pf_str (pfa_cons (pf_tup (pfa_cons pf_int pfa_nil)) (pfa_cons (pf_lst (pfa_cons pf_int pfa_nil)) (pfa_cons pf_dict0 pfa_nil))))))) pfa_nil))))
      (pfs_cons (pfs_asg false (pf_tup (pfa_cons (pf_call ok__law_any (hr.mono (by decide)) passesE (by rfl) (pfa_cons (pf_var 0) (pfa_cons (pf_lst (pfa_cons (pf_var 1) (pfa_cons (pf_op op_pow rd_pow pf_int pf_int) (pfa_cons (pf_op op_sub rd_sub pf_int (pf_op op_pow rd_pow pf_int pf_int)) pfa_nil)))) pfa_nil))) (pfa_cons (pf_call ok__law_any (hr.mono (by decide)) passesE (by rfl) (pfa_cons (pf_var 0) (pfa_cons (pf_lst (pfa_cons (pf_var 1) (pfa_cons (pf_neg pf_int) (pfa_cons (pf_op op_addA rd_add (pf_op op_pow rd_pow pf_int pf_int) pf_int) pfa_nil)))) pfa_nil))) pfa_nil))) (pgd_tup rfl (pgds_cons (pgd_name 2 nd) (pgds_cons (pgd_name 3 nd) pgds_nil))))
      (pfs_cons (pfs_set false 4 nd (pf_call ok__law_any (hr.mono (by decide)) passesE (by rfl) (pfa_cons (pf_var 0) (pfa_cons (pf_lst (pfa_cons (pf_var 1) (pfa_cons pf_int (pfa_cons (pf_neg pf_int) (pfa_cons (pf_op op_addA rd_add (pf_op op_pow rd_pow pf_int pf_int) pf_int) pfa_nil))))) pfa_nil))))
      (pfs_cons (pfs_own 5 nd (pfl_lst (pfa_cons (pf_lamcall (k := 4) ok__law_word lt cx_qual (cx_code.trans hcd.symm) (by rfl) (hr.mono (by decide)) (LamX.lamS_by (sc := defScope st__law_is_refused) (by decide +kernel)) (fun A outer s H E1 f c2 hr => (pf_call ok_floor_sum (hr.mono (by decide)) passL (by rfl) (pfa_cons (pf_var 3) (pfa_cons pf_int (pfa_cons pf_int (pfa_cons pf_int pfa_nil))))))) (pfa_cons (pf_call ok__law_word_of (hr.mono (by decide)) passesE (by rfl) (pfa_cons pf_int (pfa_cons (pf_var 2) (pfa_cons pf_int (pfa_cons pf_int pfa_nil))))) (pfa_cons (pf_call ok__law_word_of (hr.mono (by decide)) passesE (by rfl) (pfa_cons pf_int (pfa_cons pf_int (pfa_cons (pf_var 2) (pfa_cons pf_int pfa_nil))))) pfa_nil)))))
      (pfs_cons (pfs_ownU 5 nd (pfl_add (pf_var 5) (pf_lst (pfa_cons (pf_call ok__law_word_of (hr.mono (by decide)) passesE (by rfl) (pfa_cons pf_int (pfa_cons pf_int (pfa_cons pf_int (pfa_cons (pf_var 4) pfa_nil))))) (pfa_cons (pf_call ok__law_word_of (hr.mono (by decide)) passesE (by rfl) (pfa_cons (pf_var 3) (pfa_cons (pf_var 2) (pfa_cons (pf_var 2) (pfa_cons (pf_var 4) pfa_nil))))) pfa_nil)))))
      (pfs_cons (pfs_append false 5 (pf_lamcall (k := 4) ok__law_word lt cx_qual (cx_code.trans hcd.symm) (by rfl) (hr.mono (by decide)) (LamX.lamS_by (sc := defScope st__law_is_refused) (by decide +kernel)) (fun A outer s H E1 f c2 hr => (pf_call ok_floor_sum (hr.mono (by decide)) passL (by rfl) (pfa_cons pf_int (pfa_cons pf_int (pfa_cons pf_int (pfa_cons (pf_var 4) pfa_nil))))))))
      (pfs_cons (pfs_append false 5 (pf_lamcall (k := 4) ok__law_word lt cx_qual (cx_code.trans hcd.symm) (by rfl) (hr.mono (by decide)) (LamX.lamS_by (sc := defScope st__law_is_refused) (by decide +kernel)) (fun A outer s H E1 f c2 hr => (pf_call ok_floor_sum (hr.mono (by decide)) passL (by rfl) (pfa_cons pf_int (pfa_cons (pf_var 2) (pfa_cons pf_int (pfa_cons pf_int pfa_nil))))))))
      (pfs_one (pfs_ret true (pf_cmp (op_eqA hr.units) rd_eq (pf_var 5) (pf_op op_mulA rd_mul (pf_lst (pfa_cons pf_str pfa_nil)) pf_int) (nomark _)))))))))))
theorem fn_law (T : Tx K mg tb base) {f : Addr} {fd : FuncData} (F : Fun K "law" "law" st_law f fd) : FnOk P w K mg base (L2.CX P w) 9 f fd ["script"] (spF mg K tb 1 F_law) := by
  obtain ⟨f__law_any, ok__law_any⟩ := ok__law_any (P := P) (w := w) T
  obtain ⟨f__law_drawn, ok__law_drawn⟩ := ok__law_drawn (P := P) (w := w) T
  obtain ⟨f__law_is_great_right, ok__law_is_great_right⟩ := ok__law_is_great_right (P := P) (w := w) T
  obtain ⟨f__law_is_refused, ok__law_is_refused⟩ := ok__law_is_refused (P := P) (w := w) T
  obtain ⟨f__law_is_right, ok__law_is_right⟩ := ok__law_is_right (P := P) (w := w) T
  obtain ⟨f__law_tape, ok__law_tape⟩ := ok__law_tape (P := P) (w := w) T
  obtain ⟨f_floor_sum, ok_floor_sum⟩ := ok_floor_sum (P := P) (w := w) T
  have n_range := T.n_range
  have nd := sc_law.nd
  refine def_fn F sc_law fun cdv hcd A outer s H E hr => ?_
  exact (pfs_cons (pfs_own 1 nd (pfl_call ok__law_tape (hr.mono (by decide)) passesE (by rfl) (pfa_cons (pf_var 0) pfa_nil))) (pfss_mk 1
      (pfs_cons (pfs_set false 2 nd (pf_lst (pfa_cons (pf_call ok_floor_sum (hr.mono (by decide)) passesE (by rfl) (pfa_cons pf_int (pfa_cons pf_int (pfa_cons pf_int (pfa_cons pf_int pfa_nil))))) (pfa_cons (pf_call ok_floor_sum (hr.mono (by decide)) passesE (by rfl) (pfa_cons pf_int (pfa_cons pf_int (pfa_cons pf_int (pfa_cons pf_int pfa_nil))))) (pfa_cons (pf_call ok_floor_sum (hr.mono (by decide)) passesE (by rfl) (pfa_cons pf_int (pfa_cons (pf_neg pf_int) (pfa_cons pf_int (pfa_cons pf_int pfa_nil))))) (pfa_cons (pf_call ok_floor_sum (hr.mono (by decide)) passesE (by rfl) (pfa_cons pf_int (pfa_cons pf_int (pfa_cons pf_int (pfa_cons pf_int pfa_nil))))) pfa_nil))))))
      (pfs_cons (pfs_if false (PW.pt (pfw_or (pft_cmp (op_neA hr.units) rd_ne (pf_var 2) (pf_lst (pfa_cons pf_int (pfa_cons pf_int (pfa_cons (pf_neg pf_int) (pfa_cons pf_int pfa_nil))))) (nomark _)) (pfw_or1 (pft_cmp (op_neA hr.units) rd_ne (pf_call ok_floor_sum (hr.mono (by decide)) passesE (by rfl) (pfa_cons pf_int (pfa_cons pf_int (pfa_cons (pf_neg pf_int) (pfa_cons pf_int pfa_nil))))) (pf_neg pf_int) (nomark _)))))
      (pfs_one (pfs_ret false pf_bl))
      pfs_nil)
      (pfs_cons (pfs_for passesO rfl (pfi_range1 (by rfl) n_range (pfa_cons pf_int pfa_nil)) (pgd_name 3 nd)
      (pfs_cons (pfs_asg false (pf_call ok__law_drawn (hr.mono (by decide)) passesE (by rfl) (pfa_cons (pf_var 1) (pfa_cons (pf_call ok__law_any (hr.mono (by decide)) passesE (by rfl) (pfa_cons (pf_var 1) (pfa_cons (pf_lst (pfa_cons pf_int (pfa_cons pf_int (pfa_cons (pf_op op_pow rd_pow pf_int pf_int) pfa_nil)))) pfa_nil))) pfa_nil))) (pgd_tup rfl (pgds_cons (pgd_name 4 nd) (pgds_cons (pgd_name 5 nd) (pgds_cons (pgd_name 6 nd) (pgds_cons (pgd_name 7 nd) pgds_nil))))))
      (pfs_one (pfs_if false (PW.pt (pfw_or (pft_not (pft_tru (pf_call ok__law_is_right (hr.mono (by decide)) passesE (by rfl) (pfa_cons (pf_var 1) (pfa_cons (pf_var 4) (pfa_cons (pf_var 5) (pfa_cons (pf_var 6) (pfa_cons (pf_var 7) pfa_nil)))))))) (pfw_or (pft_not (pft_tru (pf_call ok__law_is_great_right (hr.mono (by decide)) passesE (by rfl) (pfa_cons (pf_var 1) pfa_nil)))) (pfw_or1 (pft_not (pft_tru (pf_call ok__law_is_refused (hr.mono (by decide)) passesE (by rfl) (pfa_cons (pf_var 1) pfa_nil))))))))
      (pfs_one (pfs_ret false pf_bl))
      pfs_nil))))
      (pfs_one (pfs_ret false pf_bl)))))))
end
end
end G69

namespace G69
open PySem PySem.Spec PyProof.Rows L2 PF
noncomputable section
def fn : List He.DefD := [⟨("is_integer", none), "is_integer", "is_integer", defArgs st_is_integer, defBody st_is_integer, defScope st_is_integer, [], []⟩, ⟨("is_within", none), "is_within", "is_within", defArgs st_is_within, defBody st_is_within, defScope st_is_within, [], []⟩, ⟨("check_floors", none), "check_floors", "check_floors", defArgs st_check_floors, defBody st_check_floors, defScope st_check_floors, [], []⟩, ⟨("floors_of", none), "floors_of", "floors_of", defArgs st_floors_of, defBody st_floors_of, defScope st_floors_of, [], []⟩, ⟨("floor_sum", none), "floor_sum", "floor_sum", defArgs st_floor_sum, defBody st_floor_sum, defScope st_floor_sum, [], []⟩, ⟨("floor_steps", none), "floor_steps", "floor_steps", defArgs st_floor_steps, defBody st_floor_steps, defScope st_floor_steps, [], []⟩, ⟨("_law_tape", none), "_law_tape", "_law_tape", defArgs st__law_tape, defBody st__law_tape, defScope st__law_tape, [], []⟩, ⟨("_law_pick", none), "_law_pick", "_law_pick", defArgs st__law_pick, defBody st__law_pick, defScope st__law_pick, [], []⟩, ⟨("_law_any", none), "_law_any", "_law_any", defArgs st__law_any, defBody st__law_any, defScope st__law_any, [], []⟩, ⟨("_law_shared", none), "_law_shared", "_law_shared", defArgs st__law_shared, defBody st__law_shared, defScope st__law_shared, [], []⟩, ⟨("_law_word", none), "_law_word", "_law_word", defArgs st__law_word, defBody st__law_word, defScope st__law_word, [], []⟩, ⟨("_law_great_sum", none), "_law_great_sum", "_law_great_sum", defArgs st__law_great_sum, defBody st__law_great_sum, defScope st__law_great_sum, [], []⟩, ⟨("_law_drawn", none), "_law_drawn", "_law_drawn", defArgs st__law_drawn, defBody st__law_drawn, defScope st__law_drawn, [], []⟩, ⟨("_law_pairs", none), "_law_pairs", "_law_pairs", defArgs st__law_pairs, defBody st__law_pairs, defScope st__law_pairs, [], []⟩, ⟨("_law_is_right", none), "_law_is_right", "_law_is_right", defArgs st__law_is_right, defBody st__law_is_right, defScope st__law_is_right, [], []⟩, ⟨("_law_is_great_right", none), "_law_is_great_right", "_law_is_great_right", defArgs st__law_is_great_right, defBody st__law_is_great_right, defScope st__law_is_great_right, [], []⟩, ⟨("_law_is_refused", none), "_law_is_refused", "_law_is_refused", defArgs st__law_is_refused, defBody st__law_is_refused, defScope st__law_is_refused, [], []⟩, ⟨("_law_word_of", none), "_law_word_of", "_law_word_of", defArgs st__law_word_of, defBody st__law_word_of, defScope st__law_word_of, [], []⟩, ⟨("law", none), "law", "law", defArgs st_law, defBody st_law, defScope st_law, [], []⟩]
def fa : List He.Fa := [.glo "is_integer", .glo "is_within", .glo "check_floors", .glo "floors_of", .glo "floor_sum", .glo "floor_steps", .glo "_law_tape", .glo "_law_pick", .glo "_law_any", .glo "_law_shared", .glo "_law_word", .glo "_law_great_sum", .glo "_law_drawn", .glo "_law_pairs", .glo "_law_is_right", .glo "_law_is_great_right", .glo "_law_is_refused", .glo "_law_word_of", .glo "law", .glo "NoNumber", .glo "RatioError", .free "ValueError", .free "abs", .free "bool", .free "int", .free "isinstance", .free "len", .free "range", .free "repr", .free "sum", .exc "NoNumber", .exm "NoNumber" "RatioError" true, .int "MOST_COUNT" 1000000000, .int "MOST_PART" 1000000000000]
def lams : List Str := ["_law_is_refused", "_law_word_of"]
def tf : List He.Defn := lams.map fun x => (x, none)
def ex (K : PySem.W.Frag) : Bool := decide ((lams.map fun x => (He.cT K (x, none)).2).Nodup) && isEB K "NoNumber" "NoNumber" true true && isEB K "NoNumber" "ValueError" false true
abbrev R : PySem.W.OpenRow := PySem.W.OpenLaw.row PySem.Challenge.rw_ratiohouse_k69_whole_sums_of_whole_parts
abbrev hk : PySem.W.Hook := He.hookX 4 fa fn [] tf ex
def ob (s : PySem.W.SharedT) : He.AlX := He.obsX 4 fa fn [] tf ex (HandSHeadRun.getT s)
theorem ob_eq (s : PySem.W.SharedT) : ob s = hk.obs s.abs := He.obsX_eq (HandSHeadRun.getT_eq s)
def nm0 : List Str := ["MOST_COUNT", "MOST_PART", "RatioError", "NoNumber", "is_integer", "is_within", "check_floors", "floors_of", "floor_sum", "floor_steps", "_law_tape", "_law_pick", "_law_any", "_law_shared", "_law_word", "_law_great_sum", "_law_drawn", "_law_pairs", "_law_is_right", "_law_is_great_right", "_law_is_refused", "_law_word_of"]
abbrev nms : List Str := nm0
theorem run (w : World) : HandSHeadRun.RunEq R (PySem.W.view R.prog [26]) hk ob 4000 (nms) w := by
  intro os
  kernel_rfl
theorem facts {w : World} {K : PySem.W.Frag} {h base : Heap} {mg : Str → Option Value} (X : K.In h) (G : h.Ns mainGlobals mg) (c : He.SaysX fa fn [] tf ex w h K) (TB : ∀ p ∈ lams.map (fun x => He.cT K (x, none)), LamX.TabB base mg p.1 p.2) : Tx K mg (tbOf K lams) base := by
  have cd := c.t.d
  have fc : ∀ (i : Nat) {f : He.Fa}, fa[i]? = some f → f.ok K = true := fun i {f} h => cd.fact i h
  have hex := c.more
  unfold ex at hex
  simp only [Bool.and_eq_true, decide_eq_true_eq] at hex
  obtain ⟨⟨hnd, hi0⟩, hi1⟩ := hex
  obtain ⟨f_is_integer, fd_is_integer, F_is_integer, m_is_integer, b_is_integer, t_is_integer⟩ := fun_of (x := "is_integer") (st := st_is_integer) (ps := ["thing"]) X G (fc 0 rfl) (cd.def_ 0 rfl) rfl rfl rfl fun _ _ _ _ _ _ us hl => match us, hl with | [_], _ => rfl
  obtain ⟨f_is_within, fd_is_within, F_is_within, m_is_within, b_is_within, t_is_within⟩ := fun_of (x := "is_within") (st := st_is_within) (ps := ["thing", "low", "high"]) X G (fc 1 rfl) (cd.def_ 1 rfl) rfl rfl rfl fun _ _ _ _ _ _ us hl => match us, hl with | [_, _, _], _ => rfl
  obtain ⟨f_check_floors, fd_check_floors, F_check_floors, m_check_floors, b_check_floors, t_check_floors⟩ := fun_of (x := "check_floors") (st := st_check_floors) (ps := ["n", "a", "b", "m"]) X G (fc 2 rfl) (cd.def_ 2 rfl) rfl rfl rfl fun _ _ _ _ _ _ us hl => match us, hl with | [_, _, _, _], _ => rfl
  obtain ⟨f_floors_of, fd_floors_of, F_floors_of, m_floors_of, b_floors_of, t_floors_of⟩ := fun_of (x := "floors_of") (st := st_floors_of) (ps := ["n", "a", "b", "m"]) X G (fc 3 rfl) (cd.def_ 3 rfl) rfl rfl rfl fun _ _ _ _ _ _ us hl => match us, hl with | [_, _, _, _], _ => rfl
  obtain ⟨f_floor_sum, fd_floor_sum, F_floor_sum, m_floor_sum, b_floor_sum, t_floor_sum⟩ := fun_of (x := "floor_sum") (st := st_floor_sum) (ps := ["n", "a", "b", "m"]) X G (fc 4 rfl) (cd.def_ 4 rfl) rfl rfl rfl fun _ _ _ _ _ _ us hl => match us, hl with | [_, _, _, _], _ => rfl
  obtain ⟨f_floor_steps, fd_floor_steps, F_floor_steps, m_floor_steps, b_floor_steps, t_floor_steps⟩ := fun_of (x := "floor_steps") (st := st_floor_steps) (ps := ["n", "a", "b", "m"]) X G (fc 5 rfl) (cd.def_ 5 rfl) rfl rfl rfl fun _ _ _ _ _ _ us hl => match us, hl with | [_, _, _, _], _ => rfl
  obtain ⟨f__law_tape, fd__law_tape, F__law_tape, m__law_tape, b__law_tape, t__law_tape⟩ := fun_of (x := "_law_tape") (st := st__law_tape) (ps := ["script"]) X G (fc 6 rfl) (cd.def_ 6 rfl) rfl rfl rfl fun _ _ _ _ _ _ us hl => match us, hl with | [_], _ => rfl
  obtain ⟨f__law_pick, fd__law_pick, F__law_pick, m__law_pick, b__law_pick, t__law_pick⟩ := fun_of (x := "_law_pick") (st := st__law_pick) (ps := ["tape", "many"]) X G (fc 7 rfl) (cd.def_ 7 rfl) rfl rfl rfl fun _ _ _ _ _ _ us hl => match us, hl with | [_, _], _ => rfl
  obtain ⟨f__law_any, fd__law_any, F__law_any, m__law_any, b__law_any, t__law_any⟩ := fun_of (x := "_law_any") (st := st__law_any) (ps := ["tape", "things"]) X G (fc 8 rfl) (cd.def_ 8 rfl) rfl rfl rfl fun _ _ _ _ _ _ us hl => match us, hl with | [_, _], _ => rfl
  obtain ⟨f__law_shared, fd__law_shared, F__law_shared, m__law_shared, b__law_shared, t__law_shared⟩ := fun_of (x := "_law_shared") (st := st__law_shared) (ps := ["one", "other"]) X G (fc 9 rfl) (cd.def_ 9 rfl) rfl rfl rfl fun _ _ _ _ _ _ us hl => match us, hl with | [_, _], _ => rfl
  obtain ⟨f__law_word, fd__law_word, F__law_word, m__law_word, b__law_word, t__law_word⟩ := fun_of (x := "_law_word") (st := st__law_word) (ps := ["call"]) X G (fc 10 rfl) (cd.def_ 10 rfl) rfl rfl rfl fun _ _ _ _ _ _ us hl => match us, hl with | [_], _ => rfl
  obtain ⟨f__law_great_sum, fd__law_great_sum, F__law_great_sum, m__law_great_sum, b__law_great_sum, t__law_great_sum⟩ := fun_of (x := "_law_great_sum") (st := st__law_great_sum) (ps := ["n", "a", "b", "m"]) X G (fc 11 rfl) (cd.def_ 11 rfl) rfl rfl rfl fun _ _ _ _ _ _ us hl => match us, hl with | [_, _, _, _], _ => rfl
  obtain ⟨f__law_drawn, fd__law_drawn, F__law_drawn, m__law_drawn, b__law_drawn, t__law_drawn⟩ := fun_of (x := "_law_drawn") (st := st__law_drawn) (ps := ["tape", "size"]) X G (fc 12 rfl) (cd.def_ 12 rfl) rfl rfl rfl fun _ _ _ _ _ _ us hl => match us, hl with | [_, _], _ => rfl
  obtain ⟨f__law_pairs, fd__law_pairs, F__law_pairs, m__law_pairs, b__law_pairs, t__law_pairs⟩ := fun_of (x := "_law_pairs") (st := st__law_pairs) (ps := ["a", "m"]) X G (fc 13 rfl) (cd.def_ 13 rfl) rfl rfl rfl fun _ _ _ _ _ _ us hl => match us, hl with | [_, _], _ => rfl
  obtain ⟨f__law_is_right, fd__law_is_right, F__law_is_right, m__law_is_right, b__law_is_right, t__law_is_right⟩ := fun_of (x := "_law_is_right") (st := st__law_is_right) (ps := ["tape", "n", "a", "b", "m"]) X G (fc 14 rfl) (cd.def_ 14 rfl) rfl rfl rfl fun _ _ _ _ _ _ us hl => match us, hl with | [_, _, _, _, _], _ => rfl
  obtain ⟨f__law_is_great_right, fd__law_is_great_right, F__law_is_great_right, m__law_is_great_right, b__law_is_great_right, t__law_is_great_right⟩ := fun_of (x := "_law_is_great_right") (st := st__law_is_great_right) (ps := ["tape"]) X G (fc 15 rfl) (cd.def_ 15 rfl) rfl rfl rfl fun _ _ _ _ _ _ us hl => match us, hl with | [_], _ => rfl
  obtain ⟨f__law_is_refused, fd__law_is_refused, F__law_is_refused, m__law_is_refused, b__law_is_refused, t__law_is_refused⟩ := fun_of (x := "_law_is_refused") (st := st__law_is_refused) (ps := ["tape"]) X G (fc 16 rfl) (cd.def_ 16 rfl) rfl rfl rfl fun _ _ _ _ _ _ us hl => match us, hl with | [_], _ => rfl
  obtain ⟨f__law_word_of, fd__law_word_of, F__law_word_of, m__law_word_of, b__law_word_of, t__law_word_of⟩ := fun_of (x := "_law_word_of") (st := st__law_word_of) (ps := ["n", "a", "b", "m"]) X G (fc 17 rfl) (cd.def_ 17 rfl) rfl rfl rfl fun _ _ _ _ _ _ us hl => match us, hl with | [_, _, _, _], _ => rfl
  obtain ⟨f_law, fd_law, F_law, m_law, b_law, t_law⟩ := fun_of (x := "law") (st := st_law) (ps := ["script"]) X G (fc 18 rfl) (cd.def_ 18 rfl) rfl rfl rfl fun _ _ _ _ _ _ us hl => match us, hl with | [_], _ => rfl
  exact {
    d_is_integer := ⟨_, _, F_is_integer, m_is_integer, b_is_integer⟩
    d_is_within := ⟨_, _, F_is_within, m_is_within, b_is_within⟩
    d_check_floors := ⟨_, _, F_check_floors, m_check_floors, b_check_floors⟩
    d_floors_of := ⟨_, _, F_floors_of, m_floors_of, b_floors_of⟩
    d_floor_sum := ⟨_, _, F_floor_sum, m_floor_sum, b_floor_sum⟩
    d_floor_steps := ⟨_, _, F_floor_steps, m_floor_steps, b_floor_steps⟩
    d__law_tape := ⟨_, _, F__law_tape, m__law_tape, b__law_tape⟩
    d__law_pick := ⟨_, _, F__law_pick, m__law_pick, b__law_pick⟩
    d__law_any := ⟨_, _, F__law_any, m__law_any, b__law_any⟩
    d__law_shared := ⟨_, _, F__law_shared, m__law_shared, b__law_shared⟩
    d__law_word := ⟨_, _, F__law_word, m__law_word, b__law_word⟩
    d__law_great_sum := ⟨_, _, F__law_great_sum, m__law_great_sum, b__law_great_sum⟩
    d__law_drawn := ⟨_, _, F__law_drawn, m__law_drawn, b__law_drawn⟩
    d__law_pairs := ⟨_, _, F__law_pairs, m__law_pairs, b__law_pairs⟩
    d__law_is_right := ⟨_, _, F__law_is_right, m__law_is_right, b__law_is_right⟩
    d__law_is_great_right := ⟨_, _, F__law_is_great_right, m__law_is_great_right, b__law_is_great_right⟩
    d__law_is_refused := ⟨_, _, F__law_is_refused, m__law_is_refused, b__law_is_refused, lamt_of (by simp [lams]) hnd TB t__law_is_refused⟩
    d__law_word_of := ⟨_, _, F__law_word_of, m__law_word_of, b__law_word_of, lamt_of (by simp [lams]) hnd TB t__law_word_of⟩
    d_law := ⟨_, _, F_law, m_law, b_law⟩
    n_abs := He.free_ok X G (fc 22 rfl)
    n_bool := He.free_ok X G (fc 23 rfl)
    n_int := He.free_ok X G (fc 24 rfl)
    n_isinstance := He.free_ok X G (fc 25 rfl)
    n_len := He.free_ok X G (fc 26 rfl)
    n_range := He.free_ok X G (fc 27 rfl)
    n_repr := He.free_ok X G (fc 28 rfl)
    n_sum := He.free_ok X G (fc 29 rfl)
    e_NoNumber := err_of X G (fc 19 rfl) (fc 30 rfl)
    k_RatioError := by
      refine ⟨_, He.glo_ok X G (fc 20 rfl), fun c b h => ?_⟩
      unfold ct_RatioError at h
      split at h
      · rename_i e
        subst e
        cases h
        exact ⟨_, He.glo_ok X G (fc 19 rfl), He.exm_ok (fc 31 rfl)⟩
      cases h
    i_all := by
      intro c d b h
      unfold isT at h
      split at h
      · rename_i e
        obtain ⟨e1, e2⟩ := e
        subst e1 e2
        cases h
        exact isEB_own X G (fc 19 rfl) (fc 19 rfl) hi0
      split at h
      · rename_i e
        obtain ⟨e1, e2⟩ := e
        subst e1 e2
        cases h
        exact isEB_ty X G (fc 19 rfl) (fc 21 rfl) rfl hi1
      cases h
    c_MOST_COUNT := He.int_ok X G (fc 32 rfl)
    c_MOST_PART := He.int_ok X G (fc 33 rfl)
  }
theorem lawS {w : World} {h : Heap} {mg : Str → Option Value} {fa0 : Addr} {K : PySem.W.Frag} (X : K.In h) (G : h.Ns mainGlobals mg) (c : He.SaysX fa fn [] tf ex w h K) (hm : mg "law" = some (.ref fa0))
    (law : ∀ ns : List Int, ns.length ≤ 63 → (∀ z ∈ ns, Builtin.Int.intBits z ≤ 1048576) → ∃ T, F_law [.frl (ns.map .int)] [] = some (.ok (.bl true) T)) :
    LamX.LawAtS PySem.Challenge.rw_ratiohouse_k69_whole_sums_of_whole_parts w K (L2.CX (PySem.Challenge.rw_ratiohouse_k69_whole_sums_of_whole_parts).prog w) 9 63 "script" mg fa0 h := by
  have hg := He.glo_ok X G (c.t.d.fact 18 (f := .glo "law") rfl)
  have e := hm.symm.trans hg
  cases e
  obtain ⟨f2, fd, Fl, m2, b2, _⟩ := fun_of (x := "law") (st := st_law) (ps := ["script"]) X G (c.t.d.fact 18 (f := .glo "law") rfl) (c.t.d.def_ 18 rfl) rfl rfl rfl fun _ _ _ _ _ _ us hl => match us, hl with | [_], _ => rfl
  rw [m2] at hg
  cases hg
  have mm : ∀ p ∈ lams.map (fun x => He.cT K (x, none)), ∃ q ∈ tf, p = He.cT K q := fun p hp => by
    obtain ⟨x, hx, e⟩ := List.mem_map.mp hp
    exact ⟨(x, none), List.mem_map.mpr ⟨x, hx, rfl⟩, e.symm⟩
  refine law_end (fd := fd) (cs := lams.map fun x => He.cT K (x, none)) (tb := tbOf K lams) (F := F_law) (fun p hp => ?_) (fun p hp => ?_) (fun p hp => ?_) b2 (fun s u => ?_) (fun q hq => ?_) (by decide) (fun base X2 G2 TB => fn_law (facts X G c TB) Fl) law
  · obtain ⟨q, hq, rfl⟩ := mm p hp; exact c.empty q hq
  · obtain ⟨q, hq, rfl⟩ := mm p hp; exact c.out q hq
  · obtain ⟨q, hq, rfl⟩ := mm p hp; exact PySem.W.codeHd_of_K X (c.hd q hq)
  · obtain ⟨oc, od, kV, doc, pm, an, cdv, ct, osl, rfl, lk, hcd⟩ := Fl.ex; exact .of_eq rfl
  · obtain ⟨x, hx, rfl⟩ := List.mem_map.mp hq; exact ⟨_, List.mem_map.mpr ⟨x, hx, rfl⟩, rfl⟩
end
end G69
section
open PySem PySem.W PySem.Calls PyProof.Rows
theorem holds_of (law : ∀ ns : List Int, ns.length ≤ 63 → (∀ z ∈ ns, Builtin.Int.intBits z ≤ 1048576) → ∃ T, G69.F_law [.frl (ns.map .int)] [] = some (.ok (.bl true) T)) : PySem.Challenge.rw_ratiohouse_k69_whole_sums_of_whole_parts.Holds := by
  w_on; o_law
  refine HandSHeadRun.head_any (r := OpenLaw.row PySem.Challenge.rw_ratiohouse_k69_whole_sums_of_whole_parts) (q := view (OpenLaw.row PySem.Challenge.rw_ratiohouse_k69_whole_sums_of_whole_parts).prog [26]) (H := G69.hk) (ob := G69.ob) (M := 4000) (loose := G69.nms) (d := HandSHeadRun.topDef (OpenLaw.row PySem.Challenge.rw_ratiohouse_k69_whole_sums_of_whole_parts).prog 26) (kwd := []) G69.ob_eq
    (by kernel_rfl) (fun s => by kernel_rfl) G69.run (by kernel_rfl) (by kernel_rfl) (by kernel_rfl) (by rfl) (by first | assumption | decide +kernel) (by decide +kernel) ⟨rfl, rfl, rfl, rfl, rfl, by decide +kernel⟩ ?hw ?hc
  case hw => w_witness2
  case hc =>
    refine LamX.walk_ofTsE (l := PySem.Challenge.rw_ratiohouse_k69_whole_sums_of_whole_parts) (n := 63) (k := 9) (x := "script") (CX := fun w => L2.CX (PySem.Challenge.rw_ratiohouse_k69_whole_sums_of_whole_parts).prog w) rfl (by decide) (by kernel_rfl) ⟨rfl, by decide, by decide⟩ ?F (fun _ _ _ _ _ z => PF.cx_false z)
    intro w mg fa h Y G hmg0
    obtain ⟨K, KX, c⟩ := Y
    have hmg : mg ("law" : PySem.Str) = some (.ref fa) := by
      have e : (HandSHeadRun.topDef (OpenLaw.row PySem.Challenge.rw_ratiohouse_k69_whole_sums_of_whole_parts).prog 26).name = ("law" : PySem.Str) := by kernel_rfl
      rw [← e]
      exact hmg0
    exact ⟨K, KX, G69.lawS KX G c hmg law⟩
end

namespace G69
open PySem PySem.Spec PyProof.Rows L2 PF N69
noncomputable section
/-! ### sizes -/
def Bd (k : Nat) (x : Int) : Prop := x.natAbs < 2 ^ k
theorem Bd.mono {j k : Nat} {x : Int} (h : Bd j x) (l : j ≤ k) : Bd k x := Nat.lt_of_lt_of_le h (Nat.pow_le_pow_right (by decide) l)
theorem Bd.mul {j k : Nat} {x y : Int} (h : Bd j x) (g : Bd k y) : Bd (j + k) (x * y) := by
  unfold Bd at *
  rw [Int.natAbs_mul, Nat.pow_add]
  exact Nat.mul_lt_mul'' h g
theorem Bd.add {k : Nat} {x y : Int} (h : Bd k x) (g : Bd k y) : Bd (k + 1) (x + y) := by
  unfold Bd at *
  have := Int.natAbs_add_le x y
  omega
theorem Bd.sub {k : Nat} {x y : Int} (h : Bd k x) (g : Bd k y) : Bd (k + 1) (x - y) := by
  unfold Bd at *
  omega
theorem Bd.div {k : Nat} {x y : Int} (h : Bd k x) : Bd k (x / y) := by
  unfold Bd at *
  exact Nat.lt_of_le_of_lt (Int.natAbs_ediv_le_natAbs x y) h
theorem Bd.of {k : Nat} {x : Int} (h1 : -(2 ^ k) < x) (h2 : x < 2 ^ k) : Bd k x := by
  unfold Bd
  have : ((2 ^ k : Nat) : Int) = 2 ^ k := by push_cast; rfl
  omega
theorem log_lt {x : Int} {k : Nat} (h : Bd k x) (hk : 0 < k) : x.natAbs.log2 < k := by
  by_cases z : x.natAbs = 0
  · rw [z]; simpa using hk
  · exact (Nat.log2_lt z).mpr h
theorem mul_ok {x y : Int} {j k : Nat} (h : Bd j x) (g : Bd k y) (l : j + k ≤ 1000 := by decide) (hj : 0 < j := by decide) (hk : 0 < k := by decide) : mulOk x y = true := by
  unfold mulOk
  have := log_lt h hj
  have := log_lt g hk
  simp
  omega
theorem fd {x y : Int} (h : 0 < y) : x.fdiv y = x / y := Int.fdiv_eq_ediv_of_nonneg x (Int.le_of_lt h)
theorem fm {x y : Int} (h : 0 < y) : x.fmod y = x % y := Int.fmod_eq_emod_of_nonneg x (Int.le_of_lt h)
/-! ### the number tests -/
theorem isint_int (i : Int) (T : List D) : F_is_integer [.int i] T = some (.ok (.bl true) T) := by rfl
theorem within_int (i lo hi : Int) (T : List D) : F_is_within [.int i, .int lo, .int hi] T = some (.ok (.bl (decide (lo ≤ i) && decide (i ≤ hi))) T) := by
  apply WP.eq
  simp only [F_is_within, B_is_within, w_bind, w_ret, w_bad, w_raise, w_of, w_noex, w_look, w_tp, w_ite, some_ite, sSeq, sIf, sSet, sAsg, sPar2, sPar3, sAug, sEx, sRet, sRaise, sNext, sBreak, sCont, sTp, runX, runR, hide, Sv.hide, fVar, fC, fOp, fUn, fTup, fLst, fIx, fSl, oNone, oSome, fBool, fTru, fIf, fAnd, fOr, fNot, tyNot, tyAnd, tyOr, fChain, fCall, fCB, aCons, aNil, gTp, gsCons, gsNil, gNm, setV, setE, addD, subD, mulD, fdivD, modD, negD, iaddD, ltD, leD, gtD, geD, blD, truD, PF.intD, PF.absD, lenD, isiD, tyN, kitB, mkF, wend]
  simp [w_bind, w_ret, w_bad, w_raise, w_of, w_noex, w_look, w_tp, w_ite, some_ite, sSeq, sIf, sSet, sAsg, sPar2, sPar3, sAug, sEx, sRet, sRaise, sNext, sBreak, sCont, sTp, runX, runR, hide, Sv.hide, fVar, fC, fOp, fUn, fTup, fLst, fIx, fSl, oNone, oSome, fBool, fTru, fIf, fAnd, fOr, fNot, tyNot, tyAnd, tyOr, fChain, fCall, fCB, aCons, aNil, gTp, gsCons, gsNil, gNm, setV, setE, addD, subD, mulD, fdivD, modD, negD, iaddD, ltD, leD, gtD, geD, blD, truD, PF.intD, PF.absD, lenD, isiD, tyN, kitB, mkF, wend, w_of_eq (isint_int i _)]
  by_cases h : lo ≤ i
  · simp [h, w_bind, w_ret, w_bad, w_raise, w_of, w_noex, w_look, w_tp, w_ite, some_ite, sSeq, sIf, sSet, sAsg, sPar2, sPar3, sAug, sEx, sRet, sRaise, sNext, sBreak, sCont, sTp, runX, runR, hide, Sv.hide, fVar, fC, fOp, fUn, fTup, fLst, fIx, fSl, oNone, oSome, fBool, fTru, fIf, fAnd, fOr, fNot, tyNot, tyAnd, tyOr, fChain, fCall, fCB, aCons, aNil, gTp, gsCons, gsNil, gNm, setV, setE, addD, subD, mulD, fdivD, modD, negD, iaddD, ltD, leD, gtD, geD, blD, truD, PF.intD, PF.absD, lenD, isiD, tyN, kitB, mkF, wend]
  · simp [h, w_bind, w_ret, w_bad, w_raise, w_of, w_noex, w_look, w_tp, w_ite, some_ite, sSeq, sIf, sSet, sAsg, sPar2, sPar3, sAug, sEx, sRet, sRaise, sNext, sBreak, sCont, sTp, runX, runR, hide, Sv.hide, fVar, fC, fOp, fUn, fTup, fLst, fIx, fSl, oNone, oSome, fBool, fTru, fIf, fAnd, fOr, fNot, tyNot, tyAnd, tyOr, fChain, fCall, fCB, aCons, aNil, gTp, gsCons, gsNil, gNm, setV, setE, addD, subD, mulD, fdivD, modD, negD, iaddD, ltD, leD, gtD, geD, blD, truD, PF.intD, PF.absD, lenD, isiD, tyN, kitB, mkF, wend]; omega
theorem chk_ok {n a b m : Int} {T : List D} (h1 : 0 ≤ n) (h2 : n ≤ 1000000000) (h3 : -1000000000000 < a) (h4 : a < 1000000000000) (h5 : -1000000000000 < b) (h6 : b < 1000000000000) (h7 : 1 ≤ m) (h8 : m ≤ 1000000000000) :
    F_check_floors [.int n, .int a, .int b, .int m] T = some (.ok .non T) := by
  apply WP.eq
  simp [F_check_floors, B_check_floors, w_bind, w_ret, w_bad, w_raise, w_of, w_noex, w_look, w_tp, w_ite, some_ite, sSeq, sIf, sSet, sAsg, sPar2, sPar3, sAug, sEx, sRet, sRaise, sNext, sBreak, sCont, sTp, runX, runR, hide, Sv.hide, fVar, fC, fOp, fUn, fTup, fLst, fIx, fSl, oNone, oSome, fBool, fTru, fIf, fAnd, fOr, fNot, tyNot, tyAnd, tyOr, fChain, fCall, fCB, aCons, aNil, gTp, gsCons, gsNil, gNm, setV, setE, addD, subD, mulD, fdivD, modD, negD, iaddD, ltD, leD, gtD, geD, blD, truD, PF.intD, PF.absD, lenD, isiD, tyN, kitB, mkF, wend, w_of_eq (within_int _ _ _ _)]
  omega
end
end G69

namespace G69
open PySem PySem.Spec PyProof.Rows L2 PF N69
noncomputable section
/-! ### the turns -/
def most (n a b m : Int) : Int := (a % m * (n - 1) + b % m) / m
def tu (n a b m : Int) : Nat := if h : 0 < n ∧ 0 < m then (if most n a b m = 0 then 0 else tu (most n a b m) m (m - b % m - 1 + a % m) (a % m) + 1) else 0
  termination_by m.toNat
  decreasing_by
    have := Int.emod_lt_of_pos a h.2
    have := Int.emod_nonneg a (Int.ne_of_gt h.2)
    omega
theorem tu_mod {n a b m : Int} (hm : 0 < m) : tu n (a % m) (b % m) m = tu n a b m := by
  have e1 : a % m % m = a % m := Int.emod_emod_of_dvd a (Int.dvd_refl m)
  have e2 : b % m % m = b % m := Int.emod_emod_of_dvd b (Int.dvd_refl m)
  have e : most n (a % m) (b % m) m = most n a b m := by unfold most; rw [e1, e2]
  conv => lhs; rw [tu]
  conv => rhs; rw [tu]
  rw [e, e1, e2]
theorem tu_zero {n a b m : Int} (hn : 0 ≤ n) (hm : 0 < m) : tu n a b m = 0 ↔ (n = 0 ∨ a % m * (n - 1) + b % m < m) := by
  have h1 := Int.emod_nonneg a (Int.ne_of_gt hm)
  have h2 := Int.emod_nonneg b (Int.ne_of_gt hm)
  rw [tu]
  by_cases z : n = 0
  · simp [z]
  · have hn' : 0 < n := by omega
    rw [dif_pos ⟨hn', hm⟩]
    have h3 : 0 ≤ a % m * (n - 1) := Int.mul_nonneg h1 (by omega)
    have e : most n a b m = 0 ↔ a % m * (n - 1) + b % m < m := by
      unfold most
      constructor
      · intro h
        have := Int.lt_mul_ediv_self_add (x := a % m * (n - 1) + b % m) hm
        rw [h] at this
        omega
      · intro h
        exact Int.ediv_eq_zero_of_lt (by omega) h
    by_cases c : most n a b m = 0
    · rw [if_pos c]; simp [e.mp c]
    · rw [if_neg c]
      simp [z]
      have := fun h => c (e.mpr h)
      omega
/-- Euclid's steps -/
def pr (a m : Nat) : Nat := if h : m = 0 then 0 else pr m (a % m) + 1
  termination_by m
  decreasing_by exact Nat.mod_lt _ (Nat.pos_of_ne_zero h)
theorem pr_step {a m : Nat} (h : 0 < m) : pr a m = pr m (a % m) + 1 := by
  rw [pr]
  simp [Nat.ne_of_gt h]
theorem pr_zero (a : Nat) : pr a 0 = 0 := by rw [pr]; simp
theorem tu_le : ∀ (k : Nat) (n a b m : Int), m.toNat ≤ k → 0 < m → tu n a b m ≤ pr m.toNat (a % m).toNat + 1
  | 0, n, a, b, m, h, hm => by omega
  | k + 1, n, a, b, m, h, hm => by
    have h1 := Int.emod_nonneg a (Int.ne_of_gt hm)
    have h2 := Int.emod_lt_of_pos a hm
    have h3 := Int.emod_nonneg b (Int.ne_of_gt hm)
    have h4 := Int.emod_lt_of_pos b hm
    rw [tu]
    split
    · split
      · omega
      · rename_i hh c
        have ha : 0 < a % m := by
          rcases Int.lt_or_eq_of_le h1 with z | z
          · exact z
          · exfalso
            apply c
            unfold most
            rw [← z, Int.zero_mul, Int.zero_add]
            exact Int.ediv_eq_zero_of_lt h3 h4
        have ih := tu_le k (most n a b m) m (m - b % m - 1 + a % m) (a % m) (by omega) ha
        rw [pr_step (m := (a % m).toNat) (by omega)]
        have e : m.toNat % (a % m).toNat = (m % (a % m)).toNat := (Int.toNat_emod (x := m) (y := a % m) (by omega) (by omega)).symm
        rw [e]
        omega
    · omega
theorem pr_refl {m r : Nat} (h : 0 < r) (h2 : r < m) : pr m (m - r) ≤ pr m r + 1 := by
  have key : ∀ s, 0 < s → 2 * s < m → pr m (m - s) = pr m s + 1 := fun s hs hs2 => by
    rw [pr_step (m := m - s) (by omega)]
    have e : m % (m - s) = s := by
      rw [Nat.mod_eq_sub_mod (by omega), Nat.mod_eq_of_lt (by omega)]
      omega
    rw [e, pr_step (m := s) hs, pr_step (m := s) hs]
    have e2 : (m - s) % s = m % s := by
      have : m = (m - s) + s := by omega
      conv => rhs; rw [this, Nat.add_mod_right]
    rw [e2]
  rcases Nat.lt_trichotomy (2 * r) m with c | c | c
  · rw [key r h c]; exact Nat.le_refl _
  · rw [show m - r = r from by omega]; omega
  · have := key (m - r) (by omega) (by omega)
    rw [show m - (m - r) = r from by omega] at this
    omega
/-! ### floors_of -/
theorem tri_is {n : Int} (h : 0 ≤ n) : (n - 1) * n / 2 = tri n.toNat := by
  have := tri_two n.toNat
  have e : ((n.toNat : Nat) : Int) = n := by omega
  rw [e] at this
  rw [Int.mul_comm, ← this]
  omega
theorem most_lt {n a b m : Int} (hn : 0 < n) (hm : 0 < m) : most n a b m < n := by
  have h2 := Int.emod_lt_of_pos a hm
  have h4 := Int.emod_lt_of_pos b hm
  unfold most
  rw [Int.ediv_lt_iff_lt_mul hm]
  have : a % m * (n - 1) ≤ (m - 1) * (n - 1) := Int.mul_le_mul_of_nonneg_right (by omega) (by omega)
  have e : (m - 1) * (n - 1) = n * m - m - n + 1 := by grind
  omega
theorem most_nn {n a b m : Int} (hn : 0 < n) (hm : 0 < m) : 0 ≤ most n a b m := by
  have h1 := Int.emod_nonneg a (Int.ne_of_gt hm)
  have h3 := Int.emod_nonneg b (Int.ne_of_gt hm)
  have := Int.mul_nonneg h1 (show 0 ≤ n - 1 by omega)
  exact Int.ediv_nonneg (by omega) (Int.le_of_lt hm)
theorem a_pos {n a b m : Int} (hm : 0 < m) (c : most n a b m ≠ 0) : 0 < a % m := by
  have h1 := Int.emod_nonneg a (Int.ne_of_gt hm)
  rcases Int.lt_or_eq_of_le h1 with z | z
  · exact z
  · exfalso
    apply c
    unfold most
    rw [← z, Int.zero_mul, Int.zero_add]
    exact Int.ediv_eq_zero_of_lt (Int.emod_nonneg b (Int.ne_of_gt hm)) (Int.emod_lt_of_pos b hm)
/-- the whole turn: what S becomes -/
theorem S_turn {n a b m : Int} (hn : 0 < n) (hm : 0 < m) : S a b m n.toNat = ((n - 1) * n / 2 * (a / m) + n * (b / m)) + (most n a b m * n - (if most n a b m = 0 then 0 else S m (m - b % m - 1 + a % m) (a % m) (most n a b m).toNat)) := by
  rw [S_mod a b m hm, tri_is (Int.le_of_lt hn)]
  have en : ((n.toNat : Nat) : Int) = n := by omega
  have h1 := Int.emod_nonneg a (Int.ne_of_gt hm)
  have key : S (a % m) (b % m) m n.toNat = most n a b m * n - (if most n a b m = 0 then 0 else S m (m - b % m - 1 + a % m) (a % m) (most n a b m).toNat) := by
    have e1 : n.toNat = (n - 1).toNat + 1 := by omega
    have e2 : (((n - 1).toNat : Nat) : Int) = n - 1 := by omega
    by_cases ha : 0 < a % m
    · have f := S_flip ha hm (Int.emod_nonneg b (Int.ne_of_gt hm)) (Int.emod_lt_of_pos b hm) (n - 1).toNat
      rw [← e1, e2] at f
      have e3 : (a % m * (n - 1) + b % m) / m = most n a b m := rfl
      rw [e3] at f
      split
      · rename_i c
        rw [c] at f ⊢
        simp [S, sm] at f ⊢
        exact f
      · grind
    · have z : a % m = 0 := by omega
      have c : most n a b m = 0 := by
        by_cases c : most n a b m = 0
        · exact c
        · exact absurd (a_pos hm c) ha
      rw [if_pos c, c, z]
      unfold S
      rw [sm_congr (g := fun _ => 0) (fun j _ => by
        rw [Int.zero_mul, Int.zero_add]
        exact Int.ediv_eq_zero_of_lt (Int.emod_nonneg b (Int.ne_of_gt hm)) (Int.emod_lt_of_pos b hm)), sm_const]
      omega
  rw [key, en]
  grind
end
end G69

namespace G69
open PySem PySem.Spec PyProof.Rows L2 PF N69
noncomputable section
def Inv (T : List D) (S0 : Int) (t0 : Int) (k : Nat) (env : SEnv) (T' : List D) : Prop := ∃ (n a b m f s t : Int) (mo : Sv), env = [.val (.int n), .val (.int a), .val (.int b), .val (.int m), .val (.int f), .val (.int s), .val (.int t), mo] ∧ T' = T ∧ k = m.toNat ∧
  0 ≤ n ∧ n ≤ 1000000000 ∧ Bd 42 a ∧ Bd 42 b ∧ 0 < m ∧ m ≤ 1000000000000 ∧ (s = 1 ∨ s = -1) ∧ f + s * S a b m n.toNat = S0 ∧ t + tu n a b m = t0
theorem floors_ok {n a b m : Int} {T : List D} (h1 : 0 ≤ n) (h2 : n ≤ 1000000000) (h3 : Bd 42 a) (h4 : Bd 42 b) (h5 : 0 < m) (h6 : m ≤ 1000000000000) :
    F_floors_of [.int n, .int a, .int b, .int m] T = some (.ok (.tup [.int (S a b m n.toNat), .int (tu n a b m)]) T) := by
  apply WP.eq
  simp [F_floors_of, B_floors_of, w_bind, w_ret, w_bad, w_raise, w_of, w_noex, w_look, w_tp, w_ite, some_ite, sSeq, sIf, sSet, sAsg, sPar2, sPar3, sAug, sEx, sRet, sRaise, sNext, sBreak, sCont, sTp, runX, runR, hide, Sv.hide, fVar, fC, fOp, fUn, fTup, fLst, fIx, fSl, oNone, oSome, fBool, fTru, fIf, fAnd, fOr, fNot, tyNot, tyAnd, tyOr, fChain, fCall, fCB, aCons, aNil, gTp, gsCons, gsNil, gNm, setV, setE, addD, subD, mulD, fdivD, modD, negD, iaddD, ltD, leD, gtD, geD, blD, truD, PF.intD, PF.absD, lenD, isiD, tyN, kitB, mkF, wend]
  refine wp_while (Inv T (S a b m n.toNat) (tu n a b m)) (fun k env T' hI => ?_) m.toNat _ T ⟨n, a, b, m, 0, 1, 0, _, rfl, rfl, rfl, h1, h2, h3, h4, h5, h6, .inl rfl, by omega, by omega⟩
  obtain ⟨n', a', b', m', f, s, t, mo, rfl, rfl, rfl, i1, i2, i3, i4, i5, i6, i7, i8, i9⟩ := hI
  have fdm : ∀ x : Int, x.fdiv m' = x / m' := fun x => fd i5
  have fd2 : ∀ x : Int, x.fdiv 2 = x / 2 := fun x => fd (by decide)
  have fmm : ∀ x : Int, x.fmod m' = x % m' := fun x => fm i5
  have lm : m'.natAbs.log2 < 9000 := by have := log_lt (x := m') (k := 41) (Bd.of (by omega) (by omega)) (by decide); omega
  have l2 : Nat.log2 2 < 9000 := by decide
  have m0 : m' ≠ 0 := by omega
  have bn : Bd 31 n' := Bd.of (by omega) (by omega)
  have bm : Bd 41 m' := Bd.of (by omega) (by omega)
  have g1 := Int.emod_nonneg a' (Int.ne_of_gt i5)
  have g2 := Int.emod_lt_of_pos a' i5
  have g3 := Int.emod_nonneg b' (Int.ne_of_gt i5)
  have g4 := Int.emod_lt_of_pos b' i5
  by_cases c : 0 < n'
  · have ml := most_lt (a := a') (b := b') c i5
    have mn := most_nn (a := a') (b := b') c i5
    have hs : Bd 2 s := by rcases i7 with rfl | rfl <;> (unfold Bd; decide)
    have bn1 : Bd 31 (n' - 1) := Bd.of (by omega) (by omega)
    have k1 : mulOk (n' - 1) n' = true := mul_ok bn1 bn
    have k2 : mulOk ((n' - 1) * n' / 2) (a' / m') = true := mul_ok (bn1.mul bn).div i3.div
    have k3 : mulOk n' (b' / m') = true := mul_ok bn i4.div
    have k4 : mulOk s ((n' - 1) * n' / 2 * (a' / m') + n' * (b' / m')) = true := mul_ok hs (Bd.add (k := 104) ((bn1.mul bn).div.mul i3.div) ((bn.mul i4.div).mono (by decide)))
    have k5 : mulOk (a' % m') (n' - 1) = true := mul_ok (j := 41) (Bd.of (by omega) (by omega)) bn1
    have bmo : Bd 31 ((a' % m' * (n' - 1) + b' % m') / m') := Bd.of (by show _ < most n' a' b' m'; omega) (by show most n' a' b' m' < _; omega)
    have k6 : mulOk s ((a' % m' * (n' - 1) + b' % m') / m') = true := mul_ok hs bmo
    have k7 : mulOk (s * ((a' % m' * (n' - 1) + b' % m') / m')) n' = true := mul_ok (hs.mul bmo) bn
    have st := S_turn (a := a') (b := b') c i5
    simp [w_bind, w_ret, w_bad, w_raise, w_of, w_noex, w_look, w_tp, w_ite, some_ite, sSeq, sIf, sSet, sAsg, sPar2, sPar3, sAug, sEx, sRet, sRaise, sNext, sBreak, sCont, sTp, runX, runR, hide, Sv.hide, fVar, fC, fOp, fUn, fTup, fLst, fIx, fSl, oNone, oSome, fBool, fTru, fIf, fAnd, fOr, fNot, tyNot, tyAnd, tyOr, fChain, fCall, fCB, aCons, aNil, gTp, gsCons, gsNil, gNm, setV, setE, addD, subD, mulD, fdivD, modD, negD, iaddD, ltD, leD, gtD, geD, blD, truD, PF.intD, PF.absD, lenD, isiD, tyN, kitB, mkF, wend, c, fdm, fd2, fmm, lm, l2, m0, k1, k2, k3, k4, k5, k6, k7, eqD, eqD?]
    have em : (a' % m' * (n' - 1) + b' % m') / m' = most n' a' b' m' := rfl
    rw [em] at *
    have tus : tu n' a' b' m' = if most n' a' b' m' = 0 then 0 else tu (most n' a' b' m') m' (m' - b' % m' - 1 + a' % m') (a' % m') + 1 := by
      conv => lhs; rw [tu]
      rw [dif_pos ⟨c, i5⟩]
    by_cases z : most n' a' b' m' = 0
    · refine ⟨.bl true, .inr ⟨z, rfl⟩, .inr ⟨rfl, ?_, ?_⟩⟩
      · rw [z, if_pos rfl] at st
        rw [st] at i8
        rw [← i8]
        grind
      · rw [tus, if_pos z] at i9
        omega
    · rw [if_neg z] at st tus
      refine ⟨.bl false, .inl ⟨z, rfl⟩, .inl ⟨rfl, (a' % m').toNat, by omega, ?_⟩⟩
      have ap := a_pos i5 z
      refine ⟨_, _, _, _, _, _, _, _, rfl, rfl, rfl, mn, by omega, bm.mono (by decide), Bd.of (by omega) (by omega), ap, by omega, ?_, ?_, ?_⟩
      · rcases i7 with rfl | rfl <;> simp
      · rw [st] at i8
        rw [← i8]
        generalize S m' (m' - b' % m' - 1 + a' % m') (a' % m') (most n' a' b' m').toNat = R
        grind
      · rw [tus] at i9
        push_cast at i9
        omega
  · have z : n' = 0 := by omega
    subst z
    have e1 : S a' b' m' (0 : Int).toNat = 0 := rfl
    have e2 : tu 0 a' b' m' = 0 := by rw [tu]; simp
    rw [e1] at i8
    rw [e2] at i9
    simp [w_bind, w_ret, w_bad, w_raise, w_of, w_noex, w_look, w_tp, w_ite, some_ite, sSeq, sIf, sSet, sAsg, sPar2, sPar3, sAug, sEx, sRet, sRaise, sNext, sBreak, sCont, sTp, runX, runR, hide, Sv.hide, fVar, fC, fOp, fUn, fTup, fLst, fIx, fSl, oNone, oSome, fBool, fTru, fIf, fAnd, fOr, fNot, tyNot, tyAnd, tyOr, fChain, fCall, fCB, aCons, aNil, gTp, gsCons, gsNil, gNm, setV, setE, addD, subD, mulD, fdivD, modD, negD, iaddD, ltD, leD, gtD, geD, blD, truD, PF.intD, PF.absD, lenD, isiD, tyN, kitB, mkF, wend, c]
    constructor
    · rw [← i8]; simp
    · rw [← i9]; simp
theorem sum_ok {n a b m : Int} {T : List D} (h1 : 0 ≤ n) (h2 : n ≤ 1000000000) (h3 : -1000000000000 < a) (h4 : a < 1000000000000) (h5 : -1000000000000 < b) (h6 : b < 1000000000000) (h7 : 0 < m) (h8 : m ≤ 1000000000000) :
    F_floor_sum [.int n, .int a, .int b, .int m] T = some (.ok (.int (S a b m n.toNat)) T) := by
  have c := fun T => chk_ok (T := T) h1 h2 h3 h4 h5 h6 (show 1 ≤ m by omega) h8
  have f := fun T => floors_ok (T := T) h1 h2 (Bd.of (k := 42) (x := a) (by omega) (by omega)) (Bd.of (k := 42) (x := b) (by omega) (by omega)) h7 h8
  apply WP.eq
  simp [F_floor_sum, B_floor_sum, w_bind, w_ret, w_bad, w_raise, w_of, w_noex, w_look, w_tp, w_ite, some_ite, sSeq, sIf, sSet, sAsg, sPar2, sPar3, sAug, sEx, sRet, sRaise, sNext, sBreak, sCont, sTp, runX, runR, hide, Sv.hide, fVar, fC, fOp, fUn, fTup, fLst, fIx, fSl, oNone, oSome, fBool, fTru, fIf, fAnd, fOr, fNot, tyNot, tyAnd, tyOr, fChain, fCall, fCB, aCons, aNil, gTp, gsCons, gsNil, gNm, setV, setE, addD, subD, mulD, fdivD, modD, negD, iaddD, ltD, leD, gtD, geD, blD, truD, PF.intD, PF.absD, lenD, isiD, tyN, kitB, mkF, wend, w_of_eq (c _), w_of_eq (f _), L2.atI, L2.ixN]
theorem steps_ok {n a b m : Int} {T : List D} (h1 : 0 ≤ n) (h2 : n ≤ 1000000000) (h3 : -1000000000000 < a) (h4 : a < 1000000000000) (h5 : -1000000000000 < b) (h6 : b < 1000000000000) (h7 : 0 < m) (h8 : m ≤ 1000000000000) :
    F_floor_steps [.int n, .int a, .int b, .int m] T = some (.ok (.int (tu n a b m)) T) := by
  have c := fun T => chk_ok (T := T) h1 h2 h3 h4 h5 h6 (show 1 ≤ m by omega) h8
  have f := fun T => floors_ok (T := T) h1 h2 (Bd.of (k := 42) (x := a) (by omega) (by omega)) (Bd.of (k := 42) (x := b) (by omega) (by omega)) h7 h8
  apply WP.eq
  simp [F_floor_steps, B_floor_steps, w_bind, w_ret, w_bad, w_raise, w_of, w_noex, w_look, w_tp, w_ite, some_ite, sSeq, sIf, sSet, sAsg, sPar2, sPar3, sAug, sEx, sRet, sRaise, sNext, sBreak, sCont, sTp, runX, runR, hide, Sv.hide, fVar, fC, fOp, fUn, fTup, fLst, fIx, fSl, oNone, oSome, fBool, fTru, fIf, fAnd, fOr, fNot, tyNot, tyAnd, tyOr, fChain, fCall, fCB, aCons, aNil, gTp, gsCons, gsNil, gNm, setV, setE, addD, subD, mulD, fdivD, modD, negD, iaddD, ltD, leD, gtD, geD, blD, truD, PF.intD, PF.absD, lenD, isiD, tyN, kitB, mkF, wend, w_of_eq (c _), w_of_eq (f _), L2.atI, L2.ixN]
end
end G69

namespace G69
open PySem PySem.Spec PyProof.Rows L2 PF N69
noncomputable section
/-! ### the tape -/
def TapeOk (j : Nat) (T : List D) : Prop := ∃ (cs : List Int) (i c s k : Int), T = [.lst (cs.map .int), .int i, .int c, .int s, .int k] ∧ 0 ≤ i ∧ 0 ≤ c ∧ 0 ≤ s ∧ s < 2147483647 ∧ 0 ≤ k ∧ k ≤ j ∧ ∀ z ∈ cs, 0 ≤ z
theorem at_cells {cs : List Int} {i : Int} (h1 : 0 ≤ i) (h2 : i < cs.length) : ∃ z, z ∈ cs ∧ L2.atI (cs.map D.int) i = some (.int z) := by
  refine ⟨cs[i.toNat]'(by omega), List.getElem_mem _, ?_⟩
  unfold L2.atI L2.ixN
  simp [h1, h2]
theorem i0 : L2.ixN 5 0 = some 0 := rfl
theorem i1 : L2.ixN 5 1 = some 1 := rfl
theorem i2 : L2.ixN 5 2 = some 2 := rfl
theorem i3 : L2.ixN 5 3 = some 3 := rfl
theorem i4 : L2.ixN 5 4 = some 4 := rfl
section
variable {a b c d e : D}
theorem a0 : L2.atI [a, b, c, d, e] 0 = some a := rfl
theorem a1 : L2.atI [a, b, c, d, e] 1 = some b := rfl
theorem a2 : L2.atI [a, b, c, d, e] 2 = some c := rfl
theorem a3 : L2.atI [a, b, c, d, e] 3 = some d := rfl
theorem a4 : L2.atI [a, b, c, d, e] 4 = some e := rfl
end
theorem pick_ok {many : Int} {j : Nat} {T : List D} (hT : TapeOk j T) (hj : j < 2 ^ 40) (hm : 0 < many) (hm2 : many < 2 ^ 200) : WP (F__law_pick [.tape, .int many]) T fun r T' => ∃ d, r = .int d ∧ 0 ≤ d ∧ d < many ∧ TapeOk (j + 1) T' := by
  obtain ⟨cs, i, c, s, k, rfl, hi, hc, hs, hs2, hk, hkj, hz⟩ := hT
  have fmm : ∀ x : Int, x.fmod many = x % many := fun x => fm hm
  have fdm : ∀ x : Int, x.fdiv many = x / many := fun x => fd hm
  have m0 : many ≠ 0 := by omega
  have lm : many.natAbs.log2 < 9000 := by have := log_lt (x := many) (k := 200) (Bd.of (by omega) (by omega)) (by decide); omega
  have e1 : ∀ x : Int, x.fmod 2147483629 = x % 2147483629 := fun x => fm (by decide)
  have e2 : ∀ x : Int, x.fmod 2147483647 = x % 2147483647 := fun x => fm (by decide)
  have e3 : ∀ x : Int, x.fmod 2147483399 = x % 2147483399 := fun x => fm (by decide)
  have e4 : ∀ x : Int, x.fdiv 1009 = x / 1009 := fun x => fd (by decide)
  have e5 : ∀ x : Int, x.fdiv 2003 = x / 2003 := fun x => fd (by decide)
  have e6 : ∀ x : Int, x.fdiv 16 = x / 16 := fun x => fd (by decide)
  have l1 : Nat.log2 1009 < 9000 := by decide
  have l2 : Nat.log2 2003 < 9000 := by decide
  have l3 : Nat.log2 16 < 9000 := by decide
  -- the tail, from any state of the tape
  have b1 : ∀ x : Int, 0 ≤ x → x < 2147483647 → mulOk x 69621 = true := fun x h1 h2 => mul_ok (j := 40) (k := 40) (Bd.of (by omega) (by omega)) (by unfold Bd; decide)
  have k1 : mulOk 7919 (k + 1) = true := mul_ok (j := 40) (k := 50) (by unfold Bd; decide) (Bd.of (by omega) (by omega))
  have k2 : ∀ x : Int, 0 ≤ x → x < 2147483647 → mulOk (x + 7919 * (k + 1)) 48271 = true := fun x h1 h2 => mul_ok (j := 80) (k := 40) (Bd.of (by omega) (by omega)) (by unfold Bd; decide)
  have k3 : ∀ x : Int, 0 ≤ x → x < 2147483647 → mulOk x (x / 1009 + 69621) = true := fun x h1 h2 => mul_ok (j := 40) (k := 40) (Bd.of (by omega) (by omega)) (Bd.of (by omega) (by omega))
  have k4 : ∀ x : Int, 0 ≤ x → x < 2147483647 → mulOk x (x / 2003 + 40692) = true := fun x h1 h2 => mul_ok (j := 40) (k := 40) (Bd.of (by omega) (by omega)) (Bd.of (by omega) (by omega))
  have p1 : ∀ x : Int, 0 ≤ x % 2147483629 ∧ x % 2147483629 < 2147483647 := fun x => by omega
  have p2 : ∀ x : Int, 0 ≤ x % 2147483647 ∧ x % 2147483647 < 2147483647 := fun x => by omega
  have p3 : ∀ x : Int, 0 ≤ x % many ∧ x % many < many := fun x => ⟨Int.emod_nonneg x m0, Int.emod_lt_of_pos x hm⟩
  rw [F__law_pick, w_mkF]
  refine ⟨rfl, ?_⟩
  unfold B__law_pick
  -- the cell, if any
  refine seq_step (fun fl T1 => ∃ (x2 : Sv) (i c s : Int), fl = .nx [.val .tape, .val (.int many), x2, .non, .non] ∧ T1 = [.lst (cs.map .int), .int i, .int c, .int s, .int k] ∧ 0 ≤ i ∧ 0 ≤ c ∧ 0 ≤ s ∧ s < 2147483647) ?_ ?_
  · by_cases c0 : c = 0 ∧ i < cs.length
    · obtain ⟨rfl, hil⟩ := c0
      obtain ⟨z, hz1, hz2⟩ := at_cells hi hil
      have hz0 := hz z hz1
      have q := p1 (s * 69621 + z + 11)
      by_cases hz18 : 1000000000000000000 ≤ z
      · simp [w_var, w_c, w_op, w_un, w_tup, w_lst, w_acons, w_anil, w_ix, w_onone, w_osome, w_sl, w_bool, w_tru, w_ifx, w_and, w_or, w_not, wt_not, wt_and, wt_or, w_chain, w_call, w_cb, w_mt, k_nx, k_rt, k_bk, k_ct, w_seq, w_if, w_set, w_asg, w_par2, w_par3, w_aug, w_ex, w_sret, ws_next, w_brk, w_cnt, w_sraise, w_stp, e_rt, e_nx, w_mkF, w_for, some_ite, hide, Sv.hide, gTp, gsCons, gsNil, gNm, setV, setE, addD, subD, mulD, fdivD, modD, negD, iaddD, ltD, leD, gtD, geD, blD, truD, PF.intD, PF.absD, lenD, eqD, eqD?, neD, ixV, i0, i1, i2, i3, i4, a0, a1, a2, a3, a4, powD, hil, hz2, b1 s hs hs2, e1, hz18]
        exact ⟨_, _, _, ⟨rfl, rfl, rfl⟩, by omega, by omega, by omega, by omega⟩
      · simp [w_var, w_c, w_op, w_un, w_tup, w_lst, w_acons, w_anil, w_ix, w_onone, w_osome, w_sl, w_bool, w_tru, w_ifx, w_and, w_or, w_not, wt_not, wt_and, wt_or, w_chain, w_call, w_cb, w_mt, k_nx, k_rt, k_bk, k_ct, w_seq, w_if, w_set, w_asg, w_par2, w_par3, w_aug, w_ex, w_sret, ws_next, w_brk, w_cnt, w_sraise, w_stp, e_rt, e_nx, w_mkF, w_for, some_ite, hide, Sv.hide, gTp, gsCons, gsNil, gNm, setV, setE, addD, subD, mulD, fdivD, modD, negD, iaddD, ltD, leD, gtD, geD, blD, truD, PF.intD, PF.absD, lenD, eqD, eqD?, neD, ixV, i0, i1, i2, i3, i4, a0, a1, a2, a3, a4, powD, hil, hz2, b1 s hs hs2, e1, hz18]
        exact ⟨_, _, _, ⟨rfl, rfl, rfl⟩, by omega, by omega, by omega, by omega⟩
    · by_cases c1 : c = 0
      · subst c1
        have hil : ¬ i < cs.length := fun h => c0 ⟨rfl, h⟩
        simp [w_var, w_c, w_op, w_un, w_tup, w_lst, w_acons, w_anil, w_ix, w_onone, w_osome, w_sl, w_bool, w_tru, w_ifx, w_and, w_or, w_not, wt_not, wt_and, wt_or, w_chain, w_call, w_cb, w_mt, k_nx, k_rt, k_bk, k_ct, w_seq, w_if, w_set, w_asg, w_par2, w_par3, w_aug, w_ex, w_sret, ws_next, w_brk, w_cnt, w_sraise, w_stp, e_rt, e_nx, w_mkF, w_for, some_ite, hide, Sv.hide, gTp, gsCons, gsNil, gNm, setV, setE, addD, subD, mulD, fdivD, modD, negD, iaddD, ltD, leD, gtD, geD, blD, truD, PF.intD, PF.absD, lenD, eqD, eqD?, neD, ixV, i0, i1, i2, i3, i4, a0, a1, a2, a3, a4, hil]
        exact ⟨_, _, _, ⟨rfl, rfl, rfl⟩, by omega, by omega, by omega, by omega⟩
      · simp [w_var, w_c, w_op, w_un, w_tup, w_lst, w_acons, w_anil, w_ix, w_onone, w_osome, w_sl, w_bool, w_tru, w_ifx, w_and, w_or, w_not, wt_not, wt_and, wt_or, w_chain, w_call, w_cb, w_mt, k_nx, k_rt, k_bk, k_ct, w_seq, w_if, w_set, w_asg, w_par2, w_par3, w_aug, w_ex, w_sret, ws_next, w_brk, w_cnt, w_sraise, w_stp, e_rt, e_nx, w_mkF, w_for, some_ite, hide, Sv.hide, gTp, gsCons, gsNil, gNm, setV, setE, addD, subD, mulD, fdivD, modD, negD, iaddD, ltD, leD, gtD, geD, blD, truD, PF.intD, PF.absD, lenD, eqD, eqD?, neD, ixV, i0, i1, i2, i3, i4, a0, a1, a2, a3, a4, c1]
        exact ⟨_, _, _, ⟨rfl, rfl, rfl⟩, by omega, by omega, by omega, by omega⟩
  · rintro fl T1 ⟨x2, i, c, s, rfl, rfl, hi, hc, hs, hs2⟩
    rw [k_nx]
    by_cases cp : 0 < c
    · refine seq_step (fun fl T1 => ∃ d, fl = .rt (.int d) ∧ 0 ≤ d ∧ d < many ∧ TapeOk (j + 1) T1) ?_ ?_
      · have q := p3 c
        have cd : 0 ≤ c / many := Int.ediv_nonneg hc (by omega)
        simp [w_var, w_c, w_op, w_un, w_tup, w_lst, w_acons, w_anil, w_ix, w_onone, w_osome, w_sl, w_bool, w_tru, w_ifx, w_and, w_or, w_not, wt_not, wt_and, wt_or, w_chain, w_call, w_cb, w_mt, k_nx, k_rt, k_bk, k_ct, w_seq, w_if, w_set, w_asg, w_par2, w_par3, w_aug, w_ex, w_sret, ws_next, w_brk, w_cnt, w_sraise, w_stp, e_rt, e_nx, w_mkF, w_for, some_ite, hide, Sv.hide, gTp, gsCons, gsNil, gNm, setV, setE, addD, subD, mulD, fdivD, modD, negD, iaddD, ltD, leD, gtD, geD, blD, truD, PF.intD, PF.absD, lenD, eqD, eqD?, neD, ixV, i0, i1, i2, i3, i4, a0, a1, a2, a3, a4, cp, m0, lm, fmm, fdm]
        exact ⟨q.1, q.2, cs, i, c / many, s, k, rfl, hi, cd, hs, hs2, hk, by omega, hz⟩
      · rintro fl T1 ⟨d, rfl, h1, h2, h3⟩
        rw [k_rt, e_rt]
        exact ⟨d, rfl, h1, h2, h3⟩
    · refine seq_step (fun fl T1 => fl = .nx [.val .tape, .val (.int many), x2, .non, .non] ∧ T1 = [.lst (cs.map .int), .int i, .int c, .int s, .int k]) ?_ ?_
      · simp [w_var, w_c, w_op, w_un, w_tup, w_lst, w_acons, w_anil, w_ix, w_onone, w_osome, w_sl, w_bool, w_tru, w_ifx, w_and, w_or, w_not, wt_not, wt_and, wt_or, w_chain, w_call, w_cb, w_mt, k_nx, k_rt, k_bk, k_ct, w_seq, w_if, w_set, w_asg, w_par2, w_par3, w_aug, w_ex, w_sret, ws_next, w_brk, w_cnt, w_sraise, w_stp, e_rt, e_nx, w_mkF, w_for, some_ite, hide, Sv.hide, gTp, gsCons, gsNil, gNm, setV, setE, addD, subD, mulD, fdivD, modD, negD, iaddD, ltD, leD, gtD, geD, blD, truD, PF.intD, PF.absD, lenD, eqD, eqD?, neD, ixV, i0, i1, i2, i3, i4, a0, a1, a2, a3, a4, cp]
      · rintro fl T1 ⟨rfl, rfl⟩
        rw [k_nx]
        refine seq_step (fun fl T1 => fl = .nx [.val .tape, .val (.int many), x2, .non, .non] ∧ T1 = [.lst (cs.map .int), .int i, .int c, .int s, .int (k + 1)]) ?_ ?_
        · simp [w_var, w_c, w_op, w_un, w_tup, w_lst, w_acons, w_anil, w_ix, w_onone, w_osome, w_sl, w_bool, w_tru, w_ifx, w_and, w_or, w_not, wt_not, wt_and, wt_or, w_chain, w_call, w_cb, w_mt, k_nx, k_rt, k_bk, k_ct, w_seq, w_if, w_set, w_asg, w_par2, w_par3, w_aug, w_ex, w_sret, ws_next, w_brk, w_cnt, w_sraise, w_stp, e_rt, e_nx, w_mkF, w_for, some_ite, hide, Sv.hide, gTp, gsCons, gsNil, gNm, setV, setE, addD, subD, mulD, fdivD, modD, negD, iaddD, ltD, leD, gtD, geD, blD, truD, PF.intD, PF.absD, lenD, eqD, eqD?, neD, ixV, i0, i1, i2, i3, i4, a0, a1, a2, a3, a4]
        · rintro fl T1 ⟨rfl, rfl⟩
          rw [k_nx]
          have q1 := p2 ((s + 7919 * (k + 1)) * 48271)
          refine seq_step (fun fl T1 => ∃ x, 0 ≤ x ∧ x < 2147483647 ∧ fl = .nx [.val .tape, .val (.int many), x2, .non, .val (.int x)] ∧ T1 = [.lst (cs.map .int), .int i, .int c, .int s, .int (k + 1)]) ?_ ?_
          · simp [w_var, w_c, w_op, w_un, w_tup, w_lst, w_acons, w_anil, w_ix, w_onone, w_osome, w_sl, w_bool, w_tru, w_ifx, w_and, w_or, w_not, wt_not, wt_and, wt_or, w_chain, w_call, w_cb, w_mt, k_nx, k_rt, k_bk, k_ct, w_seq, w_if, w_set, w_asg, w_par2, w_par3, w_aug, w_ex, w_sret, ws_next, w_brk, w_cnt, w_sraise, w_stp, e_rt, e_nx, w_mkF, w_for, some_ite, hide, Sv.hide, gTp, gsCons, gsNil, gNm, setV, setE, addD, subD, mulD, fdivD, modD, negD, iaddD, ltD, leD, gtD, geD, blD, truD, PF.intD, PF.absD, lenD, eqD, eqD?, neD, ixV, i0, i1, i2, i3, i4, a0, a1, a2, a3, a4, k1, k2 s hs hs2, e2]
            omega
          · rintro fl T1 ⟨x, hx1, hx2, rfl, rfl⟩
            rw [k_nx]
            have q2 := p2 (x * (x / 1009 + 69621))
            refine seq_step (fun fl T1 => ∃ x, 0 ≤ x ∧ x < 2147483647 ∧ fl = .nx [.val .tape, .val (.int many), x2, .non, .val (.int x)] ∧ T1 = [.lst (cs.map .int), .int i, .int c, .int s, .int (k + 1)]) ?_ ?_
            · simp [w_var, w_c, w_op, w_un, w_tup, w_lst, w_acons, w_anil, w_ix, w_onone, w_osome, w_sl, w_bool, w_tru, w_ifx, w_and, w_or, w_not, wt_not, wt_and, wt_or, w_chain, w_call, w_cb, w_mt, k_nx, k_rt, k_bk, k_ct, w_seq, w_if, w_set, w_asg, w_par2, w_par3, w_aug, w_ex, w_sret, ws_next, w_brk, w_cnt, w_sraise, w_stp, e_rt, e_nx, w_mkF, w_for, some_ite, hide, Sv.hide, gTp, gsCons, gsNil, gNm, setV, setE, addD, subD, mulD, fdivD, modD, negD, iaddD, ltD, leD, gtD, geD, blD, truD, PF.intD, PF.absD, lenD, eqD, eqD?, neD, ixV, k3 x hx1 hx2, e2, e4, l1]
              omega
            · rintro fl T1 ⟨x, hx1, hx2, rfl, rfl⟩
              rw [k_nx]
              refine seq_step (fun fl T1 => ∃ x, 0 ≤ x ∧ fl = .nx [.val .tape, .val (.int many), x2, .non, .val (.int x)] ∧ T1 = [.lst (cs.map .int), .int i, .int c, .int s, .int (k + 1)]) ?_ ?_
              · simp [w_var, w_c, w_op, w_un, w_tup, w_lst, w_acons, w_anil, w_ix, w_onone, w_osome, w_sl, w_bool, w_tru, w_ifx, w_and, w_or, w_not, wt_not, wt_and, wt_or, w_chain, w_call, w_cb, w_mt, k_nx, k_rt, k_bk, k_ct, w_seq, w_if, w_set, w_asg, w_par2, w_par3, w_aug, w_ex, w_sret, ws_next, w_brk, w_cnt, w_sraise, w_stp, e_rt, e_nx, w_mkF, w_for, some_ite, hide, Sv.hide, gTp, gsCons, gsNil, gNm, setV, setE, addD, subD, mulD, fdivD, modD, negD, iaddD, ltD, leD, gtD, geD, blD, truD, PF.intD, PF.absD, lenD, eqD, eqD?, neD, ixV, k4 x hx1 hx2, e3, e5, l2]
                omega
              · rintro fl T1 ⟨x, hx1, rfl, rfl⟩
                rw [k_nx]
                have q := p3 (x / 16)
                simp [w_var, w_c, w_op, w_un, w_tup, w_lst, w_acons, w_anil, w_ix, w_onone, w_osome, w_sl, w_bool, w_tru, w_ifx, w_and, w_or, w_not, wt_not, wt_and, wt_or, w_chain, w_call, w_cb, w_mt, k_nx, k_rt, k_bk, k_ct, w_seq, w_if, w_set, w_asg, w_par2, w_par3, w_aug, w_ex, w_sret, ws_next, w_brk, w_cnt, w_sraise, w_stp, e_rt, e_nx, w_mkF, w_for, some_ite, hide, Sv.hide, gTp, gsCons, gsNil, gNm, setV, setE, addD, subD, mulD, fdivD, modD, negD, iaddD, ltD, leD, gtD, geD, blD, truD, PF.intD, PF.absD, lenD, eqD, eqD?, neD, ixV, e6, l3, fmm, m0]
                exact ⟨q.1, q.2, cs, i, c, s, k + 1, rfl, hi, hc, hs, hs2, by omega, by omega, hz⟩
end
end G69

namespace G69
open PySem PySem.Spec PyProof.Rows L2 PF N69
noncomputable section
theorem any_ok {l : List D} {j : Nat} {T : List D} (hT : TapeOk j T) (hj : j < 2 ^ 40) (h1 : 0 < l.length) (h2 : l.length < 100) : WP (F__law_any [.tape, .lst l]) T fun r T' => r ∈ l ∧ TapeOk (j + 1) T' := by
  rw [F__law_any, w_mkF]
  refine ⟨rfl, ?_⟩
  unfold B__law_any
  simp [w_var, w_c, w_op, w_un, w_tup, w_lst, w_acons, w_anil, w_ix, w_onone, w_osome, w_sl, w_bool, w_tru, w_ifx, w_and, w_or, w_not, wt_not, wt_and, wt_or, w_chain, w_call, w_cb, w_mt, k_nx, k_rt, k_bk, k_ct, w_seq, w_if, w_set, w_asg, w_par2, w_par3, w_aug, w_ex, w_sret, ws_next, w_brk, w_cnt, w_sraise, w_stp, e_rt, e_nx, w_mkF, w_for, some_ite, hide, Sv.hide, gTp, gsCons, gsNil, gNm, setV, setE, addD, subD, mulD, fdivD, modD, negD, iaddD, ltD, leD, gtD, geD, blD, truD, PF.intD, PF.absD, lenD, eqD, eqD?, neD, ixV]
  refine (pick_ok hT hj (many := (l.length : Nat)) (by omega) (by omega)).mono ?_
  rintro r T' ⟨d, rfl, d1, d2, d3⟩
  have hd : d.toNat < l.length := by omega
  refine ⟨l[d.toNat], ?_, List.getElem_mem _, d3⟩
  simp [L2.atI, L2.ixN, d1, d2, hd]
/-! ### Euclid -/
def pI (a m : Int) : Nat := if 0 < m then pr m.toNat (a % m).toNat + 1 else 0
theorem pI_step {a m : Int} (h : 0 < m) : pI a m = pI m (a % m) + 1 := by
  have h1 := Int.emod_nonneg a (Int.ne_of_gt h)
  unfold pI
  rw [if_pos h]
  by_cases c : 0 < a % m
  · rw [if_pos c, pr_step (m := (a % m).toNat) (by omega)]
    rw [(Int.toNat_emod (x := m) (y := a % m) (by omega) (by omega)).symm]
  · rw [if_neg c, show (a % m).toNat = 0 from by omega, pr_zero]
theorem pairs_ok {a m : Int} {T : List D} (hm : 0 ≤ m) : F__law_pairs [.int a, .int m] T = some (.ok (.int (pI a m)) T) := by
  apply WP.eq
  rw [F__law_pairs, w_mkF]
  refine ⟨rfl, ?_⟩
  unfold B__law_pairs
  refine seq_step (fun fl T1 => fl = .nx [.val (.int a), .val (.int m), .val (.int 0)] ∧ T1 = T) (by simp [w_var, w_c, w_op, w_un, w_tup, w_lst, w_acons, w_anil, w_ix, w_onone, w_osome, w_sl, w_bool, w_tru, w_ifx, w_and, w_or, w_not, wt_not, wt_and, wt_or, w_chain, w_call, w_cb, w_mt, k_nx, k_rt, k_bk, k_ct, w_seq, w_if, w_set, w_asg, w_par2, w_par3, w_aug, w_ex, w_sret, ws_next, w_brk, w_cnt, w_sraise, w_stp, e_rt, e_nx, w_mkF, w_for, some_ite, hide, Sv.hide, gTp, gsCons, gsNil, gNm, setV, setE, addD, subD, mulD, fdivD, modD, negD, iaddD, ltD, leD, gtD, geD, blD, truD, PF.intD, PF.absD, lenD, eqD, eqD?, neD, ixV]) ?_
  rintro fl T1 ⟨rfl, rfl⟩
  rw [k_nx]
  refine seq_step (fun fl T2 => ∃ x y, fl = .nx [x, y, .val (.int (pI a m))] ∧ T2 = T1) ?_ (by rintro fl T2 ⟨x, y, rfl, rfl⟩; rw [k_nx]; simp [w_var, w_c, w_op, w_un, w_tup, w_lst, w_acons, w_anil, w_ix, w_onone, w_osome, w_sl, w_bool, w_tru, w_ifx, w_and, w_or, w_not, wt_not, wt_and, wt_or, w_chain, w_call, w_cb, w_mt, k_nx, k_rt, k_bk, k_ct, w_seq, w_if, w_set, w_asg, w_par2, w_par3, w_aug, w_ex, w_sret, ws_next, w_brk, w_cnt, w_sraise, w_stp, e_rt, e_nx, w_mkF, w_for, some_ite, hide, Sv.hide, gTp, gsCons, gsNil, gNm, setV, setE, addD, subD, mulD, fdivD, modD, negD, iaddD, ltD, leD, gtD, geD, blD, truD, PF.intD, PF.absD, lenD, eqD, eqD?, neD, ixV])
  refine wp_while (fun k env T' => ∃ a' m' f : Int, env = [.val (.int a'), .val (.int m'), .val (.int f)] ∧ T' = T1 ∧ k = m'.toNat ∧ 0 ≤ m' ∧ f + pI a' m' = pI a m) (fun k env T' hI => ?_) m.toNat _ _ ⟨a, m, 0, rfl, rfl, rfl, hm, by omega⟩
  obtain ⟨a', m', f, rfl, rfl, rfl, h1, h2⟩ := hI
  rw [w_rx]
  by_cases c : 0 < m'
  · have fmm : a'.fmod m' = a' % m' := fm c
    have g1 := Int.emod_nonneg a' (Int.ne_of_gt c)
    have g2 := Int.emod_lt_of_pos a' c
    have st := pI_step (a := a') c
    simp [w_var, w_c, w_op, w_un, w_tup, w_lst, w_acons, w_anil, w_ix, w_onone, w_osome, w_sl, w_bool, w_tru, w_ifx, w_and, w_or, w_not, wt_not, wt_and, wt_or, w_chain, w_call, w_cb, w_mt, k_nx, k_rt, k_bk, k_ct, w_seq, w_if, w_set, w_asg, w_par2, w_par3, w_aug, w_ex, w_sret, ws_next, w_brk, w_cnt, w_sraise, w_stp, e_rt, e_nx, w_mkF, w_for, some_ite, hide, Sv.hide, gTp, gsCons, gsNil, gNm, setV, setE, addD, subD, mulD, fdivD, modD, negD, iaddD, ltD, leD, gtD, geD, blD, truD, PF.intD, PF.absD, lenD, eqD, eqD?, neD, ixV, c, fmm, Int.ne_of_gt c]
    exact ⟨_, _, _, ⟨rfl, rfl, rfl⟩, (a' % m').toNat, by omega, m', a' % m', f + 1, ⟨rfl, rfl, rfl⟩, rfl, g1, by omega⟩
  · have z : pI a' m' = 0 := by unfold pI; rw [if_neg c]
    simp [w_var, w_c, w_op, w_un, w_tup, w_lst, w_acons, w_anil, w_ix, w_onone, w_osome, w_sl, w_bool, w_tru, w_ifx, w_and, w_or, w_not, wt_not, wt_and, wt_or, w_chain, w_call, w_cb, w_mt, k_nx, k_rt, k_bk, k_ct, w_seq, w_if, w_set, w_asg, w_par2, w_par3, w_aug, w_ex, w_sret, ws_next, w_brk, w_cnt, w_sraise, w_stp, e_rt, e_nx, w_mkF, w_for, some_ite, hide, Sv.hide, gTp, gsCons, gsNil, gNm, setV, setE, addD, subD, mulD, fdivD, modD, negD, iaddD, ltD, leD, gtD, geD, blD, truD, PF.intD, PF.absD, lenD, eqD, eqD?, neD, ixV, c]
    omega
theorem shared_ok {a m : Int} {T : List D} : F__law_shared [.int a, .int m] T = some (.ok (.int (Int.gcd a m)) T) := by
  apply WP.eq
  rw [F__law_shared, w_mkF]
  refine ⟨rfl, ?_⟩
  unfold B__law_shared
  refine seq_step (fun fl T1 => fl = .nx [.val (.int a.natAbs), .val (.int m.natAbs)] ∧ T1 = T) ?_ ?_
  · simp [w_var, w_c, w_op, w_un, w_tup, w_lst, w_acons, w_anil, w_ix, w_onone, w_osome, w_sl, w_bool, w_tru, w_ifx, w_and, w_or, w_not, wt_not, wt_and, wt_or, w_chain, w_call, w_cb, w_mt, k_nx, k_rt, k_bk, k_ct, w_seq, w_if, w_set, w_asg, w_par2, w_par3, w_aug, w_ex, w_sret, ws_next, w_brk, w_cnt, w_sraise, w_stp, e_rt, e_nx, w_mkF, w_for, some_ite, hide, Sv.hide, gTp, gsCons, gsNil, gNm, setV, setE, addD, subD, mulD, fdivD, modD, negD, iaddD, ltD, leD, gtD, geD, blD, truD, PF.intD, PF.absD, lenD, eqD, eqD?, neD, ixV]
    constructor <;> (split <;> omega)
  rintro fl T1 ⟨rfl, rfl⟩
  rw [k_nx]
  refine seq_step (fun fl T2 => ∃ y, fl = .nx [.val (.int (Int.gcd a m)), y] ∧ T2 = T1) ?_ (by rintro fl T2 ⟨y, rfl, rfl⟩; rw [k_nx]; simp [w_var, w_c, w_op, w_un, w_tup, w_lst, w_acons, w_anil, w_ix, w_onone, w_osome, w_sl, w_bool, w_tru, w_ifx, w_and, w_or, w_not, wt_not, wt_and, wt_or, w_chain, w_call, w_cb, w_mt, k_nx, k_rt, k_bk, k_ct, w_seq, w_if, w_set, w_asg, w_par2, w_par3, w_aug, w_ex, w_sret, ws_next, w_brk, w_cnt, w_sraise, w_stp, e_rt, e_nx, w_mkF, w_for, some_ite, hide, Sv.hide, gTp, gsCons, gsNil, gNm, setV, setE, addD, subD, mulD, fdivD, modD, negD, iaddD, ltD, leD, gtD, geD, blD, truD, PF.intD, PF.absD, lenD, eqD, eqD?, neD, ixV])
  refine wp_while (fun k env T' => ∃ x y : Nat, env = [.val (.int x), .val (.int y)] ∧ T' = T1 ∧ k = y ∧ Nat.gcd x y = Int.gcd a m) (fun k env T' hI => ?_) m.natAbs _ _ ⟨a.natAbs, m.natAbs, rfl, rfl, rfl, rfl⟩
  obtain ⟨x, y, rfl, rfl, rfl, h2⟩ := hI
  rw [w_rx]
  by_cases c : 0 < k
  · have fmm : (x : Int).fmod (k : Int) = ((x % k : Nat) : Int) := by rw [fm (by omega)]; simp
    have y0 : ¬ k = 0 := by omega
    simp [w_var, w_c, w_op, w_un, w_tup, w_lst, w_acons, w_anil, w_ix, w_onone, w_osome, w_sl, w_bool, w_tru, w_ifx, w_and, w_or, w_not, wt_not, wt_and, wt_or, w_chain, w_call, w_cb, w_mt, k_nx, k_rt, k_bk, k_ct, w_seq, w_if, w_set, w_asg, w_par2, w_par3, w_aug, w_ex, w_sret, ws_next, w_brk, w_cnt, w_sraise, w_stp, e_rt, e_nx, w_mkF, w_for, some_ite, hide, Sv.hide, gTp, gsCons, gsNil, gNm, setV, setE, addD, subD, mulD, fdivD, modD, negD, iaddD, ltD, leD, gtD, geD, blD, truD, PF.intD, PF.absD, lenD, eqD, eqD?, neD, ixV, c, fmm, y0]
    refine ⟨_, _, ⟨rfl, rfl⟩, x % k, Nat.mod_lt _ c, k, x % k, ⟨rfl, by simp⟩, rfl, ?_⟩
    rw [← h2, Nat.gcd_comm x k, Nat.gcd_rec k x, Nat.gcd_comm]
  · have z : k = 0 := by omega
    subst z
    simp [w_var, w_c, w_op, w_un, w_tup, w_lst, w_acons, w_anil, w_ix, w_onone, w_osome, w_sl, w_bool, w_tru, w_ifx, w_and, w_or, w_not, wt_not, wt_and, wt_or, w_chain, w_call, w_cb, w_mt, k_nx, k_rt, k_bk, k_ct, w_seq, w_if, w_set, w_asg, w_par2, w_par3, w_aug, w_ex, w_sret, ws_next, w_brk, w_cnt, w_sraise, w_stp, e_rt, e_nx, w_mkF, w_for, some_ite, hide, Sv.hide, gTp, gsCons, gsNil, gNm, setV, setE, addD, subD, mulD, fdivD, modD, negD, iaddD, ltD, leD, gtD, geD, blD, truD, PF.intD, PF.absD, lenD, eqD, eqD?, neD, ixV]
    rw [← h2]; simp
end
end G69

namespace G69
open PySem PySem.Spec PyProof.Rows L2 PF N69
noncomputable section
def m2 (n a b m : Int) : Int := (a % m * n + b % m) / m
theorem m2_le {n a b m : Int} (hn : 0 < n) (hm : 0 < m) : m2 n a b m ≤ n := by
  have h2 := Int.emod_lt_of_pos a hm
  have h4 := Int.emod_lt_of_pos b hm
  have : m2 n a b m < n + 1 := by
    unfold m2
    rw [Int.ediv_lt_iff_lt_mul hm]
    have : a % m * n ≤ (m - 1) * n := Int.mul_le_mul_of_nonneg_right (by omega) (by omega)
    have e : (m - 1) * n = n * m - n := by grind
    have e2 : (n + 1) * m = n * m + m := by grind
    omega
  omega
theorem m2_nn {n a b m : Int} (hn : 0 < n) (hm : 0 < m) : 0 ≤ m2 n a b m := by
  have h1 := Int.emod_nonneg a (Int.ne_of_gt hm)
  have h3 := Int.emod_nonneg b (Int.ne_of_gt hm)
  have := Int.mul_nonneg h1 (show 0 ≤ n by omega)
  exact Int.ediv_nonneg (by omega) (Int.le_of_lt hm)
theorem a_pos2 {n a b m : Int} (hm : 0 < m) (c : m2 n a b m ≠ 0) : 0 < a % m := by
  have h1 := Int.emod_nonneg a (Int.ne_of_gt hm)
  rcases Int.lt_or_eq_of_le h1 with z | z
  · exact z
  · exfalso
    apply c
    unfold m2
    rw [← z, Int.zero_mul, Int.zero_add]
    exact Int.ediv_eq_zero_of_lt (Int.emod_nonneg b (Int.ne_of_gt hm)) (Int.emod_lt_of_pos b hm)
theorem S_turn2 {n a b m : Int} (hn : 0 < n) (hm : 0 < m) : S a b m n.toNat = (a / m * (n * (n - 1) / 2) + b / m * n) + (m2 n a b m * n - (if m2 n a b m = 0 then 0 else S m (m - b % m + a % m - 1) (a % m) (m2 n a b m).toNat)) := by
  have et : n * (n - 1) / 2 = tri n.toNat := by rw [Int.mul_comm]; exact tri_is (Int.le_of_lt hn)
  rw [S_mod a b m hm, et]
  have en : ((n.toNat : Nat) : Int) = n := by omega
  have h1 := Int.emod_nonneg a (Int.ne_of_gt hm)
  have key : S (a % m) (b % m) m n.toNat = m2 n a b m * n - (if m2 n a b m = 0 then 0 else S m (m - b % m + a % m - 1) (a % m) (m2 n a b m).toNat) := by
    by_cases ha : 0 < a % m
    · have f := S_flip ha hm (Int.emod_nonneg b (Int.ne_of_gt hm)) (Int.emod_lt_of_pos b hm) n.toNat
      have e0 : S (a % m) (b % m) m (n.toNat + 1) = S (a % m) (b % m) m n.toNat + (a % m * (n.toNat : Int) + b % m) / m := rfl
      rw [e0, en] at f
      have e3 : (a % m * n + b % m) / m = m2 n a b m := rfl
      rw [e3, show m - b % m - 1 + a % m = m - b % m + a % m - 1 from by omega] at f
      split
      · rename_i c
        rw [c] at f ⊢
        simp [S, sm] at f ⊢
        exact f
      · grind
    · have z : a % m = 0 := by omega
      have c : m2 n a b m = 0 := by
        by_cases c : m2 n a b m = 0
        · exact c
        · exact absurd (a_pos2 hm c) ha
      rw [if_pos c, c, z]
      unfold S
      rw [sm_congr (g := fun _ => 0) (fun j _ => by
        rw [Int.zero_mul, Int.zero_add]
        exact Int.ediv_eq_zero_of_lt (Int.emod_nonneg b (Int.ne_of_gt hm)) (Int.emod_lt_of_pos b hm)), sm_const]
      omega
  rw [key, en]
  grind
def Inv2 (T : List D) (S0 : Int) (k : Nat) (env : SEnv) (T' : List D) : Prop := ∃ (n a b m f s : Int) (mo : Sv), env = [.val (.int n), .val (.int a), .val (.int b), .val (.int m), .val (.int f), .val (.int s), mo] ∧ T' = T ∧ k = m.toNat ∧
  0 ≤ n ∧ n ≤ 1000000000 ∧ Bd 42 a ∧ Bd 42 b ∧ 0 < m ∧ m ≤ 1000000000000 ∧ (s = 1 ∨ s = -1) ∧ f + s * S a b m n.toNat = S0
theorem great_ok {n a b m : Int} {T : List D} (h1 : 0 ≤ n) (h2 : n ≤ 1000000000) (h3 : Bd 42 a) (h4 : Bd 42 b) (h5 : 0 < m) (h6 : m ≤ 1000000000000) :
    F__law_great_sum [.int n, .int a, .int b, .int m] T = some (.ok (.int (S a b m n.toNat)) T) := by
  apply WP.eq
  rw [F__law_great_sum, w_mkF]
  refine ⟨rfl, ?_⟩
  unfold B__law_great_sum
  refine seq_step (fun fl T1 => fl = .nx [.val (.int n), .val (.int a), .val (.int b), .val (.int m), .val (.int 0), .val (.int 1), .non] ∧ T1 = T) (by simp [w_var, w_c, w_op, w_un, w_tup, w_lst, w_acons, w_anil, w_ix, w_onone, w_osome, w_sl, w_bool, w_tru, w_ifx, w_and, w_or, w_not, wt_not, wt_and, wt_or, w_chain, w_call, w_cb, w_mt, k_nx, k_rt, k_bk, k_ct, w_seq, w_if, w_set, w_asg, w_par2, w_par3, w_aug, w_ex, w_sret, ws_next, w_brk, w_cnt, w_sraise, w_stp, e_rt, e_nx, w_mkF, w_for, some_ite, hide, Sv.hide, gTp, gsCons, gsNil, gNm, setV, setE, addD, subD, mulD, fdivD, modD, negD, iaddD, ltD, leD, gtD, geD, blD, truD, PF.intD, PF.absD, lenD, eqD, eqD?, neD, ixV]) ?_
  rintro fl T1 ⟨rfl, rfl⟩
  rw [k_nx]
  refine seq_step (fun fl T2 => T2 = T1 ∧ (fl = .rt (.int (S a b m n.toNat)) ∨ ∃ x0 x1 x2 x3 x5 x6, fl = .nx [x0, x1, x2, x3, .val (.int (S a b m n.toNat)), x5, x6])) ?_ (by
    rintro fl T2 ⟨rfl, rfl | ⟨x0, x1, x2, x3, x5, x6, rfl⟩⟩
    · rw [k_rt, e_rt]; exact ⟨rfl, rfl⟩
    · rw [k_nx]; simp [w_var, w_c, w_op, w_un, w_tup, w_lst, w_acons, w_anil, w_ix, w_onone, w_osome, w_sl, w_bool, w_tru, w_ifx, w_and, w_or, w_not, wt_not, wt_and, wt_or, w_chain, w_call, w_cb, w_mt, k_nx, k_rt, k_bk, k_ct, w_seq, w_if, w_set, w_asg, w_par2, w_par3, w_aug, w_ex, w_sret, ws_next, w_brk, w_cnt, w_sraise, w_stp, e_rt, e_nx, w_mkF, w_for, some_ite, hide, Sv.hide, gTp, gsCons, gsNil, gNm, setV, setE, addD, subD, mulD, fdivD, modD, negD, iaddD, ltD, leD, gtD, geD, blD, truD, PF.intD, PF.absD, lenD, eqD, eqD?, neD, ixV])
  refine wp_while (Inv2 T1 (S a b m n.toNat)) (fun k env T' hI => ?_) m.toNat _ T1 ⟨n, a, b, m, 0, 1, _, rfl, rfl, rfl, h1, h2, h3, h4, h5, h6, .inl rfl, by omega⟩
  obtain ⟨n', a', b', m', f, s, mo, rfl, rfl, rfl, i1, i2, i3, i4, i5, i6, i7, i8⟩ := hI
  rw [w_rx]
  have fdm : ∀ x : Int, x.fdiv m' = x / m' := fun x => fd i5
  have fd2 : ∀ x : Int, x.fdiv 2 = x / 2 := fun x => fd (by decide)
  have fmm : ∀ x : Int, x.fmod m' = x % m' := fun x => fm i5
  have lm : m'.natAbs.log2 < 9000 := by have := log_lt (x := m') (k := 41) (Bd.of (by omega) (by omega)) (by decide); omega
  have l2 : Nat.log2 2 < 9000 := by decide
  have m0 : m' ≠ 0 := by omega
  have bn : Bd 31 n' := Bd.of (by omega) (by omega)
  have bm : Bd 41 m' := Bd.of (by omega) (by omega)
  have g1 := Int.emod_nonneg a' (Int.ne_of_gt i5)
  have g2 := Int.emod_lt_of_pos a' i5
  have g3 := Int.emod_nonneg b' (Int.ne_of_gt i5)
  have g4 := Int.emod_lt_of_pos b' i5
  by_cases c : 0 < n'
  · have ml := m2_le (a := a') (b := b') c i5
    have mn := m2_nn (a := a') (b := b') c i5
    have hs : Bd 2 s := by rcases i7 with rfl | rfl <;> (unfold Bd; decide)
    have bn1 : Bd 31 (n' - 1) := Bd.of (by omega) (by omega)
    have k1 : mulOk n' (n' - 1) = true := mul_ok bn bn1
    have k2 : mulOk (a' / m') (n' * (n' - 1) / 2) = true := mul_ok i3.div (bn.mul bn1).div
    have k3 : mulOk (b' / m') n' = true := mul_ok i4.div bn
    have k4 : mulOk s (a' / m' * (n' * (n' - 1) / 2) + b' / m' * n') = true := mul_ok hs (Bd.add (k := 104) (i3.div.mul (bn.mul bn1).div) ((i4.div.mul bn).mono (by decide)))
    have k5 : mulOk (a' % m') n' = true := mul_ok (j := 41) (Bd.of (by omega) (by omega)) bn
    have bmo : Bd 31 ((a' % m' * n' + b' % m') / m') := Bd.of (by show _ < m2 n' a' b' m'; omega) (by show m2 n' a' b' m' < _; omega)
    have k6 : mulOk s ((a' % m' * n' + b' % m') / m') = true := mul_ok hs bmo
    have k7 : mulOk (s * ((a' % m' * n' + b' % m') / m')) n' = true := mul_ok (hs.mul bmo) bn
    have st := S_turn2 (a := a') (b := b') c i5
    by_cases z : (a' % m' * n' + b' % m') / m' = 0
    · have z' : m2 n' a' b' m' = 0 := z
      simp [w_bind, w_ret, w_bad, w_raise, w_of, w_noex, w_look, w_ite, some_ite, sSeq, sIf, sSet, sAsg, sPar2, sPar3, sAug, sEx, sRet, sRaise, sNext, sBreak, sCont, runX, runR, hide, Sv.hide, fVar, fC, fOp, fUn, fTup, fLst, fIx, fSl, oNone, oSome, fBool, fTru, fIf, fAnd, fOr, fNot, tyNot, tyAnd, tyOr, fChain, fCall, fCB, aCons, aNil, gTp, gsCons, gsNil, gNm, setV, setE, addD, subD, mulD, fdivD, modD, negD, iaddD, ltD, leD, gtD, geD, blD, truD, PF.intD, PF.absD, lenD, isiD, tyN, kitB, mkF, wend, c, fdm, fd2, fmm, lm, l2, m0, k1, k2, k3, k4, k5, k6, k7, z, eqD, eqD?]
      rw [z', if_pos rfl] at st
      rw [st] at i8
      rw [← i8]
      grind
    · have z' : m2 n' a' b' m' ≠ 0 := z
      simp [w_bind, w_ret, w_bad, w_raise, w_of, w_noex, w_look, w_ite, some_ite, sSeq, sIf, sSet, sAsg, sPar2, sPar3, sAug, sEx, sRet, sRaise, sNext, sBreak, sCont, runX, runR, hide, Sv.hide, fVar, fC, fOp, fUn, fTup, fLst, fIx, fSl, oNone, oSome, fBool, fTru, fIf, fAnd, fOr, fNot, tyNot, tyAnd, tyOr, fChain, fCall, fCB, aCons, aNil, gTp, gsCons, gsNil, gNm, setV, setE, addD, subD, mulD, fdivD, modD, negD, iaddD, ltD, leD, gtD, geD, blD, truD, PF.intD, PF.absD, lenD, isiD, tyN, kitB, mkF, wend, c, fdm, fd2, fmm, lm, l2, m0, k1, k2, k3, k4, k5, k6, k7, z, eqD, eqD?]
      have ap := a_pos2 i5 z'
      rw [if_neg z'] at st
      refine ⟨(a' % m').toNat, by omega, _, _, _, _, _, _, _, rfl, rfl, rfl, mn, (show m2 n' a' b' m' ≤ 1000000000 by omega), bm.mono (by decide), Bd.of (by omega) (by omega), ap, by omega, ?_, ?_⟩
      · rcases i7 with rfl | rfl <;> simp
      · have em : (a' % m' * n' + b' % m') / m' = m2 n' a' b' m' := rfl
        rw [em]
        rw [st] at i8
        rw [← i8]
        generalize S m' (m' - b' % m' + a' % m' - 1) (a' % m') (m2 n' a' b' m').toNat = R
        grind
  · have z : n' = 0 := by omega
    subst z
    have e1 : S a' b' m' (0 : Int).toNat = 0 := rfl
    rw [e1] at i8
    simp [w_bind, w_ret, w_bad, w_raise, w_of, w_noex, w_look, w_ite, some_ite, sSeq, sIf, sSet, sAsg, sPar2, sPar3, sAug, sEx, sRet, sRaise, sNext, sBreak, sCont, runX, runR, hide, Sv.hide, fVar, fC, fOp, fUn, fTup, fLst, fIx, fSl, oNone, oSome, fBool, fTru, fIf, fAnd, fOr, fNot, tyNot, tyAnd, tyOr, fChain, fCall, fCB, aCons, aNil, gTp, gsCons, gsNil, gNm, setV, setE, addD, subD, mulD, fdivD, modD, negD, iaddD, ltD, leD, gtD, geD, blD, truD, PF.intD, PF.absD, lenD, isiD, tyN, kitB, mkF, wend, c]
    rw [← i8]; simp
end
end G69

namespace G69
open PySem PySem.Spec PyProof.Rows L2 PF N69
noncomputable section
theorem mem_ints {r : D} {l : List Int} (h : r ∈ l.map D.int) : ∃ v, r = .int v ∧ v ∈ l := by
  obtain ⟨v, hv, e⟩ := List.mem_map.mp h
  exact ⟨v, e.symm, hv⟩
theorem anyI_ok {l : List Int} {j : Nat} {T : List D} (hT : TapeOk j T) (hj : j < 2 ^ 40) (h1 : 0 < l.length) (h2 : l.length < 100) : WP (F__law_any [.tape, .lst (l.map .int)]) T fun r T' => ∃ v, r = .int v ∧ v ∈ l ∧ TapeOk (j + 1) T' :=
  (any_ok hT hj (by simpa using h1) (by simpa using h2)).mono fun r T' ⟨hr, ht⟩ => let ⟨v, e, hv⟩ := mem_ints hr; ⟨v, e, hv, ht⟩
theorem drawn_ok {size : Int} {j : Nat} {T : List D} (hT : TapeOk j T) (hj : j < 2 ^ 39) (h1 : 1 ≤ size) (h2 : size ≤ 1000000) : WP (F__law_drawn [.tape, .int size]) T fun r T' => ∃ n a b m, r = .tup [.int n, .int a, .int b, .int m] ∧ 0 ≤ n ∧ n < 200 ∧ -size < a ∧ a < size ∧ -size < b ∧ b < size ∧ 1 ≤ m ∧ m ≤ 1000000 ∧ TapeOk (j + 8) T' := by
  rw [F__law_drawn, w_mkF]
  refine ⟨rfl, ?_⟩
  unfold B__law_drawn
  refine seq_step (fun fl T1 => ∃ n, 0 ≤ n ∧ n < 200 ∧ fl = .nx [.val .tape, .val (.int size), .val (.int n), .non, .non] ∧ TapeOk (j + 2) T1) ?_ ?_
  · simp [w_var, w_c, w_op, w_un, w_tup, w_lst, w_acons, w_anil, w_ix, w_onone, w_osome, w_sl, w_bool, w_tru, w_ifx, w_and, w_or, w_not, wt_not, wt_and, wt_or, w_chain, w_call, w_cb, w_mt, k_nx, k_rt, k_bk, k_ct, w_seq, w_if, w_set, w_asg, w_par2, w_par3, w_aug, w_ex, w_sret, ws_next, w_brk, w_cnt, w_sraise, w_stp, e_rt, e_nx, w_mkF, w_for, some_ite, hide, Sv.hide, gTp, gsCons, gsNil, gNm, setV, setE, addD, subD, mulD, fdivD, modD, negD, iaddD, ltD, leD, gtD, geD, blD, truD, PF.intD, PF.absD, lenD, eqD, eqD?, neD, ixV]
    refine (anyI_ok (l := [2, 20, 200]) hT (by omega) (by decide) (by decide)).mono ?_
    rintro r T1 ⟨v, rfl, hv, ht⟩
    simp at hv
    refine (pick_ok ht (by omega) (by omega) (by omega)).mono ?_
    rintro r T2 ⟨d, rfl, d1, d2, ht2⟩
    exact ⟨d, d1, by omega, rfl, ht2⟩
  rintro fl T1 ⟨n, hn1, hn2, rfl, ht⟩
  rw [k_nx]
  have sg : ∀ (d v : Int), 0 ≤ d → d < size → (v = 1 ∨ v = -1) → mulOk d v = true ∧ -size < d * v ∧ d * v < size := fun d v h3 h4 h5 => by
    refine ⟨mul_ok (j := 40) (k := 4) (Bd.of (by omega) (by omega)) (by rcases h5 with rfl | rfl <;> (unfold Bd; decide)), ?_⟩
    rcases h5 with rfl | rfl <;> omega
  refine seq_step (fun fl T1 => ∃ a b, -size < a ∧ a < size ∧ -size < b ∧ b < size ∧ fl = .nx [.val .tape, .val (.int size), .val (.int n), .val (.int a), .val (.int b)] ∧ TapeOk (j + 6) T1) ?_ ?_
  · simp [w_var, w_c, w_op, w_un, w_tup, w_lst, w_acons, w_anil, w_ix, w_onone, w_osome, w_sl, w_bool, w_tru, w_ifx, w_and, w_or, w_not, wt_not, wt_and, wt_or, w_chain, w_call, w_cb, w_mt, k_nx, k_rt, k_bk, k_ct, w_seq, w_if, w_set, w_asg, w_par2, w_par3, w_aug, w_ex, w_sret, ws_next, w_brk, w_cnt, w_sraise, w_stp, e_rt, e_nx, w_mkF, w_for, some_ite, hide, Sv.hide, gTp, gsCons, gsNil, gNm, setV, setE, addD, subD, mulD, fdivD, modD, negD, iaddD, ltD, leD, gtD, geD, blD, truD, PF.intD, PF.absD, lenD, eqD, eqD?, neD, ixV]
    refine (pick_ok ht (by omega) (show 0 < size by omega) (by omega)).mono ?_
    rintro r T2 ⟨d, rfl, d1, d2, ht2⟩
    refine (anyI_ok (l := [1, 1, -1]) ht2 (by omega) (by decide) (by decide)).mono ?_
    rintro r T3 ⟨v, rfl, hv, ht3⟩
    simp at hv
    have q := sg d v d1 d2 (by omega)
    refine ⟨.int (d * v), by simp [q.1], ?_⟩
    refine (pick_ok ht3 (by omega) (show 0 < size by omega) (by omega)).mono ?_
    rintro r T4 ⟨d', rfl, d3, d4, ht4⟩
    refine (anyI_ok (l := [1, 1, -1]) ht4 (by omega) (by decide) (by decide)).mono ?_
    rintro r T5 ⟨v', rfl, hv', ht5⟩
    simp at hv'
    have q' := sg d' v' d3 d4 (by omega)
    simp [q'.1]
    exact ⟨_, _, ⟨rfl, rfl⟩, d * v, q.2.1, q.2.2, d' * v', q'.2.1, q'.2.2, ⟨rfl, rfl⟩, ht5⟩
  rintro fl T2 ⟨a, b, ha1, ha2, hb1, hb2, rfl, ht2⟩
  rw [k_nx]
  simp [w_var, w_c, w_op, w_un, w_tup, w_lst, w_acons, w_anil, w_ix, w_onone, w_osome, w_sl, w_bool, w_tru, w_ifx, w_and, w_or, w_not, wt_not, wt_and, wt_or, w_chain, w_call, w_cb, w_mt, k_nx, k_rt, k_bk, k_ct, w_seq, w_if, w_set, w_asg, w_par2, w_par3, w_aug, w_ex, w_sret, ws_next, w_brk, w_cnt, w_sraise, w_stp, e_rt, e_nx, w_mkF, w_for, some_ite, hide, Sv.hide, gTp, gsCons, gsNil, gNm, setV, setE, addD, subD, mulD, fdivD, modD, negD, iaddD, ltD, leD, gtD, geD, blD, truD, PF.intD, PF.absD, lenD, eqD, eqD?, neD, ixV]
  refine (anyI_ok (l := [1, 12, size]) ht2 (by omega) (by simp) (by simp)).mono ?_
  rintro r T3 ⟨v, rfl, hv, ht3⟩
  simp at hv
  refine (pick_ok ht3 (by omega) (by omega) (by omega)).mono ?_
  rintro r T4 ⟨d, rfl, d1, d2, ht4⟩
  simp
  exact ⟨n, a, b, 1 + d, ⟨rfl, rfl, rfl, rfl⟩, hn1, hn2, ha1, ha2, hb1, hb2, by omega, by omega, ht4⟩
end
end G69

namespace G69
open PySem PySem.Spec PyProof.Rows L2 PF N69
noncomputable section
theorem ints_map : ∀ l : List Int, ints? (l.map D.int) = some l
  | [] => rfl
  | i :: l => by simp [ints?, ints_map l]
theorem sum_range (g : Nat → Int) : ∀ k, ((List.range k).map g).sum = sm g k
  | 0 => rfl
  | k + 1 => by rw [List.range_succ, List.map_append, List.sum_append, sum_range g k, sm]; simp
theorem S_bd {a b m : Int} (ha : Bd 40 a) (hb : Bd 40 b) : ∀ n : Nat, n ≤ 2 ^ 10 → (S a b m n).natAbs ≤ n * 2 ^ 60
  | 0, _ => by simp [S, sm]
  | n + 1, h => by
    have ih := S_bd (m := m) ha hb n (by omega)
    have e : S a b m (n + 1) = S a b m n + (a * n + b) / m := rfl
    have t : Bd 60 ((a * n + b) / m) := Bd.div ((Bd.add (k := 51) (ha.mul (Bd.of (k := 11) (by omega) (by omega))) (hb.mono (by decide))).mono (by decide))
    have := Int.natAbs_add_le (S a b m n) ((a * n + b) / m)
    unfold Bd at t
    rw [e]
    omega
theorem due_lc {n a b m : Int} {T : List D} {r5 r6 r7 r8 r9 r10 r11 r12 r13 : Option D} (hn : 0 ≤ n) (hn2 : n ≤ 1000) (ha : Bd 40 a) (hm : 0 < m) (hm2 : m ≤ 1000000000000) :
    WP (fLc (iRg1 (aCons (fVar 1) aNil)) [13] (gNm 13) tyYes (fOp fdivD (fOp addD (fOp mulD (fVar 2) (fVar 13)) (fVar 3)) (fVar 4)) [some .tape, some (.int n), some (.int a), some (.int b), some (.int m), r5, r6, r7, r8, r9, r10, r11, r12, r13]) T
      fun x T1 => x = .lst (((List.range n.toNat).map fun i => (a * (i : Nat) + b) / m).map .int) ∧ T1 = T := by
  have fdm : ∀ x : Int, x.fdiv m = x / m := fun x => fd hm
  have lm : m.natAbs.log2 < 9000 := by have := log_lt (x := m) (k := 41) (Bd.of (by omega) (by omega)) (by decide); omega
  have m0 : m ≠ 0 := by omega
  unfold fLc
  rw [w_bind]
  have e1 : WP (iRg1 (aCons (fVar 1) aNil) [some .tape, some (.int n), some (.int a), some (.int b), some (.int m), r5, r6, r7, r8, r9, r10, r11, r12, r13]) T fun ds T1 => ds = rangeD 0 n.toNat ∧ T1 = T := by
    unfold iRg1
    rw [w_bind]
    simp [w_var, w_c, w_op, w_un, w_tup, w_lst, w_acons, w_anil, w_ix, w_onone, w_osome, w_sl, w_bool, w_tru, w_ifx, w_and, w_or, w_not, wt_not, wt_and, wt_or, w_chain, w_call, w_cb, w_mt, k_nx, k_rt, k_bk, k_ct, w_seq, w_if, w_set, w_asg, w_par2, w_par3, w_aug, w_ex, w_sret, ws_next, w_brk, w_cnt, w_sraise, w_stp, e_rt, e_nx, w_mkF, w_for, some_ite, hide, Sv.hide, gTp, gsCons, gsNil, gNm, setV, setE, addD, subD, mulD, fdivD, modD, negD, iaddD, ltD, leD, gtD, geD, blD, truD, PF.intD, PF.absD, lenD, eqD, eqD?, neD, ixV]
    rw [w_len]
    exact ⟨⟨by omega, by omega⟩, rfl, rfl⟩
  refine e1.mono ?_
  rintro ds T1 ⟨rfl, rfl⟩
  have hl : (rangeD 0 n.toNat).length = n.toNat := by simp [rangeD]
  rw [if_pos (by rw [hl]; omega), w_bind]
  rw [w_of_eq (lcM_map (f := fun d => match d with | .int i => .int ((a * i + b) / m) | d => d) fun d hd => ?_)]
  · rw [w_ret]
    refine ⟨?_, rfl⟩
    simp [rangeD]
  · obtain ⟨i, hi, rfl⟩ := List.mem_map.mp hd
    have hi2 := List.mem_range.mp hi
    refine ⟨_, rfl, fun T2 => ?_⟩
    apply WP.eq
    have k1 : mulOk a (i : Nat) = true := mul_ok ha (Bd.of (k := 40) (by omega) (by omega))
    simp [w_var, w_c, w_op, w_un, w_tup, w_lst, w_acons, w_anil, w_ix, w_onone, w_osome, w_sl, w_bool, w_tru, w_ifx, w_and, w_or, w_not, wt_not, wt_and, wt_or, w_chain, w_call, w_cb, w_mt, k_nx, k_rt, k_bk, k_ct, w_seq, w_if, w_set, w_asg, w_par2, w_par3, w_aug, w_ex, w_sret, ws_next, w_brk, w_cnt, w_sraise, w_stp, e_rt, e_nx, w_mkF, w_for, some_ite, hide, Sv.hide, gTp, gsCons, gsNil, gNm, setV, setE, addD, subD, mulD, fdivD, modD, negD, iaddD, ltD, leD, gtD, geD, blD, truD, PF.intD, PF.absD, lenD, eqD, eqD?, neD, ixV, setL, wipeE, fdm, lm, m0, k1]
theorem pr_le : ∀ (m a : Nat), pr a m ≤ m + 1 := fun m => by
  induction m using Nat.strongRecOn with
  | _ m ih =>
    intro a
    by_cases h : m = 0
    · subst h; rw [pr_zero]; omega
    · have hm := Nat.pos_of_ne_zero h
      rw [pr_step hm]
      have := ih (a % m) (Nat.mod_lt _ hm) m
      have := Nat.mod_lt a hm
      omega
theorem right_ok {n a b m : Int} {j : Nat} {T : List D} (hT : TapeOk j T) (hj : j < 2 ^ 39) (h1 : 0 ≤ n) (h2 : n < 200) (h3 : -1000000 < a) (h4 : a < 1000000) (h5 : -1000000 < b) (h6 : b < 1000000) (h7 : 1 ≤ m) (h8 : m ≤ 1000000) :
    WP (F__law_is_right [.tape, .int n, .int a, .int b, .int m]) T fun r T' => r = .bl true ∧ TapeOk (j + 3) T' := by
  have hm : 0 < m := by omega
  have fdm : ∀ x : Int, x.fdiv m = x / m := fun x => fd hm
  have fmm : ∀ x : Int, x.fmod m = x % m := fun x => fm hm
  have fd2 : ∀ x : Int, x.fdiv 2 = x / 2 := fun x => fd (by decide)
  have m0 : m ≠ 0 := by omega
  have ba : Bd 40 a := Bd.of (by omega) (by omega)
  have bb : Bd 40 b := Bd.of (by omega) (by omega)
  have bm : Bd 40 m := Bd.of (by omega) (by omega)
  have bn : Bd 40 n := Bd.of (by omega) (by omega)
  have sb := S_bd (m := m) ba bb n.toNat (by omega)
  have bs : Bd 80 (S a b m n.toNat) := by
    unfold Bd
    have : n.toNat * 2 ^ 60 ≤ 200 * 2 ^ 60 := Nat.mul_le_mul_right _ (by omega)
    omega
  have ls : (S a b m n.toNat).natAbs.log2 < 1920 := by have := log_lt bs (by decide); omega
  have s0 := fun T => sum_ok (T := T) h1 (show n ≤ 1000000000 by omega) (show -1000000000000 < a by omega) (show a < 1000000000000 by omega) (show -1000000000000 < b by omega) (show b < 1000000000000 by omega) hm (show m ≤ 1000000000000 by omega)
  rw [F__law_is_right, w_mkF]
  refine ⟨rfl, ?_⟩
  unfold B__law_is_right
  refine seq_step (fun fl T1 => fl = .nx [.val .tape, .val (.int n), .val (.int a), .val (.int b), .val (.int m), .val (.int (S a b m n.toNat)), .non, .non, .non, .non, .non, .non, .non, .non] ∧ T1 = T) ?_ ?_
  · rw [w_set, w_cb, w_acons]
    refine (due_lc h1 (by omega) ba hm (by omega)).mono ?_
    rintro x T1 ⟨rfl, rfl⟩
    have e : sumD [.lst (((List.range n.toNat).map fun i => (a * (i : Nat) + b) / m).map .int)] = some (.int (S a b m n.toNat)) := by
      show (ints? _).map _ = _
      rw [ints_map, Option.map_some, sum_range]
      rfl
    rw [w_anil]
    exact ⟨_, e, rfl, rfl⟩
  rintro fl T1 ⟨rfl, rfl⟩
  rw [k_nx]
  refine seq_step (fun fl T2 => fl = .nx [.val .tape, .val (.int n), .val (.int a), .val (.int b), .val (.int m), .val (.int (S a b m n.toNat)), .non, .non, .non, .non, .non, .non, .non, .non] ∧ T2 = T1) ?_ ?_
  · simp [w_var, w_c, w_op, w_un, w_tup, w_lst, w_acons, w_anil, w_ix, w_onone, w_osome, w_sl, w_bool, w_tru, w_ifx, w_and, w_or, w_not, wt_not, wt_and, wt_or, w_chain, w_call, w_cb, w_mt, k_nx, k_rt, k_bk, k_ct, w_seq, w_if, w_set, w_asg, w_par2, w_par3, w_aug, w_ex, w_sret, ws_next, w_brk, w_cnt, w_sraise, w_stp, e_rt, e_nx, w_mkF, w_for, some_ite, hide, Sv.hide, gTp, gsCons, gsNil, gNm, setV, setE, addD, subD, mulD, fdivD, modD, negD, iaddD, ltD, leD, gtD, geD, blD, truD, PF.intD, PF.absD, lenD, eqD, eqD?, neD, ixV, w_of_eq (s0 _), reprD, ls]
  rintro fl T2 ⟨rfl, rfl⟩
  rw [k_nx]
  refine seq_step (fun fl T2 => ∃ cut more over, 0 ≤ cut ∧ cut ≤ n ∧ -3 ≤ more ∧ more ≤ 3 ∧ -3 ≤ over ∧ over ≤ 3 ∧ fl = .nx [.val .tape, .val (.int n), .val (.int a), .val (.int b), .val (.int m), .val (.int (S a b m n.toNat)), .val (.int cut), .val (.int more), .val (.int over), .non, .non, .non, .non, .non] ∧ TapeOk (j + 3) T2) ?_ ?_
  · simp [w_var, w_c, w_op, w_un, w_tup, w_lst, w_acons, w_anil, w_ix, w_onone, w_osome, w_sl, w_bool, w_tru, w_ifx, w_and, w_or, w_not, wt_not, wt_and, wt_or, w_chain, w_call, w_cb, w_mt, k_nx, k_rt, k_bk, k_ct, w_seq, w_if, w_set, w_asg, w_par2, w_par3, w_aug, w_ex, w_sret, ws_next, w_brk, w_cnt, w_sraise, w_stp, e_rt, e_nx, w_mkF, w_for, some_ite, hide, Sv.hide, gTp, gsCons, gsNil, gNm, setV, setE, addD, subD, mulD, fdivD, modD, negD, iaddD, ltD, leD, gtD, geD, blD, truD, PF.intD, PF.absD, lenD, eqD, eqD?, neD, ixV]
    refine (pick_ok hT (by omega) (show 0 < n + 1 by omega) (by omega)).mono ?_
    rintro r T3 ⟨d, rfl, d1, d2, ht⟩
    refine (pick_ok ht (by omega) (show (0 : Int) < 7 by omega) (by omega)).mono ?_
    rintro r T4 ⟨e, rfl, e1, e2, ht⟩
    refine ⟨.int (e - 3), rfl, ?_⟩
    refine (pick_ok ht (by omega) (show (0 : Int) < 7 by omega) (by omega)).mono ?_
    rintro r T5 ⟨g, rfl, g1, g2, ht⟩
    simp
    exact ⟨_, _, _, ⟨rfl, rfl, rfl⟩, d, d1, by omega, e - 3, by omega, by omega, g - 3, by omega, by omega, ⟨rfl, rfl, rfl⟩, ht⟩
  rintro fl T3 ⟨cut, more, over, c1, c2, c3, c4, c5, c6, rfl, hT3⟩
  rw [k_nx]
  have ac1 : a * cut ≤ 1000000 * cut := Int.mul_le_mul_of_nonneg_right (by omega) c1
  have ac2 : -1000000 * cut ≤ a * cut := Int.mul_le_mul_of_nonneg_right (by omega) c1
  have mm1 : more * m ≤ 3 * m := Int.mul_le_mul_of_nonneg_right c4 (by omega)
  have mm2 : -3 * m ≤ more * m := Int.mul_le_mul_of_nonneg_right c3 (by omega)
  have oo1 : over * m ≤ 3 * m := Int.mul_le_mul_of_nonneg_right c6 (by omega)
  have oo2 : -3 * m ≤ over * m := Int.mul_le_mul_of_nonneg_right c5 (by omega)
  have bc : Bd 40 cut := Bd.of (by omega) (by omega)
  have s1 := fun T => sum_ok (n := cut) (T := T) c1 (by omega) (show -1000000000000 < a by omega) (show a < 1000000000000 by omega) (show -1000000000000 < b by omega) (show b < 1000000000000 by omega) hm (show m ≤ 1000000000000 by omega)
  have s2 := fun T => sum_ok (n := n - cut) (b := b + a * cut) (T := T) (by omega) (by omega) (show -1000000000000 < a by omega) (show a < 1000000000000 by omega) (by omega) (by omega) hm (show m ≤ 1000000000000 by omega)
  have s3 := fun T => sum_ok (n := n) (a := a + more * m) (b := b + over * m) (T := T) h1 (by omega) (by omega) (by omega) (by omega) (by omega) hm (show m ≤ 1000000000000 by omega)
  have kac : mulOk a cut = true := mul_ok ba bc
  refine seq_step (fun fl T2 => fl = .nx [.val .tape, .val (.int n), .val (.int a), .val (.int b), .val (.int m), .val (.int (S a b m n.toNat)), .val (.int cut), .val (.int more), .val (.int over), .non, .non, .non, .non, .non] ∧ T2 = T3) ?_ ?_
  · have e : S a b m cut.toNat + S a (b + a * cut) m (n - cut).toNat = S a b m n.toNat := by
      have := S_cut a b m cut.toNat (n - cut).toNat
      rw [show cut.toNat + (n - cut).toNat = n.toNat from by omega, show ((cut.toNat : Nat) : Int) = cut from by omega] at this
      exact this.symm
    simp [w_var, w_c, w_op, w_un, w_tup, w_lst, w_acons, w_anil, w_ix, w_onone, w_osome, w_sl, w_bool, w_tru, w_ifx, w_and, w_or, w_not, wt_not, wt_and, wt_or, w_chain, w_call, w_cb, w_mt, k_nx, k_rt, k_bk, k_ct, w_seq, w_if, w_set, w_asg, w_par2, w_par3, w_aug, w_ex, w_sret, ws_next, w_brk, w_cnt, w_sraise, w_stp, e_rt, e_nx, w_mkF, w_for, some_ite, hide, Sv.hide, gTp, gsCons, gsNil, gNm, setV, setE, addD, subD, mulD, fdivD, modD, negD, iaddD, ltD, leD, gtD, geD, blD, truD, PF.intD, PF.absD, lenD, eqD, eqD?, neD, ixV, w_of_eq (s1 _), w_of_eq (s2 _), kac, e]
  rintro fl T4 ⟨rfl, rfl⟩
  rw [k_nx]
  refine seq_step (fun fl T2 => fl = .nx [.val .tape, .val (.int n), .val (.int a), .val (.int b), .val (.int m), .val (.int (S a b m n.toNat)), .val (.int cut), .val (.int more), .val (.int over), .non, .non, .non, .non, .non] ∧ T2 = T4) ?_ ?_
  · have e := S_shift a b more over m hm n.toNat
    have et : n * (n - 1) / 2 = tri n.toNat := by rw [Int.mul_comm]; exact tri_is h1
    rw [← et, show ((n.toNat : Nat) : Int) = n from by omega] at e
    have b3 : Bd 3 more := Bd.of (by omega) (by omega)
    have b4 : Bd 3 over := Bd.of (by omega) (by omega)
    have bn1 : Bd 40 (n - 1) := Bd.of (by omega) (by omega)
    have k1 : mulOk more m = true := mul_ok b3 bm
    have k2 : mulOk over m = true := mul_ok b4 bm
    have k3 : mulOk n (n - 1) = true := mul_ok bn bn1
    have k4 : mulOk more (n * (n - 1) / 2) = true := mul_ok b3 (bn.mul bn1).div
    have k5 : mulOk over n = true := mul_ok b4 bn
    have l2 : Nat.log2 2 < 9000 := by decide
    simp [w_var, w_c, w_op, w_un, w_tup, w_lst, w_acons, w_anil, w_ix, w_onone, w_osome, w_sl, w_bool, w_tru, w_ifx, w_and, w_or, w_not, wt_not, wt_and, wt_or, w_chain, w_call, w_cb, w_mt, k_nx, k_rt, k_bk, k_ct, w_seq, w_if, w_set, w_asg, w_par2, w_par3, w_aug, w_ex, w_sret, ws_next, w_brk, w_cnt, w_sraise, w_stp, e_rt, e_nx, w_mkF, w_for, some_ite, hide, Sv.hide, gTp, gsCons, gsNil, gNm, setV, setE, addD, subD, mulD, fdivD, modD, negD, iaddD, ltD, leD, gtD, geD, blD, truD, PF.intD, PF.absD, lenD, eqD, eqD?, neD, ixV, w_of_eq (s3 _), k1, k2, k3, k4, k5, fd2, l2, e]
  rintro fl T5 ⟨rfl, rfl⟩
  rw [k_nx]
  have p0 := fun T => steps_ok (T := T) h1 (show n ≤ 1000000000 by omega) (show -1000000000000 < a by omega) (show a < 1000000000000 by omega) (show -1000000000000 < b by omega) (show b < 1000000000000 by omega) hm (show m ≤ 1000000000000 by omega)
  have g1 := Int.emod_nonneg a m0
  have g2 := Int.emod_lt_of_pos a hm
  have g3 := Int.emod_nonneg b m0
  have g4 := Int.emod_lt_of_pos b hm
  have p1 := fun T => steps_ok (n := n) (a := a % m) (b := b % m) (T := T) h1 (show n ≤ 1000000000 by omega) (by omega) (by omega) (by omega) (by omega) hm (show m ≤ 1000000000000 by omega)
  rw [tu_mod hm] at p1
  have tl : tu n a b m ≤ pI a m := by unfold pI; rw [if_pos hm]; exact tu_le m.toNat n a b m (Nat.le_refl _) hm
  refine seq_step (fun fl T2 => fl = .nx [.val .tape, .val (.int n), .val (.int a), .val (.int b), .val (.int m), .val (.int (S a b m n.toNat)), .val (.int cut), .val (.int more), .val (.int over), .val (.int (tu n a b m)), .non, .non, .non, .non] ∧ T2 = T5) ?_ ?_
  · simp [w_var, w_c, w_op, w_un, w_tup, w_lst, w_acons, w_anil, w_ix, w_onone, w_osome, w_sl, w_bool, w_tru, w_ifx, w_and, w_or, w_not, wt_not, wt_and, wt_or, w_chain, w_call, w_cb, w_mt, k_nx, k_rt, k_bk, k_ct, w_seq, w_if, w_set, w_asg, w_par2, w_par3, w_aug, w_ex, w_sret, ws_next, w_brk, w_cnt, w_sraise, w_stp, e_rt, e_nx, w_mkF, w_for, some_ite, hide, Sv.hide, gTp, gsCons, gsNil, gNm, setV, setE, addD, subD, mulD, fdivD, modD, negD, iaddD, ltD, leD, gtD, geD, blD, truD, PF.intD, PF.absD, lenD, eqD, eqD?, neD, ixV, w_of_eq (p0 _)]
  rintro fl T6 ⟨rfl, rfl⟩
  rw [k_nx]
  have lt : (tu n a b m : Int).natAbs.log2 < 1920 := by
    have h1 : tu n a b m ≤ pI a m := tl
    have h2 : pI a m ≤ m.toNat + 2 := by
      unfold pI
      rw [if_pos hm]
      have := pr_le (a % m).toNat m.toNat
      omega
    have := log_lt (x := (tu n a b m : Int)) (k := 40) (Bd.of (by omega) (by omega)) (by decide)
    omega
  have lt2 : (tu n a b m).log2 < 1920 := by simpa using lt
  have pa := fun T => pairs_ok (a := a) (m := m) (T := T) (by omega)
  refine seq_step (fun fl T2 => fl = .nx [.val .tape, .val (.int n), .val (.int a), .val (.int b), .val (.int m), .val (.int (S a b m n.toNat)), .val (.int cut), .val (.int more), .val (.int over), .val (.int (tu n a b m)), .non, .non, .non, .non] ∧ T2 = T6) ?_ ?_
  · have q1 : (0 : Int) ≤ (tu n a b m : Int) := by omega
    have q2 : (tu n a b m : Int) ≤ (pI a m : Int) + 1 := by omega
    simp [w_var, w_c, w_op, w_un, w_tup, w_lst, w_acons, w_anil, w_ix, w_onone, w_osome, w_sl, w_bool, w_tru, w_ifx, w_and, w_or, w_not, wt_not, wt_and, wt_or, w_chain, w_call, w_cb, w_mt, k_nx, k_rt, k_bk, k_ct, w_seq, w_if, w_set, w_asg, w_par2, w_par3, w_aug, w_ex, w_sret, ws_next, w_brk, w_cnt, w_sraise, w_stp, e_rt, e_nx, w_mkF, w_for, some_ite, hide, Sv.hide, gTp, gsCons, gsNil, gNm, setV, setE, addD, subD, mulD, fdivD, modD, negD, iaddD, ltD, leD, gtD, geD, blD, truD, PF.intD, PF.absD, lenD, eqD, eqD?, neD, ixV, w_of_eq (p1 _), w_of_eq (pa _), reprD, lt, lt2, fmm, m0, q1, q2]
  rintro fl T7 ⟨rfl, rfl⟩
  rw [k_nx]
  refine seq_step (fun fl T2 => fl = .nx [.val .tape, .val (.int n), .val (.int a), .val (.int b), .val (.int m), .val (.int (S a b m n.toNat)), .val (.int cut), .val (.int more), .val (.int over), .val (.int (tu n a b m)), .non, .non, .non, .non] ∧ T2 = T7) ?_ ?_
  · have z := tu_zero (a := a) (b := b) h1 hm
    have k1 : mulOk (a % m) (n - 1) = true := mul_ok (j := 40) (k := 40) (Bd.of (by omega) (by omega)) (Bd.of (by omega) (by omega))
    by_cases n0 : n = 0
    · have z0 : tu n a b m = 0 := z.mpr (.inl n0)
      simp [w_var, w_c, w_op, w_un, w_tup, w_lst, w_acons, w_anil, w_ix, w_onone, w_osome, w_sl, w_bool, w_tru, w_ifx, w_and, w_or, w_not, wt_not, wt_and, wt_or, w_chain, w_call, w_cb, w_mt, k_nx, k_rt, k_bk, k_ct, w_seq, w_if, w_set, w_asg, w_par2, w_par3, w_aug, w_ex, w_sret, ws_next, w_brk, w_cnt, w_sraise, w_stp, e_rt, e_nx, w_mkF, w_for, some_ite, hide, Sv.hide, gTp, gsCons, gsNil, gNm, setV, setE, addD, subD, mulD, fdivD, modD, negD, iaddD, ltD, leD, gtD, geD, blD, truD, PF.intD, PF.absD, lenD, eqD, eqD?, neD, ixV, fmm, m0, n0, z0]
      rw [n0] at z0
      simp [z0]
    · by_cases l0 : a % m * (n - 1) + b % m < m
      · have z0 : tu n a b m = 0 := z.mpr (.inr l0)
        simp [w_var, w_c, w_op, w_un, w_tup, w_lst, w_acons, w_anil, w_ix, w_onone, w_osome, w_sl, w_bool, w_tru, w_ifx, w_and, w_or, w_not, wt_not, wt_and, wt_or, w_chain, w_call, w_cb, w_mt, k_nx, k_rt, k_bk, k_ct, w_seq, w_if, w_set, w_asg, w_par2, w_par3, w_aug, w_ex, w_sret, ws_next, w_brk, w_cnt, w_sraise, w_stp, e_rt, e_nx, w_mkF, w_for, some_ite, hide, Sv.hide, gTp, gsCons, gsNil, gNm, setV, setE, addD, subD, mulD, fdivD, modD, negD, iaddD, ltD, leD, gtD, geD, blD, truD, PF.intD, PF.absD, lenD, eqD, eqD?, neD, ixV, fmm, m0, n0, z0, l0, k1]
      · have z0 : ¬ tu n a b m = 0 := fun h => (z.mp h).elim n0 l0
        simp [w_var, w_c, w_op, w_un, w_tup, w_lst, w_acons, w_anil, w_ix, w_onone, w_osome, w_sl, w_bool, w_tru, w_ifx, w_and, w_or, w_not, wt_not, wt_and, wt_or, w_chain, w_call, w_cb, w_mt, k_nx, k_rt, k_bk, k_ct, w_seq, w_if, w_set, w_asg, w_par2, w_par3, w_aug, w_ex, w_sret, ws_next, w_brk, w_cnt, w_sraise, w_stp, e_rt, e_nx, w_mkF, w_for, some_ite, hide, Sv.hide, gTp, gsCons, gsNil, gNm, setV, setE, addD, subD, mulD, fdivD, modD, negD, iaddD, ltD, leD, gtD, geD, blD, truD, PF.intD, PF.absD, lenD, eqD, eqD?, neD, ixV, fmm, m0, n0, z0, l0, k1]
  rintro fl T8 ⟨rfl, rfl⟩
  rw [k_nx]
  obtain ⟨M, rfl⟩ : ∃ M : Nat, m = M := ⟨m.toNat, by omega⟩
  obtain ⟨A, hA, hA2⟩ : ∃ A : Nat, (if a < 0 then -a else a) = (A : Int) ∧ A < 1000000 := ⟨a.natAbs, by split <;> omega, by omega⟩
  refine seq_step (fun fl T2 => ∃ x0 x1 x2 x3 x4 x5 x6 x7 x8 x9, fl = .nx [x0, x1, x2, x3, x4, x5, x6, x7, x8, x9, .val (.int ((A + 1 : Nat) : Int)), .val (.int M), .non, .non] ∧ T2 = T8) ?_ ?_
  · simp [w_var, w_c, w_op, w_un, w_tup, w_lst, w_acons, w_anil, w_ix, w_onone, w_osome, w_sl, w_bool, w_tru, w_ifx, w_and, w_or, w_not, wt_not, wt_and, wt_or, w_chain, w_call, w_cb, w_mt, k_nx, k_rt, k_bk, k_ct, w_seq, w_if, w_set, w_asg, w_par2, w_par3, w_aug, w_ex, w_sret, ws_next, w_brk, w_cnt, w_sraise, w_stp, e_rt, e_nx, w_mkF, w_for, some_ite, hide, Sv.hide, gTp, gsCons, gsNil, gNm, setV, setE, addD, subD, mulD, fdivD, modD, negD, iaddD, ltD, leD, gtD, geD, blD, truD, PF.intD, PF.absD, lenD, eqD, eqD?, neD, ixV, hA]
  rintro fl T9 ⟨x0, x1, x2, x3, x4, x5, x6, x7, x8, x9, rfl, rfl⟩
  rw [k_nx]
  have w1 := fun T => sum_ok (n := (M : Int)) (a := ((A + 1 : Nat) : Int)) (b := 0) (m := (M : Int)) (T := T) (by omega) (by omega) (by omega) (by omega) (by omega) (by omega) (by omega) (by omega)
  have w2 := fun T => sum_ok (n := ((A + 1 : Nat) : Int)) (a := (M : Int)) (b := 0) (m := ((A + 1 : Nat) : Int)) (T := T) (by omega) (by omega) (by omega) (by omega) (by omega) (by omega) (by omega) (by omega)
  rw [Int.toNat_natCast] at w1 w2
  have sy := S_sym (a := A + 1) (m := M) (by omega) (by omega)
  have gc := S_gcd M (A + 1) (by omega) (by omega)
  have sh := fun T => shared_ok (a := ((A + 1 : Nat) : Int)) (m := (M : Int)) (T := T)
  have gg : Int.gcd ((A + 1 : Nat) : Int) (M : Int) = Nat.gcd (A + 1) M := rfl
  rw [gg] at sh
  have bw : Bd 80 (S ((A + 1 : Nat) : Int) 0 M M) := by
    have hg : Nat.gcd (A + 1) M ≤ M := Nat.gcd_le_right _ (by omega)
    have t1 : Bd 60 ((((A + 1 : Nat) : Int) - 1) * ((M : Int) - 1)) := Bd.mul (j := 30) (k := 30) (Bd.of (by omega) (by omega)) (Bd.of (by omega) (by omega))
    unfold Bd at t1 ⊢
    omega
  generalize hW : S ((A + 1 : Nat) : Int) 0 M M = W at *
  generalize hG : Nat.gcd (A + 1) M = G at *
  have k1 : mulOk 2 W = true := mul_ok (j := 3) (by unfold Bd; decide) bw
  have k2 : mulOk (((A + 1 : Nat) : Int) - 1) ((M : Int) - 1) = true := mul_ok (j := 30) (k := 30) (Bd.of (by omega) (by omega)) (Bd.of (by omega) (by omega))
  generalize hB : ((A + 1 : Nat) : Int) = B at *
  refine seq_step (fun fl T2 => ∃ x0 x1 x2 x3 x4 x5 x6 x7 x8 x9, fl = .nx [x0, x1, x2, x3, x4, x5, x6, x7, x8, x9, .val (.int B), .val (.int M), .val (.int W), .non] ∧ T2 = T9) ?_ ?_
  · simp only [w_set, w_call, w_acons, w_anil, w_var, w_c, hide, List.map, Sv.hide]
    simp [w_of_eq (w1 _)]
  rintro fl T10 ⟨x0, x1, x2, x3, x4, x5, x6, x7, x8, x9, rfl, rfl⟩
  rw [k_nx]
  refine seq_step (fun fl T2 => ∃ x0 x1 x2 x3 x4 x5 x6 x7 x8 x9, fl = .nx [x0, x1, x2, x3, x4, x5, x6, x7, x8, x9, .val (.int B), .val (.int M), .val (.int W), .non] ∧ T2 = T10) ?_ ?_
  · simp [w_var, w_c, w_op, w_un, w_tup, w_lst, w_acons, w_anil, w_ix, w_onone, w_osome, w_sl, w_bool, w_tru, w_ifx, w_and, w_or, w_not, wt_not, wt_and, wt_or, w_chain, w_call, w_cb, w_mt, k_nx, k_rt, k_bk, k_ct, w_seq, w_if, w_set, w_asg, w_par2, w_par3, w_aug, w_ex, w_sret, ws_next, w_brk, w_cnt, w_sraise, w_stp, e_rt, e_nx, w_mkF, w_for, some_ite, hide, Sv.hide, gTp, gsCons, gsNil, gNm, setV, setE, addD, subD, mulD, fdivD, modD, negD, iaddD, ltD, leD, gtD, geD, blD, truD, PF.intD, PF.absD, lenD, eqD, eqD?, neD, ixV, w_of_eq (sh _), k1, k2, gc]
  rintro fl T11 ⟨x0, x1, x2, x3, x4, x5, x6, x7, x8, x9, rfl, rfl⟩
  rw [k_nx]
  rw [← sy] at w2
  simp [w_var, w_c, w_op, w_un, w_tup, w_lst, w_acons, w_anil, w_ix, w_onone, w_osome, w_sl, w_bool, w_tru, w_ifx, w_and, w_or, w_not, wt_not, wt_and, wt_or, w_chain, w_call, w_cb, w_mt, k_nx, k_rt, k_bk, k_ct, w_seq, w_if, w_set, w_asg, w_par2, w_par3, w_aug, w_ex, w_sret, ws_next, w_brk, w_cnt, w_sraise, w_stp, e_rt, e_nx, w_mkF, w_for, some_ite, hide, Sv.hide, gTp, gsCons, gsNil, gNm, setV, setE, addD, subD, mulD, fdivD, modD, negD, iaddD, ltD, leD, gtD, geD, blD, truD, PF.intD, PF.absD, lenD, eqD, eqD?, neD, ixV, w_of_eq (w2 _)]
  exact hT3
end
end G69

namespace G69
open PySem PySem.Spec PyProof.Rows L2 PF N69
noncomputable section
theorem pI_abs {a m : Int} (hm : 0 < m) : pI a m ≤ pI (if a < 0 then -a else a) m + 1 := by
  by_cases c : a < 0
  · rw [if_pos c]
    unfold pI
    rw [if_pos hm, if_pos hm]
    have m0 : m ≠ 0 := by omega
    have g1 := Int.emod_nonneg (-a) m0
    have g2 := Int.emod_lt_of_pos (-a) hm
    have d1 := Int.mul_ediv_add_emod (-a) m
    by_cases z : (-a) % m = 0
    · have e : a % m = 0 := by
        have : a = m * (-((-a) / m)) := by grind
        rw [this]; simp
      rw [e, z]; omega
    · have e : a % m = m - (-a) % m := by
        have : a = (m - (-a) % m) + m * (-((-a) / m) - 1) := by grind
        conv => lhs; rw [this]
        rw [Int.add_mul_emod_self_left, Int.emod_eq_of_lt (by omega) (by omega)]
      have e2 : (a % m).toNat = m.toNat - ((-a) % m).toNat := by omega
      rw [e2]
      have := pr_refl (m := m.toNat) (r := ((-a) % m).toNat) (by omega) (by omega)
      omega
  · rw [if_neg c]; omega
theorem greatr_ok {j : Nat} {T : List D} (hT : TapeOk j T) (hj : j < 2 ^ 39) : WP (F__law_is_great_right [.tape]) T fun r T' => r = .bl true ∧ TapeOk (j + 6) T' := by
  rw [F__law_is_great_right, w_mkF]
  refine ⟨rfl, ?_⟩
  unfold B__law_is_great_right
  refine seq_step (fun fl T1 => ∃ n a b : Int, 0 ≤ n ∧ n ≤ 1000000000 ∧ 0 ≤ a ∧ a < 1000000000000 ∧ 0 ≤ b ∧ b < 1000000000000 ∧ fl = .nx [.val .tape, .val (.int n), .val (.int a), .val (.int b), .non, .non] ∧ TapeOk (j + 3) T1) ?_ ?_
  · simp [w_var, w_c, w_op, w_un, w_tup, w_lst, w_acons, w_anil, w_ix, w_onone, w_osome, w_sl, w_bool, w_tru, w_ifx, w_and, w_or, w_not, wt_not, wt_and, wt_or, w_chain, w_call, w_cb, w_mt, k_nx, k_rt, k_bk, k_ct, w_seq, w_if, w_set, w_asg, w_par2, w_par3, w_aug, w_ex, w_sret, ws_next, w_brk, w_cnt, w_sraise, w_stp, e_rt, e_nx, w_mkF, w_for, some_ite, hide, Sv.hide, gTp, gsCons, gsNil, gNm, setV, setE, addD, subD, mulD, fdivD, modD, negD, iaddD, ltD, leD, gtD, geD, blD, truD, PF.intD, PF.absD, lenD, eqD, eqD?, neD, ixV, powD]
    refine (pick_ok hT (by omega) (show (0 : Int) < 1000000001 by omega) (by omega)).mono ?_
    rintro r T3 ⟨d, rfl, d1, d2, ht⟩
    refine (pick_ok ht (by omega) (show (0 : Int) < 1000000000000 by omega) (by omega)).mono ?_
    rintro r T4 ⟨e, rfl, e1, e2, ht⟩
    refine (pick_ok ht (by omega) (show (0 : Int) < 1000000000000 by omega) (by omega)).mono ?_
    rintro r T5 ⟨g, rfl, g1, g2, ht⟩
    exact ⟨_, _, _, ⟨rfl, rfl, rfl⟩, d, d1, by omega, e, e1, e2, g, g1, g2, ⟨rfl, rfl, rfl⟩, ht⟩
  rintro fl T1 ⟨n, a, b, n1, n2, a1, a2, b1, b2, rfl, hT1⟩
  rw [k_nx]
  refine seq_step (fun fl T2 => ∃ m : Int, 1 ≤ m ∧ m ≤ 1000000000000 ∧ fl = .nx [.val .tape, .val (.int n), .val (.int a), .val (.int b), .val (.int m), .non] ∧ TapeOk (j + 4) T2) ?_ ?_
  · simp [w_var, w_c, w_op, w_un, w_tup, w_lst, w_acons, w_anil, w_ix, w_onone, w_osome, w_sl, w_bool, w_tru, w_ifx, w_and, w_or, w_not, wt_not, wt_and, wt_or, w_chain, w_call, w_cb, w_mt, k_nx, k_rt, k_bk, k_ct, w_seq, w_if, w_set, w_asg, w_par2, w_par3, w_aug, w_ex, w_sret, ws_next, w_brk, w_cnt, w_sraise, w_stp, e_rt, e_nx, w_mkF, w_for, some_ite, hide, Sv.hide, gTp, gsCons, gsNil, gNm, setV, setE, addD, subD, mulD, fdivD, modD, negD, iaddD, ltD, leD, gtD, geD, blD, truD, PF.intD, PF.absD, lenD, eqD, eqD?, neD, ixV, powD]
    refine (pick_ok hT1 (by omega) (show (0 : Int) < 1000000000000 by omega) (by omega)).mono ?_
    rintro r T3 ⟨d, rfl, d1, d2, ht⟩
    exact ⟨_, rfl, 1 + d, by omega, by omega, rfl, ht⟩
  rintro fl T2 ⟨m, m1, m2', rfl, hT2⟩
  rw [k_nx]
  refine seq_step (fun fl T3 => ∃ a b : Int, -1000000000000 < a ∧ a < 1000000000000 ∧ -1000000000000 < b ∧ b < 1000000000000 ∧ fl = .nx [.val .tape, .val (.int n), .val (.int a), .val (.int b), .val (.int m), .non] ∧ TapeOk (j + 6) T3) ?_ ?_
  · simp [w_var, w_c, w_op, w_un, w_tup, w_lst, w_acons, w_anil, w_ix, w_onone, w_osome, w_sl, w_bool, w_tru, w_ifx, w_and, w_or, w_not, wt_not, wt_and, wt_or, w_chain, w_call, w_cb, w_mt, k_nx, k_rt, k_bk, k_ct, w_seq, w_if, w_set, w_asg, w_par2, w_par3, w_aug, w_ex, w_sret, ws_next, w_brk, w_cnt, w_sraise, w_stp, e_rt, e_nx, w_mkF, w_for, some_ite, hide, Sv.hide, gTp, gsCons, gsNil, gNm, setV, setE, addD, subD, mulD, fdivD, modD, negD, iaddD, ltD, leD, gtD, geD, blD, truD, PF.intD, PF.absD, lenD, eqD, eqD?, neD, ixV]
    have sg : ∀ (d v : Int), 0 ≤ d → d < 1000000000000 → (v = 1 ∨ v = -1) → mulOk d v = true ∧ -1000000000000 < d * v ∧ d * v < 1000000000000 := fun d v h3 h4 h5 => by
      refine ⟨mul_ok (j := 60) (k := 4) (Bd.of (by omega) (by omega)) (by rcases h5 with rfl | rfl <;> (unfold Bd; decide)), ?_⟩
      rcases h5 with rfl | rfl <;> omega
    refine (anyI_ok (l := [1, -1]) hT2 (by omega) (by decide) (by decide)).mono ?_
    rintro r T3 ⟨v, rfl, hv, ht3⟩
    simp at hv
    have q := sg a v a1 a2 hv
    refine ⟨.int (a * v), by simp [q.1], ?_⟩
    refine (anyI_ok (l := [1, -1]) ht3 (by omega) (by decide) (by decide)).mono ?_
    rintro r T5 ⟨v', rfl, hv', ht5⟩
    simp at hv'
    have q' := sg b v' b1 b2 hv'
    simp [q'.1]
    exact ⟨_, _, ⟨rfl, rfl⟩, a * v, q.2.1, q.2.2, b * v', q'.2.1, q'.2.2, ⟨rfl, rfl⟩, ht5⟩
  rintro fl T3 ⟨a, b, a3, a4, b3, b4, rfl, hT3⟩
  rw [k_nx]
  have hm : 0 < m := by omega
  have s0 := fun T => sum_ok (T := T) n1 n2 a3 a4 b3 b4 hm m2'
  have g0 := fun T => great_ok (T := T) n1 n2 (Bd.of (k := 42) (x := a) (by omega) (by omega)) (Bd.of (k := 42) (x := b) (by omega) (by omega)) hm m2'
  have p0 := fun T => steps_ok (T := T) n1 n2 a3 a4 b3 b4 hm m2'
  have pa := fun T => pairs_ok (a := if a < 0 then -a else a) (m := m) (T := T) (by omega)
  refine seq_step (fun fl T2 => fl = .nx [.val .tape, .val (.int n), .val (.int a), .val (.int b), .val (.int m), .val (.int (S a b m n.toNat))] ∧ T2 = T3) (by simp [w_var, w_c, w_op, w_un, w_tup, w_lst, w_acons, w_anil, w_ix, w_onone, w_osome, w_sl, w_bool, w_tru, w_ifx, w_and, w_or, w_not, wt_not, wt_and, wt_or, w_chain, w_call, w_cb, w_mt, k_nx, k_rt, k_bk, k_ct, w_seq, w_if, w_set, w_asg, w_par2, w_par3, w_aug, w_ex, w_sret, ws_next, w_brk, w_cnt, w_sraise, w_stp, e_rt, e_nx, w_mkF, w_for, some_ite, hide, Sv.hide, gTp, gsCons, gsNil, gNm, setV, setE, addD, subD, mulD, fdivD, modD, negD, iaddD, ltD, leD, gtD, geD, blD, truD, PF.intD, PF.absD, lenD, eqD, eqD?, neD, ixV, w_of_eq (s0 _)]) ?_
  rintro fl T4 ⟨rfl, rfl⟩
  rw [k_nx]
  refine seq_step (fun fl T2 => fl = .nx [.val .tape, .val (.int n), .val (.int a), .val (.int b), .val (.int m), .val (.int (S a b m n.toNat))] ∧ T2 = T4) (by simp [w_var, w_c, w_op, w_un, w_tup, w_lst, w_acons, w_anil, w_ix, w_onone, w_osome, w_sl, w_bool, w_tru, w_ifx, w_and, w_or, w_not, wt_not, wt_and, wt_or, w_chain, w_call, w_cb, w_mt, k_nx, k_rt, k_bk, k_ct, w_seq, w_if, w_set, w_asg, w_par2, w_par3, w_aug, w_ex, w_sret, ws_next, w_brk, w_cnt, w_sraise, w_stp, e_rt, e_nx, w_mkF, w_for, some_ite, hide, Sv.hide, gTp, gsCons, gsNil, gNm, setV, setE, addD, subD, mulD, fdivD, modD, negD, iaddD, ltD, leD, gtD, geD, blD, truD, PF.intD, PF.absD, lenD, eqD, eqD?, neD, ixV, w_of_eq (g0 _)]) ?_
  rintro fl T5 ⟨rfl, rfl⟩
  rw [k_nx]
  have tl : tu n a b m ≤ pI a m := by unfold pI; rw [if_pos hm]; exact tu_le m.toNat n a b m (Nat.le_refl _) hm
  have tl2 := pI_abs (a := a) hm
  have tl3 : (tu n a b m : Int) ≤ (pI (if a < 0 then -a else a) m : Int) + 1 := by omega
  simp only [w_sret, w_op, w_call, w_cb, w_acons, w_anil, w_var, w_c, hide, List.map, Sv.hide]
  simp [w_of_eq (p0 _), PF.absD]
  rw [w_of_eq (pa _)]
  refine ⟨_, rfl, _, rfl, ?_, hT3⟩
  simpa using tl3
end
end G69

namespace G69
open PySem PySem.Spec PyProof.Rows L2 PF N69
noncomputable section
/-- is d within lo .. hi: b -/
def Wd (d : D) (lo hi : Int) (b : Bool) : Prop := ∀ T, F_is_within [d, .int lo, .int hi] T = some (.ok (.bl b) T)
theorem wd_int (i lo hi : Int) : Wd (.int i) lo hi (decide (lo ≤ i) && decide (i ≤ hi)) := fun T => within_int i lo hi T
/-- never within -/
def Bad (d : D) : Prop := (∀ lo hi, Wd d lo hi false) ∧ noTp d = true
theorem bad_any {d : D} (h : d ∈ [D.non, .bl true, .str "5", .tup [.int 5], .lst [.int 5], .dct [] []]) : Bad d := by
  simp at h
  rcases h with rfl | rfl | rfl | rfl | rfl | rfl <;> exact ⟨fun lo hi T => rfl, rfl⟩
theorem chk_ex {d1 d2 d3 d4 : D} {b1 b2 b3 b4 : Bool} {T : List D} (h1 : Wd d1 0 1000000000 b1) (h2 : Wd d2 (1 - 1000000000000) (1000000000000 - 1) b2) (h3 : Wd d3 (1 - 1000000000000) (1000000000000 - 1) b3) (h4 : Wd d4 1 1000000000000 b4) (h : (b1 && b2 && b3 && b4) = false) :
    F_check_floors [d1, d2, d3, d4] T = some (.ex "NoNumber" T) := by
  have h1 := h1
  have h2 := h2
  have h3 := h3
  have h4 := h4
  unfold Wd at h1 h2 h3 h4
  simp at h2 h3
  cases b1 <;> cases b2 <;> cases b3 <;> cases b4 <;> simp at h <;> simp [F_check_floors, B_check_floors, mkF, sSeq, sIf, sRaise, sNext, runX, hide, Sv.hide, fVar, fC, fOp, subD, fTru, truD, tyOr, tyNot, fCall, aCons, aNil, M.bind, M.ret, M.of, M.raise, h1, h2, h3, h4]
theorem sum_ex {d1 d2 d3 d4 : D} {T : List D} (h : F_check_floors [d1, d2, d3, d4] T = some (.ex "NoNumber" T)) : F_floor_sum [d1, d2, d3, d4] T = some (.ex "NoNumber" T) := by
  simp [F_floor_sum, B_floor_sum, mkF, sSeq, sEx, runX, hide, Sv.hide, fVar, fCall, aCons, aNil, M.bind, M.ret, h]
theorem steps_ex {d1 d2 d3 d4 : D} {T : List D} (h : F_check_floors [d1, d2, d3, d4] T = some (.ex "NoNumber" T)) : F_floor_steps [d1, d2, d3, d4] T = some (.ex "NoNumber" T) := by
  simp [F_floor_steps, B_floor_steps, mkF, sSeq, sEx, runX, hide, Sv.hide, fVar, fCall, aCons, aNil, M.bind, M.ret, h]
theorem word_num {r : M D} {T T' : List D} (h : r T = some (.ex "NoNumber" T')) : Fw__law_word r T = some (.ok (.str "number") T') := by
  simp [Fw__law_word, B__law_word, sTry, sEx, sSeq, sSet, sIf, sNext, sRet, runX, runR, hide, Sv.hide, fAct, h, h__law_word, ct_RatioError, Bs__law_word, exEnv, fLst, fC, fVar, fIsE, fMt, fIf, fIx, fOp, fBool, fTru, tyNot, aCons, aNil, M.bind, M.ret, M.bad, M.of, M.look, Fl.clr, wend, isT, List.replicate, List.set, cntD, idxD, flDs, flD, fndV, itemsD, okL, eqV, eqS, L2.atI, L2.ixN, blD, truD]
theorem w_lam {Fw : M D → M D} {F : FE} {env : PF.Env} {T : List D} {P : D → List D → Prop} : WP (fLam Fw F env) T P ↔ WP (Fw (F env)) T P := by unfold fLam; exact w_noex
theorem lam_sum {d1 d2 d3 d4 : D} {e1 e2 e3 e4 : FE} {env : PF.Env} {T : List D} {P : D → List D → Prop} (h : F_check_floors [d1, d2, d3, d4] T = some (.ex "NoNumber" T)) (a1 : ∀ T, e1 env T = some (.ok d1 T)) (a2 : ∀ T, e2 env T = some (.ok d2 T)) (a3 : ∀ T, e3 env T = some (.ok d3 T)) (a4 : ∀ T, e4 env T = some (.ok d4 T)) :
    WP (fLam Fw__law_word (fCall F_floor_sum (aCons e1 (aCons e2 (aCons e3 (aCons e4 aNil))))) env) T P ↔ P (.str "number") T := by
  rw [w_lam, w_of_eq (word_num (T' := T) ?_)]
  simp [fCall, aCons, aNil, M.bind, M.ret, a1, a2, a3, a4, sum_ex h]
theorem word_of {d1 d2 d3 d4 : D} {T : List D} (h : F_check_floors [d1, d2, d3, d4] T = some (.ex "NoNumber" T)) : F__law_word_of [d1, d2, d3, d4] T = some (.ok (.str "number") T) := by
  apply WP.eq
  rw [F__law_word_of, w_mkF]
  refine ⟨rfl, ?_⟩
  unfold B__law_word_of
  rw [w_sret, w_lam, w_of_eq (word_num (T' := T) ?_)]
  · exact ⟨rfl, rfl⟩
  · simp [fCall, aCons, aNil, M.bind, M.ret, fVar, hide, Sv.hide, steps_ex h]
section
variable {T : List D} {se : SEnv} {F : FE} {A : FA} {Q : Fl → List D → Prop} {i : Nat}
theorem w_own : WP (sOwn i A se) T Q ↔ WP (A (hide se)) T fun l T1 => l.length ≤ 16777216 ∧ Q (.nx (se.set i (.own l))) T1 := by unfold sOwn; simp only [w_bind, w_len]
theorem w_rxt {α : Type} {ok : α → Bool} {X : PF.Env → M α} {PP : α → List D → Prop} : WP (runX ok true X se) T PP ↔ WP (X (frz se)) [] fun a _ => ok a = true ∧ PP a T := by
  unfold runX
  rw [if_pos rfl]
  unfold WP
  cases h : X (frz se) [] with
  | none => simp [h]
  | some o =>
    cases o with
    | ex c T1 => simp [h]
    | ok a T1 =>
      by_cases c : ok a = true
      · simp only [h, c, if_true]
        constructor
        · rintro ⟨b, T2, e, q⟩; cases e; exact ⟨a, T1, rfl, c, q⟩
        · rintro ⟨b, T2, e, _, q⟩; cases e; exact ⟨a, T, rfl, q⟩
      · simp only [h, c]
        constructor
        · rintro ⟨b, T2, e, q⟩; simp at e
        · rintro ⟨b, T2, e, c2, q⟩; cases e; exact absurd c2 c
theorem w_ownU : WP (sOwnU i A se) T Q ↔ WP (A (frz se)) [] fun l _ => noLsts l = true ∧ l.length ≤ 16777216 ∧ Q (.nx (se.set i (.own l))) T := by
  unfold sOwnU; simp only [w_bind, w_rxt, w_len]
theorem w_app {l : List D} (h : se[i]? = some (.own l)) : WP (sApp false i F se) T Q ↔ WP (F (hide se)) T fun d T1 => l.length < 16777216 ∧ Q (.nx (se.set i (.own (l ++ [d])))) T1 := by
  unfold sApp; simp only [h, w_bind, w_rx, w_len]
theorem w_srett : WP (sRet true F se) T Q ↔ WP (F (frz se)) [] fun d _ => Q (.rt d) T := by
  unfold sRet runR
  rw [w_bind, if_pos rfl]
  unfold WP
  cases h : F (frz se) [] with
  | none => simp [h]
  | some o =>
    cases o with
    | ex c T1 => simp [h]
    | ok a T1 =>
      simp only [h]
      constructor
      · rintro ⟨b, T2, e, q⟩
        cases e
        exact ⟨a, T1, rfl, w_ret.mp q⟩
      · rintro ⟨b, T2, e, q⟩
        cases e
        exact ⟨a, T, rfl, w_ret.mpr q⟩
theorem w_cat {G : FE} {env : PF.Env} {P : List D → List D → Prop} : WP (aCat F G env) T P ↔ WP (F env) T fun x T1 => WP (G env) T1 fun y T2 => ∃ l r, x = .lst l ∧ y = .lst r ∧ l.length + r.length ≤ 16777216 ∧ P (l ++ r) T2 := by
  unfold aCat
  rw [w_bind]
  constructor
  · intro h
    refine h.mono fun x T1 h => ?_
    rw [w_bind] at h
    refine h.mono fun y T2 h => ?_
    cases x with
    | lst l =>
      cases y with
      | lst r => have h := w_len.mp h; exact ⟨l, r, rfl, rfl, h.1, h.2⟩
      | _ => exact (w_bad.mp h).elim
    | _ => exact (w_bad.mp h).elim
  · intro h
    refine h.mono fun x T1 h => ?_
    rw [w_bind]
    refine h.mono fun y T2 ⟨l, r, e1, e2, h1, h2⟩ => ?_
    subst e1 e2
    exact w_len.mpr ⟨h1, h2⟩
end
theorem refused_ok {j : Nat} {T : List D} (hT : TapeOk j T) (hj : j < 2 ^ 39) : WP (F__law_is_refused [.tape]) T fun r T' => r = .bl true ∧ TapeOk (j + 4) T' := by
  rw [F__law_is_refused, w_mkF]
  refine ⟨rfl, ?_⟩
  unfold B__law_is_refused
  refine seq_step (fun fl T1 => ∃ bad, Bad bad ∧ fl = .nx [.val .tape, .val bad, .non, .non, .non, .non] ∧ TapeOk (j + 1) T1) ?_ ?_
  · simp [w_var, w_c, w_op, w_un, w_tup, w_lst, w_acons, w_anil, w_ix, w_onone, w_osome, w_sl, w_bool, w_tru, w_ifx, w_and, w_or, w_not, wt_not, wt_and, wt_or, w_chain, w_call, w_cb, w_mt, k_nx, k_rt, k_bk, k_ct, w_seq, w_if, w_set, w_asg, w_par2, w_par3, w_aug, w_ex, w_sret, ws_next, w_brk, w_cnt, w_sraise, w_stp, e_rt, e_nx, w_mkF, w_for, some_ite, hide, Sv.hide, gTp, gsCons, gsNil, gNm, setV, setE, addD, subD, mulD, fdivD, modD, negD, iaddD, ltD, leD, gtD, geD, blD, truD, PF.intD, PF.absD, lenD, eqD, eqD?, neD, ixV]
    refine (any_ok (l := [D.non, .bl true, .str "5", .tup [.int 5], .lst [.int 5], .dct [] []]) hT (by omega) (by decide) (by decide)).mono ?_
    rintro r T1 ⟨hr, ht⟩
    exact ⟨r, bad_any hr, rfl, ht⟩
  rintro fl T1 ⟨bad, hb, rfl, hT1⟩
  rw [k_nx]
  refine seq_step (fun fl T2 => ∃ gr no, Wd gr (1 - 1000000000000) (1000000000000 - 1) false ∧ noTp gr = true ∧ Wd no 0 1000000000 false ∧ noTp no = true ∧ fl = .nx [.val .tape, .val bad, .val gr, .val no, .non, .non] ∧ TapeOk (j + 3) T2) ?_ ?_
  · simp [w_var, w_c, w_op, w_un, w_tup, w_lst, w_acons, w_anil, w_ix, w_onone, w_osome, w_sl, w_bool, w_tru, w_ifx, w_and, w_or, w_not, wt_not, wt_and, wt_or, w_chain, w_call, w_cb, w_mt, k_nx, k_rt, k_bk, k_ct, w_seq, w_if, w_set, w_asg, w_par2, w_par3, w_aug, w_ex, w_sret, ws_next, w_brk, w_cnt, w_sraise, w_stp, e_rt, e_nx, w_mkF, w_for, some_ite, hide, Sv.hide, gTp, gsCons, gsNil, gNm, setV, setE, addD, subD, mulD, fdivD, modD, negD, iaddD, ltD, leD, gtD, geD, blD, truD, PF.intD, PF.absD, lenD, eqD, eqD?, neD, ixV, powD]
    refine (any_ok (l := [bad, .int 1000000000000, .int (-1000000000000)]) hT1 (by omega) (by simp) (by simp)).mono ?_
    rintro r T2 ⟨hr, ht⟩
    refine (any_ok (l := [bad, .int (-1), .int 1000000001]) ht (by omega) (by simp) (by simp)).mono ?_
    rintro r2 T3 ⟨hr2, ht2⟩
    refine ⟨r, ?_, ?_, r2, ?_, ?_, ⟨rfl, rfl⟩, ht2⟩
    · simp at hr
      rcases hr with rfl | rfl | rfl
      · exact hb.1 _ _
      · exact wd_int _ _ _
      · exact wd_int _ _ _
    · simp at hr
      rcases hr with rfl | rfl | rfl
      · exact hb.2
      · rfl
      · rfl
    · simp at hr2
      rcases hr2 with rfl | rfl | rfl
      · exact hb.1 _ _
      · exact wd_int _ _ _
      · exact wd_int _ _ _
    · simp at hr2
      rcases hr2 with rfl | rfl | rfl
      · exact hb.2
      · rfl
      · rfl
  rintro fl T2 ⟨gr, no, wg, ng, wn, nn, rfl, hT2⟩
  rw [k_nx]
  refine seq_step (fun fl T3 => ∃ ze, Wd ze 1 1000000000000 false ∧ noTp ze = true ∧ fl = .nx [.val .tape, .val bad, .val gr, .val no, .val ze, .non] ∧ TapeOk (j + 4) T3) ?_ ?_
  · simp [w_var, w_c, w_op, w_un, w_tup, w_lst, w_acons, w_anil, w_ix, w_onone, w_osome, w_sl, w_bool, w_tru, w_ifx, w_and, w_or, w_not, wt_not, wt_and, wt_or, w_chain, w_call, w_cb, w_mt, k_nx, k_rt, k_bk, k_ct, w_seq, w_if, w_set, w_asg, w_par2, w_par3, w_aug, w_ex, w_sret, ws_next, w_brk, w_cnt, w_sraise, w_stp, e_rt, e_nx, w_mkF, w_for, some_ite, hide, Sv.hide, gTp, gsCons, gsNil, gNm, setV, setE, addD, subD, mulD, fdivD, modD, negD, iaddD, ltD, leD, gtD, geD, blD, truD, PF.intD, PF.absD, lenD, eqD, eqD?, neD, ixV, powD]
    refine (any_ok (l := [bad, .int 0, .int (-1), .int 1000000000001]) hT2 (by omega) (by simp) (by simp)).mono ?_
    rintro r T3 ⟨hr, ht⟩
    refine ⟨r, ?_, ?_, rfl, ht⟩
    · simp at hr
      rcases hr with rfl | rfl | rfl | rfl
      · exact hb.1 _ _
      · exact wd_int _ _ _
      · exact wd_int _ _ _
      · exact wd_int _ _ _
    · simp at hr
      rcases hr with rfl | rfl | rfl | rfl
      · exact hb.2
      · rfl
      · rfl
      · rfl
  rintro fl T3 ⟨ze, wz, nz, rfl, hT3⟩
  rw [k_nx]
  have o0 : Wd (.int 1) 0 1000000000 true := wd_int _ _ _
  have o1 : Wd (.int 1) (1 - 1000000000000) (1000000000000 - 1) true := wd_int _ _ _
  have o2 : Wd (.int 1) 1 1000000000000 true := wd_int _ _ _
  have x1 : ∀ T, F_check_floors [no, .int 1, .int 1, .int 1] T = some (.ex "NoNumber" T) := fun T => chk_ex wn o1 o1 o2 rfl
  have x2 : ∀ T, F_check_floors [.int 1, gr, .int 1, .int 1] T = some (.ex "NoNumber" T) := fun T => chk_ex o0 wg o1 o2 rfl
  have x3 : ∀ T, F_check_floors [.int 1, .int 1, gr, .int 1] T = some (.ex "NoNumber" T) := fun T => chk_ex o0 o1 wg o2 rfl
  have x4 : ∀ T, F_check_floors [.int 1, .int 1, .int 1, ze] T = some (.ex "NoNumber" T) := fun T => chk_ex o0 o1 o1 wz rfl
  have x5 : ∀ T, F_check_floors [no, gr, gr, ze] T = some (.ex "NoNumber" T) := fun T => chk_ex wn wg wg wz rfl
  have wv : ∀ (e : PF.Env) (T : List D) (d : D), fC d e T = some (.ok d T) := fun _ _ _ => rfl
  refine seq_step (fun fl T4 => fl = .nx [.val .tape, .val bad, .val gr, .val no, .val ze, .own [.str "number", .str "number", .str "number"]] ∧ T4 = T3) ?_ ?_
  · rw [w_own, w_acons, lam_sum (x1 _) (fun T => rfl) (fun T => rfl) (fun T => rfl) (fun T => rfl)]
    simp only [w_acons, w_anil, w_call, w_c, w_var, hide, List.map, Sv.hide]
    simp [w_of_eq (word_of (x2 _)), w_of_eq (word_of (x3 _))]
  rintro fl T4 ⟨rfl, rfl⟩
  rw [k_nx]
  refine seq_step (fun fl T5 => fl = .nx [.val .tape, .val bad, .val gr, .val no, .val ze, .own [.str "number", .str "number", .str "number", .str "number", .str "number"]] ∧ T5 = T4) ?_ ?_
  · rw [w_ownU, w_cat]
    simp only [w_lst, w_acons, w_anil, w_call, w_c, w_var, frz, List.map, Sv.frz, ng, nn, nz, if_true]
    simp [w_of_eq (word_of (x4 _)), w_of_eq (word_of (x5 _)), noTps, noTp, noLsts, noLst]
  rintro fl T5 ⟨rfl, rfl⟩
  rw [k_nx]
  refine seq_step (fun fl T6 => fl = .nx [.val .tape, .val bad, .val gr, .val no, .val ze, .own [.str "number", .str "number", .str "number", .str "number", .str "number", .str "number"]] ∧ T6 = T5) ?_ ?_
  · rw [w_app rfl, lam_sum (x4 _) (fun T => rfl) (fun T => rfl) (fun T => rfl) (fun T => rfl)]
    simp
  rintro fl T6 ⟨rfl, rfl⟩
  rw [k_nx]
  refine seq_step (fun fl T7 => fl = .nx [.val .tape, .val bad, .val gr, .val no, .val ze, .own [.str "number", .str "number", .str "number", .str "number", .str "number", .str "number", .str "number"]] ∧ T7 = T6) ?_ ?_
  · rw [w_app rfl, lam_sum (x2 _) (fun T => rfl) (fun T => rfl) (fun T => rfl) (fun T => rfl)]
    simp
  rintro fl T7 ⟨rfl, rfl⟩
  rw [k_nx, w_srett]
  have e7 : ∀ s : Str, PyData.strOk s = true → eqD (.lst [.str s, .str s, .str s, .str s, .str s, .str s, .str s]) (.lst [.str s, .str s, .str s, .str s, .str s, .str s, .str s]) = some (.bl true) := fun s hs => by
    simp [eqD, eqD?, hs, toPy, toPys, SeqAt.shaped, PyData.eqv, PyData.eqvAll, PyData.canLay0, PyData.canLayAll0, PyData.depth, PyData.depthAll]
  have em : mulD (.lst [.str "number"]) (.int 7) = some (.lst [.str "number", .str "number", .str "number", .str "number", .str "number", .str "number", .str "number"]) := by rfl
  simp only [w_op, w_lst, w_acons, w_anil, w_c, w_var, frz, List.map, Sv.frz]
  simp [noTps, noTp, em, e7 "number" (by decide +kernel)]
  exact ⟨rfl, hT3⟩
end
end G69

namespace G69
open PySem PySem.Spec PyProof.Rows L2 PF N69
noncomputable section
theorem cut63 (l : List D) (h : l.length ≤ 63) : slD (.frl l) none (some 63) = some (.lst l) := by
  show some (D.lst (cutL l none (some 63))) = some (D.lst l)
  have : cutL l none (some 63) = l := by
    simp [cutL, HT.sIx, Nat.min_eq_right h]
  rw [this]
theorem noTps_ints : ∀ l : List Int, noTps (l.map D.int) = true
  | [] => rfl
  | i :: l => by
    show (noTp (.int i) && noTps (l.map D.int)) = true
    rw [noTps_ints l]; rfl
theorem tape_ok {ns : List Int} {T : List D} (h : ns.length ≤ 63) : F__law_tape [.frl (ns.map .int)] T = some (.ok [.lst ((ns.map fun z => if z < 0 then -z else z).map .int), .int 0, .int 0, .int (31 + (ns.length : Nat)), .int 0] T) := by
  apply WP.eq
  unfold F__law_tape mkFO
  rw [if_pos (show [D.frl (ns.map .int)].length = 1 from rfl)]
  unfold B__law_tape sSeqO
  rw [w_bind, w_set]
  have e1 : WP (iSq (fSl (fVar 0) oNone (oSome (fC (.int 63)))) [some (.frl (ns.map .int)), none, none]) T fun ds T1 => ds = ns.map .int ∧ T1 = T := by
    unfold iSq
    rw [w_bind]
    simp [w_var, w_c, w_op, w_un, w_tup, w_lst, w_acons, w_anil, w_ix, w_onone, w_osome, w_sl, w_bool, w_tru, w_ifx, w_and, w_or, w_not, wt_not, wt_and, wt_or, w_chain, w_call, w_cb, w_mt, k_nx, k_rt, k_bk, k_ct, w_seq, w_if, w_set, w_asg, w_par2, w_par3, w_aug, w_ex, w_sret, ws_next, w_brk, w_cnt, w_sraise, w_stp, e_rt, e_nx, w_mkF, w_for, some_ite, hide, Sv.hide, gTp, gsCons, gsNil, gNm, setV, setE, addD, subD, mulD, fdivD, modD, negD, iaddD, ltD, leD, gtD, geD, blD, truD, PF.intD, PF.absD, lenD, eqD, eqD?, neD, ixV, cut63 (ns.map .int) (by simpa using h), w_ret]
  have e2 : WP (fLc (iSq (fSl (fVar 0) oNone (oSome (fC (.int 63))))) [2] (gNm 2) tyYes (fCB absD (aCons (fCB PF.intD (aCons (fVar 2) aNil)) aNil)) [some (.frl (ns.map .int)), none, none]) T fun x T1 => x = .lst ((ns.map fun z => if z < 0 then -z else z).map .int) ∧ T1 = T := by
    unfold fLc
    rw [w_bind]
    refine e1.mono ?_
    rintro ds T1 ⟨rfl, rfl⟩
    rw [if_pos (by simp; omega), w_bind]
    rw [w_of_eq (lcM_map (f := fun d => match d with | .int i => .int (if i < 0 then -i else i) | d => d) fun d hd => ?_)]
    · rw [w_ret]
      refine ⟨?_, rfl⟩
      simp
    · obtain ⟨i, hi, rfl⟩ := List.mem_map.mp hd
      exact ⟨_, rfl, fun T2 => rfl⟩
  refine e2.mono ?_
  rintro x T1 ⟨rfl, rfl⟩
  simp [w_var, w_c, w_op, w_un, w_tup, w_lst, w_acons, w_anil, w_ix, w_onone, w_osome, w_sl, w_bool, w_tru, w_ifx, w_and, w_or, w_not, wt_not, wt_and, wt_or, w_chain, w_call, w_cb, w_mt, k_nx, k_rt, k_bk, k_ct, w_seq, w_if, w_set, w_asg, w_par2, w_par3, w_aug, w_ex, w_sret, ws_next, w_brk, w_cnt, w_sraise, w_stp, e_rt, e_nx, w_mkF, w_for, some_ite, hide, Sv.hide, gTp, gsCons, gsNil, gNm, setV, setE, addD, subD, mulD, fdivD, modD, negD, iaddD, ltD, leD, gtD, geD, blD, truD, PF.intD, PF.absD, lenD, eqD, eqD?, neD, ixV]
theorem w_mk {i : Nat} {S : FS} {se : SEnv} {T l : List D} {Q : Fl → List D → Prop} (h1 : se[i]? = some (.own l)) (h2 : noTps l = true) (h3 : (se.set i .non).all svPlain = true) (h : WP (S (se.set i (.val .tape))) l fun fl _ => ∃ d, fl = .rt d ∧ noTp d = true ∧ Q (.rt d) T) : WP (sMk i S se) T Q := by
  obtain ⟨fl, T', e, d, rfl, h4, h5⟩ := h
  refine ⟨.rt d, T, ?_, h5⟩
  unfold sMk
  simp only [h1, h2, h3, e, h4, and_self, if_true]
theorem law_true (ns : List Int) (hl : ns.length ≤ 63) (hb : ∀ z ∈ ns, Builtin.Int.intBits z ≤ 1048576) : ∃ T, F_law [.frl (ns.map .int)] [] = some (.ok (.bl true) T) := by
  have key : WP (F_law [.frl (ns.map .int)]) [] fun r _ => r = .bl true := by
    rw [F_law, w_mkF]
    refine ⟨rfl, ?_⟩
    unfold B_law
    rw [w_seq, w_own, w_bind, w_acons, w_var]
    refine ⟨.frl (ns.map .int), rfl, ?_⟩
    rw [w_anil, w_of_eq (tape_ok hl)]
    refine ⟨by simp, ?_⟩
    rw [k_nx]
    have t0 : TapeOk 0 [.lst ((ns.map fun z => if z < 0 then -z else z).map .int), .int 0, .int 0, .int (31 + (ns.length : Nat)), .int 0] := ⟨_, 0, 0, _, 0, rfl, by omega, by omega, by omega, by omega, by omega, by omega, fun z hz => by
      obtain ⟨y, _, rfl⟩ := List.mem_map.mp hz
      split <;> omega⟩
    refine w_mk (l := [.lst ((ns.map fun z => if z < 0 then -z else z).map .int), .int 0, .int 0, .int (31 + (ns.length : Nat)), .int 0]) rfl (by simp only [noTps, noTp, noTps_ints]; rfl) (by
      show ((svPlain (.val (.frl (ns.map .int)))) && true) = true
      show (noTps (ns.map .int) && true) = true
      rw [noTps_ints]; rfl) ?_
    generalize hT : [D.lst ((ns.map fun z => if z < 0 then -z else z).map .int), .int 0, .int 0, .int (31 + (ns.length : Nat)), .int 0] = T0 at *
    generalize hS : D.frl (ns.map .int) = sc at *
    clear hT hS
    have f1 : ∀ T, F_floor_sum [.int 4, .int 3, .int 1, .int 2] T = some (.ok (.int 10) T) := fun T => sum_ok (n := 4) (a := 3) (b := 1) (m := 2) (by decide) (by decide) (by decide) (by decide) (by decide) (by decide) (by decide) (by decide)
    have f2 : ∀ T, F_floor_sum [.int 0, .int 5, .int 5, .int 5] T = some (.ok (.int 0) T) := fun T => sum_ok (n := 0) (a := 5) (b := 5) (m := 5) (by decide) (by decide) (by decide) (by decide) (by decide) (by decide) (by decide) (by decide)
    have f3 : ∀ T, F_floor_sum [.int 3, .int (-1), .int 0, .int 2] T = some (.ok (.int (-2)) T) := fun T => sum_ok (n := 3) (a := -1) (b := 0) (m := 2) (by decide) (by decide) (by decide) (by decide) (by decide) (by decide) (by decide) (by decide)
    have f4 : ∀ T, F_floor_sum [.int 7, .int 5, .int 0, .int 7] T = some (.ok (.int 12) T) := fun T => sum_ok (n := 7) (a := 5) (b := 0) (m := 7) (by decide) (by decide) (by decide) (by decide) (by decide) (by decide) (by decide) (by decide)
    have f5 : ∀ T, F_floor_sum [.int 1, .int 0, .int (-3), .int 2] T = some (.ok (.int (-2)) T) := fun T => sum_ok (n := 1) (a := 0) (b := -3) (m := 2) (by decide) (by decide) (by decide) (by decide) (by decide) (by decide) (by decide) (by decide)
    have en : neD (.lst [.int 10, .int 0, .int (-2), .int 12]) (.lst [.int 10, .int 0, .int (-2), .int 12]) = some (.bl false) := by
      simp [neD, eqD?, toPy, toPys, SeqAt.shaped, PyData.eqv, PyData.eqvAll, PyData.canLay0, PyData.canLayAll0, PyData.depth, PyData.depthAll]
    have en2 : neD (.int (-2)) (.int (-2)) = some (.bl false) := by simp [neD, eqD?]
    have e0 : [Sv.val sc] ++ List.replicate 7 Sv.non = [.val sc, .non, .non, .non, .non, .non, .non, .non] := rfl
    refine seq_step (fun fl T1 => fl = .nx [.val sc, .val .tape, .val (.lst [.int 10, .int 0, .int (-2), .int 12]), .non, .non, .non, .non, .non] ∧ T1 = T0) ?_ ?_
    · rw [w_set]
      simp only [w_lst, w_acons, w_anil, w_call, w_c, w_un]
      simp [negD, w_of_eq (f1 _), w_of_eq (f2 _), w_of_eq (f3 _), w_of_eq (f4 _)]
    rintro fl T1 ⟨rfl, rfl⟩
    rw [k_nx]
    refine seq_step (fun fl T2 => fl = .nx [.val sc, .val .tape, .val (.lst [.int 10, .int 0, .int (-2), .int 12]), .non, .non, .non, .non, .non] ∧ T2 = T1) ?_ ?_
    · simp only [w_if, wt_or, w_bool, w_op, w_lst, w_acons, w_anil, w_call, w_c, w_un, w_var, hide, List.map, Sv.hide]
      simp [negD, en, en2, w_of_eq (f5 _), blD, ws_next]
    rintro fl T2 ⟨rfl, rfl⟩
    rw [k_nx]
    refine seq_step (fun fl T3 => ∃ e, fl = .nx e) ?_ (by rintro fl T3 ⟨e, rfl⟩; rw [k_nx, w_sret, w_c]; exact ⟨_, rfl, rfl, rfl⟩)
    rw [w_for]
    have e1 : WP (iRg1 (aCons (fC (.int 5)) aNil) (hide [.val sc, .val .tape, .val (.lst [.int 10, .int 0, .int (-2), .int 12]), .non, .non, .non, .non, .non])) T2 fun ds T1 => ds = rangeD 0 5 ∧ T1 = T2 := by
      unfold iRg1
      rw [w_bind]
      simp [w_var, w_c, w_op, w_un, w_tup, w_lst, w_acons, w_anil, w_ix, w_onone, w_osome, w_sl, w_bool, w_tru, w_ifx, w_and, w_or, w_not, wt_not, wt_and, wt_or, w_chain, w_call, w_cb, w_mt, k_nx, k_rt, k_bk, k_ct, w_seq, w_if, w_set, w_asg, w_par2, w_par3, w_aug, w_ex, w_sret, ws_next, w_brk, w_cnt, w_sraise, w_stp, e_rt, e_nx, w_mkF, w_for, some_ite, hide, Sv.hide, gTp, gsCons, gsNil, gNm, setV, setE, addD, subD, mulD, fdivD, modD, negD, iaddD, ltD, leD, gtD, geD, blD, truD, PF.intD, PF.absD, lenD, eqD, eqD?, neD, ixV]
      rw [w_ret]
      exact ⟨rfl, rfl⟩
    refine e1.mono ?_
    rintro ds T3 ⟨rfl, rfl⟩
    refine wp_forN (fun i env T => ∃ x2 x3 x4 x5 x6 x7, env = [.val sc, .val .tape, x2, x3, x4, x5, x6, x7] ∧ TapeOk (22 * i) T) (rangeD 0 5) 0 (fun env T _ => ⟨_, rfl⟩) ?_ _ _ ⟨_, _, _, _, _, _, rfl, t0⟩
    intro m hm d hd env T ⟨x2, x3, x4, x5, x6, x7, henv, ht⟩
    subst henv
    have hm5 : m < 5 := by simpa [rangeD] using hm
    refine ⟨_, rfl, ?_⟩
    refine seq_step (fun fl T2 => ∃ n a b m' : Int, 0 ≤ n ∧ n < 200 ∧ -1000000 < a ∧ a < 1000000 ∧ -1000000 < b ∧ b < 1000000 ∧ 1 ≤ m' ∧ m' ≤ 1000000 ∧ fl = .nx [.val sc, .val .tape, x2, .val d, .val (.int n), .val (.int a), .val (.int b), .val (.int m')] ∧ TapeOk (22 * m + 9) T2) ?_ ?_
    · simp [w_var, w_c, w_op, w_un, w_tup, w_lst, w_acons, w_anil, w_ix, w_onone, w_osome, w_sl, w_bool, w_tru, w_ifx, w_and, w_or, w_not, wt_not, wt_and, wt_or, w_chain, w_call, w_cb, w_mt, k_nx, k_rt, k_bk, k_ct, w_seq, w_if, w_set, w_asg, w_par2, w_par3, w_aug, w_ex, w_sret, ws_next, w_brk, w_cnt, w_sraise, w_stp, e_rt, e_nx, w_mkF, w_for, some_ite, hide, Sv.hide, gTp, gsCons, gsNil, gNm, setV, setE, addD, subD, mulD, fdivD, modD, negD, iaddD, ltD, leD, gtD, geD, blD, truD, PF.intD, PF.absD, lenD, eqD, eqD?, neD, ixV, powD]
      refine (anyI_ok (l := [10, 100, 1000000]) ht (by omega) (by decide) (by decide)).mono ?_
      rintro r T4 ⟨v, rfl, hv, ht4⟩
      simp at hv
      refine (drawn_ok ht4 (by omega) (size := v) (by omega) (by omega)).mono ?_
      rintro r T5 ⟨n, a, b, m', rfl, n1, n2, a1, a2, b1, b2, m1, m2, ht5⟩
      simp
      exact ⟨n, n1, n2, a, by omega, by omega, b, by omega, by omega, m', m1, m2, rfl, by rw [show 22 * m + 9 = 22 * (0 + m) + 1 + 8 from by omega]; exact ht5⟩
    rintro fl T4 ⟨n, a, b, m', n1, n2, a1, a2, b1, b2, m1, m2, rfl, ht4⟩
    rw [k_nx, w_if]
    simp only [wt_or, wt_not, w_tru, w_call, w_acons, w_anil, w_var, hide, List.map, Sv.hide]
    simp
    refine (right_ok ht4 (by omega) n1 n2 a1 a2 b1 b2 m1 m2).mono ?_
    rintro r T5 ⟨rfl, ht5⟩
    simp [truD]
    refine (greatr_ok ht5 (by omega)).mono ?_
    rintro r T6 ⟨rfl, ht6⟩
    simp [truD]
    refine (refused_ok ht6 (by omega)).mono ?_
    rintro r T7 ⟨rfl, ht7⟩
    simp [truD, ws_next]
    rw [show 22 * (m + 1) = 22 * m + 9 + 3 + 6 + 4 from by omega]
    exact ht7
  obtain ⟨r, T, e, rfl⟩ := key
  exact ⟨T, e⟩
end
end G69
theorem PySem.Challenge.cw_ratiohouse_k69_whole_sums_of_whole_parts_holds : PySem.Challenge.rw_ratiohouse_k69_whole_sums_of_whole_parts.Holds :=
  holds_of fun ns hl hb => G69.law_true ns hl hb

#print axioms PySem.Challenge.cw_ratiohouse_k69_whole_sums_of_whole_parts_holds
