import PyProof.Rows.All
import Wide.All
import OpenK.AllK
import Wide.FinOn
import HandS.ForMost
import HandS.IsInst
import HandS.Style
import HandS.TupAny
import HandS.Flow
import HandS.Wide
import HandS.Conv
import HandS.SortInts
import HandS.HeadHook3
import KE.DataEq
import HandS.RaiseMore
import PySem.Challenge.RW_doubteddays_k03_names_that_go_back
import HandS.HeadHook4
import HandS.HeadEnd
import KE.KStateDown
import Lean
import HandS.Head0
import HandS.Head1
import HandS.Head2
set_option Elab.async false
set_option linter.all false
set_option maxRecDepth 100000
set_option maxHeartbeats 4000000
/-! Fw1: values with value semantics (D), the frozen part of the heap, the state of a def's body. -/
namespace Fw
open PySem PySem.Spec L2

/-- a value as data: what it holds, without places -/
inductive D where
  | non | bl (b : Bool) | int (i : Int) | str (x : Str) | lst (xs : List D) | tup (xs : List D) | ins (c : Str) (fs : List (Str × D)) | src | adr (a : Addr)

mutual
inductive Rp (K : PySem.W.Frag) (H : Hp) : V → D → Prop
  | non : Rp K H .non .non
  | bl (b : Bool) : Rp K H (.bl b) (.bl b)
  | int (i : Int) : Rp K H (.int i) (.int i)
  | str (x : Str) : Rp K H (.str x) (.str x)
  | adr (a : Addr) : Rp K H (.ref a) (.adr a)
  | any (v : V) : Rp K H v .src
  | lst {a : Addr} {vs : List V} {ds : List D} : H a = some (.lst vs) → RpA K H vs ds → Rp K H (.ref a) (.lst ds)
  | tup {a : Addr} {vs : List V} {ds : List D} : SqT K H a vs → RpA K H vs ds → Rp K H (.ref a) (.tup ds)
  | ins {a dx : Addr} {c : Str} {vfs : List (Str × V)} {fs : List (Str × D)} : H a = some (.ins (He.ga K c) dx vfs) → RpF K H vfs fs → Rp K H (.ref a) (.ins c fs)
inductive RpA (K : PySem.W.Frag) (H : Hp) : List V → List D → Prop
  | nil : RpA K H [] []
  | cons {v : V} {vs : List V} {d : D} {ds : List D} : Rp K H v d → RpA K H vs ds → RpA K H (v :: vs) (d :: ds)
inductive RpF (K : PySem.W.Frag) (H : Hp) : List (Str × V) → List (Str × D) → Prop
  | nil : RpF K H [] []
  | cons {f : Str} {v : V} {vfs : List (Str × V)} {d : D} {fs : List (Str × D)} : Rp K H v d → RpF K H vfs fs → RpF K H ((f, v) :: vfs) ((f, d) :: fs)
end
section
variable {K : PySem.W.Frag} {H H' : Hp}
theorem Same.sqT {a : Addr} {xs : List V} (e : Same H H') (h : SqT K H a xs) : SqT K H' a xs := by
  rcases h with (h | ⟨o, h⟩) | h
  · exact .inl (.inl (e _ _ h))
  · exact .inl (.inr ⟨o, e _ _ h⟩)
  · exact .inr h
mutual
theorem Rp.mono (e : Same H H') : ∀ {v : V} {d : D}, Rp K H v d → Rp K H' v d
  | _, _, .non => .non
  | _, _, .bl b => .bl b
  | _, _, .int i => .int i
  | _, _, .str x => .str x
  | _, _, .adr x => .adr x
  | _, _, .any v => .any v
  | _, _, .lst h r => .lst (e _ _ h) (RpA.mono e r)
  | _, _, .tup h r => .tup (Same.sqT e h) (RpA.mono e r)
  | _, _, .ins h r => .ins (e _ _ h) (RpF.mono e r)
theorem RpA.mono (e : Same H H') : ∀ {vs : List V} {ds : List D}, RpA K H vs ds → RpA K H' vs ds
  | _, _, .nil => .nil
  | _, _, .cons h r => .cons (Rp.mono e h) (RpA.mono e r)
theorem RpF.mono (e : Same H H') : ∀ {vs : List (Str × V)} {ds : List (Str × D)}, RpF K H vs ds → RpF K H' vs ds
  | _, _, .nil => .nil
  | _, _, .cons h r => .cons (Rp.mono e h) (RpF.mono e r)
end
theorem RpA.length : ∀ {vs : List V} {ds : List D}, RpA K H vs ds → vs.length = ds.length
  | _, _, .nil => rfl
  | _, _, .cons _ r => congrArg Nat.succ (RpA.length r)
theorem RpA.get : ∀ {vs : List V} {ds : List D} {i : Nat} {d : D}, RpA K H vs ds → ds[i]? = some d → ∃ v, vs[i]? = some v ∧ Rp K H v d
  | _, _, _, _, .nil, h => by simp at h
  | _, _, 0, d, .cons q _, h => by
    simp at h
    subst h
    exact ⟨_, rfl, q⟩
  | _, _, i + 1, d, .cons _ r, h => by
    obtain ⟨v, h1, h2⟩ := RpA.get (i := i) (d := d) r (by simpa using h)
    exact ⟨v, by simpa using h1, h2⟩
theorem RpA.getV : ∀ {vs : List V} {ds : List D} {i : Nat} {v : V}, RpA K H vs ds → vs[i]? = some v → ∃ d, ds[i]? = some d ∧ Rp K H v d
  | _, _, _, _, .nil, h => by simp at h
  | _, _, 0, d, .cons q _, h => by
    simp at h
    subst h
    exact ⟨_, rfl, q⟩
  | _, _, i + 1, d, .cons _ r, h => by
    obtain ⟨v, h1, h2⟩ := RpA.getV (i := i) (v := d) r (by simpa using h)
    exact ⟨v, by simpa using h1, h2⟩
theorem RpA.app : ∀ {vs ws : List V} {ds es : List D}, RpA K H vs ds → RpA K H ws es → RpA K H (vs ++ ws) (ds ++ es)
  | _, _, _, _, .nil, s => s
  | _, _, _, _, .cons q r, s => .cons q (RpA.app r s)
theorem RpA.take : ∀ {vs : List V} {ds : List D} (n : Nat), RpA K H vs ds → RpA K H (vs.take n) (ds.take n)
  | _, _, 0, _ => .nil
  | _, _, _ + 1, .nil => .nil
  | _, _, n + 1, .cons q r => .cons q (RpA.take n r)
theorem RpA.drop : ∀ {vs : List V} {ds : List D} (n : Nat), RpA K H vs ds → RpA K H (vs.drop n) (ds.drop n)
  | _, _, 0, r => r
  | _, _, _ + 1, .nil => .nil
  | _, _, n + 1, .cons _ r => RpA.drop n r
theorem RpA.set {x : V} {d : D} (q : Rp K H x d) : ∀ {vs : List V} {ds : List D} (i : Nat), RpA K H vs ds → RpA K H (vs.set i x) (ds.set i d)
  | _, _, _, .nil => .nil
  | _, _, 0, .cons _ r => .cons q r
  | _, _, i + 1, .cons p r => .cons p (RpA.set q i r)
theorem RpA.erase : ∀ {vs : List V} {ds : List D} (i : Nat), RpA K H vs ds → RpA K H (vs.eraseIdx i) (ds.eraseIdx i)
  | _, _, _, .nil => .nil
  | _, _, 0, .cons _ r => r
  | _, _, i + 1, .cons p r => .cons p (RpA.erase i r)
theorem RpF.get : ∀ {vfs : List (Str × V)} {fs : List (Str × D)} {f : Str} {d : D}, RpF K H vfs fs → fs.lookup f = some d → ∃ v, vfs.lookup f = some v ∧ Rp K H v d
  | _, _, _, _, .nil, h => by cases h
  | _, _, f, d, @RpF.cons _ _ g v vfs d' fs q r, h => by
    rw [List.lookup_cons] at h ⊢
    cases e : (f == g) with
    | true =>
      rw [e] at h
      cases h
      exact ⟨v, rfl, q⟩
    | false =>
      rw [e] at h
      exact RpF.get r h
theorem RpF.none : ∀ {vfs : List (Str × V)} {fs : List (Str × D)} {f : Str}, RpF K H vfs fs → fs.lookup f = .none → vfs.lookup f = .none
  | _, _, _, .nil, _ => rfl
  | _, _, f, @RpF.cons _ _ g v vfs d' fs q r, h => by
    rw [List.lookup_cons] at h ⊢
    cases e : (f == g) with
    | true =>
      rw [e] at h
      cases h
    | false =>
      rw [e] at h
      exact RpF.none r h
/-- ints -/
theorem RpA.ints : ∀ {vs : List V} {ns : List Int}, RpA K H vs (ns.map D.int) → vs = ns.map V.int
  | _, [], .nil => rfl
  | _, n :: ns, .cons q r => by
    cases q
    rw [RpA.ints r, List.map_cons]
theorem RpA.ofInts : ∀ (ns : List Int), RpA K H (ns.map V.int) (ns.map D.int)
  | [] => .nil
  | n :: ns => .cons (.int n) (RpA.ofInts ns)
theorem RpA.bls : ∀ {vs : List V} {ns : List Bool}, RpA K H vs (ns.map D.bl) → vs = ns.map V.bl
  | _, [], .nil => rfl
  | _, n :: ns, .cons q r => by
    cases q
    rw [RpA.bls r, List.map_cons]
theorem RpA.strs : ∀ {vs : List V} {ns : List Str}, RpA K H vs (ns.map D.str) → vs = ns.map V.str
  | _, [], .nil => rfl
  | _, n :: ns, .cons q r => by
    cases q
    rw [RpA.strs r, List.map_cons]
end

/-! ### the heap without some places -/
open Classical in
noncomputable def hid (H : Hp) (A : Addr → Prop) : Hp := fun b => if A b then none else H b
section
variable {H H' : Hp} {A A' : Addr → Prop} {b : Addr} {o : HO}
theorem hid_some (h : hid H A b = some o) : ¬ A b ∧ H b = some o := by
  unfold hid at h
  by_cases q : A b
  · rw [if_pos q] at h
    cases h
  · rw [if_neg q] at h
    exact ⟨q, h⟩
theorem hid_of (q : ¬ A b) (h : H b = some o) : hid H A b = some o := by
  unfold hid
  rw [if_neg q]
  exact h
theorem hid_same : Same (hid H A) H := fun _ _ h => (hid_some h).2
theorem hid_mono (h : ∀ b o, ¬ A b → H b = some o → ¬ A' b ∧ H' b = some o) : Same (hid H A) (hid H' A') := fun b o e => by
  obtain ⟨q, z⟩ := hid_some e
  obtain ⟨q', z'⟩ := h b o q z
  exact hid_of q' z'
end

/-! ### the ghost of a call: the drawing list's place, the callers' own things, the heap that stays -/
structure Gh where
  as : Option Addr
  F : Addr → Prop
  B : Hp
structure GhOk (g : Gh) : Prop where
  asF : ∀ a, g.as = some a → g.F a
  live : ∀ a, g.F a → g.B a ≠ none
abbrev St4 := Int × Int × Int × Int
def s4 (st : St4) : List V := [.int st.1, .int st.2.1, .int st.2.2.1, .int st.2.2.2]
def Src (as : Option Addr) (H : Hp) (st : St4) : Prop := ∀ a, as = some a → H a = some (.lst (s4 st))
def Bk (g : Gh) (H : Hp) : Prop := ∀ b o, g.B b = some o → g.as ≠ some b → H b = some o
/-- one step: all but the drawing list stays -/
def Stp (g : Gh) (H H' : Hp) : Prop := ∀ b o, H b = some o → g.as ≠ some b → H' b = some o
inductive Mo where
  | fz | sh | own | sr | me (a : Addr)
  deriving DecidableEq
abbrev En := List (Option D)
def Own (ms : List Mo) (σ : St) (a : Addr) : Prop := ∃ i : Nat, ms[i]? = some .own ∧ σ[i]? = some (some (.ref a))
def Ex (g : Gh) (ms : List Mo) (σ : St) (a : Addr) : Prop := g.F a ∨ Own ms σ a
def SlotOk (K : PySem.W.Frag) (g : Gh) (ms : List Mo) (σ : St) (H : Hp) (m : Mo) (v : V) (d : D) : Prop := match m with
  | .fz => Rp K (hid H (Ex g ms σ)) v d
  | .sh => ∃ p vs ds, v = .ref p ∧ d = .lst ds ∧ SqL K g.B p vs ∧ g.as ≠ some p ∧ RpA K (hid H (Ex g ms σ)) vs ds
  | .own => ∃ p vs ds, v = .ref p ∧ d = .lst ds ∧ H p = some (.lst vs) ∧ RpA K (hid H (Ex g ms σ)) vs ds
  | .sr => ∃ a, g.as = some a ∧ v = .ref a
  | .me a => v = .ref a
structure Rel (K : PySem.W.Frag) (g : Gh) (ms : List Mo) (σ : St) (H : Hp) (ρ : En) (st : St4) : Prop where
  gok : GhOk g
  l1 : σ.length = ms.length
  l2 : ρ.length = ms.length
  src : Src g.as H st
  bk : Bk g H
  slot : ∀ (i : Nat) (m : Mo) (d : D), ms[i]? = some m → ρ[i]? = some (some d) → ∃ v, σ[i]? = some (some v) ∧ SlotOk K g ms σ H m v d
  ownB : ∀ p, Own ms σ p → g.B p = none ∧ H p ≠ none
  ownD : ∀ (i j : Nat) (p : Addr), ms[i]? = some .own → ms[j]? = some .own → σ[i]? = some (some (.ref p)) → σ[j]? = some (some (.ref p)) → i = j

section
variable {K : PySem.W.Frag} {g : Gh} {ms : List Mo} {σ : St} {H H1 H' : Hp} {ρ : En} {st st' : St4}
theorem Stp.refl : Stp g H H := fun _ _ h _ => h
theorem Stp.trans (a : Stp g H H1) (b : Stp g H1 H') : Stp g H H' := fun x o h n => b x o (a x o h n) n
theorem Stp.of_same (e : Same H H') : Stp g H H' := fun b o h _ => e b o h
theorem Src.of_same (s : Src g.as H st) (e : Same H H') : Src g.as H' st := fun a h => e _ _ (s a h)
theorem Rel.asEx (R : Rel K g ms σ H ρ st) {b : Addr} (h : ¬ Ex g ms σ b) : g.as ≠ some b := fun q => h (.inl (R.gok.asF b q))
theorem Rel.ownNe (R : Rel K g ms σ H ρ st) {p : Addr} (h : Own ms σ p) : g.as ≠ some p := fun q => R.gok.live p (R.gok.asF p q) (R.ownB p h).1
theorem Rel.live (R : Rel K g ms σ H ρ st) {a : Addr} (h : Ex g ms σ a) : H a ≠ none := by
  rcases h with h | h
  · by_cases q : g.as = some a
    · rw [R.src a q]
      exact fun z => by cases z
    · intro z
      cases e : g.B a with
      | none => exact R.gok.live a h e
      | some o =>
        rw [R.bk a o e q] at z
        cases z
  · exact (R.ownB a h).2
theorem Rel.sm (R : Rel K g ms σ H ρ st) (e : Stp g H H') : Same (hid H (Ex g ms σ)) (hid H' (Ex g ms σ)) := hid_mono fun b o q h => ⟨q, e b o h (R.asEx q)⟩
theorem Rel.freshEx (R : Rel K g ms σ H ρ st) {p : Addr} (h : H p = none) : ¬ Ex g ms σ p := fun q => R.live q h
theorem Rel.freshB (R : Rel K g ms σ H ρ st) {p : Addr} (h : H p = none) : g.B p = none := by
  cases e : g.B p with
  | none => rfl
  | some o =>
    by_cases q : g.as = some p
    · rw [R.src p q] at h
      cases h
    · rw [R.bk p o e q] at h
      cases h
/-- a place that is new behind a step was new ahead of it -/
theorem Rel.freshBack (R : Rel K g ms σ H ρ st) (e : Stp g H H') (s : Src g.as H' st') {p : Addr} (h : H' p = none) : H p = none := by
  cases q : H p with
  | none => rfl
  | some o =>
    by_cases z : g.as = some p
    · rw [s p z] at h
      cases h
    · rw [e p o q z] at h
      cases h
theorem Rel.step (R : Rel K g ms σ H ρ st) (e : Stp g H H') (s : Src g.as H' st') : Rel K g ms σ H' ρ st' where
  gok := R.gok
  l1 := R.l1
  l2 := R.l2
  src := s
  bk := fun b o h q => e b o (R.bk b o h q) q
  slot := fun i m d hm hd => by
    obtain ⟨v, hv, sl⟩ := R.slot i m d hm hd
    refine ⟨v, hv, ?_⟩
    cases m with
    | fz => exact Rp.mono (R.sm e) sl
    | sh =>
      obtain ⟨p, vs, ds, e1, e2, e3, e4, e5⟩ := sl
      exact ⟨p, vs, ds, e1, e2, e3, e4, RpA.mono (R.sm e) e5⟩
    | own =>
      obtain ⟨p, vs, ds, e1, e2, e3, e5⟩ := sl
      exact ⟨p, vs, ds, e1, e2, e p _ e3 (R.ownNe ⟨i, hm, by rw [hv, e1]⟩), RpA.mono (R.sm e) e5⟩
    | sr => exact sl
    | me a => exact sl
  ownB := fun p h => ⟨(R.ownB p h).1, fun z => by
    cases q : H p with
    | none => exact (R.ownB p h).2 q
    | some o =>
      rw [e p o q (R.ownNe h)] at z
      cases z⟩
  ownD := R.ownD
theorem sqL_bk {p : Addr} {vs : List V} (b : Bk g H) (n : g.as ≠ some p) (h : SqL K g.B p vs) : SqL K H p vs := by
  rcases h with (h | ⟨o, h⟩) | h
  · exact .inl (.inl (b _ _ h n))
  · exact .inl (.inr ⟨o, b _ _ h n⟩)
  · exact .inr h
end

/-! ### readings as functions on data -/
abbrev UE := En → St4 → Option (D × St4)
abbrev UL := En → St4 → Option (List D × St4)
abbrev UA := En → St4 → Option (List D × St4)
abbrev UT := En → St4 → Option (Bool × St4)
inductive Fl where
  | nx | bk | ct | rt (d : D)
abbrev US := En → St4 → Option (Fl × En × St4)

def canon (K : PySem.W.Frag) (ms : List Mo) (u : UE) : TE := fun σ H Q => ∃ g ρ st d st', Rel K g ms σ H ρ st ∧ u ρ st = some (d, st') ∧ ∀ v H', Stp g H H' → Src g.as H' st' → Rp K (hid H' (Ex g ms σ)) v d → Q v H'
/-- a list that is read, never handed on -/
def canonL (K : PySem.W.Frag) (ms : List Mo) (u : UL) : TE := fun σ H Q => ∃ g ρ st ds st', Rel K g ms σ H ρ st ∧ u ρ st = some (ds, st') ∧ ∀ p vs H', Stp g H H' → Src g.as H' st' → SqL K H' p vs → g.as ≠ some p → RpA K (hid H' (Ex g ms σ)) vs ds → Q (.ref p) H'
/-- a new list -/
def canonN (K : PySem.W.Frag) (ms : List Mo) (u : UL) : TE := fun σ H Q => ∃ g ρ st ds st', Rel K g ms σ H ρ st ∧ u ρ st = some (ds, st') ∧ ∀ p vs H', Stp g H H' → Src g.as H' st' → H p = none → H' p = some (.lst vs) → RpA K (hid H' fun b => Ex g ms σ b ∨ b = p) vs ds → Q (.ref p) H'
def canonT (K : PySem.W.Frag) (ms : List Mo) (u : UT) : TT := fun σ H Q => ∃ g ρ st b st', Rel K g ms σ H ρ st ∧ u ρ st = some (b, st') ∧ ∀ H', Stp g H H' → Src g.as H' st' → Q b H'
/-- one argument: O holds the new lists that are handed over -/
def ArgC (K : PySem.W.Frag) (g : Gh) (ms : List Mo) (σ : St) (H : Hp) (O : Addr → Prop) (m : Mo) (v : V) (d : D) : Prop := match m with
  | .fz => Rp K (hid H fun b => Ex g ms σ b ∨ O b) v d
  | .sh => ∃ p vs ds, v = .ref p ∧ d = .lst ds ∧ SqL K (hid H O) p vs ∧ g.as ≠ some p ∧ RpA K (hid H fun b => Ex g ms σ b ∨ O b) vs ds
  | .own => ∃ p vs ds, v = .ref p ∧ d = .lst ds ∧ H p = some (.lst vs) ∧ O p ∧ RpA K (hid H fun b => Ex g ms σ b ∨ O b) vs ds
  | .sr => ∃ a, g.as = some a ∧ v = .ref a
  | .me a => v = .ref a
inductive Args3 (P : Mo → V → D → Prop) : List Mo → List V → List D → Prop
  | nil : Args3 P [] [] []
  | cons {m : Mo} {ms : List Mo} {v : V} {vs : List V} {d : D} {ds : List D} : P m v d → Args3 P ms vs ds → Args3 P (m :: ms) (v :: vs) (d :: ds)
theorem Args3.imp {P Q : Mo → V → D → Prop} (f : ∀ m v d, P m v d → Q m v d) : ∀ {ms : List Mo} {vs : List V} {ds : List D}, Args3 P ms vs ds → Args3 Q ms vs ds
  | _, _, _, .nil => .nil
  | _, _, _, .cons h r => .cons (f _ _ _ h) (Args3.imp f r)
theorem Args3.len {P : Mo → V → D → Prop} : ∀ {ms : List Mo} {vs : List V} {ds : List D}, Args3 P ms vs ds → vs.length = ms.length ∧ ds.length = ms.length
  | _, _, _, .nil => ⟨rfl, rfl⟩
  | _, _, _, .cons h r => ⟨congrArg Nat.succ (Args3.len r).1, congrArg Nat.succ (Args3.len r).2⟩
theorem Args3.get {P : Mo → V → D → Prop} : ∀ {ms : List Mo} {vs : List V} {ds : List D} {i : Nat} {m : Mo} {d : D}, Args3 P ms vs ds → ms[i]? = some m → ds[i]? = some d → ∃ v, vs[i]? = some v ∧ P m v d
  | _, _, _, _, _, _, .nil, h, _ => by simp at h
  | _, _, _, 0, m, d, .cons h r, h1, h2 => by
    simp at h1 h2
    subst h1 h2
    exact ⟨_, rfl, h⟩
  | _, _, _, i + 1, m, d, .cons h r, h1, h2 => by
    obtain ⟨v, e1, e2⟩ := Args3.get (i := i) r (by simpa using h1) (by simpa using h2)
    exact ⟨v, by simpa using e1, e2⟩
theorem Args3.getV {P : Mo → V → D → Prop} : ∀ {ms : List Mo} {vs : List V} {ds : List D} {i : Nat} {m : Mo} {v : V}, Args3 P ms vs ds → ms[i]? = some m → vs[i]? = some v → ∃ d, ds[i]? = some d ∧ P m v d
  | _, _, _, _, _, _, .nil, h, _ => by simp at h
  | _, _, _, 0, m, d, .cons h r, h1, h2 => by
    simp at h1 h2
    subst h1 h2
    exact ⟨_, rfl, h⟩
  | _, _, _, i + 1, m, d, .cons h r, h1, h2 => by
    obtain ⟨v, e1, e2⟩ := Args3.getV (i := i) r (by simpa using h1) (by simpa using h2)
    exact ⟨v, by simpa using e1, e2⟩
theorem SqL.stp {K : PySem.W.Frag} {g : Gh} {H H' : Hp} {O : Addr → Prop} {p : Addr} {vs : List V} (e : Stp g H H') (hO : ∀ a, O a → H a = none) (n : g.as ≠ some p) (h : SqL K H p vs) : SqL K (hid H' O) p vs := by
  rcases h with (h | ⟨o, h⟩) | h
  · refine .inl (.inl (hid_of (fun z => ?_) (e _ _ h n)))
    rw [hO p z] at h
    cases h
  · refine .inl (.inr ⟨o, hid_of (fun z => ?_) (e _ _ h n)⟩)
    rw [hO p z] at h
    cases h
  · exact .inr h
def canonA (K : PySem.W.Frag) (ms pm : List Mo) (u : UA) : TA := fun σ H Q => ∃ g ρ st ds st', Rel K g ms σ H ρ st ∧ u ρ st = some (ds, st') ∧ ∀ vs H' O, Stp g H H' → Src g.as H' st' → (∀ a, O a → H a = none ∧ H' a ≠ none) → Args3 (ArgC K g ms σ H' O) pm vs ds →
  (∀ (i j : Nat) (p : Addr), pm[i]? = some .own → pm[j]? = some .own → vs[i]? = some (.ref p) → vs[j]? = some (.ref p) → i = j) → Q vs H'

/-- what a def hands back: data; a new list -/
inductive RK where
  | fz | nw
def RetOk (K : PySem.W.Frag) (rk : RK) (g : Gh) (H : Hp) (v : V) (d : D) : Prop := match rk with
  | .fz => Rp K (hid H g.F) v d
  | .nw => ∃ p vs ds, v = .ref p ∧ d = .lst ds ∧ g.B p = none ∧ H p = some (.lst vs) ∧ RpA K (hid H fun b => g.F b ∨ b = p) vs ds
def SEnd (K : PySem.W.Frag) (rk : RK) (g : Gh) (ms : List Mo) (D : Ends) (σ : St) (H : Hp) (f : Fl) (ρ' : En) (st' : St4) : Prop := match f with
  | .nx => ∀ σ' H', Rel K g ms σ' H' ρ' st' → Same (hid H (Ex g ms σ)) (hid H' (Ex g ms σ')) → D.nx σ' H'
  | .bk => ∀ σ' H', Rel K g ms σ' H' ρ' st' → Same (hid H (Ex g ms σ)) (hid H' (Ex g ms σ')) → D.bk σ' H'
  | .ct => ∀ σ' H', Rel K g ms σ' H' ρ' st' → Same (hid H (Ex g ms σ)) (hid H' (Ex g ms σ')) → D.ct σ' H'
  | .rt d => ∀ v H', Bk g H' → Src g.as H' st' → RetOk K rk g H' v d → D.rt v H'
def canonSt (K : PySem.W.Frag) (rk : RK) (ms : List Mo) (u : US) : TS := fun D σ H => ∃ g ρ st f ρ' st', Rel K g ms σ H ρ st ∧ u ρ st = some (f, ρ', st') ∧ SEnd K rk g ms D σ H f ρ' st'

/-! ### a def's promise -/
def ArgOk (K : PySem.W.Frag) (g : Gh) (H : Hp) (m : Mo) (v : V) (d : D) : Prop := match m with
  | .fz => Rp K (hid g.B g.F) v d
  | .sh => ∃ p vs ds, v = .ref p ∧ d = .lst ds ∧ SqL K g.B p vs ∧ g.as ≠ some p ∧ RpA K (hid g.B g.F) vs ds
  | .own => ∃ p vs ds, v = .ref p ∧ d = .lst ds ∧ g.B p = none ∧ H p = some (.lst vs) ∧ RpA K (hid g.B g.F) vs ds
  | .sr => ∃ a, g.as = some a ∧ v = .ref a
  | .me a => v = .ref a
def spD (K : PySem.W.Frag) (pm : List Mo) (rk : RK) (f : List D → St4 → Option (D × St4)) : Sp := fun vs H Q _ => ∃ g ds st d st', GhOk g ∧ (∀ b o, g.B b = some o → H b = some o) ∧ Src g.as H st ∧ Args3 (ArgOk K g H) pm vs ds ∧
  (∀ (i j : Nat) (p : Addr), pm[i]? = some .own → pm[j]? = some .own → vs[i]? = some (.ref p) → vs[j]? = some (.ref p) → i = j) ∧ f ds st = some (d, st') ∧
  ∀ v H', Bk g H' → Src g.as H' st' → RetOk K rk g H' v d → Q v H'
theorem spD_len {K : PySem.W.Frag} {pm : List Mo} {rk : RK} {f : List D → St4 → Option (D × St4)} {vs : List V} {H : Hp} {Q : VK} {E : XK} (h : spD K pm rk f vs H Q E) : vs.length = pm.length := by
  obtain ⟨_, _, _, _, _, _, _, _, h, _⟩ := h
  exact h.len.1
/-- a body as a function of the arguments -/
def uFn (n : Nat) (body : US) : List D → St4 → Option (D × St4) := fun ds st => match body (ds.map some ++ List.replicate (n - ds.length) none) st with
  | some (.rt d, _, st') => some (d, st')
  | some (.nx, _, st') => some (.non, st')
  | _ => none
end Fw
set_option Elab.async false
set_option linter.all false
set_option maxRecDepth 100000
set_option maxHeartbeats 4000000
/-! Fw2: expressions, tests, arguments, calls. -/
namespace Fw
open PySem PySem.Spec L2

theorem PE.imp {X : Cx} {e : Expr} {t t' : TE} (h : PE X e t) (k : ∀ σ H Q, t' σ H Q → t σ H Q) : PE X e t' := ⟨fun pins s σ H Q I q => h.run pins s σ H Q I (k σ H Q q)⟩
theorem PT.imp {X : Cx} {e : Expr} {t t' : TT} (h : PT X e t) (k : ∀ σ H Q, t' σ H Q → t σ H Q) : PT X e t' := ⟨fun pins s σ H Q I q => h.run pins s σ H Q I (k σ H Q q)⟩
theorem PW.imp {X : Cx} {e : Expr} {t t' : TT} (h : PW X e t) (k : ∀ σ H Q, t' σ H Q → t σ H Q) : PW X e t' := ⟨fun w pins s σ H Q I q => h.run w pins s σ H Q I (k σ H Q q)⟩
theorem PA.imp {X : Cx} {e : List Expr} {t t' : TA} (h : PA X e t) (k : ∀ σ H Q, t' σ H Q → t σ H Q) : PA X e t' := ⟨fun p pins s σ H Q I q => h.run p pins s σ H Q I (k σ H Q q)⟩
theorem PS.imp {X : Cx} {e : Stmt} {t t' : TS} (h : PS X e t) (k : ∀ D σ H, t' D σ H → t D σ H) : PS X e t' := ⟨fun pins s σ H D I q => h.run pins s σ H D I (k D σ H q)⟩
theorem PSs.imp {X : Cx} {e : List Stmt} {t t' : TS} (h : PSs X e t) (k : ∀ D σ H, t' D σ H → t D σ H) : PSs X e t' := ⟨fun pins s σ H D I q => h.run pins s σ H D I (k D σ H q)⟩

/-! ### the data side -/
def gv (ρ : En) (i : Nat) : Option D := ρ[i]?.join
theorem gv_some {ρ : En} {i : Nat} {d : D} (h : gv ρ i = some d) : ρ[i]? = some (some d) := by
  unfold gv at h
  cases e : ρ[i]? with
  | none => rw [e] at h; cases h
  | some o =>
    rw [e] at h
    cases o with
    | none => cases h
    | some d' => cases h; rfl
def uVar (i : Nat) : UE := fun ρ st => (gv ρ i).map fun d => (d, st)
def uC (d : D) : UE := fun _ st => some (d, st)
def uOp (f : D → D → Option D) (a b : UE) : UE := fun ρ st => (a ρ st).bind fun x => (b ρ x.2).bind fun y => (f x.1 y.1).map fun z => (z, y.2)
def uUn (f : D → Option D) (a : UE) : UE := fun ρ st => (a ρ st).bind fun x => (f x.1).map fun z => (z, x.2)
def uLVar (i : Nat) : UL := fun ρ st => match gv ρ i with
  | some (.lst ds) => some (ds, st)
  | _ => none
def uLOf (a : UE) : UL := fun ρ st => match a ρ st with
  | some (.lst ds, st') => some (ds, st')
  | _ => none
def uOfL (a : UL) : UE := fun ρ st => (a ρ st).map fun x => (.lst x.1, x.2)
def aNil : UA := fun _ st => some ([], st)
def aCons (a : UE) (r : UA) : UA := fun ρ st => (a ρ st).bind fun x => (r ρ x.2).map fun y => (x.1 :: y.1, y.2)
def aConsL (a : UL) (r : UA) : UA := fun ρ st => (a ρ st).bind fun x => (r ρ x.2).map fun y => (.lst x.1 :: y.1, y.2)
def aSrc (i : Nat) (r : UA) : UA := fun ρ st => (gv ρ i).bind fun _ => (r ρ st).map fun y => (.src :: y.1, y.2)
def uTup (a : UA) : UE := fun ρ st => (a ρ st).bind fun x => if x.1.length ≤ 1000 then some (.tup x.1, x.2) else none
def uLst (a : UA) : UL := fun ρ st => (a ρ st).bind fun x => if x.1.length ≤ 1000 then some (x.1, x.2) else none
def uCall (f : List D → St4 → Option (D × St4)) (dv : List D) (a : UA) : UE := fun ρ st => (a ρ st).bind fun x => f (x.1 ++ dv) x.2
def uCallL (f : List D → St4 → Option (D × St4)) (dv : List D) (a : UA) : UL := uLOf (uCall f dv a)
def uTst (f : D → Option Bool) (a : UE) : UT := fun ρ st => (a ρ st).bind fun x => (f x.1).map fun z => (z, x.2)
def uRel (f : D → D → Option Bool) (a b : UE) : UE := uOp (fun x y => (f x y).map D.bl) a b
def dBool : D → Option Bool
  | .bl b => some b
  | _ => none
def uAnd (a b : UT) : UT := fun ρ st => (a ρ st).bind fun x => if x.1 = true then b ρ x.2 else some (false, x.2)
def uOr (a b : UT) : UT := fun ρ st => (a ρ st).bind fun x => if x.1 = true then some (true, x.2) else b ρ x.2
def uNot (a : UT) : UT := fun ρ st => (a ρ st).map fun x => (!x.1, x.2)
def uIf (t : UT) (a b : UE) : UE := fun ρ st => (t ρ st).bind fun x => if x.1 = true then a ρ x.2 else b ρ x.2
def uBl (t : UT) : UE := fun ρ st => (t ρ st).map fun x => (.bl x.1, x.2)

section
variable {X : Cx} {ms pm : List Mo} {e : Expr} {es : List Expr} {u : UE}

/-! ### names, constants -/
theorem pd_var (i : Nat) {x : Str} {pos : Pos} (hm : ms[i]? = some .fz := by rfl) (hN : X.N[i]? = some x := by rfl) (hv : Vis X.env.scope x := by first | exact Or.inl rfl | exact Or.inr (Or.inl rfl) | exact Or.inr (Or.inr rfl)) (hd : (x == ("__debug__" : Str)) = false := by decide)
    (hcd : (x == ("__classdict__" : Str)) = false := by decide) : PE X (.Name x pos) (canon X.K ms (uVar i)) :=
  PE.imp (pe_var hN hv hd hcd) fun σ H Q ⟨g, ρ, st, d, st', R, hu, k⟩ => by
    unfold uVar at hu
    cases e : gv ρ i with
    | none => rw [e] at hu; cases hu
    | some d' =>
      rw [e] at hu
      cases hu
      obtain ⟨v, hv, s⟩ := R.slot i .fz d hm (gv_some e)
      exact ⟨v, hv, k v H Stp.refl R.src s⟩
theorem pd_c {v : V} {d : D} (h : PE X e (tC v)) (r : ∀ H, Rp X.K H v d) : PE X e (canon X.K ms (uC d)) :=
  PE.imp h fun σ H Q ⟨g, ρ, st, d', st', R, hu, k⟩ => by
    cases hu
    exact k v H Stp.refl R.src (r _)
theorem pd_int {i : Int} {j pos} : PE X (.Constant (.int i) j pos) (canon X.K ms (uC (.int i))) := pd_c pe_int fun _ => .int i
theorem pd_str {x : Str} {j pos} : PE X (.Constant (.str x) j pos) (canon X.K ms (uC (.str x))) := pd_c pe_str fun _ => .str x
theorem pd_bl {b : Bool} {j pos} : PE X (.Constant (.bool b) j pos) (canon X.K ms (uC (.bl b))) := pd_c pe_bl fun _ => .bl b
theorem pd_non {j pos} : PE X (.Constant .none j pos) (canon X.K ms (uC .non)) := pd_c pe_non fun _ => .non

/-! ### operators -/
def ROp (K : PySem.W.Frag) (r : R2) (f : D → D → Option D) : Prop := ∀ (A : Addr → Prop) (H : Hp) (x y : V) (dx dy dz : D), (∀ a, A a → H a ≠ none) → Rp K (hid H A) x dx → Rp K (hid H A) y dy → f dx dy = some dz →
  ∀ Q : VK, (∀ v H', Same H H' → Rp K (hid H' A) v dz → Q v H') → r x y H Q
def RUn (K : PySem.W.Frag) (r : V → Hp → VK → Prop) (f : D → Option D) : Prop := ∀ (A : Addr → Prop) (H : Hp) (x : V) (dx dz : D), (∀ a, A a → H a ≠ none) → Rp K (hid H A) x dx → f dx = some dz →
  ∀ Q : VK, (∀ v H', Same H H' → Rp K (hid H' A) v dz → Q v H') → r x H Q
theorem canon_op {K : PySem.W.Frag} {r : R2} {f : D → D → Option D} {a b : UE} (h : ROp K r f) {σ : St} {H : Hp} {Q : VK} (c : canon K ms (uOp f a b) σ H Q) : tOp r (canon K ms a) (canon K ms b) σ H Q := by
  obtain ⟨g, ρ, st, d, st', R, hu, k⟩ := c
  unfold uOp at hu
  obtain ⟨⟨dx, st1⟩, h1, hu⟩ := Option.bind_eq_some_iff.mp hu
  obtain ⟨⟨dy, st2⟩, h2, hu⟩ := Option.bind_eq_some_iff.mp hu
  obtain ⟨dz, h3, hu⟩ := Option.map_eq_some_iff.mp hu
  cases hu
  refine ⟨g, ρ, st, dx, st1, R, h1, fun x H1 e1 s1 rx => ?_⟩
  have R1 := R.step e1 s1
  refine ⟨g, ρ, st1, dy, st2, R1, h2, fun y H2 e2 s2 ry => ?_⟩
  have R2 := R1.step e2 s2
  exact h (Ex g ms σ) H2 x y dx dy _ (fun a q => R2.live q) (Rp.mono (R1.sm e2) rx) ry h3 Q fun v H' sm rv => k v H' ((e1.trans e2).trans (Stp.of_same sm)) (s2.of_same sm) rv
theorem canon_un {K : PySem.W.Frag} {r : V → Hp → VK → Prop} {f : D → Option D} {a : UE} (h : RUn K r f) {σ : St} {H : Hp} {Q : VK} (c : canon K ms (uUn f a) σ H Q) : tUn r (canon K ms a) σ H Q := by
  obtain ⟨g, ρ, st, d, st', R, hu, k⟩ := c
  unfold uUn at hu
  obtain ⟨⟨dx, st1⟩, h1, hu⟩ := Option.bind_eq_some_iff.mp hu
  obtain ⟨dz, h3, hu⟩ := Option.map_eq_some_iff.mp hu
  cases hu
  refine ⟨g, ρ, st, dx, st1, R, h1, fun x H1 e1 s1 rx => ?_⟩
  have R1 := R.step e1 s1
  exact h (Ex g ms σ) H1 x dx _ (fun a q => R1.live q) rx h3 Q fun v H' sm rv => k v H' (e1.trans (Stp.of_same sm)) (s1.of_same sm) rv
theorem pd_bin {a b : Expr} {op : Operator} {pos : Pos} {r : R2} {f : D → D → Option D} {ua ub : UE} (ho : OpR X (binaryOp op) r) (h : ROp X.K r f) (ha : PE X a (canon X.K ms ua)) (hb : PE X b (canon X.K ms ub)) : PE X (.BinOp a op b pos) (canon X.K ms (uOp f ua ub)) :=
  PE.imp (pe_op ho ha hb) fun _ _ _ c => canon_op h c
theorem pd_un {a : Expr} {op : UnaryOp} {pos : Pos} {r : V → Hp → VK → Prop} {f : D → Option D} {ua : UE} (ho : UnR X (unaryOp op) r) (h : RUn X.K r f) (ha : PE X a (canon X.K ms ua)) : PE X (.UnaryOp op a pos) (canon X.K ms (uUn f ua)) :=
  PE.imp (pe_un ho ha) fun _ _ _ c => canon_un h c
theorem pd_cmp {a b : Expr} {op : CmpOp} {pos : Pos} {r : R2} {f : D → D → Option Bool} {ua ub : UE} (ho : OpR X (compareOp op) r) (h : ROp X.K r fun x y => (f x y).map D.bl) (ha : PE X a (canon X.K ms ua)) (hb : PE X b (canon X.K ms ub)) (hm : behindInMarks op b = false) :
    PE X (.Compare a [op] [b] pos) (canon X.K ms (uRel f ua ub)) := PE.imp (pe_cmpR ho ha hb hm) fun _ _ _ c => canon_op h c

/-! ### tests -/
/-- a bool as a test -/
theorem canon_tB {K : PySem.W.Frag} {a : UE} {σ : St} {H : Hp} {Q : Bool → Hp → Prop} (c : canonT K ms (uTst dBool a) σ H Q) : tB (canon K ms a) σ H Q := by
  obtain ⟨g, ρ, st, b, st', R, hu, k⟩ := c
  unfold uTst at hu
  obtain ⟨⟨dx, st1⟩, h1, hu⟩ := Option.bind_eq_some_iff.mp hu
  obtain ⟨z, h3, hu⟩ := Option.map_eq_some_iff.mp hu
  cases hu
  refine ⟨g, ρ, st, dx, _, R, h1, fun x H1 e1 s1 rx => ?_⟩
  cases dx with
  | bl b' =>
    cases h3
    cases rx
    exact ⟨_, rfl, k H1 e1 s1⟩
  | _ => cases h3
theorem pt_b (h : PE X e (canon X.K ms u)) (he : ∀ whole, isTrue e X.env whole = (do let v ← whole; standAt e.pos; holding [v] (truthy v)) := by intro _; rfl) : PT X e (canonT X.K ms (uTst dBool u)) := PT.imp (pt_val h he) fun _ _ _ c => canon_tB c
theorem pd_ofT {t : UT} (h : PE X e (canon X.K ms (uBl t))) (he : ∀ whole, isTrue e X.env whole = (do let v ← whole; standAt e.pos; holding [v] (truthy v)) := by intro _; rfl) : PT X e (canonT X.K ms t) := PT.imp (pt_b h he) fun σ H Q ⟨g, ρ, st, b, st', R, hu, k⟩ =>
  ⟨g, ρ, st, b, st', R, by
    unfold uTst uBl
    rw [hu] <;> rfl, k⟩
theorem ptd_not {a : Expr} {pos : Pos} {t : UT} (h : PT X a (canonT X.K ms t)) : PT X (.UnaryOp .Not a pos) (canonT X.K ms (uNot t)) := PT.imp (pt_not h) fun σ H Q ⟨g, ρ, st, b, st', R, hu, k⟩ => by
  unfold uNot at hu
  obtain ⟨⟨x, st1⟩, h1, hu⟩ := Option.map_eq_some_iff.mp hu
  cases hu
  exact ⟨g, ρ, st, x, _, R, h1, k⟩
theorem ptw_one {op : BoolOp} {a : Expr} {pos : Pos} {t : UT} (h : PT X a (canonT X.K ms t)) : PW X (.BoolOp op [a] pos) (canonT X.K ms t) := by
  cases op with
  | And => exact pw_and1 h
  | Or => exact pw_or1 h
theorem ptw_and {a b : Expr} {rest : List Expr} {pos : Pos} {t t' : UT} (ha : PT X a (canonT X.K ms t)) (hb : PW X (.BoolOp .And (b :: rest) pos) (canonT X.K ms t')) : PW X (.BoolOp .And (a :: b :: rest) pos) (canonT X.K ms (uAnd t t')) :=
  PW.imp (pw_and ha hb) fun σ H Q ⟨g, ρ, st, z, st', R, hu, k⟩ => by
    unfold uAnd at hu
    obtain ⟨⟨x, st1⟩, h1, hu⟩ := Option.bind_eq_some_iff.mp hu
    refine ⟨g, ρ, st, x, st1, R, h1, fun H1 e1 s1 => ?_⟩
    cases x with
    | true =>
      show canonT X.K ms t' σ H1 Q
      exact ⟨g, ρ, st1, z, st', R.step e1 s1, hu, fun H2 e2 s2 => k H2 (e1.trans e2) s2⟩
    | false =>
      show Q false H1
      cases hu
      exact k H1 e1 s1
theorem ptw_or {a b : Expr} {rest : List Expr} {pos : Pos} {t t' : UT} (ha : PT X a (canonT X.K ms t)) (hb : PW X (.BoolOp .Or (b :: rest) pos) (canonT X.K ms t')) : PW X (.BoolOp .Or (a :: b :: rest) pos) (canonT X.K ms (uOr t t')) :=
  PW.imp (pw_or ha hb) fun σ H Q ⟨g, ρ, st, z, st', R, hu, k⟩ => by
    unfold uOr at hu
    obtain ⟨⟨x, st1⟩, h1, hu⟩ := Option.bind_eq_some_iff.mp hu
    refine ⟨g, ρ, st, x, st1, R, h1, fun H1 e1 s1 => ?_⟩
    cases x with
    | true =>
      show Q true H1
      cases hu
      exact k H1 e1 s1
    | false =>
      show canonT X.K ms t' σ H1 Q
      exact ⟨g, ρ, st1, z, st', R.step e1 s1, hu, fun H2 e2 s2 => k H2 (e1.trans e2) s2⟩
theorem canon_if {K : PySem.W.Frag} {t : UT} {a b : UE} {σ : St} {H : Hp} {Q : VK} (c : canon K ms (uIf t a b) σ H Q) : tIf (canonT K ms t) (canon K ms a) (canon K ms b) σ H Q := by
  obtain ⟨g, ρ, st, d, st', R, hu, k⟩ := c
  unfold uIf at hu
  obtain ⟨⟨x, st1⟩, h1, hu⟩ := Option.bind_eq_some_iff.mp hu
  refine ⟨g, ρ, st, x, st1, R, h1, fun H1 e1 s1 => ?_⟩
  have R1 := R.step e1 s1
  cases x with
  | true =>
    show canon K ms a σ H1 Q
    exact ⟨g, ρ, st1, d, st', R1, hu, fun v H2 e2 s2 r => k v H2 (e1.trans e2) s2 r⟩
  | false =>
    show canon K ms b σ H1 Q
    exact ⟨g, ρ, st1, d, st', R1, hu, fun v H2 e2 s2 r => k v H2 (e1.trans e2) s2 r⟩
theorem pd_if {c a b : Expr} {pos : Pos} {t : UT} {ua ub : UE} (hc : PT X c (canonT X.K ms t)) (ha : PE X a (canon X.K ms ua)) (hb : PE X b (canon X.K ms ub)) : PE X (.IfExp c a b pos) (canon X.K ms (uIf t ua ub)) :=
  PE.imp (pe_ifExp hc ha hb) fun _ _ _ c => canon_if c
/-- and, or, not as values, of bools -/
def uAndV (a b : UE) : UE := fun ρ st => (a ρ st).bind fun x => (dBool x.1).bind fun z => if z = true then b ρ x.2 else some (.bl false, x.2)
def uOrV (a b : UE) : UE := fun ρ st => (a ρ st).bind fun x => (dBool x.1).bind fun z => if z = true then some (.bl true, x.2) else b ρ x.2
def uNotV (a : UE) : UE := fun ρ st => (a ρ st).bind fun x => (dBool x.1).map fun z => (.bl (!z), x.2)
theorem rp_bool {K : PySem.W.Frag} {H : Hp} {v : V} {d : D} {b : Bool} (r : Rp K H v d) (h : dBool d = some b) : v = .bl b := by
  cases d with
  | bl b' =>
    cases h
    cases r
    rfl
  | _ => cases h
theorem pd_one {op : BoolOp} {a : Expr} {pos : Pos} {u : UE} (h : PE X a (canon X.K ms u)) (k : PE X a (canon X.K ms u) → PE X (.BoolOp op [a] pos) (canon X.K ms u) := by exact pe_one) : PE X (.BoolOp op [a] pos) (canon X.K ms u) := k h
theorem pd_andV {a b : Expr} {rest : List Expr} {pos : Pos} {ua ub : UE} (ha : PE X a (canon X.K ms ua)) (hb : PE X (.BoolOp .And (b :: rest) pos) (canon X.K ms ub)) : PE X (.BoolOp .And (a :: b :: rest) pos) (canon X.K ms (uAndV ua ub)) :=
  PE.imp (pe_and ha hb) fun σ H Q ⟨g, ρ, st, d, st', R, hu, k⟩ => by
    unfold uAndV at hu
    obtain ⟨⟨x, st1⟩, h1, hu⟩ := Option.bind_eq_some_iff.mp hu
    obtain ⟨z, h2, hu⟩ := Option.bind_eq_some_iff.mp hu
    refine ⟨g, ρ, st, x, st1, R, h1, fun v H1 e1 s1 r => ⟨z, rp_bool r h2, ?_⟩⟩
    cases z with
    | true =>
      show canon X.K ms ub σ H1 Q
      exact ⟨g, ρ, st1, d, st', R.step e1 s1, hu, fun v H2 e2 s2 r => k v H2 (e1.trans e2) s2 r⟩
    | false =>
      show Q (.bl false) H1
      cases hu
      exact k _ H1 e1 s1 (.bl false)
theorem pd_orV {a b : Expr} {rest : List Expr} {pos : Pos} {ua ub : UE} (ha : PE X a (canon X.K ms ua)) (hb : PE X (.BoolOp .Or (b :: rest) pos) (canon X.K ms ub)) : PE X (.BoolOp .Or (a :: b :: rest) pos) (canon X.K ms (uOrV ua ub)) :=
  PE.imp (pe_or ha hb) fun σ H Q ⟨g, ρ, st, d, st', R, hu, k⟩ => by
    unfold uOrV at hu
    obtain ⟨⟨x, st1⟩, h1, hu⟩ := Option.bind_eq_some_iff.mp hu
    obtain ⟨z, h2, hu⟩ := Option.bind_eq_some_iff.mp hu
    refine ⟨g, ρ, st, x, st1, R, h1, fun v H1 e1 s1 r => ⟨z, rp_bool r h2, ?_⟩⟩
    cases z with
    | true =>
      show Q (.bl true) H1
      cases hu
      exact k _ H1 e1 s1 (.bl true)
    | false =>
      show canon X.K ms ub σ H1 Q
      exact ⟨g, ρ, st1, d, st', R.step e1 s1, hu, fun v H2 e2 s2 r => k v H2 (e1.trans e2) s2 r⟩
theorem pd_notV {a : Expr} {pos : Pos} {ua : UE} (ha : PE X a (canon X.K ms ua)) : PE X (.UnaryOp .Not a pos) (canon X.K ms (uNotV ua)) :=
  PE.imp (pe_not ha) fun σ H Q ⟨g, ρ, st, d, st', R, hu, k⟩ => by
    unfold uNotV at hu
    obtain ⟨⟨x, st1⟩, h1, hu⟩ := Option.bind_eq_some_iff.mp hu
    obtain ⟨z, h2, hu⟩ := Option.map_eq_some_iff.mp hu
    cases hu
    exact ⟨g, ρ, st, x, _, R, h1, fun v H1 e1 s1 r => ⟨z, rp_bool r h2, k _ H1 e1 s1 (.bl _)⟩⟩
/-- a < b < c -/
def uChain (f f' : D → D → Option Bool) (a b c : UE) : UE := fun ρ st => (a ρ st).bind fun x => (b ρ x.2).bind fun y => (f x.1 y.1).bind fun z => if z = true then (c ρ y.2).bind fun w => (f' y.1 w.1).map fun z' => (.bl z', w.2) else some (.bl false, y.2)
theorem chain_tr {K : PySem.W.Frag} {r r' : R2} {f f' : D → D → Option Bool} {ua ub uc : UE} {σ : St} {H : Hp} {Q : VK} (h : ROp K r fun x y => (f x y).map D.bl) (h' : ROp K r' fun x y => (f' x y).map D.bl) (cc : canon K ms (uChain f f' ua ub uc) σ H Q) :
    tChain r r' (canon K ms ua) (canon K ms ub) (canon K ms uc) σ H Q := by
    obtain ⟨g, ρ, st, d, st', R, hu, k⟩ := cc
    unfold uChain at hu
    obtain ⟨⟨dx, st1⟩, h1, hu⟩ := Option.bind_eq_some_iff.mp hu
    obtain ⟨⟨dy, st2⟩, h2, hu⟩ := Option.bind_eq_some_iff.mp hu
    obtain ⟨z, h3, hu⟩ := Option.bind_eq_some_iff.mp hu
    refine ⟨g, ρ, st, dx, st1, R, h1, fun x H1 e1 s1 rx => ?_⟩
    have R1 := R.step e1 s1
    refine ⟨g, ρ, st1, dy, st2, R1, h2, fun y H2 e2 s2 ry => ?_⟩
    have R2 := R1.step e2 s2
    refine h (Ex g ms σ) H2 x y dx dy (.bl z) (fun a q => R2.live q) (Rp.mono (R1.sm e2) rx) ry (congrArg (Option.map D.bl) h3) _ fun v H3 sm rv => ?_
    cases rv
    refine ⟨z, rfl, ?_⟩
    have e3 : Stp g H H3 := (e1.trans e2).trans (Stp.of_same sm)
    have R3 := R2.step (Stp.of_same sm) (s2.of_same sm)
    cases z with
    | true =>
      show canon K ms uc σ H3 fun w' H4 => r' y w' H4 Q
      obtain ⟨⟨dw, st3⟩, h4, hu⟩ := Option.bind_eq_some_iff.mp hu
      obtain ⟨z', h5, hu⟩ := Option.map_eq_some_iff.mp hu
      cases hu
      refine ⟨g, ρ, st2, dw, _, R3, h4, fun w H4 e4 s4 rw' => ?_⟩
      have R4 := R3.step e4 s4
      exact h' (Ex g ms σ) H4 y w dy dw (.bl z') (fun a q => R4.live q) (Rp.mono (R3.sm e4) (Rp.mono (R2.sm (Stp.of_same sm)) ry)) rw' (congrArg (Option.map D.bl) h5) Q fun v H5 sm5 rv5 => k v H5 ((e3.trans e4).trans (Stp.of_same sm5)) (s4.of_same sm5) rv5
    | false =>
      show Q (.bl false) H3
      cases hu
      exact k _ H3 e3 (s2.of_same sm) (.bl false)

theorem pd_chain {a b c : Expr} {op op' : CmpOp} {pos : Pos} {r r' : R2} {f f' : D → D → Option Bool} {ua ub uc : UE} (ho : OpR X (compareOp op) r) (h : ROp X.K r fun x y => (f x y).map D.bl) (ho' : OpR X (compareOp op') r') (h' : ROp X.K r' fun x y => (f' x y).map D.bl)
    (ha : PE X a (canon X.K ms ua)) (hb : PE X b (canon X.K ms ub)) (hc : PE X c (canon X.K ms uc)) (hm : lastMarks [op, op'] [b, c] = false := by with_unfolding_all rfl) : PE X (.Compare a [op, op'] [b, c] pos) (canon X.K ms (uChain f f' ua ub uc)) :=
  PE.imp (pe_chain ho ho' ha hb hc hm) fun _ _ _ z => chain_tr h h' z

/-! ### lists that are read where they stand -/
theorem pl_of {u : UE} (h : PE X e (canon X.K ms u)) : PE X e (canonL X.K ms (uLOf u)) := PE.imp h fun σ H Q ⟨g, ρ, st, ds, st', R, hu, k⟩ => by
  unfold uLOf at hu
  cases e1 : u ρ st with
  | none => rw [e1] at hu; cases hu
  | some z =>
    obtain ⟨d, st1⟩ := z
    rw [e1] at hu
    cases d with
    | lst ds' =>
      cases hu
      refine ⟨g, ρ, st, .lst ds, _, R, e1, fun v H1 e1 s1 r => ?_⟩
      cases r with
      | lst q r => exact k _ _ H1 e1 s1 (.inl (.inl (hid_some q).2)) ((R.step e1 s1).asEx (hid_some q).1) r
    | _ => cases hu
theorem pl_var (i : Nat) {m : Mo} {x : Str} {pos : Pos} (hm : ms[i]? = some m := by rfl) (h2 : m = .sh ∨ m = .own := by first | exact .inl rfl | exact .inr rfl) (hN : X.N[i]? = some x := by rfl) (hv : Vis X.env.scope x := by first | exact Or.inl rfl | exact Or.inr (Or.inl rfl) | exact Or.inr (Or.inr rfl))
    (hd : (x == ("__debug__" : Str)) = false := by decide) (hcd : (x == ("__classdict__" : Str)) = false := by decide) : PE X (.Name x pos) (canonL X.K ms (uLVar i)) :=
  PE.imp (pe_var hN hv hd hcd) fun σ H Q ⟨g, ρ, st, ds, st', R, hu, k⟩ => by
    unfold uLVar at hu
    cases e : gv ρ i with
    | none => rw [e] at hu; cases hu
    | some d' =>
      rw [e] at hu
      cases d' with
      | lst ds' =>
        cases hu
        obtain ⟨v, hv, s⟩ := R.slot i m _ hm (gv_some e)
        refine ⟨v, hv, ?_⟩
        rcases h2 with rfl | rfl
        · obtain ⟨p, vs, ds2, rfl, e2, h3, h4, h5⟩ := s
          cases e2
          exact k p vs H Stp.refl R.src (sqL_bk R.bk h4 h3) h4 h5
        · obtain ⟨p, vs, ds2, rfl, e2, h3, h5⟩ := s
          cases e2
          exact k p vs H Stp.refl R.src (.inl (.inl h3)) (R.ownNe ⟨i, hm, hv⟩) h5
      | _ => cases hu
/-- a new list as data -/
theorem pd_ofN {u : UL} (h : PE X e (canonN X.K ms u)) : PE X e (canon X.K ms (uOfL u)) := PE.imp h fun σ H Q ⟨g, ρ, st, d, st', R, hu, k⟩ => by
  unfold uOfL at hu
  obtain ⟨⟨ds, st1⟩, h1, hu⟩ := Option.map_eq_some_iff.mp hu
  cases hu
  exact ⟨g, ρ, st, ds, _, R, h1, fun p vs H' e s np hp r => k _ H' e s (.lst (hid_of (R.freshEx np) hp) (RpA.mono (hid_mono fun b o q z => ⟨fun w => q (.inl w), z⟩) r))⟩
theorem pl_ofN {u : UL} (h : PE X e (canonN X.K ms u)) : PE X e (canonL X.K ms u) := PE.imp h fun σ H Q ⟨g, ρ, st, ds, st', R, hu, k⟩ =>
  ⟨g, ρ, st, ds, st', R, hu, fun p vs H' e s np hp r => k p vs H' e s (.inl (.inl hp)) (R.asEx (R.freshEx np)) (RpA.mono (hid_mono fun b o q z => ⟨fun w => q (.inl w), z⟩) r)⟩
/-! ### arguments -/
theorem hidO {K : PySem.W.Frag} {g : Gh} {σ : St} {H1 H2 : Hp} {ρ : En} {st : St4} {O : Addr → Prop} (e : Stp g H1 H2) (R : Rel K g ms σ H1 ρ st) (hO : ∀ a, O a → H1 a = none) : Same (hid H1 (Ex g ms σ)) (hid H2 fun b => Ex g ms σ b ∨ O b) :=
  hid_mono fun b o q z => by
    refine ⟨fun w => w.elim q fun w => ?_, e b o z (R.asEx q)⟩
    rw [hO b w] at z
    cases z
theorem ad_nil : PA X [] (canonA X.K ms [] aNil) := PA.imp pa_nil fun σ H Q ⟨g, ρ, st, ds, st', R, hu, k⟩ => by
  cases hu
  exact k [] H (fun _ => False) Stp.refl R.src (fun _ z => z.elim) .nil fun i j p h => by simp at h
theorem ad_cons {u : UE} {ua : UA} (ha : PE X e (canon X.K ms u)) (hr : PA X es (canonA X.K ms pm ua)) (hs : starEach (e :: es) X.env = (false, eval e X.env) :: starEach es X.env := by rfl) : PA X (e :: es) (canonA X.K ms (.fz :: pm) (aCons u ua)) :=
  PA.imp (pa_cons ha hr hs) fun σ H Q ⟨g, ρ, st, ds, st', R, hu, k⟩ => by
    unfold aCons at hu
    obtain ⟨⟨dx, st1⟩, h1, hu⟩ := Option.bind_eq_some_iff.mp hu
    obtain ⟨⟨dr, st2⟩, h2, hu⟩ := Option.map_eq_some_iff.mp hu
    cases hu
    refine ⟨g, ρ, st, dx, st1, R, h1, fun x H1 e1 s1 rx => ?_⟩
    have R1 := R.step e1 s1
    refine ⟨g, ρ, st1, dr, _, R1, h2, fun vs H2 O e2 s2 hO ra nd => k (x :: vs) H2 O (e1.trans e2) s2 (fun a q => ⟨R.freshBack e1 s1 (hO a q).1, (hO a q).2⟩) (.cons ?_ ra) ?_⟩
    · exact Rp.mono (hidO e2 R1 fun a q => (hO a q).1) rx
    · intro i j p hi hj vi vj
      cases i with
      | zero => cases hi
      | succ i =>
        cases j with
        | zero => cases hj
        | succ j => exact congrArg Nat.succ (nd i j p (by simpa using hi) (by simpa using hj) (by simpa using vi) (by simpa using vj))
theorem ad_consL {u : UL} {ua : UA} (ha : PE X e (canonL X.K ms u)) (hr : PA X es (canonA X.K ms pm ua)) (hs : starEach (e :: es) X.env = (false, eval e X.env) :: starEach es X.env := by rfl) : PA X (e :: es) (canonA X.K ms (.sh :: pm) (aConsL u ua)) :=
  PA.imp (pa_cons ha hr hs) fun σ H Q ⟨g, ρ, st, ds, st', R, hu, k⟩ => by
    unfold aConsL at hu
    obtain ⟨⟨dx, st1⟩, h1, hu⟩ := Option.bind_eq_some_iff.mp hu
    obtain ⟨⟨dr, st2⟩, h2, hu⟩ := Option.map_eq_some_iff.mp hu
    cases hu
    refine ⟨g, ρ, st, dx, st1, R, h1, fun p vs H1 e1 s1 hp np rx => ?_⟩
    have R1 := R.step e1 s1
    refine ⟨g, ρ, st1, dr, _, R1, h2, fun ws H2 O e2 s2 hO ra nd => k (.ref p :: ws) H2 O (e1.trans e2) s2 (fun a q => ⟨R.freshBack e1 s1 (hO a q).1, (hO a q).2⟩) (.cons ?_ ra) ?_⟩
    · exact ⟨p, vs, dx, rfl, rfl, SqL.stp e2 (fun a q => (hO a q).1) np hp, np, RpA.mono (hidO e2 R1 fun a q => (hO a q).1) rx⟩
    · intro i j p hi hj vi vj
      cases i with
      | zero => cases hi
      | succ i =>
        cases j with
        | zero => cases hj
        | succ j => exact congrArg Nat.succ (nd i j p (by simpa using hi) (by simpa using hj) (by simpa using vi) (by simpa using vj))
/-- the drawing list -/
theorem ad_consS (i : Nat) {x : Str} {pos : Pos} {ua : UA} (hr : PA X es (canonA X.K ms pm ua)) (hm : ms[i]? = some .sr := by rfl) (hN : X.N[i]? = some x := by rfl)
    (hv : Vis X.env.scope x := by first | exact Or.inl rfl | exact Or.inr (Or.inl rfl) | exact Or.inr (Or.inr rfl)) (hd : (x == ("__debug__" : Str)) = false := by decide) (hcd : (x == ("__classdict__" : Str)) = false := by decide)
    (hs : starEach (.Name x pos :: es) X.env = (false, eval (.Name x pos) X.env) :: starEach es X.env := by rfl) : PA X (.Name x pos :: es) (canonA X.K ms (.sr :: pm) (aSrc i ua)) :=
  PA.imp (pa_cons (pe_var hN hv hd hcd) hr hs) fun σ H Q ⟨g, ρ, st, ds, st', R, hu, k⟩ => by
    unfold aSrc at hu
    cases e : gv ρ i with
    | none => rw [e] at hu; cases hu
    | some d' =>
      rw [e] at hu
      obtain ⟨⟨dr, st2⟩, h2, hu⟩ := Option.map_eq_some_iff.mp (show (ua ρ st).map (fun y => (D.src :: y.1, y.2)) = some (ds, st') from hu)
      cases hu
      obtain ⟨v, hv, a, ha, rfl⟩ := R.slot i .sr d' hm (gv_some e)
      refine ⟨.ref a, hv, ?_⟩
      refine ⟨g, ρ, st, dr, _, R, h2, fun ws H2 O e2 s2 hO ra nd => k (.ref a :: ws) H2 O e2 s2 hO (.cons ⟨a, ha, rfl⟩ ra) ?_⟩
      intro i j p hi hj vi vj
      cases i with
      | zero => cases hi
      | succ i =>
        cases j with
        | zero => cases hj
        | succ j => exact congrArg Nat.succ (nd i j p (by simpa using hi) (by simpa using hj) (by simpa using vi) (by simpa using vj))
/-- a new list handed over, the last argument -/
theorem ad_lastN {u : UL} (ha : PE X e (canonN X.K ms u)) (hs : starEach [e] X.env = (false, eval e X.env) :: starEach [] X.env := by rfl) : PA X [e] (canonA X.K ms [.own] (aConsL u aNil)) :=
  PA.imp (pa_cons ha pa_nil hs) fun σ H Q ⟨g, ρ, st, ds, st', R, hu, k⟩ => by
    unfold aConsL aNil at hu
    obtain ⟨⟨dx, st1⟩, h1, hu⟩ := Option.bind_eq_some_iff.mp hu
    cases hu
    refine ⟨g, ρ, st, dx, _, R, h1, fun p vs H1 e1 s1 np hp rx => ?_⟩
    refine k [.ref p] H1 (fun b => b = p) e1 s1 (fun a q => by
      cases q
      exact ⟨np, by rw [hp]; exact fun z => by cases z⟩) (.cons ⟨p, vs, dx, rfl, rfl, hp, rfl, rx⟩ .nil) ?_
    intro i j q hi hj vi vj
    cases i with
    | zero =>
      cases j with
      | zero => rfl
      | succ j => simp at hj
    | succ i => simp at hi

/-! ### calls of the text's own defs -/
variable {CX : CXT} {k : Nat} {f : Addr} {fd : FuncData} {ps : List Str} {rk : RK} {us : List D → St4 → Option (D × St4)} {dv : List D} {dvs : List V} {dss : List Value} {ua : UA}
/-- from the caller's arguments to the callee's -/
theorem call_args {K : PySem.W.Frag} {g : Gh} {σ : St} {H : Hp} {ρ : En} {st : St4} {vs : List V} {ds : List D} {O : Addr → Prop} (R : Rel K g ms σ H ρ st) (hO : ∀ a, O a → ¬ Ex g ms σ a) (h : Args3 (ArgC K g ms σ H O) pm vs ds) :
    Args3 (ArgOk K ⟨g.as, Ex g ms σ, hid H O⟩ H) pm vs ds := h.imp fun m v d q => by
  have sm : Same (hid H fun b => Ex g ms σ b ∨ O b) (hid (hid H O) (Ex g ms σ)) := fun b o z => by
    obtain ⟨z1, z2⟩ := hid_some z
    exact hid_of (fun w => z1 (.inl w)) (hid_of (fun w => z1 (.inr w)) z2)
  cases m with
  | fz => exact Rp.mono sm q
  | sh =>
    obtain ⟨p, vs, ds, h1, h2, h3, h4, h5⟩ := q
    exact ⟨p, vs, ds, h1, h2, h3, h4, RpA.mono sm h5⟩
  | own =>
    obtain ⟨p, vs, ds, h1, h2, h3, h4, h5⟩ := q
    refine ⟨p, vs, ds, h1, h2, ?_, h3, RpA.mono sm h5⟩
    show hid H O p = none
    unfold hid
    exact if_pos h4
  | sr => exact q
  | me _ => exact q
theorem Args3.append {P : Mo → V → D → Prop} : ∀ {ms ms' : List Mo} {vs vs' : List V} {ds ds' : List D}, Args3 P ms vs ds → Args3 P ms' vs' ds' → Args3 P (ms ++ ms') (vs ++ vs') (ds ++ ds')
  | _, _, _, _, _, _, .nil, s => s
  | _, _, _, _, _, _, .cons h r, s => .cons h (Args3.append r s)
/-- written defaults: data without places -/
inductive Plain : List V → List D → Prop
  | nil : Plain [] []
  | cons {v : V} {d : D} {vs : List V} {ds : List D} (h : ∀ K H, Rp K H v d) (r : Plain vs ds) : Plain (v :: vs) (d :: ds)
theorem Plain.args {K : PySem.W.Frag} {g : Gh} {H : Hp} : ∀ {vs : List V} {ds : List D}, Plain vs ds → Args3 (ArgOk K g H) (vs.map fun _ => Mo.fz) vs ds
  | _, _, .nil => .nil
  | _, _, .cons h r => .cons (h _ _) (Plain.args r)
theorem Plain.len : ∀ {vs : List V} {ds : List D}, Plain vs ds → vs.length = ds.length
  | _, _, .nil => rfl
  | _, _, .cons _ r => congrArg Nat.succ r.len
/-- what the caller gets of a call's end -/
theorem call_end {K : PySem.W.Frag} {g : Gh} {σ : St} {H H' : Hp} {ρ : En} {st : St4} {O : Addr → Prop} (R : Rel K g ms σ H ρ st) (hO : ∀ a, O a → ¬ Ex g ms σ a) (bk : Bk ⟨g.as, Ex g ms σ, hid H O⟩ H') : ∀ b o, H b = some o → ¬ O b → g.as ≠ some b → H' b = some o :=
  fun b o h q n => bk b o (hid_of q h) n
theorem tcall_core {K : PySem.W.Frag} {E : XK} (pl : Plain dvs dv) {σ : St} {H : Hp} {Q : VK} (c : ∃ g ρ st d st', Rel K g ms σ H ρ st ∧ uCall us dv ua ρ st = some (d, st') ∧
      ∀ v H' H1 (O : Addr → Prop), Stp g H H1 → (∀ a, H1 a = none → H a = none) → (∀ a, O a → H a = none) → (∀ b o, H1 b = some o → ¬ O b → g.as ≠ some b → H' b = some o) → Src g.as H' st' → RetOk K rk ⟨g.as, Ex g ms σ, hid H1 O⟩ H' v d → Q v H') :
    tCall (spD K (pm ++ dvs.map fun _ => Mo.fz) rk us) dvs E (canonA K ms pm ua) σ H Q := by
  obtain ⟨g, ρ, st, d, st', R, hu, k⟩ := c
  unfold uCall at hu
  obtain ⟨⟨ds, st1⟩, h1, hu⟩ := Option.bind_eq_some_iff.mp hu
  refine ⟨g, ρ, st, ds, st1, R, h1, fun vs H1 O e1 s1 hO ra nd => ?_⟩
  have R1 := R.step e1 s1
  have hE : ∀ a, O a → ¬ Ex g ms σ a := fun a q => R.freshEx (hO a q).1
  refine ⟨⟨g.as, Ex g ms σ, hid H1 O⟩, ds ++ dv, st1, d, st', ⟨fun a q => .inl (R.gok.asF a q), fun a q z => ?_⟩, hid_same, s1, (call_args R1 hE ra).append pl.args, ?_, hu, fun v H' bk s' ro => k v H' H1 O e1 (fun a q => R.freshBack e1 s1 q) (fun a q => (hO a q).1) (call_end R1 hE bk) s' ro⟩
  · have z2 : hid H1 O a = none := z
    cases e : H1 a with
    | none => exact R1.live q e
    | some o =>
      rw [hid_of (fun w => hE a w q) e] at z2
      cases z2
  · intro i j p hi hj vi vj
    have lv : vs.length = pm.length := ra.len.1
    have low : ∀ {i : Nat}, (pm ++ dvs.map fun _ => Mo.fz)[i]? = some .own → i < pm.length := fun {i} h => by
      by_cases q : i < pm.length
      · exact q
      · rw [List.getElem?_append_right (by omega), List.getElem?_map] at h
        cases e : dvs[i - pm.length]? with
        | none => rw [e] at h; cases h
        | some z => rw [e] at h; cases h
    have li := low hi
    have lj := low hj
    rw [List.getElem?_append_left li] at hi
    rw [List.getElem?_append_left lj] at hj
    rw [List.getElem?_append_left (by omega)] at vi vj
    exact nd i j p hi hj vi vj
theorem tcall_canon {K : PySem.W.Frag} {E : XK} (pl : Plain dvs dv) {σ : St} {H : Hp} {Q : VK} (c : canon K ms (uCall us dv ua) σ H Q) : tCall (spD K (pm ++ dvs.map fun _ => Mo.fz) .fz us) dvs E (canonA K ms pm ua) σ H Q := by
  obtain ⟨g, ρ, st, d, st', R, hu, k⟩ := c
  refine tcall_core pl ⟨g, ρ, st, d, st', R, hu, fun v H' H1 O e1 fb hO e2 s' ro => k v H' (fun b o h n => e2 b o (e1 b o h n) (fun z => ?_) n) s' ro⟩
  rw [hO b z] at h
  cases h
theorem tcall_canonN {K : PySem.W.Frag} {E : XK} (pl : Plain dvs dv) {σ : St} {H : Hp} {Q : VK} (c : canonN K ms (uCallL us dv ua) σ H Q) : tCall (spD K (pm ++ dvs.map fun _ => Mo.fz) .nw us) dvs E (canonA K ms pm ua) σ H Q := by
  obtain ⟨g, ρ, st, ds, st', R, hu, k⟩ := c
  unfold uCallL uLOf at hu
  cases e : uCall us dv ua ρ st with
  | none => rw [e] at hu; cases hu
  | some z =>
    obtain ⟨d, st1⟩ := z
    rw [e] at hu
    cases d with
    | lst ds' =>
      cases hu
      refine tcall_core (rk := .nw) pl ⟨g, ρ, st, .lst ds, _, R, e, fun v H' H1 O e1 fb hO e2 s' ro => ?_⟩
      obtain ⟨p, vs, ds2, rfl, h2, h3, h4, h5⟩ := ro
      cases h2
      have h6 : hid H1 O p = none := h3
      have np : H p = none := by
        by_cases q : O p
        · exact hO p q
        · cases q1 : H1 p with
          | none => exact fb p q1
          | some o1 =>
            rw [hid_of q q1] at h6
            cases h6
      exact k p vs H' (fun b o h n => e2 b o (e1 b o h n) (fun z => by rw [hO b z] at h; cases h) n) s' np h4 h5
    | _ => cases hu
end
end Fw
set_option Elab.async false
set_option linter.all false
set_option maxRecDepth 100000
set_option maxHeartbeats 4000000
/-! Fw3: displays, fields, methods, makes, subscripts, slices, built-ins, comprehensions. -/
namespace Fw
open PySem PySem.Spec L2

section
variable {K : PySem.W.Frag} {g : Gh} {ms pm : List Mo} {σ : St} {H H1 H' : Hp} {ρ : En} {st st' : St4}
theorem new_same {A : Addr → Prop} {p : Addr} {o : HO} (h : H p = none) : Same (hid H A) (hid (upd H p o) fun b => A b ∨ b = p) := hid_mono fun b o' q z => by
  have n : b ≠ p := fun e => by
    rw [e, h] at z
    cases z
  exact ⟨fun w => w.elim q n, by rw [upd_ne n]; exact z⟩
theorem new_same' {A : Addr → Prop} {p : Addr} {o : HO} (h : H p = none) : Same (hid H A) (hid (upd H p o) A) := hid_mono fun b o' q z => by
  have n : b ≠ p := fun e => by
    rw [e, h] at z
    cases z
  exact ⟨q, by rw [upd_ne n]; exact z⟩
theorem new_stp {p : Addr} {o : HO} (h : H p = none) : Stp g H (upd H p o) := fun b o' z _ => by
  rw [upd_ne (ne_of_none z h)]
  exact z
theorem new_all {p : Addr} {o : HO} (h : H p = none) : Same H (upd H p o) := fun b o' z => by
  rw [upd_ne (ne_of_none z h)]
  exact z
theorem Rel.newSrc (R : Rel K g ms σ H ρ st) {p : Addr} {o : HO} (h : H p = none) : Src g.as (upd H p o) st := fun a q => by
  have n : a ≠ p := fun e => by
    have := R.src a q
    rw [e, h] at this
    cases this
  rw [upd_ne n]
  exact R.src a q
def AllFz (pm : List Mo) : Prop := ∀ m ∈ pm, m = .fz
instance (pm : List Mo) : Decidable (AllFz pm) := inferInstanceAs (Decidable (∀ m ∈ pm, m = .fz))
theorem args_fz {O : Addr → Prop} : ∀ {pm : List Mo} {vs : List V} {ds : List D}, Args3 (ArgC K g ms σ H O) pm vs ds → AllFz pm → RpA K (hid H (Ex g ms σ)) vs ds
  | _, _, _, .nil, _ => .nil
  | m :: _, _, _, .cons h r, a => by
    have e : m = .fz := a m List.mem_cons_self
    subst e
    exact .cons (Rp.mono (hid_mono fun b o q z => ⟨fun w => q (.inl w), z⟩) h) (args_fz r fun m hm => a m (List.mem_cons_of_mem _ hm))
theorem args_noown {O : Addr → Prop} {H0 : Hp} : ∀ {pm : List Mo} {vs : List V} {ds : List D}, Args3 (ArgC K g ms σ H O) pm vs ds → Mo.own ∉ pm → Args3 (ArgOk K ⟨g.as, Ex g ms σ, H⟩ H0) pm vs ds
  | _, _, _, .nil, _ => .nil
  | m :: _, _, _, .cons q r, hf => by
    refine .cons ?_ (args_noown r fun z => hf (List.mem_cons_of_mem _ z))
    have sm : Same (hid H fun b => Ex g ms σ b ∨ O b) (hid H (Ex g ms σ)) := hid_mono fun b o q z => ⟨fun w => q (.inl w), z⟩
    cases m with
    | fz => exact Rp.mono sm q
    | sh =>
      obtain ⟨p, vs, ds, a1, a2, a3, a4, a5⟩ := q
      refine ⟨p, vs, ds, a1, a2, ?_, a4, RpA.mono sm a5⟩
      rcases a3 with (h | ⟨o, h⟩) | h
      · exact .inl (.inl (hid_some h).2)
      · exact .inl (.inr ⟨o, (hid_some h).2⟩)
      · exact .inr h
    | own => exact absurd List.mem_cons_self hf
    | sr => exact q
    | me _ => exact q
theorem sz1000 {n : Nat} (h : n ≤ 1000) : n ≤ sizeLine := Nat.le_trans h (by decide)
theorem sz5 {n : Nat} (h : n ≤ 100000) : n ≤ sizeLine := Nat.le_trans h (by decide)
end

section
variable {X : Cx} {ms pm : List Mo} {e : Expr} {es : List Expr} {u : UE} {ua : UA} {pos : Pos}
/-! ### displays -/
theorem pd_tup {x1} (ha : PA X es (canonA X.K ms pm ua)) (hf : AllFz pm) : PE X (.Tuple es x1 pos) (canon X.K ms (uTup ua)) := PE.imp (pe_tup ha) fun σ H Q ⟨g, ρ, st, d, st', R, hu, k⟩ => by
  unfold uTup at hu
  obtain ⟨⟨ds, st1⟩, h1, hu⟩ := Option.bind_eq_some_iff.mp hu
  by_cases hl : ds.length ≤ 1000
  · rw [if_pos (show (ds, st1).1.length ≤ 1000 from hl)] at hu
    cases hu
    refine ⟨g, ρ, st, ds, _, R, h1, fun vs H1 O e1 s1 hO ra nd => ⟨by rw [ra.len.1, ← ra.len.2]; exact sz1000 hl, fun p np => ?_⟩⟩
    have R1 := R.step e1 s1
    exact k _ _ (e1.trans (new_stp np)) (R1.newSrc np) (.tup (.inl (.inl (hid_of (R1.freshEx np) upd_same))) (RpA.mono (new_same' np) (args_fz ra hf)))
  · rw [if_neg (show ¬ (ds, st1).1.length ≤ 1000 from hl)] at hu
    cases hu
theorem pn_lst (ha : PA X es (canonA X.K ms pm ua)) (hf : AllFz pm) : PE X (.List es pos) (canonN X.K ms (uLst ua)) := PE.imp (pe_lst ha) fun σ H Q ⟨g, ρ, st, d, st', R, hu, k⟩ => by
  unfold uLst at hu
  obtain ⟨⟨ds, st1⟩, h1, hu⟩ := Option.bind_eq_some_iff.mp hu
  by_cases hl : ds.length ≤ 1000
  · rw [if_pos (show (ds, st1).1.length ≤ 1000 from hl)] at hu
    cases hu
    refine ⟨g, ρ, st, _, _, R, h1, fun vs H1 O e1 s1 hO ra nd => ⟨by rw [ra.len.1, ← ra.len.2]; exact sz1000 hl, fun p np => ?_⟩⟩
    have R1 := R.step e1 s1
    exact k _ vs _ (e1.trans (new_stp np)) (R1.newSrc np) (R.freshBack e1 s1 np) upd_same (RpA.mono (new_same np) (args_fz ra hf))
  · rw [if_neg (show ¬ (ds, st1).1.length ≤ 1000 from hl)] at hu
    cases hu

/-! ### fields, methods, makes -/
def dFld (c f : Str) : D → Option D
  | .ins c' fs => if c' = c then fs.lookup f else none
  | _ => none
theorem pd_fld {c f : Str} (he : PE X e (canon X.K ms u)) (hc : Cls X.K (He.ga X.K c)) (hn : NoAttr X.K (He.ga X.K c) f) (hb : attributeBase e f X.env (eval e X.env) = eval e X.env := by rfl) : PE X (.Attribute e f pos) (canon X.K ms (uUn (dFld c f) u)) :=
  PE.imp (pe_fld he hb) fun σ H Q ⟨g, ρ, st, d, st', R, hu, k⟩ => by
    unfold uUn at hu
    obtain ⟨⟨dx, st1⟩, h1, hu⟩ := Option.bind_eq_some_iff.mp hu
    obtain ⟨dz, h2, hu⟩ := Option.map_eq_some_iff.mp hu
    cases hu
    refine ⟨g, ρ, st, dx, _, R, h1, fun x H1 e1 s1 rx => ?_⟩
    have h2 : dFld c f dx = some d := h2
    cases rx with
    | @ins a dx' c' vfs fs q r =>
      have h2 : (if c' = c then fs.lookup f else none) = some d := h2
      by_cases e : c' = c
      · subst e
        rw [if_pos rfl] at h2
        obtain ⟨v, l, rv⟩ := r.get h2
        exact ⟨_, _, dx', vfs, v, rfl, (hid_some q).2, hc, hn, l, k v H1 e1 s1 rv⟩
      · rw [if_neg e] at h2
        cases h2
    | _ => cases h2
variable {CX : CXT} {k : Nat} {f : Addr} {fd : FuncData} {ps : List Str} {rk : RK} {us : List D → St4 → Option (D × St4)} {dv : List D} {dvs : List V} {dss : List Value}
theorem pd_call {x : Str} {p : Pos} (F : FnOk X.prog X.w X.K X.mg X.base CX k f fd ps (spD X.K (pm ++ dvs.map fun _ => Mo.fz) .fz us)) (hr : Room k X.A) (hm : X.mg x = some (.ref f)) (hk : PySem.W.keepIn X.K (.ref f) = true) (hb : Binds X.K fd ps dss) (pl : Plain dvs dv) (hd : Vals dvs dss) (hx : Passes CX X E0)
    (ha : PA X (e :: es) (canonA X.K ms pm ua)) (hg : Gl X x := by rfl) (hdb : (x == ("__debug__" : Str)) = false := by decide) (he : starEach (e :: es) X.env = (false, eval e X.env) :: starEach es X.env := by rfl) (hpl : (backTo pos (starEach es X.env)).any (·.1) = false := by rfl) :
    PE X (.Call (.Name x p) (e :: es) [] pos) (canon X.K ms (uCall us dv ua)) := PE.imp (pe_call F hr hg hm hk hb hd hx ha hdb he hpl) fun _ _ _ c => tcall_canon pl c
theorem pn_call {x : Str} {p : Pos} (F : FnOk X.prog X.w X.K X.mg X.base CX k f fd ps (spD X.K (pm ++ dvs.map fun _ => Mo.fz) .nw us)) (hr : Room k X.A) (hm : X.mg x = some (.ref f)) (hk : PySem.W.keepIn X.K (.ref f) = true) (hb : Binds X.K fd ps dss) (pl : Plain dvs dv) (hd : Vals dvs dss) (hx : Passes CX X E0)
    (ha : PA X (e :: es) (canonA X.K ms pm ua)) (hg : Gl X x := by rfl) (hdb : (x == ("__debug__" : Str)) = false := by decide) (he : starEach (e :: es) X.env = (false, eval e X.env) :: starEach es X.env := by rfl) (hpl : (backTo pos (starEach es X.env)).any (·.1) = false := by rfl) :
    PE X (.Call (.Name x p) (e :: es) [] pos) (canonN X.K ms (uCallL us dv ua)) := PE.imp (pe_call F hr hg hm hk hb hd hx ha hdb he hpl) fun _ _ _ c => tcall_canonN pl c
/-- o.m(..) -/
def uMeth (c m : Str) (us : List D → St4 → Option (D × St4)) (a : UE) (ua : UA) : UE := fun ρ st => (a ρ st).bind fun x => match x.1 with
  | .ins c' fs => if c' = c ∧ fs.lookup m = none then (ua ρ x.2).bind fun y => us (x.1 :: y.1) y.2 else none
  | _ => none
theorem tmeth_canon {K : PySem.W.Frag} {c m : Str} {a : UE} {E : XK} {σ : St} {H : Hp} {Q : VK} {t : TA} (hf : Mo.own ∉ pm) (ht : ∀ σ H Q, canonA K ms pm ua σ H Q → t σ H Q) (cc : canon K ms (uMeth c m us a ua) σ H Q) :
    tMeth (He.ga K c) m (spD K (.fz :: pm) .fz us) [] E (canon K ms a) t σ H Q := by
  obtain ⟨g, ρ, st, d, st', R, hu, k⟩ := cc
  unfold uMeth at hu
  obtain ⟨⟨dx, st1⟩, h1, hu⟩ := Option.bind_eq_some_iff.mp hu
  refine ⟨g, ρ, st, dx, st1, R, h1, fun x H1 e1 s1 rx => ?_⟩
  have R1 := R.step e1 s1
  cases rx with
  | @ins a' dx' c' vfs fs q r =>
    have h9 : (if c' = c ∧ fs.lookup m = none then (ua ρ st1).bind fun y => us (.ins c' fs :: y.1) y.2 else none) = some (d, st') := hu
    clear hu
    by_cases e : c' = c ∧ fs.lookup m = none
    · rw [if_pos e] at h9
      obtain ⟨rfl, lm⟩ := e
      obtain ⟨⟨ds, st2⟩, h2, hu⟩ := Option.bind_eq_some_iff.mp h9
      refine ⟨_, dx', vfs, rfl, (hid_some q).2, r.none lm, ht _ _ _ ⟨g, ρ, st1, ds, st2, R1, h2, fun vs H2 O e2 s2 hO ra nd => ?_⟩⟩
      have R2 := R1.step e2 s2
      refine ⟨⟨g.as, Ex g ms σ, H2⟩, .ins c' fs :: ds, st2, d, st', ⟨fun b q => .inl (R.gok.asF b q), fun b q z => R2.live q z⟩, fun b o z => z, s2, ?_, ?_, hu, fun v H' bk s' ro => k v H' (fun b o z n => bk b o (e2 b o (e1 b o z n) n) n) s' ro⟩
      · refine .cons (Rp.mono (R1.sm e2) (.ins q r)) ?_
        rw [List.append_nil]
        exact args_noown ra hf
      · intro i j p hi hj vi vj
        cases i with
        | zero => cases hi
        | succ i =>
          have z : pm[i]? = some .own := by simpa using hi
          exact absurd (List.mem_of_getElem? z) hf
    · rw [if_neg e] at h9
      cases h9
  | _ =>
    have hu : (none : Option (D × St4)) = some (d, st') := hu
    cases hu
theorem pd_meth {pl : Sem Bool} {c m : Str} {o : Expr} {apos : Pos} (ho : PE X o (canon X.K ms u)) (cl : Cls X.K (He.ga X.K c)) (hm : Meth X.K (He.ga X.K c) m f) (F : FnOk X.prog X.w X.K X.mg X.base CX k f fd ps (spD X.K (.fz :: pm) .fz us)) (hr : Room k X.A) (hb : Binds X.K fd ps []) (hx : Passes CX X E0)
    (ha : PA X (e :: es) (canonA X.K ms pm ua)) (hf : Mo.own ∉ pm)
    (hst : starEach (e :: es) X.env = (false, eval e X.env) :: starEach es X.env := by rfl) (hpl : (backTo pos (starEach es X.env)).any (·.1) = false := by rfl)
    (ht : eval (.Call (.Attribute o m apos) (e :: es) [] pos) X.env = (do
      let ov ← eval o X.env
      standAt apos.atName
      let (f, first) ← holding [ov] (getMethod ov m pl)
      callWith pos f first (backTo pos (starEach (e :: es) X.env)) (backToKw pos (keywordEach [] X.env))) := by rfl) :
    PE X (.Call (.Attribute o m apos) (e :: es) [] pos) (canon X.K ms (uMeth c m us u ua)) := PE.imp (pe_meth ho cl hm F hr hb .nil hx ha hst hpl ht) fun _ _ _ cc => tmeth_canon hf (fun _ _ _ z => z) cc
theorem pd_meth0 {pl : Sem Bool} {c m : Str} {o : Expr} {apos : Pos} (ho : PE X o (canon X.K ms u)) (cl : Cls X.K (He.ga X.K c)) (hm : Meth X.K (He.ga X.K c) m f) (F : FnOk X.prog X.w X.K X.mg X.base CX k f fd ps (spD X.K [.fz] .fz us)) (hr : Room k X.A) (hb : Binds X.K fd ps []) (hx : Passes CX X E0)
    (ht : eval (.Call (.Attribute o m apos) [] [] pos) X.env = (do
      let ov ← eval o X.env
      standAt apos.atName
      let (f, first) ← holding [ov] (getMethod ov m pl)
      callWith pos f first (backTo pos (starEach [] X.env)) (backToKw pos (keywordEach [] X.env))) := by rfl) :
    PE X (.Call (.Attribute o m apos) [] [] pos) (canon X.K ms (uMeth c m us u aNil)) := PE.imp (pe_meth0 ho cl hm F hr hb .nil hx ht) fun σ H Q cc => tmeth_canon (pm := []) (by simp) (fun σ H Q ⟨g, ρ, st, ds, st', R, hu, k⟩ => by
  cases hu
  exact k [] H (fun _ => False) Stp.refl R.src (fun _ z => z.elim) .nil fun i j p h => by simp at h) cc
/-- C(..) -/
def spI (K : PySem.W.Frag) (c : Str) (pm : List Mo) (f : List D → St4 → Option (List (Str × D) × St4)) : Sp := fun vs H Q _ => ∃ g ds st fs st' x dx ws, vs = .ref x :: ws ∧ GhOk g ∧ (∀ b o, g.B b = some o → H b = some o) ∧ g.B x = none ∧ g.B dx = none ∧ H x = some (.ins (He.ga K c) dx []) ∧ H dx = some (.own x) ∧ dx ≠ x ∧
  Src g.as H st ∧ Args3 (ArgOk K g H) pm ws ds ∧ f ds st = some (fs, st') ∧ ∀ H' vfs, Bk g H' → Src g.as H' st' → H' x = some (.ins (He.ga K c) dx vfs) → RpF K (hid H' fun b => g.F b ∨ b = x) vfs fs → Q .non H'
def uMake (c : Str) (f : List D → St4 → Option (List (Str × D) × St4)) (dv : List D) (a : UA) : UE := fun ρ st => (a ρ st).bind fun x => (f (x.1 ++ dv) x.2).map fun y => (.ins c y.1, y.2)
theorem tmake_canon {K : PySem.W.Frag} {c : Str} {f : List D → St4 → Option (List (Str × D) × St4)} {E : XK} {σ : St} {H : Hp} {Q : VK} (pl : Plain dvs dv) (hf : Mo.own ∉ pm) (cc : canon K ms (uMake c f dv ua) σ H Q) :
    tMake (He.ga K c) (spI K c (pm ++ dvs.map fun _ => Mo.fz) f) dvs E (canonA K ms pm ua) σ H Q := by
  obtain ⟨g, ρ, st, d, st', R, hu, k⟩ := cc
  unfold uMake at hu
  obtain ⟨⟨ds, st1⟩, h1, hu⟩ := Option.bind_eq_some_iff.mp hu
  obtain ⟨⟨fs, st2⟩, h2, hu⟩ := Option.map_eq_some_iff.mp hu
  cases hu
  refine ⟨g, ρ, st, ds, st1, R, h1, fun vs H1 O e1 s1 hO ra nd x dx nx ndx nex => ?_⟩
  have R1 := R.step e1 s1
  have s0 : Same H1 (upd (upd H1 dx (.own x)) x (.ins (He.ga K c) dx [])) := fun b o e => by
    rw [upd_ne (ne_of_none e nx), upd_ne (ne_of_none e ndx)]
    exact e
  have hE : ∀ a, O a → ¬ Ex g ms σ a := fun a q => R.freshEx (hO a q).1
  have ra1 := args_noown (H0 := upd (upd H1 dx (.own x)) x (.ins (He.ga K c) dx [])) ra hf
  refine ⟨⟨g.as, Ex g ms σ, H1⟩, ds ++ dv, st1, fs, _, x, dx, vs ++ dvs, rfl, ⟨fun b q => .inl (R.gok.asF b q), fun b q z => R1.live q z⟩, s0, nx, ndx, upd_same, by rw [upd_ne nex]; exact upd_same, nex, s1.of_same s0, ra1.append pl.args, h2, fun H' vfs bk s' hx rf => ⟨rfl, ?_⟩⟩
  refine k _ H' (fun b o z n => bk b o (e1 b o z n) n) s' (.ins (hid_of (R1.freshEx nx) hx) (RpF.mono (hid_mono fun b o q z => ⟨fun w => q (.inl w), z⟩) rf))
theorem pd_make {x : Str} {p : Pos} {c : Str} {f0 : Addr} {fI : List D → St4 → Option (List (Str × D) × St4)} (M : Mk X.K (He.ga X.K c) f0) (F : FnOk X.prog X.w X.K X.mg X.base CX k f0 fd ps (spI X.K c (pm ++ dvs.map fun _ => Mo.fz) fI)) (hr : Room (k + 1) X.A)
    (hm : X.mg x = some (.ref (He.ga X.K c))) (hb : Binds X.K fd ps dss) (pl : Plain dvs dv) (hd : Vals dvs dss) (hx : Passes CX X E0)
    (ha : PA X (e :: es) (canonA X.K ms pm ua)) (hf : Mo.own ∉ pm) (hg : Gl X x := by rfl) (hdb : (x == ("__debug__" : Str)) = false := by decide) (he : starEach (e :: es) X.env = (false, eval e X.env) :: starEach es X.env := by rfl) (hpl : (backTo pos (starEach es X.env)).any (·.1) = false := by rfl) :
    PE X (.Call (.Name x p) (e :: es) [] pos) (canon X.K ms (uMake c fI dv ua)) := PE.imp (pe_make M F hr hg hm hb hd hx ha hdb he hpl) fun _ _ _ cc => tmake_canon pl hf cc
end

/-! ### subscripts -/
section
variable {K : PySem.W.Frag}
def dIx : D → D → Option D
  | .lst ds, .int i => atI ds i
  | .tup ds, .int i => atI ds i
  | .str z, .int i => if z.length ≤ 1000 then (atI z.cps.toList i).map fun c => .str ⟨#[c]⟩ else none
  | _, _ => none
theorem at_rel {H : Hp} {vs : List V} {ds : List D} {i : Int} {d : D} (r : RpA K H vs ds) (h : atI ds i = some d) : ∃ v, atI vs i = some v ∧ Rp K H v d := by
  unfold atI at h ⊢
  rw [r.length]
  cases e : ixN ds.length i with
  | none =>
    rw [e] at h
    cases h
  | some j =>
    rw [e] at h
    exact r.get h
theorem rop_ix : ROp K (rIx K) dIx := by
  intro A H x y dx dy dz live rx ry h Q k
  cases ry with
  | int i =>
    cases rx with
    | lst q r =>
      obtain ⟨v, hv, rv⟩ := at_rel r h
      exact .inl ⟨_, _, i, v, rfl, rfl, .inl (.inl (hid_some q).2), hv, k v H (fun _ _ z => z) rv⟩
    | tup q r =>
      obtain ⟨v, hv, rv⟩ := at_rel r h
      exact .inr (.inl ⟨_, _, i, v, rfl, rfl, Same.sqT hid_same q, hv, k v H (fun _ _ z => z) rv⟩)
    | str z =>
      have h : (if z.length ≤ 1000 then (atI z.cps.toList i).map fun c => D.str ⟨#[c]⟩ else none) = some dz := h
      by_cases hl : z.length ≤ 1000
      · rw [if_pos hl] at h
        obtain ⟨c, hc, rfl⟩ := Option.map_eq_some_iff.mp h
        exact .inr (.inr ⟨z, i, c, rfl, rfl, sz1000 hl, hc, k _ H (fun _ _ z => z) (.str _)⟩)
      · rw [if_neg hl] at h
        cases h
    | _ => cases h
  | _ => cases rx <;> cases h
end
section
variable {X : Cx} {ms pm : List Mo} {e : Expr} {es : List Expr} {u : UE} {ua : UA} {pos : Pos}
theorem pd_ix {a b : Expr} {ua ub : UE} (ha : PE X a (canon X.K ms ua)) (hb : PE X b (canon X.K ms ub)) (hs : PlainIx b := by exact fun _ _ => rfl) : PE X (.Subscript a b pos) (canon X.K ms (uOp dIx ua ub)) := PE.imp (pe_ix ix_seq ha hb hs) fun _ _ _ c => canon_op rop_ix c
def uIxL (a : UL) (b : UE) : UE := fun ρ st => (a ρ st).bind fun x => (b ρ x.2).bind fun y => match y.1 with
  | .int i => (atI x.1 i).map fun z => (z, y.2)
  | _ => none
theorem sqL_stp {K : PySem.W.Frag} {g : Gh} {H H' : Hp} {p : Addr} {vs : List V} (e : Stp g H H') (n : g.as ≠ some p) (h : SqL K H p vs) : SqL K H' p vs := by
  rcases h with (h | ⟨o, h⟩) | h
  · exact .inl (.inl (e _ _ h n))
  · exact .inl (.inr ⟨o, e _ _ h n⟩)
  · exact .inr h
theorem pd_ixL {a b : Expr} {ua : UL} {ub : UE} (ha : PE X a (canonL X.K ms ua)) (hb : PE X b (canon X.K ms ub)) (hs : PlainIx b := by exact fun _ _ => rfl) : PE X (.Subscript a b pos) (canon X.K ms (uIxL ua ub)) :=
  PE.imp (pe_ix ix_list ha hb hs) fun σ H Q ⟨g, ρ, st, d, st', R, hu, k⟩ => by
    unfold uIxL at hu
    obtain ⟨⟨ds, st1⟩, h1, hu⟩ := Option.bind_eq_some_iff.mp hu
    obtain ⟨⟨dy, st2⟩, h2, hu⟩ := Option.bind_eq_some_iff.mp hu
    refine ⟨g, ρ, st, ds, st1, R, h1, fun p vs H1 e1 s1 hp np r => ?_⟩
    have R1 := R.step e1 s1
    refine ⟨g, ρ, st1, dy, st2, R1, h2, fun y H2 e2 s2 ry => ?_⟩
    cases ry with
    | int i =>
      obtain ⟨dz, h3, hu⟩ := Option.map_eq_some_iff.mp (show (atI ds i).map (fun z => (z, st2)) = some (d, st') from hu)
      cases hu
      obtain ⟨v, hv, rv⟩ := at_rel r h3
      exact ⟨p, vs, i, v, rfl, rfl, sqL_stp e2 np hp, hv, k v H2 (e1.trans e2) s2 (Rp.mono (R1.sm e2) rv)⟩
    | _ =>
      have hu : (none : Option (D × St4)) = some (d, st') := hu
      cases hu

/-! ### slices -/
def uPart : Option UE → En → St4 → Option (Option Int × St4)
  | none => fun _ st => some (none, st)
  | some u => fun ρ st => (u ρ st).bind fun x => match x.1 with
    | .int i => some (some i, x.2)
    | _ => none
def canonO (K : PySem.W.Frag) (ms : List Mo) (u : En → St4 → Option (Option Int × St4)) : TO := fun σ H Q => ∃ g ρ st b st', Rel K g ms σ H ρ st ∧ u ρ st = some (b, st') ∧ ∀ H', Stp g H H' → Src g.as H' st' → Q b H'
theorem PO.imp {e : Option Expr} {t t' : TO} (h : PO X e t) (k : ∀ σ H Q, t' σ H Q → t σ H Q) : PO X e t' := ⟨fun pins s σ H Q I q => h.run pins s σ H Q I (k σ H Q q)⟩
theorem pp_none : PO X none (canonO X.K ms (uPart none)) := PO.imp po_none fun σ H Q ⟨g, ρ, st, b, st', R, hu, k⟩ => by
  cases hu
  exact k H Stp.refl R.src
theorem pp_some (h : PE X e (canon X.K ms u)) : PO X (some e) (canonO X.K ms (uPart (some u))) := PO.imp (po_some h) fun σ H Q ⟨g, ρ, st, b, st', R, hu, k⟩ => by
  unfold uPart at hu
  obtain ⟨⟨dx, st1⟩, h1, hu⟩ := Option.bind_eq_some_iff.mp hu
  refine ⟨g, ρ, st, dx, st1, R, h1, fun x H1 e1 s1 rx => ?_⟩
  cases rx with
  | int i =>
    have hu : some (some i, st1) = some (b, st') := hu
    cases hu
    exact ⟨i, rfl, k H1 e1 s1⟩
  | _ =>
    have hu : (none : Option (Option Int × St4)) = some (b, st') := hu
    cases hu
def cutD (xs : List D) (lo hi : Option Int) : List D := (xs.drop (HT.sIx xs.length 0 lo)).take (HT.sIx xs.length xs.length hi - HT.sIx xs.length 0 lo)
def dSl (x : D) (lo hi : Option Int) : Option D := match x with
  | .lst ds => some (.lst (cutD ds lo hi))
  | .tup ds => some (.tup (cutD ds lo hi))
  | .str z => if z.length ≤ 1000 then some (.str (cutS z lo hi)) else none
  | _ => none
def uSl (a : UE) (lo hi : Option UE) : UE := fun ρ st => (a ρ st).bind fun x => (uPart lo ρ x.2).bind fun l => (uPart hi ρ l.2).bind fun h => (dSl x.1 l.1 h.1).map fun z => (z, h.2)
def uSlL (a : UL) (lo hi : Option UE) : UL := fun ρ st => (a ρ st).bind fun x => (uPart lo ρ x.2).bind fun l => (uPart hi ρ l.2).map fun h => (cutD x.1 l.1 h.1, h.2)
theorem cut_rel {K : PySem.W.Frag} {H : Hp} {vs : List V} {ds : List D} (r : RpA K H vs ds) (lo hi : Option Int) : RpA K H (cutV vs lo hi) (cutD ds lo hi) := by
  unfold cutV cutD
  rw [r.length]
  exact RpA.take _ (RpA.drop _ r)
theorem cut_whole {ds : List D} {lo hi : Option Int} (h : HT.sIx ds.length 0 lo = 0 ∧ HT.sIx ds.length ds.length hi = ds.length) : cutD ds lo hi = ds := by
  unfold cutD
  rw [h.1, h.2]
  simp
theorem pd_sl {a : Expr} {lo hi : Option Expr} {ua : UE} {ul uh : Option UE} {p2 : Pos} (ha : PE X a (canon X.K ms ua)) (hl : PO X lo (canonO X.K ms (uPart ul))) (hh : PO X hi (canonO X.K ms (uPart uh))) : PE X (.Subscript a (.Slice lo hi none p2) pos) (canon X.K ms (uSl ua ul uh)) :=
  PE.imp (pe_slice (SlR.or sl_list (SlR.or sl_tupA sl_str)) ha hl hh) fun σ H Q ⟨g, ρ, st, d, st', R, hu, k⟩ => by
    unfold uSl at hu
    obtain ⟨⟨dx, st1⟩, h1, hu⟩ := Option.bind_eq_some_iff.mp hu
    obtain ⟨⟨l, st2⟩, h2, hu⟩ := Option.bind_eq_some_iff.mp hu
    obtain ⟨⟨h, st3⟩, h3, hu⟩ := Option.bind_eq_some_iff.mp hu
    obtain ⟨dz, h4, hu⟩ := Option.map_eq_some_iff.mp hu
    cases hu
    refine ⟨g, ρ, st, dx, st1, R, h1, fun x H1 e1 s1 rx => ?_⟩
    have R1 := R.step e1 s1
    refine ⟨g, ρ, st1, l, st2, R1, h2, fun H2 e2 s2 => ?_⟩
    have R2 := R1.step e2 s2
    refine ⟨g, ρ, st2, h, st3, R2, h3, fun H3 e3 s3 => ?_⟩
    have R3 := R2.step e3 s3
    have rx3 := Rp.mono (R2.sm e3) (Rp.mono (R1.sm e2) rx)
    have st := (e1.trans e2).trans e3
    cases rx3 with
    | lst q r =>
      cases h4
      exact .inl ⟨_, _, rfl, .inl (.inl (hid_some q).2), fun p np => k _ _ (st.trans (new_stp np)) (R3.newSrc np) (.lst (hid_of (R3.freshEx np) upd_same) (RpA.mono (new_same' np) (cut_rel r l h)))⟩
    | @tup a vs ds q r =>
      cases h4
      refine .inr (.inl ⟨_, vs, rfl, Same.sqT hid_same q, fun w => ?_, fun w p np => k _ _ (st.trans (new_stp np)) (R3.newSrc np) (.tup (.inl (.inl (hid_of (R3.freshEx np) upd_same))) (RpA.mono (new_same' np) (cut_rel r l h)))⟩)
      refine k _ H3 st s3 ?_
      rw [r.length] at w
      rw [cut_whole w]
      exact .tup q r
    | str z =>
      have h4 : (if z.length ≤ 1000 then some (D.str (cutS z l h)) else none) = some d := h4
      by_cases hz : z.length ≤ 1000
      · rw [if_pos hz] at h4
        cases h4
        exact .inr (.inr ⟨z, rfl, sz1000 hz, k _ H3 st s3 (.str _)⟩)
      · rw [if_neg hz] at h4
        cases h4
    | _ => cases h4
theorem pn_slL {a : Expr} {lo hi : Option Expr} {ua : UL} {ul uh : Option UE} {p2 : Pos} (ha : PE X a (canonL X.K ms ua)) (hl : PO X lo (canonO X.K ms (uPart ul))) (hh : PO X hi (canonO X.K ms (uPart uh))) : PE X (.Subscript a (.Slice lo hi none p2) pos) (canonN X.K ms (uSlL ua ul uh)) :=
  PE.imp (pe_slice sl_list ha hl hh) fun σ H Q ⟨g, ρ, st, d, st', R, hu, k⟩ => by
    unfold uSlL at hu
    obtain ⟨⟨ds, st1⟩, h1, hu⟩ := Option.bind_eq_some_iff.mp hu
    obtain ⟨⟨l, st2⟩, h2, hu⟩ := Option.bind_eq_some_iff.mp hu
    obtain ⟨⟨h, st3⟩, h3, hu⟩ := Option.map_eq_some_iff.mp hu
    cases hu
    refine ⟨g, ρ, st, ds, st1, R, h1, fun p vs H1 e1 s1 hp np r => ?_⟩
    have R1 := R.step e1 s1
    refine ⟨g, ρ, st1, l, st2, R1, h2, fun H2 e2 s2 => ?_⟩
    have R2 := R1.step e2 s2
    refine ⟨g, ρ, st2, h, st3, R2, h3, fun H3 e3 s3 => ?_⟩
    have R3 := R2.step e3 s3
    have r3 := RpA.mono (R2.sm e3) (RpA.mono (R1.sm e2) r)
    refine ⟨p, vs, rfl, sqL_stp e3 np (sqL_stp e2 np hp), fun q nq => ?_⟩
    exact k q _ _ (((e1.trans e2).trans e3).trans (new_stp nq)) (R3.newSrc nq) (R.freshBack ((e1.trans e2).trans e3) s3 nq) upd_same (RpA.mono (new_same nq) (cut_rel r3 l h))
end
end Fw
set_option Elab.async false
set_option linter.all false
set_option maxRecDepth 100000
set_option maxHeartbeats 4000000
/-! Fw4: built-in functions and operators by data. -/
namespace Fw
open PySem PySem.Spec L2

/-! ### lists of one kind -/
def asI : List D → Option (List Int)
  | [] => some []
  | .int i :: r => (asI r).map (i :: ·)
  | _ => none
def asB : List D → Option (List Bool)
  | [] => some []
  | .bl i :: r => (asB r).map (i :: ·)
  | _ => none
def asS : List D → Option (List Str)
  | [] => some []
  | .str i :: r => (asS r).map (i :: ·)
  | _ => none
theorem asI_eq : ∀ {ds : List D} {ns : List Int}, asI ds = some ns → ds = ns.map D.int
  | [], ns, h => by cases h; rfl
  | d :: r, ns, h => by
    cases d with
    | int i =>
      obtain ⟨m, h1, rfl⟩ := Option.map_eq_some_iff.mp (show (asI r).map (i :: ·) = some ns from h)
      rw [asI_eq h1] <;> rfl
    | _ => cases h
theorem asB_eq : ∀ {ds : List D} {ns : List Bool}, asB ds = some ns → ds = ns.map D.bl
  | [], ns, h => by cases h; rfl
  | d :: r, ns, h => by
    cases d with
    | bl i =>
      obtain ⟨m, h1, rfl⟩ := Option.map_eq_some_iff.mp (show (asB r).map (i :: ·) = some ns from h)
      rw [asB_eq h1] <;> rfl
    | _ => cases h
theorem asS_eq : ∀ {ds : List D} {ns : List Str}, asS ds = some ns → ds = ns.map D.str
  | [], ns, h => by cases h; rfl
  | d :: r, ns, h => by
    cases d with
    | str i =>
      obtain ⟨m, h1, rfl⟩ := Option.map_eq_some_iff.mp (show (asS r).map (i :: ·) = some ns from h)
      rw [asS_eq h1] <;> rfl
    | _ => cases h
theorem asI_map (ns : List Int) : asI (ns.map D.int) = some ns := by
  induction ns with
  | nil => rfl
  | cons n ns ih => rw [List.map_cons]; show (asI (ns.map D.int)).map (n :: ·) = _; rw [ih] <;> rfl
theorem asB_map (ns : List Bool) : asB (ns.map D.bl) = some ns := by
  induction ns with
  | nil => rfl
  | cons n ns ih => rw [List.map_cons]; show (asB (ns.map D.bl)).map (n :: ·) = _; rw [ih] <;> rfl
theorem asS_map (ns : List Str) : asS (ns.map D.str) = some ns := by
  induction ns with
  | nil => rfl
  | cons n ns ih => rw [List.map_cons]; show (asS (ns.map D.str)).map (n :: ·) = _; rw [ih] <;> rfl

/-! ### operators -/
section
variable {K : PySem.W.Frag}
def dI2 (f : Int → Int → Option Int) : D → D → Option D
  | .int i, .int j => (f i j).map .int
  | _, _ => none
def bI2 (f : Int → Int → Bool) : D → D → Option Bool
  | .int i, .int j => some (f i j)
  | _, _ => none
theorem rop_I0 {f : Int → Int → Int} : ROp K (rI0 fun i j => .int (f i j)) (dI2 fun i j => some (f i j)) := by
  intro A H x y dx dy dz live rx ry h Q k
  cases rx with
  | int i =>
    cases ry with
    | int j =>
      cases h
      exact ⟨i, j, rfl, rfl, k _ H (fun _ _ z => z) (.int _)⟩
    | _ => cases h
  | _ => cases ry <;> cases h
theorem rop_I {C : Int → Int → Prop} {f : Int → Int → Int} {p : Int → Int → Option Int} (hp : ∀ i j z, p i j = some z → C i j ∧ z = f i j) : ROp K (rI C fun i j => .int (f i j)) (dI2 p) := by
  intro A H x y dx dy dz live rx ry h Q k
  cases rx with
  | int i =>
    cases ry with
    | int j =>
      obtain ⟨z, h1, rfl⟩ := Option.map_eq_some_iff.mp (show (p i j).map D.int = some dz from h)
      obtain ⟨c, rfl⟩ := hp i j z h1
      exact ⟨i, j, rfl, rfl, c, k _ H (fun _ _ z => z) (.int _)⟩
    | _ => cases h
  | _ => cases ry <;> cases h
theorem rop_B0 {f : Int → Int → Bool} : ROp K (rI0 fun i j => .bl (f i j)) (fun x y => (bI2 f x y).map D.bl) := by
  intro A H x y dx dy dz live rx ry h Q k
  cases rx with
  | int i =>
    cases ry with
    | int j =>
      cases h
      exact ⟨i, j, rfl, rfl, k _ H (fun _ _ z => z) (.bl _)⟩
    | _ => cases h
  | _ => cases ry <;> cases h
def iMul (i j : Int) : Option Int := if (-(2 ^ 64) < j ∧ j < 2 ^ 64) ∨ (-(2 ^ 64) < i ∧ i < 2 ^ 64) ∨ i.natAbs.log2 + j.natAbs.log2 < 1000000 then some (i * j) else none
def iMod (i j : Int) : Option Int := if 0 < j then some (i % j) else none
def iDiv (i j : Int) : Option Int := if 0 < j ∧ j.natAbs.log2 < 9000 then some (i / j) else none
def iPow (i j : Int) : Option Int := if 0 ≤ j ∧ j ≤ 1000000 ∧ i.natAbs < 2 ^ 64 then some (i ^ j.toNat) else none
theorem op_mulAll {X : Cx} : OpR X (binaryOp .Mult) (fun x y H Q => rI CMul (fun i j => .int (i * j)) x y H Q ∨ rI CMulW (fun i j => .int (i * j)) x y H Q) := OpR.or op_mul op_mulW
theorem rop_mul : ROp K (fun x y H Q => rI CMul (fun i j => .int (i * j)) x y H Q ∨ rI CMulW (fun i j => .int (i * j)) x y H Q) (dI2 iMul) := by
  intro A H x y dx dy dz live rx ry h Q k
  cases rx with
  | int i =>
    cases ry with
    | int j =>
      obtain ⟨z, h1, rfl⟩ := Option.map_eq_some_iff.mp (show (iMul i j).map D.int = some dz from h)
      unfold iMul at h1
      by_cases c : (-(2 ^ 64) < j ∧ j < 2 ^ 64) ∨ (-(2 ^ 64) < i ∧ i < 2 ^ 64) ∨ i.natAbs.log2 + j.natAbs.log2 < 1000000
      · rw [if_pos c] at h1
        cases h1
        have q := k _ H (fun _ _ z => z) (.int _)
        rcases c with c | c | c
        · exact .inl ⟨i, j, rfl, rfl, .inr c, q⟩
        · exact .inl ⟨i, j, rfl, rfl, .inl c, q⟩
        · exact .inr ⟨i, j, rfl, rfl, c, q⟩
      · rw [if_neg c] at h1
        cases h1
    | _ => cases h
  | _ => cases ry <;> cases h
theorem rop_mod : ROp K (rI (fun _ j => 0 < j) fun i j => .int (i % j)) (dI2 iMod) := rop_I fun i j z h => by
  unfold iMod at h
  by_cases c : 0 < j
  · rw [if_pos c] at h; cases h; exact ⟨c, rfl⟩
  · rw [if_neg c] at h; cases h
theorem rop_div : ROp K (rI CDivW fun i j => .int (i / j)) (dI2 iDiv) := rop_I fun i j z h => by
  unfold iDiv at h
  by_cases c : 0 < j ∧ j.natAbs.log2 < 9000
  · rw [if_pos c] at h; cases h; exact ⟨c, rfl⟩
  · rw [if_neg c] at h; cases h
theorem rop_pow : ROp K (rI CPow fun i j => .int (i ^ j.toNat)) (dI2 iPow) := rop_I fun i j z h => by
  unfold iPow at h
  by_cases c : 0 ≤ j ∧ j ≤ 1000000 ∧ i.natAbs < 2 ^ 64
  · rw [if_pos c] at h; cases h; exact ⟨c, rfl⟩
  · rw [if_neg c] at h; cases h
/-- + -/
def dAdd : D → D → Option D
  | .int i, .int j => some (.int (i + j))
  | .str a, .str b => if a.length + b.length ≤ 100000 then some (.str (a ++ b)) else none
  | .lst a, .lst b => if a.length + b.length ≤ 100000 then some (.lst (a ++ b)) else none
  | .tup a, .tup b => if a.length + b.length ≤ 100000 then some (.tup (a ++ b)) else none
  | _, _ => none
theorem op_addAll {X : Cx} : OpR X (binaryOp .Add) (fun x y H Q => rI0 (fun i j => .int (i + j)) x y H Q ∨ (∃ i j, x = .str i ∧ y = .str j ∧ i.length + j.length ≤ sizeLine ∧ Q (.str (i ++ j)) H) ∨ rCat x y H Q ∨ rCatA X.K x y H Q) :=
  OpR.or op_add (OpR.or op_add_str (OpR.or op_cat op_catA))
theorem rop_add : ROp K (fun x y H Q => rI0 (fun i j => .int (i + j)) x y H Q ∨ (∃ i j, x = .str i ∧ y = .str j ∧ i.length + j.length ≤ sizeLine ∧ Q (.str (i ++ j)) H) ∨ rCat x y H Q ∨ rCatA K x y H Q) dAdd := by
  intro A H x y dx dy dz live rx ry h Q k
  have fresh : ∀ p, H p = none → ¬ A p := fun p np q => live p q np
  cases rx with
  | int i =>
    cases ry with
    | int j =>
      cases h
      exact .inl ⟨i, j, rfl, rfl, k _ H (fun _ _ z => z) (.int _)⟩
    | _ => cases h
  | str a =>
    cases ry with
    | str b =>
      have h : (if a.length + b.length ≤ 100000 then some (D.str (a ++ b)) else none) = some dz := h
      by_cases c : a.length + b.length ≤ 100000
      · rw [if_pos c] at h
        cases h
        exact .inr (.inl ⟨a, b, rfl, rfl, sz5 c, k _ H (fun _ _ z => z) (.str _)⟩)
      · rw [if_neg c] at h
        cases h
    | _ => cases h
  | @lst pa va a qa ra =>
    cases ry with
    | @lst pb vb b qb rb =>
      have h : (if a.length + b.length ≤ 100000 then some (D.lst (a ++ b)) else none) = some dz := h
      by_cases c : a.length + b.length ≤ 100000
      · rw [if_pos c] at h
        cases h
        exact .inr (.inr (.inl ⟨pa, pb, va, vb, rfl, rfl, (hid_some qa).2, (hid_some qb).2, by rw [ra.length, rb.length]; exact sz5 c, fun p np => k _ _ (new_all np) (.lst (hid_of (fresh p np) upd_same) (RpA.mono (new_same' np) (ra.app rb)))⟩))
      · rw [if_neg c] at h
        cases h
    | _ => cases h
  | @tup pa va a qa ra =>
    cases ry with
    | @tup pb vb b qb rb =>
      have h : (if a.length + b.length ≤ 100000 then some (D.tup (a ++ b)) else none) = some dz := h
      by_cases c : a.length + b.length ≤ 100000
      · rw [if_pos c] at h
        cases h
        refine .inr (.inr (.inr ⟨pa, pb, va, vb, rfl, rfl, Same.sqT hid_same qa, Same.sqT hid_same qb, by rw [ra.length, rb.length]; exact sz5 c, fun e => ?_, fun _ e => ?_, fun _ _ p np => k _ _ (new_all np) (.tup (.inl (.inl (hid_of (fresh p np) upd_same))) (RpA.mono (new_same' np) (ra.app rb)))⟩))
        · subst e
          cases ra
          exact k _ H (fun _ _ z => z) (.tup qb rb)
        · subst e
          cases rb
          rw [List.append_nil] at k
          exact k _ H (fun _ _ z => z) (.tup qa ra)
      · rw [if_neg c] at h
        cases h
    | _ => cases h
  | _ => cases ry <;> cases h
def dNeg : D → Option D
  | .int i => some (.int (-i))
  | _ => none
theorem run_neg : RUn K (rU fun i => .int (-i)) dNeg := by
  intro A H x dx dz live rx h Q k
  cases rx with
  | int i =>
    cases h
    exact ⟨i, rfl, k _ H (fun _ _ z => z) (.int _)⟩
  | _ => cases h
/-- == of plain things -/
def bEq : D → D → Option Bool
  | .non, .non => some true
  | .int i, .int j => some (decide (i = j))
  | .bl a, .bl b => some (decide (a = b))
  | .str a, .str b => some (decide (a = b))
  | .int _, .str _ => some false
  | .str _, .int _ => some false
  | .non, .int _ => some false
  | .int _, .non => some false
  | .non, .str _ => some false
  | .str _, .non => some false
  | _, _ => none
theorem rop_eq : ROp K rEq (fun x y => (bEq x y).map D.bl) := by
  intro A H x y dx dy dz live rx ry h Q k
  cases rx <;> cases ry <;> first
    | (cases h; done)
    | (cases h; exact ⟨rfl, by
        have k' := k _ H (fun _ _ z => z) (.bl _)
        simpa using k'⟩)
theorem rop_ne : ROp K rNe (fun x y => ((bEq x y).map not).map D.bl) := by
  intro A H x y dx dy dz live rx ry h Q k
  cases rx <;> cases ry <;> first
    | (cases h; done)
    | (cases h; exact ⟨rfl, by
        have k' := k _ H (fun _ _ z => z) (.bl _)
        simpa using k'⟩)
/-- x is None -/
def bIsN : D → D → Option Bool
  | x, .non => (match x with
    | .non => some true
    | .src => none
    | _ => some false)
  | _, _ => none
theorem rop_isN : ROp K (fun x y H Q => y = .non ∧ Q (.bl (decide (x = .non))) H) (fun x y => (bIsN x y).map D.bl) := by
  intro A H x y dx dy dz live rx ry h Q k
  cases ry with
  | non =>
    refine ⟨rfl, ?_⟩
    cases rx <;> first | (cases h; done) | (cases h; exact k _ H (fun _ _ z => z) (.bl _))
  | _ => cases dx <;> cases h
/-- in, not in: a list, a tuple of asI or of texts -/
def bInL (x : D) (ys : List D) : Option Bool := match x with
  | .int i => (asI ys).map fun ns => decide (i ∈ ns)
  | .str s => (asS ys).map fun ns => decide (s ∈ ns)
  | _ => none
def bIn (neg : Bool) (x y : D) : Option Bool := match y with
  | .lst ys => (bInL x ys).map fun b => if neg then !b else b
  | .tup ys => (bInL x ys).map fun b => if neg then !b else b
  | _ => none
theorem inV_int (i : Int) (ns : List Int) : inV (.int i) (ns.map V.int) = decide (i ∈ ns) := by
  unfold inV
  rw [List.any_map]
  rw [Bool.eq_iff_iff]
  simp [List.any_eq_true, eqV]
theorem inV_str (i : Str) (ns : List Str) : inV (.str i) (ns.map V.str) = decide (i ∈ ns) := by
  unfold inV
  rw [List.any_map]
  rw [Bool.eq_iff_iff]
  simp [List.any_eq_true, eqV]
theorem in_rel {H : Hp} {x : V} {dx : D} {vs : List V} {ds : List D} {b : Bool} (rx : Rp K H x dx) (r : RpA K H vs ds) (h : bInL dx ds = some b) : flatV x = true ∧ vs.all flatV = true ∧ inV x vs = b := by
  cases rx with
  | int i =>
    obtain ⟨ns, h1, rfl⟩ := Option.map_eq_some_iff.mp (show (asI ds).map (fun ns => decide (i ∈ ns)) = some b from h)
    have e := asI_eq h1
    subst e
    rw [r.ints]
    exact ⟨rfl, by rw [List.all_map]; exact List.all_eq_true.mpr fun _ _ => rfl, inV_int i ns⟩
  | str i =>
    obtain ⟨ns, h1, rfl⟩ := Option.map_eq_some_iff.mp (show (asS ds).map (fun ns => decide (i ∈ ns)) = some b from h)
    have e := asS_eq h1
    subst e
    rw [r.strs]
    exact ⟨rfl, by rw [List.all_map]; exact List.all_eq_true.mpr fun _ _ => rfl, inV_str i ns⟩
  | _ => cases h
theorem rop_in {neg : Bool} : ROp K (rIn K neg) (fun x y => (bIn neg x y).map D.bl) := by
  intro A H x y dx dy dz live rx ry h Q k
  cases ry with
  | @lst p vs ds q r =>
    obtain ⟨b', h1, rfl⟩ := Option.map_eq_some_iff.mp h
    obtain ⟨b, h2, rfl⟩ := Option.map_eq_some_iff.mp h1
    obtain ⟨f1, f2, e⟩ := in_rel rx r h2
    refine ⟨p, vs, rfl, .inl (.inl (.inl (hid_some q).2)), f1, f2, ?_⟩
    rw [e]
    exact k _ H (fun _ _ z => z) (.bl _)
  | @tup p vs ds q r =>
    obtain ⟨b', h1, rfl⟩ := Option.map_eq_some_iff.mp h
    obtain ⟨b, h2, rfl⟩ := Option.map_eq_some_iff.mp h1
    obtain ⟨f1, f2, e⟩ := in_rel rx r h2
    refine ⟨p, vs, rfl, .inr (Same.sqT hid_same q), f1, f2, ?_⟩
    rw [e]
    exact k _ H (fun _ _ z => z) (.bl _)
  | _ => cases h
/-- < of tuples of asI -/
def bLtT : D → D → Option Bool
  | .tup a, .tup b => (asI a).bind fun ns => (asI b).map fun ms => HT.lexLt ns ms
  | _, _ => none
theorem rop_ltT : ROp K (rLtT K) (fun x y => (bLtT x y).map D.bl) := by
  intro A H x y dx dy dz live rx ry h Q k
  cases rx with
  | @tup p vs ds q r =>
    cases ry with
    | @tup p2 vs2 ds2 q2 r2 =>
      obtain ⟨b', h1, rfl⟩ := Option.map_eq_some_iff.mp h
      obtain ⟨ns, h2, h3⟩ := Option.bind_eq_some_iff.mp h1
      obtain ⟨ns2, h4, rfl⟩ := Option.map_eq_some_iff.mp h3
      have e := asI_eq h2
      have e2 := asI_eq h4
      subst e e2
      have z := r.ints
      have z2 := r2.ints
      subst z z2
      exact ⟨p, p2, ns, ns2, rfl, rfl, Same.sqT hid_same q, Same.sqT hid_same q2, k _ H (fun _ _ z => z) (.bl _)⟩
    | _ => cases h
  | _ => cases ry <;> cases h
end

/-! ### == of data at any depth -/
mutual
def toPy : D → Option PyData
  | .non => some .none
  | .bl b => some (.bool b)
  | .int i => some (.int i)
  | .str x => some (.str x)
  | .lst xs => (toPys xs).map .list
  | .tup xs => (toPys xs).map .tuple
  | .ins _ _ => none
  | .src => none
  | .adr _ => none
def toPys : List D → Option (List PyData)
  | [] => some []
  | x :: xs => (toPy x).bind fun y => (toPys xs).map (y :: ·)
end
section
variable {K : PySem.W.Frag} {H : Hp}
mutual
theorem rp_dp : ∀ {v : V} {d : D} {p : PyData}, Rp K H v d → toPy d = some p → Dp K H v p ∧ p.plain = true
  | _, _, _, .non, h => by cases h; exact ⟨.non, rfl⟩
  | _, _, _, .bl b, h => by cases h; exact ⟨.bl b, rfl⟩
  | _, _, _, .int i, h => by cases h; exact ⟨.int i, rfl⟩
  | _, _, _, .str x, h => by cases h; exact ⟨.str x, rfl⟩
  | _, _, p, .lst q r, h => by
    unfold toPy at h
    obtain ⟨ps, h1, rfl⟩ := Option.map_eq_some_iff.mp h
    obtain ⟨a, b⟩ := rpA_dp r h1
    exact ⟨.lst (.inl (.inl q)) a, b⟩
  | _, _, p, .tup q r, h => by
    unfold toPy at h
    obtain ⟨ps, h1, rfl⟩ := Option.map_eq_some_iff.mp h
    obtain ⟨a, b⟩ := rpA_dp r h1
    exact ⟨.tup q a, b⟩
  | _, _, _, .ins _ _, h => by cases h
  | _, _, _, .adr _, h => by cases h
  | _, _, _, .any _, h => by cases h
theorem rpA_dp : ∀ {vs : List V} {ds : List D} {ps : List PyData}, RpA K H vs ds → toPys ds = some ps → DpAll K H vs ps ∧ PyData.plainAll ps = true
  | _, _, _, .nil, h => by cases h; exact ⟨.nil, rfl⟩
  | _, _, _, .cons q r, h => by
    unfold toPys at h
    obtain ⟨p, h1, h2⟩ := Option.bind_eq_some_iff.mp h
    obtain ⟨ps, h3, rfl⟩ := Option.map_eq_some_iff.mp h2
    obtain ⟨a, b⟩ := rp_dp q h1
    obtain ⟨c, d⟩ := rpA_dp r h3
    refine ⟨.cons a c, ?_⟩
    show (p.plain && PyData.plainAll ps) = true
    rw [b, d] <;> rfl
end
end
def bEqD (x y : D) : Option Bool := (toPy x).bind fun a => (toPy y).bind fun b => if a.depth ≤ 60 then some (PyData.eqv a b) else none
def rEqP (K : PySem.W.Frag) : R2 := fun x y H Q => ∃ d e, Dp K H x d ∧ Dp K H y e ∧ d.plain = true ∧ e.plain = true ∧ d.depth ≤ 60 ∧ Q (.bl (PyData.eqv d e)) H
theorem op_eqP {X : Cx} (hu : X.A.units + 64 < cLine) : OpR X (compareOp .Eq) (rEqP X.K) := by
  intro pins s σ H x y v u Q I rx ry h
  obtain ⟨d, e, hd, he, sd, se, dp, q⟩ := h
  obtain ⟨as, r1⟩ := Dp.reads I d x v hd rx
  obtain ⟨bs, r2⟩ := Dp.reads I e y u he ry
  exact PySem.SeqAt.eq_plain r1 r2 sd se (by have := Nat.min_le_left d.depth e.depth; omega) ⟨.bl _, H, I, rfl, q⟩
theorem rop_eqP {K : PySem.W.Frag} : ROp K (rEqP K) (fun x y => (bEqD x y).map D.bl) := by
  intro A H x y dx dy dz live rx ry h Q k
  obtain ⟨b, h1, rfl⟩ := Option.map_eq_some_iff.mp h
  unfold bEqD at h1
  obtain ⟨p, h2, h3⟩ := Option.bind_eq_some_iff.mp h1
  obtain ⟨q, h4, h5⟩ := Option.bind_eq_some_iff.mp h3
  by_cases c : p.depth ≤ 60
  · rw [if_pos c] at h5
    cases h5
    obtain ⟨a1, a2⟩ := rp_dp (Rp.mono hid_same rx) h2
    obtain ⟨b1, b2⟩ := rp_dp (Rp.mono hid_same ry) h4
    exact ⟨p, q, a1, b1, a2, b2, c, k _ H (fun _ _ z => z) (.bl _)⟩
  · rw [if_neg c] at h5
    cases h5

/-! ### built-in functions -/
def RC1 (K : PySem.W.Frag) (r : List V → Hp → VK → Prop) (f : D → Option D) : Prop := ∀ (A : Addr → Prop) (H : Hp) (x : V) (dx dz : D), (∀ a, A a → H a ≠ none) → Rp K (hid H A) x dx → f dx = some dz → ∀ Q : VK, (∀ v H', Same H H' → Rp K (hid H' A) v dz → Q v H') → r [x] H Q
def RC2 (K : PySem.W.Frag) (r : List V → Hp → VK → Prop) (f : D → D → Option D) : Prop := ∀ (A : Addr → Prop) (H : Hp) (x y : V) (dx dy dz : D), (∀ a, A a → H a ≠ none) → Rp K (hid H A) x dx → Rp K (hid H A) y dy → f dx dy = some dz → ∀ Q : VK, (∀ v H', Same H H' → Rp K (hid H' A) v dz → Q v H') → r [x, y] H Q
def RL1 (K : PySem.W.Frag) (r : List V → Hp → VK → Prop) (f : List D → Option D) : Prop := ∀ (A : Addr → Prop) (H : Hp) (p : Addr) (vs : List V) (ds : List D) (dz : D), (∀ a, A a → H a ≠ none) → SqL K H p vs → RpA K (hid H A) vs ds → f ds = some dz → ∀ Q : VK, (∀ v H', Same H H' → Rp K (hid H' A) v dz → Q v H') → r [.ref p] H Q
def RN1 (K : PySem.W.Frag) (r : List V → Hp → VK → Prop) (f : List D → Option (List D)) : Prop := ∀ (A : Addr → Prop) (H : Hp) (p : Addr) (vs : List V) (ds dz : List D), (∀ a, A a → H a ≠ none) → SqL K H p vs → RpA K (hid H A) vs ds → f ds = some dz →
  ∀ Q : VK, (∀ q ws, H q = none → RpA K (hid H A) ws dz → Q (.ref q) (upd H q (.lst ws))) → r [.ref p] H Q
def uUnL (f : List D → Option D) (a : UL) : UE := fun ρ st => (a ρ st).bind fun x => (f x.1).map fun z => (z, x.2)
def uUnN (f : List D → Option (List D)) (a : UL) : UL := fun ρ st => (a ρ st).bind fun x => (f x.1).map fun z => (z, x.2)
section
variable {X : Cx} {ms : List Mo} {a b : Expr} {ua ub : UE} {ul : UL} {p pos : Pos} {x : Str} {id T : String} {r : List V → Hp → VK → Prop} {f : D → Option D} {f2 : D → D → Option D} {fl : List D → Option D} {fn : List D → Option (List D)}
theorem cb1 {K : PySem.W.Frag} (h : RC1 K r f) {σ : St} {H : Hp} {Q : VK} (c : canon K ms (uUn f ua) σ H Q) : tCB r (tCons (canon K ms ua) tNil) σ H Q :=
  canon_un (ms := ms) (r := fun x H Q => r [x] H Q) (f := f) (a := ua) (fun A H x dx dz live rx hf Q k => h A H x dx dz live rx hf Q k) c
theorem cb2 {K : PySem.W.Frag} (h : RC2 K r f2) {σ : St} {H : Hp} {Q : VK} (c : canon K ms (uOp f2 ua ub) σ H Q) : tCB r (tCons (canon K ms ua) (tCons (canon K ms ub) tNil)) σ H Q :=
  canon_op (ms := ms) (r := fun x y H Q => r [x, y] H Q) (f := f2) (a := ua) (b := ub) (fun A H x y dx dy dz live rx ry hf Q k => h A H x y dx dy dz live rx ry hf Q k) c
theorem cbL {K : PySem.W.Frag} (h : RL1 K r fl) {σ : St} {H : Hp} {Q : VK} (c : canon K ms (uUnL fl ul) σ H Q) : tCB r (tCons (canonL K ms ul) tNil) σ H Q := by
  obtain ⟨g, ρ, st, d, st', R, hu, k⟩ := c
  unfold uUnL at hu
  obtain ⟨⟨ds, st1⟩, h1, hu⟩ := Option.bind_eq_some_iff.mp hu
  obtain ⟨dz, h3, hu⟩ := Option.map_eq_some_iff.mp hu
  cases hu
  refine ⟨g, ρ, st, ds, st1, R, h1, fun q vs H1 e1 s1 hp np rx => ?_⟩
  have R1 := R.step e1 s1
  exact h (Ex g ms σ) H1 q vs ds _ (fun a q => R1.live q) hp rx h3 Q fun v H' sm rv => k v H' (e1.trans (Stp.of_same sm)) (s1.of_same sm) rv
theorem cbN {K : PySem.W.Frag} (h : RN1 K r fn) {σ : St} {H : Hp} {Q : VK} (c : canonN K ms (uUnN fn ul) σ H Q) : tCB r (tCons (canonL K ms ul) tNil) σ H Q := by
  obtain ⟨g, ρ, st, d, st', R, hu, k⟩ := c
  unfold uUnN at hu
  obtain ⟨⟨ds, st1⟩, h1, hu⟩ := Option.bind_eq_some_iff.mp hu
  obtain ⟨dz, h3, hu⟩ := Option.map_eq_some_iff.mp hu
  cases hu
  refine ⟨g, ρ, st, ds, st1, R, h1, fun q vs H1 e1 s1 hp np rx => ?_⟩
  have R1 := R.step e1 s1
  exact h (Ex g ms σ) H1 q vs ds _ (fun a q => R1.live q) hp rx h3 Q fun q ws nq rw' => k q ws _ (e1.trans (new_stp nq)) (R1.newSrc nq) (R.freshBack e1 s1 nq) upd_same (RpA.mono (new_same nq) rw')
variable (hm : X.mg x = none) (hg : Gl X x)
theorem pd_b1 (hc : CallR X (.builtin id) r) (h : RC1 X.K r f) (hm : X.mg x = none) (hv : bootBuiltins x = some (.builtin id)) (ha : PE X a (canon X.K ms ua)) (hg : Gl X x := by rfl) (hn : x ≠ "__name__" := by decide) (hdb : (x == ("__debug__" : Str)) = false := by decide)
    (he : starEach [a] X.env = (false, eval a X.env) :: starEach [] X.env := by rfl) : PE X (.Call (.Name x p) [a] [] pos) (canon X.K ms (uUn f ua)) := PE.imp (pe_callB hc hg hm hv (pa_cons ha pa_nil he) hn hdb he) fun _ _ _ c => cb1 h c
theorem pd_t1 (hc : CallR X (.type T) r) (h : RC1 X.K r f) (hm : X.mg x = none) (hv : bootBuiltins x = some (.type T)) (ha : PE X a (canon X.K ms ua)) (hg : Gl X x := by rfl) (hn : x ≠ "__name__" := by decide) (hdb : (x == ("__debug__" : Str)) = false := by decide)
    (he : starEach [a] X.env = (false, eval a X.env) :: starEach [] X.env := by rfl) : PE X (.Call (.Name x p) [a] [] pos) (canon X.K ms (uUn f ua)) := PE.imp (pe_callTy hc hg hm hv (pa_cons ha pa_nil he) hn hdb he) fun _ _ _ c => cb1 h c
theorem pd_b2 (hc : CallR X (.builtin id) r) (h : RC2 X.K r f2) (hm : X.mg x = none) (hv : bootBuiltins x = some (.builtin id)) (ha : PE X a (canon X.K ms ua)) (hb : PE X b (canon X.K ms ub)) (hg : Gl X x := by rfl) (hn : x ≠ "__name__" := by decide) (hdb : (x == ("__debug__" : Str)) = false := by decide)
    (he : starEach [a, b] X.env = (false, eval a X.env) :: starEach [b] X.env := by rfl) (he2 : starEach [b] X.env = (false, eval b X.env) :: starEach [] X.env := by rfl) (hpl : (backTo pos (starEach [b] X.env)).any (·.1) = false := by rfl) :
    PE X (.Call (.Name x p) [a, b] [] pos) (canon X.K ms (uOp f2 ua ub)) := PE.imp (pe_callB hc hg hm hv (pa_cons ha (pa_cons hb pa_nil he2) he) hn hdb he hpl) fun _ _ _ c => cb2 h c
theorem pd_b1L (hc : CallR X (.builtin id) r) (h : RL1 X.K r fl) (hm : X.mg x = none) (hv : bootBuiltins x = some (.builtin id)) (ha : PE X a (canonL X.K ms ul)) (hg : Gl X x := by rfl) (hn : x ≠ "__name__" := by decide) (hdb : (x == ("__debug__" : Str)) = false := by decide)
    (he : starEach [a] X.env = (false, eval a X.env) :: starEach [] X.env := by rfl) : PE X (.Call (.Name x p) [a] [] pos) (canon X.K ms (uUnL fl ul)) := PE.imp (pe_callB hc hg hm hv (pa_cons ha pa_nil he) hn hdb he) fun _ _ _ c => cbL h c
theorem pd_t1L (hc : CallR X (.type T) r) (h : RL1 X.K r fl) (hm : X.mg x = none) (hv : bootBuiltins x = some (.type T)) (ha : PE X a (canonL X.K ms ul)) (hg : Gl X x := by rfl) (hn : x ≠ "__name__" := by decide) (hdb : (x == ("__debug__" : Str)) = false := by decide)
    (he : starEach [a] X.env = (false, eval a X.env) :: starEach [] X.env := by rfl) : PE X (.Call (.Name x p) [a] [] pos) (canon X.K ms (uUnL fl ul)) := PE.imp (pe_callTy hc hg hm hv (pa_cons ha pa_nil he) hn hdb he) fun _ _ _ c => cbL h c
theorem pn_b1L (hc : CallR X (.builtin id) r) (h : RN1 X.K r fn) (hm : X.mg x = none) (hv : bootBuiltins x = some (.builtin id)) (ha : PE X a (canonL X.K ms ul)) (hg : Gl X x := by rfl) (hn : x ≠ "__name__" := by decide) (hdb : (x == ("__debug__" : Str)) = false := by decide)
    (he : starEach [a] X.env = (false, eval a X.env) :: starEach [] X.env := by rfl) : PE X (.Call (.Name x p) [a] [] pos) (canonN X.K ms (uUnN fn ul)) := PE.imp (pe_callB hc hg hm hv (pa_cons ha pa_nil he) hn hdb he) fun _ _ _ c => cbN h c
theorem pn_t1L (hc : CallR X (.type T) r) (h : RN1 X.K r fn) (hm : X.mg x = none) (hv : bootBuiltins x = some (.type T)) (ha : PE X a (canonL X.K ms ul)) (hg : Gl X x := by rfl) (hn : x ≠ "__name__" := by decide) (hdb : (x == ("__debug__" : Str)) = false := by decide)
    (he : starEach [a] X.env = (false, eval a X.env) :: starEach [] X.env := by rfl) : PE X (.Call (.Name x p) [a] [] pos) (canonN X.K ms (uUnN fn ul)) := PE.imp (pe_callTy hc hg hm hv (pa_cons ha pa_nil he) hn hdb he) fun _ _ _ c => cbN h c
end

/-! ### each of them -/
section
variable {X : Cx} {K : PySem.W.Frag}
def dLen : D → Option D
  | .lst ds => some (.int ds.length)
  | .tup ds => some (.int ds.length)
  | .str z => if z.length ≤ 100000 then some (.int z.length) else none
  | _ => none
theorem rc_len : RC1 K (fun xs H Q => ∃ x n, xs = [x] ∧ LenV K x H n ∧ Q (.int n) H) dLen := by
  intro A H x dx dz live rx h Q k
  cases rx with
  | @lst p vs ds q r =>
    cases h
    exact ⟨_, ds.length, rfl, .inl ⟨vs, .inl (.inl (hid_some q).2), r.length.symm⟩, k _ H (fun _ _ z => z) (.int _)⟩
  | @tup p vs ds q r =>
    cases h
    exact ⟨_, ds.length, rfl, .inr ⟨vs, Same.sqT hid_same q, r.length.symm⟩, k _ H (fun _ _ z => z) (.int _)⟩
  | str z =>
    have h : (if z.length ≤ 100000 then some (D.int z.length) else none) = some dz := h
    by_cases c : z.length ≤ 100000
    · rw [if_pos c] at h
      cases h
      exact ⟨_, z.length, rfl, ⟨sz5 c, rfl⟩, k _ H (fun _ _ z => z) (.int _)⟩
    · rw [if_neg c] at h
      cases h
  | _ => cases h
def lLen (ds : List D) : Option D := some (.int ds.length)
theorem rl_len : RL1 K (fun xs H Q => ∃ x n, xs = [x] ∧ LenV K x H n ∧ Q (.int n) H) lLen := by
  intro A H p vs ds dz live hp r h Q k
  cases h
  exact ⟨_, ds.length, rfl, .inl ⟨vs, hp, r.length.symm⟩, k _ H (fun _ _ z => z) (.int _)⟩
def lSum (ds : List D) : Option D := (asI ds).map fun ns => .int ns.sum
theorem rl_sum : RL1 K (rSum K) lSum := by
  intro A H p vs ds dz live hp r h Q k
  obtain ⟨ns, h1, rfl⟩ := Option.map_eq_some_iff.mp h
  have e := asI_eq h1
  subst e
  have z := r.ints
  subst z
  exact ⟨p, ns, rfl, hp, k _ H (fun _ _ z => z) (.int _)⟩
def lAll (ds : List D) : Option D := (asB ds).map fun ns => .bl (ns.all id)
theorem rl_all : RL1 K (rAll K) lAll := by
  intro A H p vs ds dz live hp r h Q k
  obtain ⟨ns, h1, rfl⟩ := Option.map_eq_some_iff.mp h
  have e := asB_eq h1
  subst e
  have z := r.bls
  subst z
  exact ⟨p, ns, rfl, hp, k _ H (fun _ _ z => z) (.bl _)⟩
def lMin (ds : List D) : Option D := (asI ds).bind fun ns => match ns with
  | [] => none
  | n :: r => some (.int (r.foldl min n))
theorem foldl_min_le : ∀ (r : List Int) (n : Int), r.foldl min n ≤ n ∧ (∀ y ∈ r, r.foldl min n ≤ y) ∧ (r.foldl min n = n ∨ r.foldl min n ∈ r)
  | [], n => ⟨Int.le_refl n, fun y h => by simp at h, .inl rfl⟩
  | a :: r, n => by
    obtain ⟨h1, h2, h3⟩ := foldl_min_le r (min n a)
    rw [List.foldl_cons]
    refine ⟨by omega, fun y hy => ?_, ?_⟩
    · rcases List.mem_cons.mp hy with rfl | hy
      · omega
      · exact h2 y hy
    · rcases h3 with h3 | h3
      · rw [h3]
        by_cases c : n ≤ a
        · left; omega
        · right; rw [show min n a = a by omega]; exact List.mem_cons_self
      · exact .inr (List.mem_cons_of_mem _ h3)
theorem rl_min : RL1 K (rMin K) lMin := by
  intro A H p vs ds dz live hp r h Q k
  obtain ⟨ns, h1, h2⟩ := Option.bind_eq_some_iff.mp h
  have e := asI_eq h1
  subst e
  have z := r.ints
  subst z
  cases ns with
  | nil => cases h2
  | cons n ns =>
    cases h2
    refine ⟨p, n :: ns, rfl, hp, Nat.succ_pos _, fun m hm hle => ?_⟩
    obtain ⟨a1, a2, a3⟩ := foldl_min_le ns n
    have hmem : ns.foldl min n ∈ n :: ns := by
      rcases a3 with a3 | a3
      · rw [a3]; exact List.mem_cons_self
      · exact List.mem_cons_of_mem _ a3
    have hl := hle _ hmem
    have hu : ns.foldl min n ≤ m := by
      rcases List.mem_cons.mp hm with rfl | hm
      · exact a1
      · exact a2 m hm
    have e : m = ns.foldl min n := by omega
    subst e
    exact k _ H (fun _ _ z => z) (.int _)
/-- list(xs) -/
theorem rn_list : RN1 K (fun xs H Q => ∃ p ys, xs = [.ref p] ∧ (SqL K H p ys ∨ SqT K H p ys) ∧ ∀ l, H l = none → Q (.ref l) (upd H l (.lst ys))) some := by
  intro A H p vs ds dz live hp r h Q k
  cases h
  exact ⟨p, vs, rfl, .inl hp, fun l nl => k l vs nl r⟩
/-- list(x) of data: list or tuple -/
def dList : D → Option D
  | .lst ds => some (.lst ds)
  | .tup ds => some (.lst ds)
  | _ => none
theorem rc_list : RC1 K (fun xs H Q => ∃ p ys, xs = [.ref p] ∧ (SqL K H p ys ∨ SqT K H p ys) ∧ ∀ l, H l = none → Q (.ref l) (upd H l (.lst ys))) dList := by
  intro A H x dx dz live rx h Q k
  have fresh : ∀ p, H p = none → ¬ A p := fun p np q => live p q np
  cases rx with
  | @lst p vs ds q r =>
    cases h
    exact ⟨p, vs, rfl, .inl (.inl (.inl (hid_some q).2)), fun l nl => k _ _ (new_all nl) (.lst (hid_of (fresh l nl) upd_same) (RpA.mono (new_same' nl) r))⟩
  | @tup p vs ds q r =>
    cases h
    exact ⟨p, vs, rfl, .inr (Same.sqT hid_same q), fun l nl => k _ _ (new_all nl) (.lst (hid_of (fresh l nl) upd_same) (RpA.mono (new_same' nl) r))⟩
  | _ => cases h
def dTup : D → Option D
  | .lst ds => some (.tup ds)
  | .tup ds => some (.tup ds)
  | _ => none
theorem rc_tup : RC1 K (fun xs H Q => ∃ p ys, xs = [.ref p] ∧ ((SqL K H p ys ∧ ∀ l, H l = none → Q (.ref l) (upd H l (.tup ys))) ∨ (SqT K H p ys ∧ Q (.ref p) H))) dTup := by
  intro A H x dx dz live rx h Q k
  have fresh : ∀ p, H p = none → ¬ A p := fun p np q => live p q np
  cases rx with
  | @lst p vs ds q r =>
    cases h
    exact ⟨p, vs, rfl, .inl ⟨.inl (.inl (hid_some q).2), fun l nl => k _ _ (new_all nl) (.tup (.inl (.inl (hid_of (fresh l nl) upd_same))) (RpA.mono (new_same' nl) r))⟩⟩
  | @tup p vs ds q r =>
    cases h
    exact ⟨p, vs, rfl, .inr ⟨Same.sqT hid_same q, k _ H (fun _ _ z => z) (.tup q r)⟩⟩
  | _ => cases h
def dInt : D → Option D
  | .int i => some (.int i)
  | .bl b => some (.int (if b then 1 else 0))
  | _ => none
theorem rc_int : RC1 K (fun xs H Q => (∃ i, xs = [.int i] ∧ Q (.int i) H) ∨ ∃ k, xs = [.bl k] ∧ Q (.int (if k then 1 else 0)) H) dInt := by
  intro A H x dx dz live rx h Q k
  cases rx with
  | int i => cases h; exact .inl ⟨i, rfl, k _ H (fun _ _ z => z) (.int _)⟩
  | bl b => cases h; exact .inr ⟨b, rfl, k _ H (fun _ _ z => z) (.int _)⟩
  | _ => cases h
def dAbs : D → Option D
  | .int i => some (.int (if i < 0 then -i else i))
  | _ => none
theorem rc_abs : RC1 K (fun xs H Q => ∃ i, xs = [.int i] ∧ Q (.int (if i < 0 then -i else i)) H) dAbs := by
  intro A H x dx dz live rx h Q k
  cases rx with
  | int i => cases h; exact ⟨i, rfl, k _ H (fun _ _ z => z) (.int _)⟩
  | _ => cases h
def dStr : D → Option D
  | .int i => if i.natAbs.log2 < 1920 then some (.str (toString i : String)) else none
  | _ => none
theorem rc_str : RC1 K (fun xs H Q => ∃ i, xs = [.int i] ∧ i.natAbs.log2 < 1920 ∧ Q (.str (toString i : String)) H) dStr := by
  intro A H x dx dz live rx h Q k
  cases rx with
  | int i =>
    have h : (if i.natAbs.log2 < 1920 then some (D.str (toString i : String)) else none) = some dz := h
    by_cases c : i.natAbs.log2 < 1920
    · rw [if_pos c] at h
      cases h
      exact ⟨i, rfl, c, k _ H (fun _ _ z => z) (.str _)⟩
    · rw [if_neg c] at h
      cases h
  | _ => cases h
theorem rc_min2 : RC2 K (fun xs H Q => ∃ i j, xs = [.int i, .int j] ∧ Q (.int (if j < i then j else i)) H) (dI2 fun i j => some (if j < i then j else i)) := by
  intro A H x y dx dy dz live rx ry h Q k
  cases rx with
  | int i =>
    cases ry with
    | int j => cases h; exact ⟨i, j, rfl, k _ H (fun _ _ z => z) (.int _)⟩
    | _ => cases h
  | _ => cases ry <;> cases h
theorem rc_max2 : RC2 K (fun xs H Q => ∃ i j, xs = [.int i, .int j] ∧ Q (.int (if j > i then j else i)) H) (dI2 fun i j => some (if j > i then j else i)) := by
  intro A H x y dx dy dz live rx ry h Q k
  cases rx with
  | int i =>
    cases ry with
    | int j => cases h; exact ⟨i, j, rfl, k _ H (fun _ _ z => z) (.int _)⟩
    | _ => cases h
  | _ => cases ry <;> cases h
/-- sorted of ints -/
def sortI (ns : List Int) : List Int := ns.mergeSort (fun a b => decide (a ≤ b))
theorem sortI_same {ns ms : List Int} (h : ms.Perm ns) (s : ms.Pairwise (· ≤ ·)) : ms = sortI ns := by
  refine List.Perm.eq_of_pairwise (fun x y _ _ h1 h2 => Int.le_antisymm h1 h2) s ?_ (h.trans (List.mergeSort_perm _ _).symm)
  have q := List.pairwise_mergeSort (le := fun a b : Int => decide (a ≤ b)) (fun a b c h1 h2 => by simp at *; omega) (fun a b => by simp; omega) ns
  exact q.imp fun h => by simpa using h
def lSort (ds : List D) : Option (List D) := (asI ds).map fun ns => (sortI ns).map .int
theorem rn_sorted : RN1 K (rSortedI K) lSort := by
  intro A H p vs ds dz live hp r h Q k
  obtain ⟨ns, h1, rfl⟩ := Option.map_eq_some_iff.mp h
  have e := asI_eq h1
  subst e
  have z := r.ints
  subst z
  refine ⟨p, ns, rfl, hp, fun ns' q hp hs nq => ?_⟩
  rw [sortI_same hp hs]
  exact k q _ nq (RpA.ofInts _)
/-! ### isinstance of built-in types -/
def tyD : D → Option String
  | .non => some "NoneType"
  | .bl _ => some "bool"
  | .int _ => some "int"
  | .str _ => some "str"
  | .lst _ => some "list"
  | .tup _ => some "tuple"
  | _ => none
def dIsi (T : String) (d : D) : Option D := (tyD d).bind fun t => (kitB t T).map .bl
theorem pd_isi {ms : List Mo} {a : Expr} {ua : UE} {p p2 pos : Pos} {x : Str} {T : String} (hc : X.calm = true) (hm : X.mg "isinstance" = none) (hm2 : X.mg x = none) (hv2 : bootBuiltins x = some (.type T)) (ha : PE X a (canon X.K ms ua)) (hg : Gl X "isinstance" := by rfl) (hg2 : Gl X x := by rfl)
    (hn : x ≠ "__name__" := by decide) (hdb : (x == ("__debug__" : Str)) = false := by decide)
    (he : starEach [a, .Name x p2] X.env = (false, eval a X.env) :: starEach [.Name x p2] X.env := by rfl) (he2 : starEach [.Name x p2] X.env = (false, eval (.Name x p2) X.env) :: starEach [] X.env := by rfl) (hpl : (backTo pos (starEach [.Name x p2] X.env)).any (·.1) = false := by rfl) :
    PE X (.Call (.Name "isinstance" p) [a, .Name x p2] [] pos) (canon X.K ms (uUn (dIsi T) ua)) := by
  refine PE.imp (pe_callB call_isi hg hm PyProof.Rows.boot_isinstance (pa_cons ha (pa_cons (pe_bltn (v := .ty T) hg2 hm2 hv2 rfl hn hdb) pa_nil he2) he) (by decide) (by decide) he hpl) fun σ H Q ⟨g, ρ, st, d, st', R, hu, k⟩ => ?_
  unfold uUn at hu
  obtain ⟨⟨dx, st1⟩, h1, hu⟩ := Option.bind_eq_some_iff.mp hu
  obtain ⟨dz, h3, hu⟩ := Option.map_eq_some_iff.mp hu
  cases hu
  refine ⟨g, ρ, st, dx, _, R, h1, fun v H1 e1 s1 rx => ?_⟩
  unfold dIsi at h3
  obtain ⟨t, h4, h5⟩ := Option.bind_eq_some_iff.mp h3
  obtain ⟨b, h6, rfl⟩ := Option.map_eq_some_iff.mp h5
  refine ⟨v, .ty T, .type t, .type T, b, rfl, .ty T, ?_, kit_ty h6, k _ H1 e1 s1 (.bl _)⟩
  have h4 : tyD dx = some t := h4
  cases rx with
  | non => cases h4; exact .base .non
  | bl => cases h4; exact .base (.bl _)
  | int => cases h4; exact .base (.int _)
  | str => cases h4; exact .base (.str _)
  | lst q r => cases h4; exact .base (.lst (hid_some q).2)
  | tup q r =>
    cases h4
    rcases q with (q | ⟨o, q⟩) | ⟨o, its, n, q1, q2, _⟩
    · exact .base (.tup (hid_some q).2)
    · exact .fTuple (hid_some q).2
    · exact .kTuple q1 q2
  | ins => cases h4
  | adr => cases h4
  | any => cases h4
/-! ### truth of data -/
def bTru : D → Option Bool
  | .non => some false
  | .bl b => some b
  | .int i => some (i != 0)
  | .str z => if z.length ≤ 100000 then some (z.length != 0) else none
  | .lst ds => some (!ds.isEmpty)
  | .tup ds => some (!ds.isEmpty)
  | _ => none
theorem isEmpty_rel {H : Hp} {vs : List V} {ds : List D} (r : RpA K H vs ds) : vs.isEmpty = ds.isEmpty := by
  cases r <;> rfl
def uTru (a : UE) : UT := uTst bTru a
def uTruL (a : UL) : UT := fun ρ st => (a ρ st).map fun x => (!x.1.isEmpty, x.2)
end
end Fw
set_option Elab.async false
set_option linter.all false
set_option maxRecDepth 100000
set_option maxHeartbeats 4000000
/-! Fw5: truth, join, the drawing list's places, targets, comprehensions. -/
namespace Fw
open PySem PySem.Spec L2

section
variable {X : Cx} {ms : List Mo} {e : Expr} {u : UE} {ul : UL}
theorem pt_tr (h : PE X e (canon X.K ms u)) (he : ∀ whole, isTrue e X.env whole = (do let v ← whole; standAt e.pos; holding [v] (truthy v)) := by intro _; rfl) : PT X e (canonT X.K ms (uTru u)) :=
  PT.imp (pt_truth h he) fun σ H Q ⟨g, ρ, st, b, st', R, hu, k⟩ => by
    unfold uTru uTst at hu
    obtain ⟨⟨dx, st1⟩, h1, hu⟩ := Option.bind_eq_some_iff.mp hu
    obtain ⟨z, h3, hu⟩ := Option.map_eq_some_iff.mp hu
    cases hu
    refine ⟨g, ρ, st, dx, _, R, h1, fun x H1 e1 s1 rx => ⟨b, ?_, k H1 e1 s1⟩⟩
    have h3 : bTru dx = some b := h3
    cases rx with
    | non => cases h3; rfl
    | bl => cases h3; rfl
    | int => cases h3; rfl
    | str z =>
      have h3 : (if z.length ≤ 100000 then some (z.length != 0) else none) = some b := h3
      by_cases c : z.length ≤ 100000
      · rw [if_pos c] at h3
        cases h3
        refine ⟨sz5 c, ?_⟩
        rw [Bool.eq_iff_iff]
        simp
      · rw [if_neg c] at h3
        cases h3
    | @lst p vs ds q r =>
      cases h3
      exact .inl ⟨vs, .inl (.inl (hid_some q).2), by rw [isEmpty_rel r]⟩
    | @tup p vs ds q r =>
      cases h3
      exact .inr (.inl ⟨vs, Same.sqT hid_same q, by rw [isEmpty_rel r]⟩)
    | ins => cases h3
    | adr => cases h3
    | any => cases h3
theorem pt_trL (h : PE X e (canonL X.K ms ul)) (he : ∀ whole, isTrue e X.env whole = (do let v ← whole; standAt e.pos; holding [v] (truthy v)) := by intro _; rfl) : PT X e (canonT X.K ms (uTruL ul)) :=
  PT.imp (pt_truth h he) fun σ H Q ⟨g, ρ, st, b, st', R, hu, k⟩ => by
    unfold uTruL at hu
    obtain ⟨⟨ds, st1⟩, h1, hu⟩ := Option.map_eq_some_iff.mp hu
    cases hu
    exact ⟨g, ρ, st, ds, _, R, h1, fun p vs H1 e1 s1 hp np r => ⟨_, .inl ⟨vs, hp, by rw [isEmpty_rel r]⟩, k H1 e1 s1⟩⟩
/-- sep.join(xs) -/
def uJoin (z : Str) (a : UL) : UE := fun ρ st => (a ρ st).bind fun x => (asS x.1).bind fun ys => if (ys.map (·.length)).sum + ys.length * z.length ≤ 100000 then some (.str (Txt.join z ys), x.2) else none
theorem pd_join {z : Str} {j : Nat} {p0 apos pos : Pos} {a : Expr} (ha : PE X a (canonL X.K ms ul)) (hs : starEach [a] X.env = [(false, eval a X.env)] := by rfl) (hbase : attributeBase (.Constant (.str z) j p0) "join" X.env (eval (.Constant (.str z) j p0) X.env) = eval (.Constant (.str z) j p0) X.env := by rfl)
    (hline : (apos.endLine == pos.line) = true := by rfl) : PE X (.Call (.Attribute (.Constant (.str z) j p0) "join" apos) [a] [] pos) (canon X.K ms (uJoin z ul)) :=
  PE.imp (pe_join pe_str ha hs hbase hline) fun σ H Q ⟨g, ρ, st, d, st', R, hu, k⟩ => by
    unfold uJoin at hu
    obtain ⟨⟨ds, st1⟩, h1, hu⟩ := Option.bind_eq_some_iff.mp hu
    obtain ⟨ys, h2, hu⟩ := Option.bind_eq_some_iff.mp hu
    by_cases c : (ys.map (·.length)).sum + ys.length * z.length ≤ 100000
    · rw [if_pos c] at hu
      cases hu
      refine ⟨⟨z, rfl⟩, g, ρ, st, ds, _, R, h1, fun p vs H1 e1 s1 hp np r => ?_⟩
      have e := asS_eq (show asS ds = some ys from h2)
      subst e
      have q := r.strs
      subst q
      exact ⟨z, p, ys, rfl, rfl, .inl hp, by omega, k _ H1 e1 s1 (.str _)⟩
    · rw [if_neg c] at hu
      cases hu
/-- s[k] of the drawing list -/
def s4at (st : St4) : Int → Option Int
  | 0 => some st.1
  | 1 => some st.2.1
  | 2 => some st.2.2.1
  | 3 => some st.2.2.2
  | _ => none
def uSrcAt (i : Nat) (k : Int) : UE := fun ρ st => (gv ρ i).bind fun _ => (s4at st k).map fun z => (.int z, st)
theorem pd_srcAt (i : Nat) {x : Str} {k : Int} {j : Nat} {p q pos : Pos} (hm : ms[i]? = some .sr := by rfl) (hN : X.N[i]? = some x := by rfl) (hv : Vis X.env.scope x := by first | exact Or.inl rfl | exact Or.inr (Or.inl rfl) | exact Or.inr (Or.inr rfl))
    (hd : (x == ("__debug__" : Str)) = false := by decide) (hcd : (x == ("__classdict__" : Str)) = false := by decide) (hs : PlainIx (.Constant (.int k) j q) := by exact fun _ _ => rfl) : PE X (.Subscript (.Name x p) (.Constant (.int k) j q) pos) (canon X.K ms (uSrcAt i k)) :=
  PE.imp (pe_ix ix_list (pe_var hN hv hd hcd) pe_int hs) fun σ H Q ⟨g, ρ, st, d, st', R, hu, kk⟩ => by
    unfold uSrcAt at hu
    obtain ⟨d', h1, hu⟩ := Option.bind_eq_some_iff.mp hu
    obtain ⟨z, h2, hu⟩ := Option.map_eq_some_iff.mp hu
    cases hu
    obtain ⟨v, hv, a, ha, rfl⟩ := R.slot i .sr d' hm (gv_some h1)
    refine ⟨.ref a, hv, a, s4 st, k, .int z, rfl, rfl, .inl (.inl (R.src a ha)), ?_, kk _ H Stp.refl R.src (.int _)⟩
    unfold s4at at h2
    split at h2 <;> first
      | (cases h2; rfl)
      | (cases h2)
end

/-! ### slots stored -/
section
variable {K : PySem.W.Frag} {g : Gh} {ms : List Mo} {σ : St} {H H1 H' : Hp} {ρ : En} {st st' : St4}
theorem own_set {i : Nat} {m : Mo} {x : Option V} (hm : ms[i]? = some m) (n : m ≠ .own) : Own ms (σ.set i x) = Own ms σ := by
  funext a
  refine propext ⟨fun ⟨j, h1, h2⟩ => ?_, fun ⟨j, h1, h2⟩ => ?_⟩
  · by_cases e : i = j
    · subst e
      rw [hm] at h1
      exact absurd (Option.some.inj h1) n
    · rw [List.getElem?_set_ne e] at h2
      exact ⟨j, h1, h2⟩
  · by_cases e : i = j
    · subst e
      rw [hm] at h1
      exact absurd (Option.some.inj h1) n
    · exact ⟨j, h1, by rw [List.getElem?_set_ne e]; exact h2⟩
theorem ex_set {i : Nat} {m : Mo} {x : Option V} (hm : ms[i]? = some m) (n : m ≠ .own) : Ex g ms (σ.set i x) = Ex g ms σ := by
  funext a
  unfold Ex
  rw [own_set hm n]
theorem lt_of_get {α : Type} {l : List α} {i : Nat} {x : α} (h : l[i]? = some x) : i < l.length := (List.getElem?_eq_some_iff.mp h).1
theorem Rel.setFz (R : Rel K g ms σ H ρ st) {i : Nat} {v : V} {d : D} (hm : ms[i]? = some .fz) (r : Rp K (hid H (Ex g ms σ)) v d) : Rel K g ms (σ.set i (some v)) H (ρ.set i (some d)) st := by
  have hx : Ex g ms (σ.set i (some v)) = Ex g ms σ := ex_set hm (by decide)
  have ho : Own ms (σ.set i (some v)) = Own ms σ := own_set hm (by decide)
  refine ⟨R.gok, by rw [List.length_set]; exact R.l1, by rw [List.length_set]; exact R.l2, R.src, R.bk, fun j m e h1 h2 => ?_, fun p h => R.ownB p (by rw [ho] at h; exact h), fun j k p h1 h2 h3 h4 => ?_⟩
  · by_cases c : i = j
    · subst c
      rw [List.getElem?_set_self (by rw [R.l2]; exact lt_of_get hm)] at h2
      cases h2
      rw [hm] at h1
      cases h1
      refine ⟨v, List.getElem?_set_self (by rw [R.l1]; exact lt_of_get hm), ?_⟩
      show Rp K (hid H (Ex g ms (σ.set i (some v)))) v d
      rw [hx]
      exact r
    · rw [List.getElem?_set_ne c] at h2
      obtain ⟨w, hw, s⟩ := R.slot j m e h1 h2
      refine ⟨w, by rw [List.getElem?_set_ne c]; exact hw, ?_⟩
      unfold SlotOk at s ⊢
      rw [hx]
      exact s
  · have cj : i ≠ j := fun c => by
      subst c
      rw [hm] at h1
      cases h1
    have ck : i ≠ k := fun c => by
      subst c
      rw [hm] at h2
      cases h2
    rw [List.getElem?_set_ne cj] at h3
    rw [List.getElem?_set_ne ck] at h4
    exact R.ownD j k p h1 h2 h3 h4
/-- a new list goes into an own slot -/
theorem Rel.setOwn (R : Rel K g ms σ H ρ st) {i : Nat} {p : Addr} {vs : List V} {ds : List D} (hm : ms[i]? = some .own) (e : Stp g H H') (s : Src g.as H' st') (np : H p = none) (hp : H' p = some (.lst vs)) (r : RpA K (hid H' fun b => Ex g ms σ b ∨ b = p) vs ds) :
    Rel K g ms (σ.set i (some (.ref p))) H' (ρ.set i (some (.lst ds))) st' ∧ Same (hid H fun b => Ex g ms σ b) (hid H' (Ex g ms (σ.set i (some (.ref p))))) := by
  have R1 := R.step e s
  have hi1 : i < σ.length := by rw [R.l1]; exact lt_of_get hm
  have hi2 : i < ρ.length := by rw [R.l2]; exact lt_of_get hm
  -- what is own behind it
  have own1 : ∀ a, Own ms (σ.set i (some (.ref p))) a → Own ms σ a ∨ a = p := fun a ⟨j, h1, h2⟩ => by
    by_cases c : i = j
    · subst c
      rw [List.getElem?_set_self hi1] at h2
      cases h2
      exact .inr rfl
    · rw [List.getElem?_set_ne c] at h2
      exact .inl ⟨j, h1, h2⟩
  have sub : ∀ b, Ex g ms (σ.set i (some (.ref p))) b → Ex g ms σ b ∨ b = p := fun b h => h.elim (fun z => .inl (.inl z)) fun z => (own1 b z).elim (fun z => .inl (.inr z)) .inr
  have sm1 : Same (hid H' fun b => Ex g ms σ b ∨ b = p) (hid H' (Ex g ms (σ.set i (some (.ref p))))) := hid_mono fun b o q z => ⟨fun w => q (sub b w), z⟩
  have sm0 : Same (hid H (Ex g ms σ)) (hid H' fun b => Ex g ms σ b ∨ b = p) := hid_mono fun b o q z => by
    refine ⟨fun w => w.elim q fun w => ?_, e b o z (R.asEx q)⟩
    rw [w, np] at z
    cases z
  have sm := Same.trans sm0 sm1
  refine ⟨⟨R.gok, by rw [List.length_set]; exact R.l1, by rw [List.length_set]; exact R.l2, s, R1.bk, fun j m d h1 h2 => ?_, fun q h => ?_, fun j k q h1 h2 h3 h4 => ?_⟩, sm⟩
  · by_cases c : i = j
    · subst c
      rw [List.getElem?_set_self hi2] at h2
      cases h2
      rw [hm] at h1
      cases h1
      exact ⟨.ref p, List.getElem?_set_self hi1, p, vs, ds, rfl, rfl, hp, RpA.mono sm1 r⟩
    · rw [List.getElem?_set_ne c] at h2
      obtain ⟨w, hw, sl⟩ := R.slot j m d h1 h2
      refine ⟨w, by rw [List.getElem?_set_ne c]; exact hw, ?_⟩
      cases m with
      | fz => exact Rp.mono sm sl
      | sh =>
        obtain ⟨p', vs', ds', a1, a2, a3, a4, a5⟩ := sl
        exact ⟨p', vs', ds', a1, a2, a3, a4, RpA.mono sm a5⟩
      | own =>
        obtain ⟨p', vs', ds', a1, a2, a3, a5⟩ := sl
        exact ⟨p', vs', ds', a1, a2, e p' _ a3 (R.ownNe ⟨j, h1, by rw [hw, a1]⟩), RpA.mono sm a5⟩
      | sr => exact sl
      | me _ => exact sl
  · rcases own1 q h with h | h
    · exact R1.ownB q h
    · subst h
      exact ⟨R.freshB np, by rw [hp]; exact fun z => by cases z⟩
  · have ne : ∀ l, i ≠ l → ms[l]? = some .own → σ[l]? = some (some (.ref p)) → False := fun l _ a b => (R.ownB p ⟨l, a, b⟩).2 np
    by_cases cj : i = j
    · by_cases ck : i = k
      · rw [← cj, ← ck]
      · subst cj
        rw [List.getElem?_set_self hi1] at h3
        cases h3
        rw [List.getElem?_set_ne ck] at h4
        exact (ne k ck h2 h4).elim
    · by_cases ck : i = k
      · subst ck
        rw [List.getElem?_set_self hi1] at h4
        cases h4
        rw [List.getElem?_set_ne cj] at h3
        exact (ne j cj h1 h3).elim
      · rw [List.getElem?_set_ne cj] at h3
        rw [List.getElem?_set_ne ck] at h4
        exact R.ownD j k q h1 h2 h3 h4
/-- an own list changes -/
theorem Rel.mutOwn (R : Rel K g ms σ H ρ st) {i : Nat} {p : Addr} {vs : List V} {ds : List D} (hm : ms[i]? = some .own) (hs : σ[i]? = some (some (.ref p))) (r : RpA K (hid H (Ex g ms σ)) vs ds) :
    Rel K g ms σ (upd H p (.lst vs)) (ρ.set i (some (.lst ds))) st ∧ Same (hid H (Ex g ms σ)) (hid (upd H p (.lst vs)) (Ex g ms σ)) := by
  have ow : Own ms σ p := ⟨i, hm, hs⟩
  have hi2 : i < ρ.length := by rw [R.l2]; exact lt_of_get hm
  have sm : Same (hid H (Ex g ms σ)) (hid (upd H p (.lst vs)) (Ex g ms σ)) := hid_mono fun b o q z => ⟨q, by
    rw [upd_ne (fun c => q (by rw [c]; exact .inr ow))]
    exact z⟩
  refine ⟨⟨R.gok, R.l1, by rw [List.length_set]; exact R.l2, fun a h => ?_, fun b o h n => ?_, fun j m d h1 h2 => ?_, fun q h => ⟨(R.ownB q h).1, ?_⟩, R.ownD⟩, sm⟩
  · rw [upd_ne (fun c => R.ownNe ow (by rw [← c]; exact h))]
    exact R.src a h
  · rw [upd_ne (fun c => by rw [c, (R.ownB p ow).1] at h; cases h)]
    exact R.bk b o h n
  · by_cases c : i = j
    · subst c
      rw [List.getElem?_set_self hi2] at h2
      cases h2
      rw [hm] at h1
      cases h1
      exact ⟨.ref p, hs, p, vs, ds, rfl, rfl, upd_same, RpA.mono sm r⟩
    · rw [List.getElem?_set_ne c] at h2
      obtain ⟨w, hw, sl⟩ := R.slot j m d h1 h2
      refine ⟨w, hw, ?_⟩
      cases m with
      | fz => exact Rp.mono sm sl
      | sh =>
        obtain ⟨p', vs', ds', a1, a2, a3, a4, a5⟩ := sl
        exact ⟨p', vs', ds', a1, a2, a3, a4, RpA.mono sm a5⟩
      | own =>
        obtain ⟨p', vs', ds', a1, a2, a3, a5⟩ := sl
        refine ⟨p', vs', ds', a1, a2, ?_, RpA.mono sm a5⟩
        rw [upd_ne (fun z => c (R.ownD i j p hm h1 hs (by rw [hw, a1, z])))]
        exact a3
      | sr => exact sl
      | me _ => exact sl
  · by_cases c : q = p
    · rw [c, upd_same]
      exact fun z => by cases z
    · rw [upd_ne c]
      exact (R.ownB q h).2
/-- the drawing list changes -/
theorem Rel.mutSrc (R : Rel K g ms σ H ρ st) {a : Addr} (ha : g.as = some a) : Rel K g ms σ (upd H a (.lst (s4 st'))) ρ st' ∧ Same (hid H (Ex g ms σ)) (hid (upd H a (.lst (s4 st'))) (Ex g ms σ)) := by
  have e : Stp g H (upd H a (.lst (s4 st'))) := fun b o z n => by
    rw [upd_ne (fun c => n (by rw [c]; exact ha))]
    exact z
  exact ⟨R.step e fun b q => by
    rw [ha] at q
    cases q
    exact upd_same, R.sm e⟩
/-- slots are forgotten -/
def wipeD (ρ : En) : List Nat → En
  | [] => ρ
  | v :: vs => (wipeD ρ vs).set v none
theorem Rel.forget (R : Rel K g ms σ H ρ st) : ∀ vs : List Nat, (∀ v ∈ vs, ms[v]? = some .fz) → Rel K g ms (wipe σ vs) H (wipeD ρ vs) st ∧ Ex g ms (wipe σ vs) = Ex g ms σ
  | [], _ => ⟨R, rfl⟩
  | v :: vs, h => by
    obtain ⟨R1, e1⟩ := Rel.forget R vs fun w hw => h w (List.mem_cons_of_mem _ hw)
    have hm := h v List.mem_cons_self
    have hx : Ex g ms ((wipe σ vs).set v none) = Ex g ms (wipe σ vs) := ex_set hm (by decide)
    have ho : Own ms ((wipe σ vs).set v none) = Own ms (wipe σ vs) := own_set hm (by decide)
    refine ⟨?_, hx.trans e1⟩
    show Rel K g ms ((wipe σ vs).set v none) H ((wipeD ρ vs).set v none) st
    refine ⟨R.gok, by rw [List.length_set]; exact R1.l1, by rw [List.length_set]; exact R1.l2, R.src, R.bk, fun j m d h1 h2 => ?_, fun p q => R1.ownB p (by rw [ho] at q; exact q), fun j k p h1 h2 h3 h4 => ?_⟩
    · by_cases c : v = j
      · subst c
        rw [List.getElem?_set_self (by rw [R1.l2]; exact lt_of_get hm)] at h2
        cases h2
      · rw [List.getElem?_set_ne c] at h2
        obtain ⟨w, hw, s⟩ := R1.slot j m d h1 h2
        refine ⟨w, by rw [List.getElem?_set_ne c]; exact hw, ?_⟩
        unfold SlotOk at s ⊢
        rw [hx]
        exact s
    · have cj : v ≠ j := fun c => by
        subst c
        rw [hm] at h1
        cases h1
      have ck : v ≠ k := fun c => by
        subst c
        rw [hm] at h2
        cases h2
      rw [List.getElem?_set_ne cj] at h3
      rw [List.getElem?_set_ne ck] at h4
      exact R1.ownD j k p h1 h2 h3 h4

/-! ### targets -/
def TgOk (K : PySem.W.Frag) (ms : List Mo) (vs : List Nat) (tg : TG) (bd : D → En → Option En) : Prop := ∀ (g : Gh) (σ : St) (H : Hp) (ρ : En) (st : St4) (v : V) (d : D) (ρ' : En), Rel K g ms σ H ρ st → Rp K (hid H (Ex g ms σ)) v d → bd d ρ = some ρ' →
  ∀ Q : St → Hp → Prop, (∀ σ', Rel K g ms σ' H ρ' st → Ex g ms σ' = Ex g ms σ → wipe σ' vs = wipe σ vs → Q σ' H) → tg v σ H Q
def bName (i : Nat) (d : D) (ρ : En) : Option En := some (ρ.set i (some d))
def bNames : List Nat → List D → En → Option En
  | [], [], ρ => some ρ
  | i :: is, d :: ds, ρ => bNames is ds (ρ.set i (some d))
  | _, _, _ => none
def bTup (is : List Nat) (d : D) (ρ : En) : Option En := match d with
  | .tup ds => bNames is ds ρ
  | _ => none
theorem wipe_get (σ : St) : ∀ (vs : List Nat) (j : Nat), (wipe σ vs)[j]? = if j ∈ vs ∧ j < σ.length then some none else σ[j]?
  | [], j => by simp [wipe]
  | v :: vs, j => by
    have ih := wipe_get σ vs j
    show ((wipe σ vs).set v none)[j]? = _
    by_cases c : v = j
    · subst c
      by_cases l : v < σ.length
      · rw [List.getElem?_set_self (by rw [wipe_length]; exact l), if_pos ⟨List.mem_cons_self, l⟩]
      · rw [if_neg (fun z => l z.2), List.getElem?_eq_none (by rw [List.length_set, wipe_length]; omega), List.getElem?_eq_none (by omega)]
    · rw [List.getElem?_set_ne c, ih]
      have : (j ∈ v :: vs) ↔ j ∈ vs := by
        rw [List.mem_cons]
        exact ⟨fun z => z.resolve_left fun e => c e.symm, .inr⟩
      simp only [this]
theorem wipe_set (σ : St) (x : Option V) {i : Nat} {vs : List Nat} (h : i ∈ vs) : wipe (σ.set i x) vs = wipe σ vs := by
  apply List.ext_getElem?
  intro j
  rw [wipe_get, wipe_get, List.length_set]
  by_cases c : i = j
  · subst c
    by_cases l : i < σ.length
    · rw [if_pos ⟨h, l⟩, if_pos ⟨h, l⟩]
    · rw [if_neg (fun z => l z.2), if_neg (fun z => l z.2), List.getElem?_eq_none (by rw [List.length_set]; omega), List.getElem?_eq_none (by omega)]
  · rw [List.getElem?_set_ne c]
theorem wipe_wipe (σ : St) (vs : List Nat) : wipe (wipe σ vs) vs = wipe σ vs := by
  apply List.ext_getElem?
  intro j
  rw [wipe_get, wipe_get, wipe_length]
  split
  · rfl
  · rfl
theorem tg_name {i : Nat} {vs : List Nat} (hm : ms[i]? = some .fz) (hv : i ∈ vs) : TgOk K ms vs (gName i) (bName i) := by
  intro g σ H ρ st v d ρ' R r hb Q k
  cases hb
  exact k _ (R.setFz hm r) (ex_set hm (by decide)) (wipe_set σ _ hv)
theorem tg_names {vs : List Nat} : ∀ {is : List Nat} {t : TGs}, (∀ i ∈ is, ms[i]? = some .fz ∧ i ∈ vs) → (t = is.foldr (fun i r => gCons (gName i) r) gNil) →
    ∀ (g : Gh) (σ : St) (H : Hp) (ρ : En) (st : St4) (ws : List V) (ds : List D) (ρ' : En), Rel K g ms σ H ρ st → RpA K (hid H (Ex g ms σ)) ws ds → bNames is ds ρ = some ρ' →
      ∀ Q : St → Hp → Prop, (∀ σ', Rel K g ms σ' H ρ' st → Ex g ms σ' = Ex g ms σ → wipe σ' vs = wipe σ vs → Q σ' H) → t ws σ H Q
  | [], t, _, ht, g, σ, H, ρ, st, ws, ds, ρ', R, r, hb, Q, k => by
    subst ht
    cases ds with
    | nil =>
      cases hb
      cases r
      exact ⟨rfl, k σ R rfl rfl⟩
    | cons d ds => cases hb
  | i :: is, t, hi, ht, g, σ, H, ρ, st, ws, ds, ρ', R, r, hb, Q, k => by
    subst ht
    cases ds with
    | nil => cases hb
    | cons d ds =>
      cases r with
      | @cons w ws _ _ q r =>
        obtain ⟨hm, hv⟩ := hi i List.mem_cons_self
        refine ⟨w, ws, rfl, ?_⟩
        have ex : Ex g ms (σ.set i (some w)) = Ex g ms σ := ex_set hm (by decide)
        refine tg_names (vs := vs) (is := is) (fun j hj => hi j (List.mem_cons_of_mem _ hj)) rfl g (σ.set i (some w)) H (ρ.set i (some d)) st ws ds ρ' (R.setFz hm q) (by rw [ex]; exact r) hb Q fun σ' R' e w' => k σ' R' (e.trans ex) (w'.trans (wipe_set σ _ hv))
theorem tg_tup {vs is : List Nat} {t : TGs} (hi : ∀ i ∈ is, ms[i]? = some .fz ∧ i ∈ vs) (ht : t = is.foldr (fun i r => gCons (gName i) r) gNil) : TgOk K ms vs (gTup K is.length t) (bTup is) := by
  intro g σ H ρ st v d ρ' R r hb Q k
  cases r with
  | @tup p ws ds q r =>
    have hb : bNames is ds ρ = some ρ' := hb
    have hl : ∀ {is : List Nat} {ds : List D} {ρ ρ' : En}, bNames is ds ρ = some ρ' → ds.length = is.length := fun {is} => by
      induction is with
      | nil =>
        intro ds ρ ρ' h
        cases ds with
        | nil => rfl
        | cons d ds => cases h
      | cons i is ih =>
        intro ds ρ ρ' h
        cases ds with
        | nil => cases h
        | cons d ds => exact congrArg Nat.succ (ih h)
    exact ⟨p, ws, rfl, Same.sqT hid_same q, by rw [r.length]; exact hl hb, tg_names hi ht g σ H ρ st ws ds ρ' R r hb Q k⟩
  | _ => cases hb
end

/-! ### comprehensions -/
def uLcGo (bd : D → En → Option En) (t : UT) (e : UE) (ρ0 : En) : List D → St4 → Option (List D × St4)
  | [], st => some ([], st)
  | d :: ds, st => (bd d ρ0).bind fun ρ => (t ρ st).bind fun b => if b.1 = true then (e ρ b.2).bind fun y => (uLcGo bd t e ρ0 ds y.2).map fun r => (y.1 :: r.1, r.2) else uLcGo bd t e ρ0 ds b.2
def uLc (vs : List Nat) (it : UL) (bd : D → En → Option En) (t : UT) (e : UE) : UL := fun ρ st => (it ρ st).bind fun x => if x.1.length ≤ 100000 then uLcGo bd t e (wipeD ρ vs) x.1 x.2 else none
def tYesU : UT := fun _ st => some (true, st)
section
variable {K : PySem.W.Frag} {ms : List Mo} {vs : List Nat}
/-- the state ahead of a turn: D the new list -/
structure LcSt (K : PySem.W.Frag) (g : Gh) (ms : List Mo) (σ : St) (H1 : Hp) (ρ : En) (D : Addr) (bd : Fw.D → En → Option En) (t : UT) (e : UE) (vs : List Nat) (fin : List Fw.D) (stf : St4) (i : Nat) (rest : List Fw.D) (H : Hp) : Prop where
  ex : ∃ (st : St4) (acc : List V) (da dr : List Fw.D), H D = some (.lst acc) ∧ acc.length ≤ i ∧ RpA K (hid H fun b => Ex g ms σ b ∨ b = D) acc da ∧ (∀ b o, H1 b = some o → g.as ≠ some b → H b = some o) ∧ Src g.as H st ∧
    uLcGo bd t e (wipeD ρ vs) rest st = some (dr, stf) ∧ fin = da ++ dr
theorem lc_turn {g : Gh} {σ : St} {H1 H : Hp} {ρ : En} {st1 stf : St4} {Dl : Addr} {bd : D → En → Option En} {t : UT} {e : UE} {fin rest : List D} {i : Nat} {d : D} {v : V} {tg : TG} (R1 : Rel K g ms σ H1 ρ st1) (nD : H1 Dl = none) (hv : ∀ v ∈ vs, ms[v]? = some .fz) (T : TgOk K ms vs tg bd)
    (hi : i < 100000) (L : LcSt K g ms σ H1 ρ Dl bd t e vs fin stf i (d :: rest) H) (rv : Rp K (hid H fun b => Ex g ms σ b ∨ b = Dl) v d) :
    tg v (wipe σ vs) H fun σ2 H2 => wipe σ2 vs = wipe σ vs ∧ canonT K ms t σ2 H2 fun b H3 =>
      if b = true then canon K ms e σ2 H3 fun y H4 => ∃ acc, H4 Dl = some (.lst acc) ∧ acc.length < sizeLine ∧ LcSt K g ms σ H1 ρ Dl bd t e vs fin stf (i + 1) rest (upd H4 Dl (.lst (acc ++ [y]))) else LcSt K g ms σ H1 ρ Dl bd t e vs fin stf (i + 1) rest H3 := by
  obtain ⟨st, acc, da, dr, hD, hl, ra, hk, hs, hu, hf⟩ := L.ex
  have nDas : g.as ≠ some Dl := fun z => by
    have := R1.src Dl z
    rw [nD] at this
    cases this
  have nDF : ¬ Ex g ms σ Dl := R1.freshEx nD
  -- the ghost of this turn
  let g2 : Gh := ⟨g.as, fun b => g.F b ∨ b = Dl, fun b => if b = Dl then H Dl else g.B b⟩
  obtain ⟨Rw, exw⟩ := R1.forget vs hv
  have ex2 : ∀ b, Ex g2 ms (wipe σ vs) b ↔ (Ex g ms σ b ∨ b = Dl) := fun b => by
    rw [← exw]
    exact ⟨fun z => z.elim (fun z => z.elim (fun z => .inl (.inl z)) .inr) fun z => .inl (.inr z), fun z => z.elim (fun z => z.elim (fun z => .inl (.inl z)) .inr) fun z => .inl (.inr z)⟩
  have exE : Ex g2 ms (wipe σ vs) = fun b => Ex g ms σ b ∨ b = Dl := funext fun b => propext (ex2 b)
  have B2D : g2.B Dl = H Dl := if_pos rfl
  have B2 : ∀ b, b ≠ Dl → g2.B b = g.B b := fun b n => if_neg n
  have sm : Same (hid H1 (Ex g ms σ)) (hid H fun b => Ex g ms σ b ∨ b = Dl) := hid_mono fun b o q z => by
    refine ⟨fun w => w.elim q fun w => ?_, hk b o z (R1.asEx q)⟩
    rw [w, nD] at z
    cases z
  have bDn : g.B Dl = none := R1.freshB nD
  have R2 : Rel K g2 ms (wipe σ vs) H (wipeD ρ vs) st := by
    refine ⟨⟨fun a q => .inl (R1.gok.asF a q), fun a q => ?_⟩, Rw.l1, Rw.l2, hs, fun b o q n => ?_, fun j m d' h1 h2 => ?_, fun p q => ?_, fun j k p h1 h2 h3 h4 => Rw.ownD j k p h1 h2 h3 h4⟩
    · by_cases c : a = Dl
      · rw [c, B2D, hD]
        exact fun z => by cases z
      · rw [B2 a c]
        rcases q with q | q
        · exact R1.gok.live a q
        · exact absurd q c
    · by_cases c : b = Dl
      · rw [c, B2D] at q
        rw [c]
        exact q
      · rw [B2 b c] at q
        exact hk b o (R1.bk b o q n) n
    · obtain ⟨w, hw, sl⟩ := Rw.slot j m d' h1 h2
      refine ⟨w, hw, ?_⟩
      have sm2 : Same (hid H1 (Ex g ms (wipe σ vs))) (hid H (Ex g2 ms (wipe σ vs))) := by
        rw [exw, exE]
        exact sm
      cases m with
      | fz => exact Rp.mono sm2 sl
      | sh =>
        obtain ⟨p', vs', ds', a1, a2, a3, a4, a5⟩ := sl
        refine ⟨p', vs', ds', a1, a2, ?_, a4, RpA.mono sm2 a5⟩
        have nb : ∀ o, g.B p' = some o → p' ≠ Dl := fun o q c => by
          rw [c, bDn] at q
          cases q
        rcases a3 with (h | ⟨o, h⟩) | h
        · exact .inl (.inl (by rw [B2 p' (nb _ h)]; exact h))
        · exact .inl (.inr ⟨o, by rw [B2 p' (nb _ h)]; exact h⟩)
        · exact .inr h
      | own =>
        obtain ⟨p', vs', ds', a1, a2, a3, a5⟩ := sl
        exact ⟨p', vs', ds', a1, a2, hk p' _ a3 (Rw.ownNe ⟨j, h1, by rw [hw, a1]⟩), RpA.mono sm2 a5⟩
      | sr => exact sl
      | me _ => exact sl
    · obtain ⟨q1, q2⟩ := Rw.ownB p q
      have c : p ≠ Dl := fun c => q2 (by rw [c]; exact nD)
      refine ⟨by rw [B2 p c]; exact q1, fun z => ?_⟩
      cases e1 : H1 p with
      | none => exact q2 e1
      | some o =>
        rw [hk p o e1 (Rw.ownNe q)] at z
        cases z
  unfold uLcGo at hu
  obtain ⟨ρ', h1, hu⟩ := Option.bind_eq_some_iff.mp hu
  obtain ⟨⟨b, st2⟩, h2, hu⟩ := Option.bind_eq_some_iff.mp hu
  refine T g2 (wipe σ vs) H (wipeD ρ vs) st v d ρ' R2 (by rw [exE]; exact rv) h1 _ fun σ2 R3 ex3 w3 => ⟨w3.trans (wipe_wipe σ vs), ?_⟩
  refine ⟨g2, ρ', st, b, st2, R3, h2, fun H3 e3 s3 => ?_⟩
  have R4 := R3.step e3 s3
  have ne2 : ∀ {H3 H4 : Hp}, Stp g2 H3 H4 → ∀ b o, H3 b = some o → g.as ≠ some b → H4 b = some o := fun e b o z n => e b o z n
  cases b with
  | true =>
    have hu : ((e ρ' st2).bind fun y => (uLcGo bd t e (wipeD ρ vs) rest y.2).map fun r => (y.1 :: r.1, r.2)) = some (dr, stf) := hu
    obtain ⟨⟨dy, st3⟩, h3, hu⟩ := Option.bind_eq_some_iff.mp hu
    obtain ⟨⟨dr', st4⟩, h4, hu⟩ := Option.map_eq_some_iff.mp hu
    cases hu
    show canon K ms e σ2 H3 _
    refine ⟨g2, ρ', st2, dy, st3, R4, h3, fun y H4 e4 s4 ry => ?_⟩
    rw [ex3, exE] at ry
    have hD4 : H4 Dl = some (.lst acc) := ne2 e4 _ _ (ne2 e3 _ _ hD nDas) nDas
    have smA : Same (hid H fun b => Ex g ms σ b ∨ b = Dl) (hid H4 fun b => Ex g ms σ b ∨ b = Dl) := hid_mono fun b o q z => by
      have na : g.as ≠ some b := fun w => q (.inl (.inl (R1.gok.asF b w)))
      exact ⟨q, ne2 e4 _ _ (ne2 e3 _ _ z na) na⟩
    have smD : Same (hid H4 fun b => Ex g ms σ b ∨ b = Dl) (hid (upd H4 Dl (.lst (acc ++ [y]))) fun b => Ex g ms σ b ∨ b = Dl) := hid_mono fun b o q z => ⟨q, by
      rw [upd_ne (fun c => q (.inr c))]
      exact z⟩
    refine ⟨acc, hD4, Nat.lt_of_le_of_lt (Nat.le_trans hl (Nat.le_of_lt hi)) (by decide), ⟨st3, acc ++ [y], da ++ [dy], dr', upd_same, by rw [List.length_append]; exact Nat.succ_le_succ hl, (RpA.mono smD (RpA.mono smA ra)).app (.cons (Rp.mono smD ry) .nil), fun b o z n => ?_, fun a z => ?_, h4, by rw [hf]; simp⟩⟩
    · rw [upd_ne (fun c => by rw [c, nD] at z; cases z)]
      exact ne2 e4 _ _ (ne2 e3 _ _ (hk b o z n) n) n
    · rw [upd_ne (fun c => nDas (by rw [← c]; exact z))]
      exact s4 a z
  | false =>
    have hu : uLcGo bd t e (wipeD ρ vs) rest st2 = some (dr, stf) := hu
    show LcSt K g ms σ H1 ρ Dl bd t e vs fin stf (i + 1) rest H3
    refine ⟨st2, acc, da, dr, ne2 e3 _ _ hD nDas, Nat.le_succ_of_le hl, RpA.mono (hid_mono fun b o q z => ⟨q, ne2 e3 _ _ z fun w => q (.inl (.inl (R1.gok.asF b w)))⟩) ra, fun b o z n => ne2 e3 _ _ (hk b o z n) n, s3, hu, hf⟩
end
end Fw
set_option Elab.async false
set_option linter.all false
set_option maxRecDepth 100000
set_option maxHeartbeats 4000000
/-! Fw6: what is walked; comprehensions; min of a tuple. -/
namespace Fw
open PySem PySem.Spec L2

/-! ### min of a tuple of ints -/
section
open PyProof.Rows
variable {prog : Program} {w : World} {A : Around} {E : Value → Shared → Prop} {s : Shared} {T : Addr}
theorem tupIter_kept {g : Heap} (k : ∀ b o, b ∉ [s.heap.objs.size] → (s.heap.push { cls := .type "tuple_iterator", data := .fields #[.ref T, .int 0 0] }).get? b = some o → g.get? b = some o) {b : Addr} {o : Obj} (e : s.heap.get? b = some o) : g.get? b = some o :=
  k b o (fun m => Nat.lt_irrefl _ ((List.mem_singleton.mp m) ▸ Heap.lt_size e : s.heap.objs.size < s.heap.objs.size)) (Heap.get?_push_of_some _ e)
theorem min_tupI {xs : Array (Int × Tok)} {Q : Value → Shared → Prop} (hh : A.handled = none) (hl : s.heap.IsTuple T (intItems xs)) (hne : 0 < xs.size)
    (q : ∀ v g tk, (intItems xs)[argBest (fun i j => decide (numAt xs i < numAt xs j)) (xs.size - 1)]? = some v → (∀ b o, s.heap.get? b = some o → g.get? b = some o) → Q v { s with heap := g, toks := tk }) :
    wpAny (model prog w) A (call (.builtin "min") [.ref T]) Q E s := by
  have hT : T < s.heap.objs.size := by
    obtain ⟨_, e, _⟩ := hl
    exact Heap.lt_size e
  refine call_min_walk (wpAny_pyIter_tuple hl ?_)
  refine ⟨_, _, _, _, _, _, _, rfl, Walks.tuple (A := A.in1) hh s.heap.objs.size T (Nat.ne_of_lt hT) (intItems xs), ⟨⟨_, Heap.get?_push_size _ rfl, rfl, rfl⟩, hl.push _⟩, fun b hb => ?_, by simpa [intItems] using hne,
    CmpOf.ints_lt (numAt xs) (fun _ _ => intItems_at), fun v g tk hP k => q v g tk (by simpa [intItems] using hP) fun b o e => tupIter_kept k e⟩
  show b < (s.heap.push _).objs.size
  rw [Heap.size_push]
  rcases List.mem_cons.mp hb with e | hb
  · rw [e]
    exact Nat.lt_succ_self _
  · rw [List.mem_singleton.mp hb]
    exact Nat.lt_succ_of_lt hT
theorem min_tup {its : List Value} {ns : List Int} {Q : Value → Shared → Prop} (hh : A.handled = none) (hl : s.heap.IsTuple T its.toArray) (hi : IntsAre its ns) (hne : 0 < ns.length)
    (q : ∀ g tk m t, (∀ b o, s.heap.get? b = some o → g.get? b = some o) → m ∈ ns → (∀ a, a ∈ ns → m ≤ a) → Q (.int m t) { s with heap := g, toks := tk }) : wpAny (model prog w) A (call (.builtin "min") [.ref T]) Q E s := by
  obtain ⟨xs, e⟩ := hi.allInts.items
  have hn : numsOf (intItems xs).toList = ns := (congrArg (fun z : Array Value => numsOf z.toList) e).symm.trans hi.numsOf
  rw [nums_intItems] at hn
  subst hn
  rw [e] at hl
  refine min_tupI hh hl (by simpa using hne) fun v g tk hv k => ?_
  obtain ⟨t, rfl⟩ := intItems_at hv
  obtain ⟨h1, h2⟩ := argBest_lt (numAt xs) (xs.size - 1)
  have hsz : 0 < xs.size := by simpa using hne
  refine q g tk _ t k ?_ fun a ha => ?_
  · rw [numAt_eq]
    exact PySem.getD_mem (by rw [List.length_map, Array.length_toList]; omega)
  · obtain ⟨j, hj, rfl⟩ := mem_getD ha
    rw [List.length_map, Array.length_toList] at hj
    exact (numAt_eq xs j) ▸ h2 j (by omega)
end
/-- min of a list or of a tuple of ints -/
def rMinA (K : PySem.W.Frag) : List V → Hp → VK → Prop := fun vs H Q => ∃ (a : Addr) (ns : List Int), vs = [V.ref a] ∧ (SqL K H a (ns.map V.int) ∨ SqT K H a (ns.map V.int)) ∧ 0 < ns.length ∧ ∀ m, m ∈ ns → (∀ y, y ∈ ns → m ≤ y) → Q (.int m) H
theorem cr_minA {X : Cx} (hc : X.calm = true) : CallR X (.builtin "min") (rMinA X.K) := by
  intro pins s σ H vs us Q I r h
  obtain ⟨a, ns, rfl, hs | hs, hne, q⟩ := h
  · exact cr_min hc pins s σ H _ us Q I r ⟨a, ns, rfl, hs, hne, q⟩
  · obtain ⟨its, rv, hl, _⟩ := I.tuple hs
    rw [Vals.ref1 r]
    exact min_tup (I.ok.hd hc) (show s.heap.IsTuple a its.toArray from hl) rv.ints hne fun g tk m t k h1 h2 => ⟨.int _, H, I.kept k, ⟨_, rfl⟩, q m h1 h2⟩
def dMinA : D → Option D
  | .lst ds => lMin ds
  | .tup ds => lMin ds
  | _ => none
theorem min_of {ns : List Int} {d : D} (h : lMin (ns.map .int) = some d) : 0 < ns.length ∧ ∀ m, m ∈ ns → (∀ y, y ∈ ns → m ≤ y) → d = .int m := by
  unfold lMin at h
  rw [asI_map] at h
  cases ns with
  | nil => cases h
  | cons n ns =>
    cases h
    refine ⟨Nat.succ_pos _, fun m hm hle => ?_⟩
    obtain ⟨a1, a2, a3⟩ := foldl_min_le ns n
    have hl := hle (ns.foldl min n) (by
      rcases a3 with a3 | a3
      · rw [a3]
        exact List.mem_cons_self
      · exact List.mem_cons_of_mem _ a3)
    have hu : ns.foldl min n ≤ m := by
      rcases List.mem_cons.mp hm with rfl | hm
      · exact a1
      · exact a2 m hm
    exact congrArg D.int (by omega)
theorem rc_minA {K : PySem.W.Frag} : RC1 K (rMinA K) dMinA := by
  intro A H x dx dz live rx h Q k
  have go : ∀ {vs : List V} {ds : List D}, RpA K (hid H A) vs ds → lMin ds = some dz → ∃ ns : List Int, vs = ns.map V.int ∧ 0 < ns.length ∧ ∀ m, m ∈ ns → (∀ y, y ∈ ns → m ≤ y) → dz = .int m := fun {vs ds} r h => by
    cases e : asI ds with
    | none =>
      unfold lMin at h
      rw [e] at h
      cases h
    | some ns =>
      have z := asI_eq e
      subst z
      have z := r.ints
      exact ⟨ns, z, min_of h⟩
  cases rx with
  | @lst p vs ds q r =>
    obtain ⟨ns, rfl, h1, h2⟩ := go r h
    exact ⟨p, ns, rfl, .inl (.inl (.inl (hid_some q).2)), h1, fun m hm hle => k _ H (fun _ _ z => z) (by rw [h2 m hm hle]; exact .int m)⟩
  | @tup p vs ds q r =>
    obtain ⟨ns, rfl, h1, h2⟩ := go r h
    exact ⟨p, ns, rfl, .inr (Same.sqT hid_same q), h1, fun m hm hle => k _ H (fun _ _ z => z) (by rw [h2 m hm hle]; exact .int m)⟩
  | _ => cases h

/-! ### what is walked -/
/-- a list or a tuple -/
def iAny (K : PySem.W.Frag) (tl : TE) : TI := fun σ H R => tl σ H fun x H1 => ∃ a, x = .ref a ∧ (((∃ xs, SqL K H1 a xs) ∧ R (Itl K a) H1) ∨ ((∃ xs, SqT K H1 a xs) ∧ R (Itt K a) H1))
theorem pi_any {X : Cx} {tg l : Expr} {tl : TE} (hl : PE X l tl) : PI X tg l (iAny X.K tl) := by
  refine ⟨fun pins s σ H R I h => ?_⟩
  refine thn (hl.run pins s σ H _ I h) fun v s1 ⟨x, H1, I1, r1, q1⟩ => ?_
  obtain ⟨a, e, q⟩ := q1
  subst e
  cases r1
  have nw : ∀ {ob : Obj}, ∀ b ∈ [s1.heap.objs.size], FpOk X pins H1 b := fun {ob} b hb => by
    rw [List.mem_singleton.mp hb]
    exact I1.fpOk (Nat.le_refl _) (I1.hok.fresh (Nat.le_refl _))
  rcases q with ⟨⟨xs, hq⟩, q⟩ | ⟨⟨xs, hq⟩, q⟩
  · obtain ⟨its, rv, p, hz⟩ := I1.list hq
    exact wpAny_pyIter_list p.isList ⟨s1.heap.objs.size, [s1.heap.objs.size], _, _, H1, rfl, I1.kept (t' := s1.toks) fun b o e => Heap.get?_push_of_some _ e, turn_list a _, ⟨_, Heap.get?_push_size _ rfl, rfl, rfl⟩, nw (ob := default), q⟩
  · obtain ⟨its, rv, p, hz⟩ := I1.tuple hq
    exact wpAny_pyIter_tuple (show s1.heap.IsTuple a its.toArray from p) ⟨s1.heap.objs.size, [s1.heap.objs.size], _, _, H1, rfl, I1.kept (t' := s1.toks) fun b o e => Heap.get?_push_of_some _ e, turn_tuple a _, ⟨_, Heap.get?_push_size _ rfl, rfl, rfl⟩, nw (ob := default), q⟩
/-- items of a list or a tuple -/
def uItems (a : UE) : UL := fun ρ st => (a ρ st).bind fun x => match x.1 with
  | .lst ds => some (ds, x.2)
  | .tup ds => some (ds, x.2)
  | _ => none
/-- range(n), range(a, b) -/
def rng (a b : Int) : List D := (List.range (b - a).toNat).map fun i => D.int (a + (i : Nat))
def uRng1 (a : UE) : UL := fun ρ st => (a ρ st).bind fun x => match x.1 with
  | .int n => if -(2 ^ 62) ≤ n ∧ n < 2 ^ 62 then some (rng 0 n, x.2) else none
  | _ => none
def uRng2 (a b : UE) : UL := fun ρ st => (a ρ st).bind fun x => (b ρ x.2).bind fun y => match x.1, y.1 with
  | .int i, .int j => if -(2 ^ 62) ≤ i ∧ i < 2 ^ 62 ∧ -(2 ^ 62) ≤ j ∧ j < 2 ^ 62 then some (rng i j, y.2) else none
  | _, _ => none
/-- what a walk by J gives: the items ds, as long as the heap keeps all but the drawing list and what W allows to change -/
theorem rng_get {a b : Int} {i : Nat} {d : D} (h : (rng a b)[i]? = some d) : i < (b - a).toNat ∧ d = .int (a + i) := by
  unfold rng at h
  rw [List.getElem?_map] at h
  cases e : (List.range (b - a).toNat)[i]? with
  | none => rw [e] at h; cases h
  | some j =>
    rw [e] at h
    cases h
    obtain ⟨h1, h2⟩ := List.getElem?_eq_some_iff.mp e
    rw [List.length_range] at h1
    rw [List.getElem_range] at h2
    exact ⟨h1, by rw [h2]⟩
theorem rng_len (a b : Int) : (rng a b).length = (b - a).toNat := by
  unfold rng
  rw [List.length_map, List.length_range]
theorem rng_at {a b : Int} {i : Nat} (h : i < (b - a).toNat) : (rng a b)[i]? = some (.int (a + i)) := by
  unfold rng
  rw [List.getElem?_map, List.getElem?_range h]
  rfl
theorem drop_at {α : Type} {l : List α} {i : Nat} {x : α} (h : l[i]? = some x) : l.drop i = x :: l.drop (i + 1) := by
  obtain ⟨h1, h2⟩ := List.getElem?_eq_some_iff.mp h
  rw [List.drop_eq_getElem_cons h1, h2]

/-! ### comprehensions -/
section
variable {K : PySem.W.Frag} {ms : List Mo} {vs : List Nat} {tg : TG} {bd : D → En → Option En} {t : UT} {e : UE} {σ : St} {H : Hp} {Q : VK}
theorem lc_start {g : Gh} {H1 : Hp} {ρ : En} {st1 stf : St4} {Dl : Addr} {fin : List D} {ds : List D} (R1 : Rel K g ms σ H1 ρ st1) (nD : H1 Dl = none) (hu : uLcGo bd t e (wipeD ρ vs) ds st1 = some (fin, stf)) : LcSt K g ms σ H1 ρ Dl bd t e vs fin stf 0 ds (upd H1 Dl (.lst [])) :=
  ⟨st1, [], [], fin, upd_same, Nat.le_refl _, .nil, fun b o z n => by
    rw [upd_ne (ne_of_none z nD)]
    exact z, R1.newSrc nD, hu, rfl⟩
theorem lc_done {g : Gh} {H0 H1 H' : Hp} {ρ : En} {st0 st1 stf : St4} {Dl : Addr} {fin : List D} {i : Nat} (R0 : Rel K g ms σ H0 ρ st0) (e1 : Stp g H0 H1) (s1 : Src g.as H1 st1) (nD : H1 Dl = none) (L : LcSt K g ms σ H1 ρ Dl bd t e vs fin stf i [] H')
    (k : ∀ p vs H', Stp g H0 H' → Src g.as H' stf → H0 p = none → H' p = some (.lst vs) → RpA K (hid H' fun b => Ex g ms σ b ∨ b = p) vs fin → Q (.ref p) H') : Q (.ref Dl) H' := by
  obtain ⟨st, acc, da, dr, hD, hl, ra, hk, hs, hu, hf⟩ := L.ex
  cases hu
  rw [List.append_nil] at hf
  subst hf
  exact k Dl acc H' (fun b o z n => hk b o (e1 b o z n) n) hs (R0.freshBack e1 s1 nD) hD ra
theorem lcst_sm {g : Gh} {H1 H' : Hp} {ρ : En} {st1 stf : St4} {Dl : Addr} {fin rest : List D} {i : Nat} (R1 : Rel K g ms σ H1 ρ st1) (nD : H1 Dl = none) (L : LcSt K g ms σ H1 ρ Dl bd t e vs fin stf i rest H') : Same (hid H1 (Ex g ms σ)) (hid H' fun b => Ex g ms σ b ∨ b = Dl) := by
  obtain ⟨st, acc, da, dr, hD, hl, ra, hk, hs, hu, hf⟩ := L.ex
  exact hid_mono fun b o q z => by
    refine ⟨fun w => w.elim q fun w => ?_, hk b o z (R1.asEx q)⟩
    rw [w, nD] at z
    cases z
theorem lcst_l {g : Gh} {H1 H' : Hp} {ρ : En} {stf : St4} {Dl p : Addr} {xs : List V} {fin rest : List D} {i : Nat} (np : g.as ≠ some p) (hp : SqL K H1 p xs) (L : LcSt K g ms σ H1 ρ Dl bd t e vs fin stf i rest H') : SqL K H' p xs := by
  obtain ⟨st, acc, da, dr, hD, hl, ra, hk, hs, hu, hf⟩ := L.ex
  exact sqL_stp (g := g) (fun b o z n => hk b o z n) np hp
/-- over a list that is read where it stands -/
theorem lcL {it : UL} (hv : ∀ v ∈ vs, ms[v]? = some .fz) (T : TgOk K ms vs tg bd) (c : canonN K ms (uLc vs it bd t e) σ H Q) : tLc (iList K (canonL K ms it)) tg (canonT K ms t) (canon K ms e) vs σ H Q := by
  obtain ⟨g, ρ, st, fin, stf, R, hu, k⟩ := c
  unfold uLc at hu
  obtain ⟨⟨ds, st1⟩, h1, hu⟩ := Option.bind_eq_some_iff.mp hu
  by_cases hl : ds.length ≤ 100000
  · rw [if_pos (show (ds, st1).1.length ≤ 100000 from hl)] at hu
    refine ⟨g, ρ, st, ds, st1, R, h1, fun p xs H1 e1 s1 hp np r => ⟨p, rfl, ⟨xs, hp⟩, fun Dl nD => ?_⟩⟩
    have R1 := R.step e1 s1
    refine lc_list (xs := xs) (fun i H' => LcSt K g ms σ H1 ρ Dl bd t e vs fin stf i (ds.drop i) H') (lc_start R1 nD hu) (fun i H' _ L => lcst_l np hp L) (fun i x H' hx L => ?_) fun H' L => ?_
    · obtain ⟨d, hd, rd⟩ := r.getV hx
      have L' := L
      rw [drop_at hd] at L'
      exact lc_turn R1 nD hv T (Nat.lt_of_lt_of_le (lt_of_get hd) hl) L' (Rp.mono (lcst_sm R1 nD L) rd)
    · rw [r.length, List.drop_length] at L
      exact lc_done R e1 s1 nD L k
  · rw [if_neg (show ¬ (ds, st1).1.length ≤ 100000 from hl)] at hu
    cases hu
/-- over a list or a tuple that is data -/
theorem lcA {a : UE} (hv : ∀ v ∈ vs, ms[v]? = some .fz) (T : TgOk K ms vs tg bd) (c : canonN K ms (uLc vs (uItems a) bd t e) σ H Q) : tLc (iAny K (canon K ms a)) tg (canonT K ms t) (canon K ms e) vs σ H Q := by
  obtain ⟨g, ρ, st, fin, stf, R, hu, k⟩ := c
  unfold uLc at hu
  obtain ⟨⟨ds, st1⟩, h1, hu⟩ := Option.bind_eq_some_iff.mp hu
  unfold uItems at h1
  obtain ⟨⟨da, st2⟩, h2, h1⟩ := Option.bind_eq_some_iff.mp h1
  by_cases hl : ds.length ≤ 100000
  · rw [if_pos (show (ds, st1).1.length ≤ 100000 from hl)] at hu
    refine ⟨g, ρ, st, da, st2, R, h2, fun x H1 e1 s1 rx => ?_⟩
    have R1 := R.step e1 s1
    cases rx with
    | @lst p xs ds' q r =>
      have h1 : some (ds', st2) = some (ds, st1) := h1
      cases h1
      refine ⟨p, rfl, .inl ⟨⟨xs, .inl (.inl (hid_some q).2)⟩, fun Dl nD => ?_⟩⟩
      refine lc_list (xs := xs) (fun i H' => LcSt K g ms σ H1 ρ Dl bd t e vs fin stf i (ds.drop i) H') (lc_start R1 nD hu) (fun i H' _ L => lcst_l (R1.asEx (hid_some q).1) (.inl (.inl (hid_some q).2)) L) (fun i x H' hx L => ?_) fun H' L => ?_
      · obtain ⟨d, hd, rd⟩ := r.getV hx
        have L' := L
        rw [drop_at hd] at L'
        exact lc_turn R1 nD hv T (Nat.lt_of_lt_of_le (lt_of_get hd) hl) L' (Rp.mono (lcst_sm R1 nD L) rd)
      · rw [r.length, List.drop_length] at L
        exact lc_done R e1 s1 nD L k
    | @tup p xs ds' q r =>
      have h1 : some (ds', st2) = some (ds, st1) := h1
      cases h1
      refine ⟨p, rfl, .inr ⟨⟨xs, Same.sqT hid_same q⟩, fun Dl nD => ?_⟩⟩
      refine lc_tup (xs := xs) (fun i H' => LcSt K g ms σ H1 ρ Dl bd t e vs fin stf i (ds.drop i) H') (lc_start R1 nD hu) (fun i H' _ L => Same.sqT (Same.trans (lcst_sm R1 nD L) hid_same) q) (fun i x H' hx L => ?_) fun H' L => ?_
      · obtain ⟨d, hd, rd⟩ := r.getV hx
        have L' := L
        rw [drop_at hd] at L'
        exact lc_turn R1 nD hv T (Nat.lt_of_lt_of_le (lt_of_get hd) hl) L' (Rp.mono (lcst_sm R1 nD L) rd)
      · rw [r.length, List.drop_length] at L
        exact lc_done R e1 s1 nD L k
    | _ =>
      have h1 : (none : Option (List D × St4)) = some (ds, st1) := h1
      cases h1
  · rw [if_neg (show ¬ (ds, st1).1.length ≤ 100000 from hl)] at hu
    cases hu
/-- over a range -/
theorem lcR_core {g : Gh} {H0 H1 : Hp} {ρ : En} {st0 st1 stf : St4} {lo hi : Int} {fin : List D} (hv : ∀ v ∈ vs, ms[v]? = some .fz) (T : TgOk K ms vs tg bd) (R0 : Rel K g ms σ H0 ρ st0) (e1 : Stp g H0 H1) (s1 : Src g.as H1 st1) (hl : (rng lo hi).length ≤ 100000)
    (hu : uLcGo bd t e (wipeD ρ vs) (rng lo hi) st1 = some (fin, stf)) (k : ∀ p vs H', Stp g H0 H' → Src g.as H' stf → H0 p = none → H' p = some (.lst vs) → RpA K (hid H' fun b => Ex g ms σ b ∨ b = p) vs fin → Q (.ref p) H') (Dl : Addr) (nD : H1 Dl = none) :
    ∃ W : Nat → Nat → Hp → Prop, (∃ m, W 0 m (upd H1 Dl (.lst []))) ∧ ∀ i m H, W i m H → ((Itr lo (hi - lo).toNat).stop i H ∧ Q (.ref Dl) H) ∨ ((Itr lo (hi - lo).toNat).go i H ∧ ∃ Nx : Hp → Prop, (∀ H', Nx H' → ∃ m', m' < m ∧ W (i + 1) m' H') ∧
      ∀ x H', (Itr lo (hi - lo).toNat).yld i H x H' → tg x (wipe σ vs) H' fun σ2 H2 => wipe σ2 vs = wipe σ vs ∧ canonT K ms t σ2 H2 fun b H3 =>
        if b = true then canon K ms e σ2 H3 fun y H4 => ∃ acc, H4 Dl = some (.lst acc) ∧ acc.length < sizeLine ∧ Nx (upd H4 Dl (.lst (acc ++ [y]))) else Nx H3) := by
  have R1 := R0.step e1 s1
  refine lc_range (lo := lo) (n := (hi - lo).toNat) (fun i H' => LcSt K g ms σ H1 ρ Dl bd t e vs fin stf i ((rng lo hi).drop i) H') (lc_start R1 nD hu) (fun i H' hi L => ?_) fun H' L => ?_
  · have hd := rng_at hi
    have L' := L
    rw [drop_at hd] at L'
    exact lc_turn R1 nD hv T (Nat.lt_of_lt_of_le (lt_of_get hd) hl) L' (.int _)
  · rw [← rng_len, List.drop_length] at L
    exact lc_done R0 e1 s1 nD L k
theorem lcR1 {a : UE} (hv : ∀ v ∈ vs, ms[v]? = some .fz) (T : TgOk K ms vs tg bd) (c : canonN K ms (uLc vs (uRng1 a) bd t e) σ H Q) : tLc (iRng1 (tCons (canon K ms a) tNil)) tg (canonT K ms t) (canon K ms e) vs σ H Q := by
  obtain ⟨g, ρ, st, fin, stf, R, hu, k⟩ := c
  unfold uLc at hu
  obtain ⟨⟨ds, st1⟩, h1, hu⟩ := Option.bind_eq_some_iff.mp hu
  unfold uRng1 at h1
  obtain ⟨⟨da, st2⟩, h2, h1⟩ := Option.bind_eq_some_iff.mp h1
  by_cases hl : ds.length ≤ 100000
  · rw [if_pos (show (ds, st1).1.length ≤ 100000 from hl)] at hu
    refine ⟨g, ρ, st, da, st2, R, h2, fun x H1 e1 s1 rx => ?_⟩
    cases rx with
    | int n =>
      have h1 : (if -(2 ^ 62) ≤ n ∧ n < 2 ^ 62 then some (rng 0 n, st2) else none) = some (ds, st1) := h1
      by_cases c : -(2 ^ 62) ≤ n ∧ n < 2 ^ 62
      · rw [if_pos c] at h1
        cases h1
        refine ⟨n, rfl, c.1, c.2, fun Dl nD => ?_⟩
        have q := lcR_core hv T R e1 s1 hl hu k Dl nD
        rw [Int.sub_zero] at q
        exact q
      · rw [if_neg c] at h1
        cases h1
    | _ =>
      have h1 : (none : Option (List D × St4)) = some (ds, st1) := h1
      cases h1
  · rw [if_neg (show ¬ (ds, st1).1.length ≤ 100000 from hl)] at hu
    cases hu
end
/-! a comprehension as an expression -/
section
variable {X : Cx} {ms : List Mo} {e tg iter : Expr} {ifs : List Expr} {scope : Scope} {own : List (Str × Nat)} {pos : Pos} {g : TG} {bd : D → En → Option En} {t : UT} {u : UE} {it : UL} {a : UE}
theorem fz_all {ms : List Mo} {vs : List Nat} (h : (vs.all fun v => decide (ms[v]? = some .fz)) = true) : ∀ v ∈ vs, ms[v]? = some .fz := fun v hv => of_decide_eq_true (List.all_eq_true.mp h v hv)
theorem pn_lc {wi : TI} {ul : UL} (hc : X.calm = true) (hN : X.N.Nodup) (hi : PI X tg iter wi) (ok : BlkOk X.N X.env.scope scope own) (c : ∀ {σ H Q}, canonN X.K ms ul σ H Q → tLc wi g (canonT X.K ms t) (canon X.K ms u) (own.map (·.2)) σ H Q)
    (hg : ∀ (s : Shared) (H : Hp) (C : Addr) (cl : List (Str × Addr)) (fp : List Addr), PG (X.blk s H scope (compEnvC scope cl C X.env) fp) tg g) (ht : ∀ (s : Shared) (H : Hp) (C : Addr) (cl : List (Str × Addr)) (fp : List Addr), PTs (X.blk s H scope (compEnvC scope cl C X.env) fp) ifs (canonT X.K ms t))
    (he : ∀ (s : Shared) (H : Hp) (C : Addr) (cl : List (Str × Addr)) (fp : List Addr), PE (X.blk s H scope (compEnvC scope cl C X.env) fp) e (canon X.K ms u)) (hs : ∀ x, foldedSetIterable iter X.env x = pure x := by intro _; rfl) :
    PE X (.ListComp e [⟨tg, iter, ifs, 0⟩] scope pos) (canonN X.K ms ul) := PE.imp (pe_lc hc hN hi ok hg ht he hs) fun _ _ _ z => c z
theorem pts_yes : PTs X [] (canonT X.K ms tYesU) := ⟨fun pins s σ H Q I h => by
  obtain ⟨g, ρ, st, b, st', R, hu, k⟩ := h
  cases hu
  exact pts_nil.run pins s σ H Q I (k H Stp.refl R.src)⟩
end
end Fw
set_option Elab.async false
set_option linter.all false
set_option maxRecDepth 100000
set_option maxHeartbeats 4000000
/-! Fw7: statements, loops, a def by its body. -/
namespace Fw
open PySem PySem.Spec L2

def uSeq (a b : US) : US := fun ρ st => (a ρ st).bind fun r => match r.1 with
  | .nx => b r.2.1 r.2.2
  | f => some (f, r.2.1, r.2.2)
def uNext : US := fun ρ st => some (.nx, ρ, st)
def uSet (i : Nat) (u : UE) : US := fun ρ st => (u ρ st).map fun x => (.nx, ρ.set i (some x.1), x.2)
def uSetL (i : Nat) (u : UL) : US := fun ρ st => (u ρ st).map fun x => (.nx, ρ.set i (some (.lst x.1)), x.2)
def uTgt (bd : D → En → Option En) (u : UE) : US := fun ρ st => (u ρ st).bind fun x => (bd x.1 ρ).map fun ρ' => (.nx, ρ', x.2)
def uPar (is : List Nat) (u : UA) : US := fun ρ st => (u ρ st).bind fun x => (bNames is x.1 ρ).map fun ρ' => (.nx, ρ', x.2)
def uApp (i : Nat) (u : UE) : US := fun ρ st => (u ρ st).bind fun x => match gv ρ i with
  | some (.lst ds) => if ds.length < 100000 then some (.nx, ρ.set i (some (.lst (ds ++ [x.1]))), x.2) else none
  | _ => none
def uAppPop (io il : Nat) (u : UE) : US := fun ρ st => (u ρ st).bind fun x => match gv ρ io, gv ρ il, x.1 with
  | some (.lst os), some (.lst ds), .int k => if os.length < 100000 ∧ 0 ≤ k ∧ k < ds.length ∧ k < 2 ^ 63 then (ds[k.toNat]?).map fun z => (.nx, (ρ.set il (some (.lst (ds.eraseIdx k.toNat)))).set io (some (.lst (os ++ [z]))), x.2) else none
  | _, _, _ => none
def uSetIx (i : Nat) (uk u : UE) : US := fun ρ st => (u ρ st).bind fun x => (uk ρ x.2).bind fun y => match gv ρ i, y.1 with
  | some (.lst ds), .int k => (ixN ds.length k).map fun j => (.nx, ρ.set i (some (.lst (ds.set j x.1))), y.2)
  | _, _ => none
def s4set (st : St4) (z : Int) : Int → Option St4
  | 0 => some (z, st.2.1, st.2.2.1, st.2.2.2)
  | 1 => some (st.1, z, st.2.2.1, st.2.2.2)
  | 2 => some (st.1, st.2.1, z, st.2.2.2)
  | 3 => some (st.1, st.2.1, st.2.2.1, z)
  | _ => none
def uSetSrc (i : Nat) (k : Int) (u : UE) : US := fun ρ st => (u ρ st).bind fun x => (gv ρ i).bind fun _ => match x.1 with
  | .int z => (s4set x.2 z k).map fun st' => (.nx, ρ, st')
  | _ => none
def uIfS (t : UT) (a b : US) : US := fun ρ st => (t ρ st).bind fun x => if x.1 = true then a ρ x.2 else b ρ x.2
def uForGo (bd : D → En → Option En) (body : US) : List D → US
  | [], ρ, st => some (.nx, ρ, st)
  | d :: ds, ρ, st => (bd d ρ).bind fun ρ1 => (body ρ1 st).bind fun r => match r.1 with
    | .nx => uForGo bd body ds r.2.1 r.2.2
    | .ct => uForGo bd body ds r.2.1 r.2.2
    | .bk => some (.nx, r.2.1, r.2.2)
    | .rt d => some (.rt d, r.2.1, r.2.2)
def uFor (it : UL) (bd : D → En → Option En) (body : US) : US := fun ρ st => (it ρ st).bind fun x => uForGo bd body x.1 ρ x.2
def uWh (t : UT) (body : US) : Nat → US
  | 0, _, _ => none
  | n + 1, ρ, st => (t ρ st).bind fun x => if x.1 = true then (body ρ x.2).bind fun r => match r.1 with
    | .nx => uWh t body n r.2.1 r.2.2
    | .ct => uWh t body n r.2.1 r.2.2
    | .bk => some (.nx, r.2.1, r.2.2)
    | .rt d => some (.rt d, r.2.1, r.2.2)
    else some (.nx, ρ, x.2)
def uRet (u : UE) : US := fun ρ st => (u ρ st).map fun x => (.rt x.1, ρ, x.2)
def uRetL (u : UL) : US := fun ρ st => (u ρ st).map fun x => (.rt (.lst x.1), ρ, x.2)
def uRetN : US := fun ρ st => some (.rt .non, ρ, st)
def uDrop (u : UE) : US := fun ρ st => (u ρ st).map fun x => (.nx, ρ, x.2)
def uBreak : US := fun ρ st => some (.bk, ρ, st)
def uCont : US := fun ρ st => some (.ct, ρ, st)
def uNever : US := fun _ _ => none

section
variable {K : PySem.W.Frag} {g : Gh} {rk : RK} {ms pm : List Mo} {σ σ1 : St} {H H1 : Hp} {ρ ρ' : En} {st st' : St4} {D D' : Ends} {a b : US} {u : UE} {ul : UL} {t : UT}
theorem SEnd.from {f : Fl} (sm : Same (hid H (Ex g ms σ)) (hid H1 (Ex g ms σ1))) (h : SEnd K rk g ms D σ H f ρ' st') : SEnd K rk g ms D σ1 H1 f ρ' st' := by
  cases f with
  | nx => exact fun σ' H' R s => h σ' H' R (Same.trans sm s)
  | bk => exact fun σ' H' R s => h σ' H' R (Same.trans sm s)
  | ct => exact fun σ' H' R s => h σ' H' R (Same.trans sm s)
  | rt d => exact h
theorem c_seq (c : canonSt K rk ms (uSeq a b) D σ H) : tSeq (canonSt K rk ms a) (canonSt K rk ms b) D σ H := by
  obtain ⟨g, ρ, st, f, ρ', st', R, hu, k⟩ := c
  unfold uSeq at hu
  obtain ⟨⟨f1, ρ1, st1⟩, h1, hu⟩ := Option.bind_eq_some_iff.mp hu
  refine ⟨g, ρ, st, f1, ρ1, st1, R, h1, ?_⟩
  cases f1 with
  | nx => exact fun σ1 H1 R1 sm => ⟨g, ρ1, st1, f, ρ', st', R1, hu, k.from sm⟩
  | bk =>
    cases hu
    exact k
  | ct =>
    cases hu
    exact k
  | rt d =>
    cases hu
    exact k
theorem c_next (c : canonSt K rk ms uNext D σ H) : tNext D σ H := by
  obtain ⟨g, ρ, st, f, ρ', st', R, hu, k⟩ := c
  cases hu
  exact k σ H R (fun _ _ z => z)
theorem c_set {i : Nat} (hm : ms[i]? = some .fz) (c : canonSt K rk ms (uSet i u) D σ H) : tAsg (canon K ms u) (gName i) D σ H := by
  obtain ⟨g, ρ, st, f, ρ', st', R, hu, k⟩ := c
  unfold uSet at hu
  obtain ⟨⟨d, st1⟩, h1, hu⟩ := Option.map_eq_some_iff.mp hu
  cases hu
  refine ⟨g, ρ, st, d, _, R, h1, fun v H1 e1 s1 rv => ?_⟩
  have R1 := R.step e1 s1
  refine k _ H1 (R1.setFz hm rv) ?_
  rw [ex_set hm (by decide)]
  exact R.sm e1
theorem c_setN {i : Nat} (hm : ms[i]? = some .own) (c : canonSt K rk ms (uSetL i ul) D σ H) : tAsg (canonN K ms ul) (gName i) D σ H := by
  obtain ⟨g, ρ, st, f, ρ', st', R, hu, k⟩ := c
  unfold uSetL at hu
  obtain ⟨⟨d, st1⟩, h1, hu⟩ := Option.map_eq_some_iff.mp hu
  cases hu
  refine ⟨g, ρ, st, d, _, R, h1, fun p vs H1 e1 s1 np hp r => ?_⟩
  obtain ⟨R1, sm⟩ := R.setOwn hm e1 s1 np hp r
  exact k _ H1 R1 sm
theorem c_tgt {vs : List Nat} {tg : TG} {bd : Fw.D → En → Option En} (T : TgOk K ms vs tg bd) (c : canonSt K rk ms (uTgt bd u) D σ H) : tAsg (canon K ms u) tg D σ H := by
  obtain ⟨g, ρ, st, f, ρ', st', R, hu, k⟩ := c
  unfold uTgt at hu
  obtain ⟨⟨d, st1⟩, h1, hu⟩ := Option.bind_eq_some_iff.mp hu
  obtain ⟨ρ1, h2, hu⟩ := Option.map_eq_some_iff.mp hu
  cases hu
  refine ⟨g, ρ, st, d, _, R, h1, fun v H1 e1 s1 rv => ?_⟩
  refine T g σ H1 ρ _ v d _ (R.step e1 s1) rv h2 _ fun σ' R' ex w => k σ' H1 R' ?_
  rw [ex]
  exact R.sm e1
theorem ra2 {P : Mo → V → Fw.D → Prop} {m n : Mo} {vs : List V} {ds : List Fw.D} (h : Args3 P [m, n] vs ds) : ∃ v w d e, vs = [v, w] ∧ ds = [d, e] ∧ P m v d ∧ P n w e := by
  cases h with
  | cons h1 r =>
    cases r with
    | cons h2 r =>
      cases r
      exact ⟨_, _, _, _, rfl, rfl, h1, h2⟩
theorem ra3 {P : Mo → V → Fw.D → Prop} {m n o : Mo} {vs : List V} {ds : List Fw.D} (h : Args3 P [m, n, o] vs ds) : ∃ v w x d e f, vs = [v, w, x] ∧ ds = [d, e, f] ∧ P m v d ∧ P n w e ∧ P o x f := by
  cases h with
  | cons h1 r =>
    obtain ⟨v, w, d, e, rfl, rfl, h2, h3⟩ := ra2 r
    exact ⟨_, _, _, _, _, _, rfl, rfl, h1, h2, h3⟩
theorem noO {O : Addr → Prop} {v : V} {d : Fw.D} (h : Rp K (hid H1 fun b => Ex g ms σ b ∨ O b) v d) : Rp K (hid H1 (Ex g ms σ)) v d := Rp.mono (hid_mono fun b o q z => ⟨fun w => q (.inl w), z⟩) h
theorem c_par2 {i j : Nat} {ua : UA} (hi : ms[i]? = some .fz) (hj : ms[j]? = some .fz) (c : canonSt K rk ms (uPar [i, j] ua) D σ H) : tPar i j (canonA K ms [.fz, .fz] ua) D σ H := by
  obtain ⟨g, ρ, st, f, ρ', st', R, hu, k⟩ := c
  unfold uPar at hu
  obtain ⟨⟨ds, st1⟩, h1, hu⟩ := Option.bind_eq_some_iff.mp hu
  obtain ⟨ρ1, h2, hu⟩ := Option.map_eq_some_iff.mp hu
  cases hu
  refine ⟨g, ρ, st, ds, _, R, h1, fun vs H1 O e1 s1 hO ra nd => ?_⟩
  obtain ⟨v, w, d, e, rfl, rfl, r1, r2⟩ := ra2 ra
  cases h2
  have R1 := R.step e1 s1
  have R2 := R1.setFz hi (noO r1)
  have x1 : Ex g ms (σ.set i (some v)) = Ex g ms σ := ex_set hi (by decide)
  have R3 := R2.setFz hj (by rw [x1]; exact noO r2)
  refine ⟨v, w, rfl, k _ H1 R3 ?_⟩
  rw [ex_set hj (by decide), x1]
  exact R.sm e1
theorem c_par3 {i j l : Nat} {ua : UA} (hi : ms[i]? = some .fz) (hj : ms[j]? = some .fz) (hl : ms[l]? = some .fz) (c : canonSt K rk ms (uPar [i, j, l] ua) D σ H) : tPar3 i j l (canonA K ms [.fz, .fz, .fz] ua) D σ H := by
  obtain ⟨g, ρ, st, f, ρ', st', R, hu, k⟩ := c
  unfold uPar at hu
  obtain ⟨⟨ds, st1⟩, h1, hu⟩ := Option.bind_eq_some_iff.mp hu
  obtain ⟨ρ1, h2, hu⟩ := Option.map_eq_some_iff.mp hu
  cases hu
  refine ⟨g, ρ, st, ds, _, R, h1, fun vs H1 O e1 s1 hO ra nd => ?_⟩
  obtain ⟨v, w, x, d, e, y, rfl, rfl, r1, r2, r3⟩ := ra3 ra
  cases h2
  have R1 := R.step e1 s1
  have R2 := R1.setFz hi (noO r1)
  have x1 : Ex g ms (σ.set i (some v)) = Ex g ms σ := ex_set hi (by decide)
  have R3 := R2.setFz hj (by rw [x1]; exact noO r2)
  have x2 : Ex g ms ((σ.set i (some v)).set j (some w)) = Ex g ms σ := (ex_set hj (by decide)).trans x1
  have R4 := R3.setFz hl (by rw [x2]; exact noO r3)
  refine ⟨v, w, x, rfl, k _ H1 R4 ?_⟩
  rw [ex_set hl (by decide), x2]
  exact R.sm e1
/-- a, xs = e, (a new list) -/
theorem c_par2N {i j : Nat} {ua : UA} (hi : ms[i]? = some .fz) (hj : ms[j]? = some .own) (c : canonSt K rk ms (uPar [i, j] ua) D σ H) : tPar i j (canonA K ms [.fz, .own] ua) D σ H := by
  obtain ⟨g, ρ, st, f, ρ', st', R, hu, k⟩ := c
  unfold uPar at hu
  obtain ⟨⟨ds, st1⟩, h1, hu⟩ := Option.bind_eq_some_iff.mp hu
  obtain ⟨ρ1, h2, hu⟩ := Option.map_eq_some_iff.mp hu
  cases hu
  refine ⟨g, ρ, st, ds, _, R, h1, fun vs H1 O e1 s1 hO ra nd => ?_⟩
  obtain ⟨v, w, d, e, rfl, rfl, r1, p, vs, ds, rfl, rfl, hp, hOp, r2⟩ := ra2 ra
  cases h2
  have ij : i ≠ j := fun c => by
    rw [c, hj] at hi
    cases hi
  have smO : Same (hid H1 fun b => Ex g ms σ b ∨ O b) (hid H1 fun b => Ex g ms σ b ∨ b = p) := hid_mono fun b o q z => ⟨fun w => w.elim (fun w => q (.inl w)) fun w => q (.inr (by rw [w]; exact hOp)), z⟩
  obtain ⟨R1, sm⟩ := R.setOwn hj e1 s1 (hO p hOp).1 hp (RpA.mono smO r2)
  have sub : Same (hid H1 fun b => Ex g ms σ b ∨ O b) (hid H1 (Ex g ms (σ.set j (some (.ref p))))) := hid_mono fun b o q z => ⟨fun w => w.elim (fun w => q (.inl (.inl w))) fun ⟨l, h1, h2⟩ => by
    by_cases c : j = l
    · subst c
      rw [List.getElem?_set_self (by rw [R.l1]; exact lt_of_get hj)] at h2
      cases h2
      exact q (.inr hOp)
    · rw [List.getElem?_set_ne c] at h2
      exact q (.inl (.inr ⟨l, h1, h2⟩)), z⟩
  have R2 := R1.setFz hi (Rp.mono sub r1)
  refine ⟨v, .ref p, rfl, ?_⟩
  have e2 : (σ.set i (some v)).set j (some (V.ref p)) = (σ.set j (some (V.ref p))).set i (some v) := List.set_comm _ _ ij
  rw [e2]
  have e3 : (ρ.set i (some d)).set j (some (Fw.D.lst ds)) = (ρ.set j (some (Fw.D.lst ds))).set i (some d) := List.set_comm _ _ ij
  have k' : ∀ σ' H', Rel K g ms σ' H' ((ρ.set i (some d)).set j (some (Fw.D.lst ds))) _ → Same (hid H (Ex g ms σ)) (hid H' (Ex g ms σ')) → D.nx σ' H' := k
  rw [e3] at k'
  refine k' _ H1 R2 ?_
  rw [ex_set hi (by decide)]
  exact sm
theorem c_app {i : Nat} (hm : ms[i]? = some .own) (c : canonSt K rk ms (uApp i u) D σ H) : tDrop (tBM K "list" rAppend (tVar i) (tCons (canon K ms u) tNil)) D σ H := by
  obtain ⟨g, ρ, st, f, ρ', st', R, hu, k⟩ := c
  unfold uApp at hu
  obtain ⟨⟨d, st1⟩, h1, hu⟩ := Option.bind_eq_some_iff.mp hu
  cases e : gv ρ i with
  | none =>
    rw [e] at hu
    cases hu
  | some z =>
    rw [e] at hu
    cases z with
    | lst ds =>
      have hu : (if ds.length < 100000 then some (Fl.nx, ρ.set i (some (.lst (ds ++ [d]))), st1) else none) = some (f, ρ', st') := hu
      by_cases hl : ds.length < 100000
      · rw [if_pos hl] at hu
        cases hu
        obtain ⟨v, hv, p, vs, ds', rfl, e2, hp, r⟩ := R.slot i .own _ hm (gv_some e)
        cases e2
        refine ⟨.ref p, hv, .inl ⟨rfl, vs, .inl (.inl hp)⟩, g, ρ, st, d, _, R, h1, fun y H1 e1 s1 ry => ?_⟩
        have R1 := R.step e1 s1
        have hp1 := e1 p _ hp (R.ownNe ⟨i, hm, hv⟩)
        refine ⟨p, vs, y, rfl, rfl, hp1, by rw [r.length]; exact Nat.lt_of_lt_of_le hl (by decide), ?_⟩
        obtain ⟨R2, sm⟩ := R1.mutOwn (vs := vs ++ [y]) (ds := ds ++ [d]) hm hv ((RpA.mono (R.sm e1) r).app (.cons ry .nil))
        exact k σ _ R2 (Same.trans (R.sm e1) sm)
      · rw [if_neg hl] at hu
        cases hu
    | _ => cases hu
theorem c_appPop {io il : Nat} (ho : ms[io]? = some .own) (hi : ms[il]? = some .own) (ne : io ≠ il) (c : canonSt K rk ms (uAppPop io il u) D σ H) :
    tDrop (tBM K "list" rAppend (tVar io) (tCons (tBM K "list" rPopAt (tVar il) (tCons (canon K ms u) tNil)) tNil)) D σ H := by
  obtain ⟨g, ρ, st, f, ρ', st', R, hu, k⟩ := c
  unfold uAppPop at hu
  obtain ⟨⟨d, st1⟩, h1, hu⟩ := Option.bind_eq_some_iff.mp hu
  cases e : gv ρ io with
  | none =>
    rw [e] at hu
    cases hu
  | some z =>
    cases e' : gv ρ il with
    | none =>
      rw [e, e'] at hu
      cases z <;> cases hu
    | some z' =>
      rw [e, e'] at hu
      cases z with
      | lst os =>
        cases z' with
        | lst ds =>
          cases d with
          | int n =>
            have hu : (if os.length < 100000 ∧ 0 ≤ n ∧ n < ds.length ∧ n < 2 ^ 63 then (ds[n.toNat]?).map fun z => (Fl.nx, (ρ.set il (some (.lst (ds.eraseIdx n.toNat)))).set io (some (.lst (os ++ [z]))), st1) else none) = some (f, ρ', st') := hu
            by_cases hl : os.length < 100000 ∧ 0 ≤ n ∧ n < ds.length ∧ n < 2 ^ 63
            · rw [if_pos hl] at hu
              obtain ⟨z, hz, hu⟩ := Option.map_eq_some_iff.mp hu
              cases hu
              obtain ⟨v, hv, p, vs, os', rfl, e2, hp, r⟩ := R.slot io .own _ ho (gv_some e)
              cases e2
              obtain ⟨v', hv', q, ws, ds', rfl, e2, hq, r'⟩ := R.slot il .own _ hi (gv_some e')
              cases e2
              have npq : p ≠ q := fun c => ne (R.ownD io il p ho hi hv (by rw [c]; exact hv'))
              refine ⟨.ref p, hv, .inl ⟨rfl, vs, .inl (.inl hp)⟩, .ref q, hv', .inl ⟨rfl, ws, .inl (.inl hq)⟩, g, ρ, st, .int n, _, R, h1, fun y H1 e1 s1 ry => ?_⟩
              cases ry
              have R1 := R.step e1 s1
              have hp1 := e1 p _ hp (R.ownNe ⟨io, ho, hv⟩)
              have hq1 := e1 q _ hq (R.ownNe ⟨il, hi, hv'⟩)
              have r1 := RpA.mono (R.sm e1) r
              have r1' := RpA.mono (R.sm e1) r'
              obtain ⟨w, hw, rw'⟩ := r1'.get hz
              have hlen : ws.length = ds.length := r'.length
              refine ⟨q, ws, n, n.toNat, w, rfl, rfl, hq1, by omega, hl.2.2.2, ?_, hw, ?_⟩
              · unfold seqIndex?
                simp
                omega
              · obtain ⟨R2, sm2⟩ := R1.mutOwn (vs := ws.eraseIdx n.toNat) (ds := ds.eraseIdx n.toNat) hi hv' (r1'.erase _)
                refine ⟨p, vs, w, rfl, rfl, by rw [upd_ne npq]; exact hp1, by rw [r.length]; exact Nat.lt_of_lt_of_le hl.1 (by decide), ?_⟩
                obtain ⟨R3, sm3⟩ := R2.mutOwn (vs := vs ++ [w]) (ds := os ++ [z]) ho hv ((RpA.mono sm2 r1).app (.cons (Rp.mono sm2 rw') .nil))
                exact k σ _ R3 (Same.trans (R.sm e1) (Same.trans sm2 sm3))
            · rw [if_neg hl] at hu
              cases hu
          | _ => cases hu
        | _ => cases hu
      | _ => cases hu
theorem c_setIx {i : Nat} {uk : UE} (hm : ms[i]? = some .own) (c : canonSt K rk ms (uSetIx i uk u) D σ H) : tAsg (canon K ms u) (gSub (tVar i) (canon K ms uk) rSetL) D σ H := by
  obtain ⟨g, ρ, st, f, ρ', st', R, hu, k⟩ := c
  unfold uSetIx at hu
  obtain ⟨⟨d, st1⟩, h1, hu⟩ := Option.bind_eq_some_iff.mp hu
  obtain ⟨⟨dk, st2⟩, h2, hu⟩ := Option.bind_eq_some_iff.mp hu
  cases e : gv ρ i with
  | none =>
    rw [e] at hu
    cases hu
  | some z =>
    rw [e] at hu
    cases z with
    | lst ds =>
      cases dk with
      | int n =>
        obtain ⟨j, hj, hu⟩ := Option.map_eq_some_iff.mp (show (ixN ds.length n).map (fun j => (Fl.nx, ρ.set i (some (.lst (ds.set j d))), st2)) = some (f, ρ', st') from hu)
        cases hu
        obtain ⟨v, hv, p, vs, ds', rfl, e2, hp, r⟩ := R.slot i .own _ hm (gv_some e)
        cases e2
        refine ⟨g, ρ, st, d, st1, R, h1, fun y H1 e1 s1 ry => ⟨.ref p, hv, ?_⟩⟩
        have R1 := R.step e1 s1
        refine ⟨g, ρ, st1, .int n, _, R1, h2, fun x H2 e2 s2 rx => ?_⟩
        cases rx
        have R2 := R1.step e2 s2
        have ow := R.ownNe ⟨i, hm, hv⟩
        have e12 := e1.trans e2
        refine ⟨p, vs, n, j, rfl, rfl, e12 p _ hp ow, by rw [r.length]; exact hj, ?_⟩
        obtain ⟨R3, sm⟩ := R2.mutOwn (vs := vs.set j y) (ds := ds.set j d) hm hv (RpA.set (Rp.mono (R1.sm e2) ry) j (RpA.mono (R.sm e12) r))
        exact k σ _ R3 (Same.trans (R.sm e12) sm)
      | _ => cases hu
    | _ => cases hu
theorem c_setSrc {i : Nat} {n : Int} (hm : ms[i]? = some .sr) (c : canonSt K rk ms (uSetSrc i n u) D σ H) : tAsg (canon K ms u) (gSub (tVar i) (tC (.int n)) rSetL) D σ H := by
  obtain ⟨g, ρ, st, f, ρ', st', R, hu, k⟩ := c
  unfold uSetSrc at hu
  obtain ⟨⟨d, st1⟩, h1, hu⟩ := Option.bind_eq_some_iff.mp hu
  obtain ⟨z, h2, hu⟩ := Option.bind_eq_some_iff.mp hu
  cases d with
  | int y =>
    obtain ⟨st2, h3, hu⟩ := Option.map_eq_some_iff.mp (show (s4set st1 y n).map (fun st' => (Fl.nx, ρ, st')) = some (f, ρ', st') from hu)
    cases hu
    obtain ⟨v, hv, a, ha, rfl⟩ := R.slot i .sr z hm (gv_some h2)
    refine ⟨g, ρ, st, .int y, st1, R, h1, fun x H1 e1 s1 rx => ⟨.ref a, hv, ?_⟩⟩
    cases rx
    have R1 := R.step e1 s1
    obtain ⟨R2, sm⟩ := R1.mutSrc (st' := st') ha
    have hk := k σ _ R2 (Same.trans (R.sm e1) sm)
    unfold s4set at h3
    split at h3 <;> first
      | (cases h3; exact ⟨a, s4 st1, _, _, rfl, rfl, s1 a ha, rfl, hk⟩)
      | (cases h3)
  | _ => cases hu
theorem c_if (c : canonSt K rk ms (uIfS t a b) D σ H) : tIfS (canonT K ms t) (canonSt K rk ms a) (canonSt K rk ms b) D σ H := by
  obtain ⟨g, ρ, st, f, ρ', st', R, hu, k⟩ := c
  unfold uIfS at hu
  obtain ⟨⟨x, st1⟩, h1, hu⟩ := Option.bind_eq_some_iff.mp hu
  refine ⟨g, ρ, st, x, st1, R, h1, fun H1 e1 s1 => ?_⟩
  have R1 := R.step e1 s1
  cases x with
  | true =>
    show canonSt K rk ms a D σ H1
    exact ⟨g, ρ, st1, f, ρ', st', R1, hu, k.from (R.sm e1)⟩
  | false =>
    show canonSt K rk ms b D σ H1
    exact ⟨g, ρ, st1, f, ρ', st', R1, hu, k.from (R.sm e1)⟩
theorem c_ret (c : canonSt K .fz ms (uRet u) D σ H) : tRet (canon K ms u) D σ H := by
  obtain ⟨g, ρ, st, f, ρ', st', R, hu, k⟩ := c
  unfold uRet at hu
  obtain ⟨⟨d, st1⟩, h1, hu⟩ := Option.map_eq_some_iff.mp hu
  cases hu
  refine ⟨g, ρ, st, d, _, R, h1, fun v H1 e1 s1 rv => k v H1 (R.step e1 s1).bk s1 ?_⟩
  exact Rp.mono (hid_mono fun b o q z => ⟨fun w => q (.inl w), z⟩) rv
theorem c_retL (c : canonSt K .nw ms (uRetL ul) D σ H) : tRet (canonN K ms ul) D σ H := by
  obtain ⟨g, ρ, st, f, ρ', st', R, hu, k⟩ := c
  unfold uRetL at hu
  obtain ⟨⟨d, st1⟩, h1, hu⟩ := Option.map_eq_some_iff.mp hu
  cases hu
  exact ⟨g, ρ, st, d, _, R, h1, fun p vs H1 e1 s1 np hp r => k _ H1 (R.step e1 s1).bk s1 ⟨p, vs, d, rfl, rfl, R.freshB np, hp, RpA.mono (hid_mono fun b o q z => ⟨fun w => w.elim (fun w => q (.inl (.inl w))) fun w => q (.inr w), z⟩) r⟩⟩
theorem c_retOwn {i : Nat} (hm : ms[i]? = some .own) (c : canonSt K .nw ms (uRetL (uLVar i)) D σ H) : tRet (tVar i) D σ H := by
  obtain ⟨g, ρ, st, f, ρ', st', R, hu, k⟩ := c
  unfold uRetL uLVar at hu
  obtain ⟨⟨ds, st1⟩, h1, hu⟩ := Option.map_eq_some_iff.mp hu
  cases hu
  cases e : gv ρ i with
  | none =>
    rw [e] at h1
    cases h1
  | some z =>
    rw [e] at h1
    cases z with
    | lst ds' =>
      cases h1
      obtain ⟨v, hv, p, vs, ds', rfl, e2, hp, r⟩ := R.slot i .own _ hm (gv_some e)
      cases e2
      have ow : Own ms σ p := ⟨i, hm, hv⟩
      exact ⟨.ref p, hv, k _ H R.bk R.src ⟨p, vs, ds, rfl, rfl, (R.ownB p ow).1, hp, RpA.mono (hid_mono fun b o q z => ⟨fun w => w.elim (fun w => q (.inl w)) fun w => q (.inr (by rw [w]; exact ow)), z⟩) r⟩⟩
    | _ => cases h1
theorem c_retN (c : canonSt K .fz ms uRetN D σ H) : tRetN D σ H := by
  obtain ⟨g, ρ, st, f, ρ', st', R, hu, k⟩ := c
  cases hu
  exact k .non H R.bk R.src .non
theorem c_drop (c : canonSt K rk ms (uDrop u) D σ H) : tDrop (canon K ms u) D σ H := by
  obtain ⟨g, ρ, st, f, ρ', st', R, hu, k⟩ := c
  unfold uDrop at hu
  obtain ⟨⟨d, st1⟩, h1, hu⟩ := Option.map_eq_some_iff.mp hu
  cases hu
  exact ⟨g, ρ, st, d, _, R, h1, fun v H1 e1 s1 rv => k σ H1 (R.step e1 s1) (R.sm e1)⟩
theorem c_break (c : canonSt K rk ms uBreak D σ H) : tBreak D σ H := by
  obtain ⟨g, ρ, st, f, ρ', st', R, hu, k⟩ := c
  cases hu
  exact k σ H R (fun _ _ z => z)
theorem c_cont (c : canonSt K rk ms uCont D σ H) : tCont D σ H := by
  obtain ⟨g, ρ, st, f, ρ', st', R, hu, k⟩ := c
  cases hu
  exact k σ H R (fun _ _ z => z)
theorem c_never (c : canonSt K rk ms uNever D σ H) : tNever D σ H := by
  obtain ⟨g, ρ, st, f, ρ', st', R, hu, k⟩ := c
  cases hu

/-! ### loops -/
variable {vs : List Nat} {tg : TG} {bd : Fw.D → En → Option En} {body : US}
/-- a word between two turns -/
def ForSt (K : PySem.W.Frag) (rk : RK) (g : Gh) (ms : List Mo) (D : Ends) (σ0 : St) (H0 : Hp) (bd : Fw.D → En → Option En) (body : US) (rest : List Fw.D) (f : Fl) (ρf : En) (stf : St4) (σ : St) (H : Hp) : Prop :=
  ∃ ρ st, Rel K g ms σ H ρ st ∧ Same (hid H0 (Ex g ms σ0)) (hid H (Ex g ms σ)) ∧ uForGo bd body rest ρ st = some (f, ρf, stf)
theorem for_turn {g : Gh} {σ0 : St} {H0 : Hp} {rest : List Fw.D} {f : Fl} {ρf : En} {stf : St4} {d : Fw.D} {v : V} (T : TgOk K ms vs tg bd) (k : SEnd K rk g ms D σ0 H0 f ρf stf) (rv : Rp K (hid H (Ex g ms σ)) v d) (W : ForSt K rk g ms D σ0 H0 bd body (d :: rest) f ρf stf σ H) :
    tg v σ H fun σ2 H2 => canonSt K rk ms body { D with nx := ForSt K rk g ms D σ0 H0 bd body rest f ρf stf, ct := ForSt K rk g ms D σ0 H0 bd body rest f ρf stf, bk := D.nx } σ2 H2 := by
  obtain ⟨ρ, st, R, sm, hu⟩ := W
  unfold uForGo at hu
  obtain ⟨ρ1, h1, hu⟩ := Option.bind_eq_some_iff.mp hu
  obtain ⟨⟨f1, ρ2, st2⟩, h2, hu⟩ := Option.bind_eq_some_iff.mp hu
  refine T g σ H ρ st v d ρ1 R rv h1 _ fun σ2 R2 ex w => ⟨g, ρ1, st, f1, ρ2, st2, R2, h2, ?_⟩
  cases f1 with
  | nx => exact fun σ3 H3 R3 sm3 => ⟨ρ2, st2, R3, Same.trans sm (by rw [← ex]; exact sm3), hu⟩
  | ct => exact fun σ3 H3 R3 sm3 => ⟨ρ2, st2, R3, Same.trans sm (by rw [← ex]; exact sm3), hu⟩
  | bk =>
    cases hu
    exact fun σ3 H3 R3 sm3 => k σ3 H3 R3 (Same.trans sm (by rw [← ex]; exact sm3))
  | rt z =>
    cases hu
    exact k
theorem for_done {g : Gh} {σ0 : St} {H0 : Hp} {f : Fl} {ρf : En} {stf : St4} (k : SEnd K rk g ms D σ0 H0 f ρf stf) (W : ForSt K rk g ms D σ0 H0 bd body [] f ρf stf σ H) : D.nx σ H := by
  obtain ⟨ρ, st, R, sm, hu⟩ := W
  cases hu
  exact k σ H R sm
theorem c_forA {u : UE} (T : TgOk K ms vs tg bd) (c : canonSt K rk ms (uFor (uItems u) bd body) D σ H) : tFor (iAny K (canon K ms u)) tg (canonSt K rk ms body) D σ H := by
  obtain ⟨g, ρ, st, f, ρ', st', R, hu, k⟩ := c
  unfold uFor uItems at hu
  obtain ⟨⟨ds, st1⟩, h1, hu⟩ := Option.bind_eq_some_iff.mp hu
  obtain ⟨⟨da, st2⟩, h2, h1⟩ := Option.bind_eq_some_iff.mp h1
  refine ⟨g, ρ, st, da, st2, R, h2, fun x H1 e1 s1 rx => ?_⟩
  have R1 := R.step e1 s1
  have k1 : SEnd K rk g ms D σ H1 f ρ' st' := k.from (R.sm e1)
  cases rx with
  | @lst p xs ds' q r =>
    have h1 : some (ds', st2) = some (ds, st1) := h1
    cases h1
    refine ⟨p, rfl, .inl ⟨⟨xs, .inl (.inl (hid_some q).2)⟩, ?_⟩⟩
    refine for_list (xs := xs) (fun i => ForSt K rk g ms D σ H1 bd body (ds.drop i) f ρ' st') ⟨ρ, st1, R1, fun _ _ z => z, hu⟩ (fun i σ' H' _ W => ?_) (fun i x σ' H' hx W => ?_) fun σ' H' W => ?_
    · obtain ⟨_, _, _, sm, _⟩ := W
      exact .inl (.inl (hid_same _ _ (sm _ _ q)))
    · obtain ⟨d, hd, rd⟩ := r.getV hx
      rw [drop_at hd] at W
      obtain ⟨ρ2, st2, R2, sm, hu2⟩ := W
      exact for_turn T k1 (Rp.mono sm rd) ⟨ρ2, st2, R2, sm, hu2⟩
    · rw [r.length, List.drop_length] at W
      exact for_done k1 W
  | @tup p xs ds' q r =>
    have h1 : some (ds', st2) = some (ds, st1) := h1
    cases h1
    refine ⟨p, rfl, .inr ⟨⟨xs, Same.sqT hid_same q⟩, ?_⟩⟩
    refine for_tup (xs := xs) (fun i => ForSt K rk g ms D σ H1 bd body (ds.drop i) f ρ' st') ⟨ρ, st1, R1, fun _ _ z => z, hu⟩ (fun i σ' H' _ W => ?_) (fun i x σ' H' hx W => ?_) fun σ' H' W => ?_
    · obtain ⟨_, _, _, sm, _⟩ := W
      exact Same.sqT (Same.trans sm hid_same) q
    · obtain ⟨d, hd, rd⟩ := r.getV hx
      rw [drop_at hd] at W
      obtain ⟨ρ2, st2, R2, sm, hu2⟩ := W
      exact for_turn T k1 (Rp.mono sm rd) ⟨ρ2, st2, R2, sm, hu2⟩
    · rw [r.length, List.drop_length] at W
      exact for_done k1 W
  | _ =>
    have h1 : (none : Option (List Fw.D × St4)) = some (ds, st1) := h1
    cases h1
theorem forR_core {g : Gh} {H1 : Hp} {f : Fl} {ρ' : En} {st' : St4} {lo hi : Int} (T : TgOk K ms vs tg bd) (R1 : Rel K g ms σ H1 ρ st) (hu : uForGo bd body (rng lo hi) ρ st = some (f, ρ', st')) (k1 : SEnd K rk g ms D σ H1 f ρ' st') :
    ∃ W : Nat → Nat → St → Hp → Prop, (∃ m, W 0 m σ H1) ∧ ∀ i m σ H, W i m σ H → ((Itr lo (hi - lo).toNat).stop i H ∧ D.nx σ H) ∨ ((Itr lo (hi - lo).toNat).go i H ∧ ∃ N : St → Hp → Prop, (∀ σ' H', N σ' H' → ∃ m', m' < m ∧ W (i + 1) m' σ' H') ∧
      ∀ x H', (Itr lo (hi - lo).toNat).yld i H x H' → tg x σ H' fun σ2 H2 => canonSt K rk ms body { D with nx := N, ct := N, bk := D.nx } σ2 H2) := by
  refine for_range (lo := lo) (n := (hi - lo).toNat) (fun i => ForSt K rk g ms D σ H1 bd body ((rng lo hi).drop i) f ρ' st') ⟨ρ, st, R1, fun _ _ z => z, hu⟩ (fun i σ' H' hi W => ?_) fun σ' H' W => ?_
  · have hd := rng_at hi
    rw [drop_at hd] at W
    exact for_turn T k1 (.int _) W
  · rw [← rng_len, List.drop_length] at W
    exact for_done k1 W
theorem c_forR1 {u : UE} (T : TgOk K ms vs tg bd) (c : canonSt K rk ms (uFor (uRng1 u) bd body) D σ H) : tFor (iRng1 (tCons (canon K ms u) tNil)) tg (canonSt K rk ms body) D σ H := by
  obtain ⟨g, ρ, st, f, ρ', st', R, hu, k⟩ := c
  unfold uFor uRng1 at hu
  obtain ⟨⟨ds, st1⟩, h1, hu⟩ := Option.bind_eq_some_iff.mp hu
  obtain ⟨⟨da, st2⟩, h2, h1⟩ := Option.bind_eq_some_iff.mp h1
  refine ⟨g, ρ, st, da, st2, R, h2, fun x H1 e1 s1 rx => ?_⟩
  cases rx with
  | int n =>
    have h1 : (if -(2 ^ 62) ≤ n ∧ n < 2 ^ 62 then some (rng 0 n, st2) else none) = some (ds, st1) := h1
    by_cases c : -(2 ^ 62) ≤ n ∧ n < 2 ^ 62
    · rw [if_pos c] at h1
      cases h1
      refine ⟨n, rfl, c.1, c.2, ?_⟩
      have q := forR_core (D := D) (rk := rk) T (R.step e1 s1) hu (k.from (R.sm e1))
      rw [Int.sub_zero] at q
      exact q
    · rw [if_neg c] at h1
      cases h1
  | _ =>
    have h1 : (none : Option (List Fw.D × St4)) = some (ds, st1) := h1
    cases h1
theorem c_forR2 {u u2 : UE} (T : TgOk K ms vs tg bd) (c : canonSt K rk ms (uFor (uRng2 u u2) bd body) D σ H) : tFor (iRng2 (tCons (canon K ms u) (tCons (canon K ms u2) tNil))) tg (canonSt K rk ms body) D σ H := by
  obtain ⟨g, ρ, st, f, ρ', st', R, hu, k⟩ := c
  unfold uFor uRng2 at hu
  obtain ⟨⟨ds, st1⟩, h1, hu⟩ := Option.bind_eq_some_iff.mp hu
  obtain ⟨⟨da, st2⟩, h2, h1⟩ := Option.bind_eq_some_iff.mp h1
  obtain ⟨⟨db, st3⟩, h3, h1⟩ := Option.bind_eq_some_iff.mp h1
  refine ⟨g, ρ, st, da, st2, R, h2, fun x H1 e1 s1 rx => ?_⟩
  have R1 := R.step e1 s1
  refine ⟨g, ρ, st2, db, st3, R1, h3, fun y H2 e2 s2 ry => ?_⟩
  cases rx with
  | int i =>
    cases ry with
    | int j =>
      have h1 : (if -(2 ^ 62) ≤ i ∧ i < 2 ^ 62 ∧ -(2 ^ 62) ≤ j ∧ j < 2 ^ 62 then some (rng i j, st3) else none) = some (ds, st1) := h1
      by_cases c : -(2 ^ 62) ≤ i ∧ i < 2 ^ 62 ∧ -(2 ^ 62) ≤ j ∧ j < 2 ^ 62
      · rw [if_pos c] at h1
        cases h1
        exact ⟨i, j, rfl, c, forR_core (D := D) (rk := rk) T (R1.step e2 s2) hu (k.from (R.sm (e1.trans e2)))⟩
      · rw [if_neg c] at h1
        cases h1
    | _ =>
      have h1 : (none : Option (List Fw.D × St4)) = some (ds, st1) := h1
      cases h1
  | _ =>
    have h1 : (none : Option (List Fw.D × St4)) = some (ds, st1) := by
      cases db <;> exact h1
    cases h1
theorem c_while {n : Nat} (c : canonSt K rk ms (uWh t body n) D σ H) : tWhile (canonT K ms t) (canonSt K rk ms body) D σ H := by
  obtain ⟨g, ρ, st, f, ρ', st', R, hu, k⟩ := c
  refine ⟨fun m σ' H' => ∃ ρ1 st1, Rel K g ms σ' H' ρ1 st1 ∧ Same (hid H (Ex g ms σ)) (hid H' (Ex g ms σ')) ∧ uWh t body m ρ1 st1 = some (f, ρ', st'), ⟨n, ρ, st, R, fun _ _ z => z, hu⟩, ?_⟩
  rintro m σ1 H1 ⟨ρ1, st1, R1, sm, hu⟩
  cases m with
  | zero => cases hu
  | succ m =>
    unfold uWh at hu
    obtain ⟨⟨x, st2⟩, h1, hu⟩ := Option.bind_eq_some_iff.mp hu
    refine ⟨g, ρ1, st1, x, st2, R1, h1, fun H2 e2 s2 => ?_⟩
    have R2 := R1.step e2 s2
    have sm2 := Same.trans sm (R1.sm e2)
    cases x with
    | true =>
      have hu : ((body ρ1 st2).bind fun r => match r.1 with
        | .nx => uWh t body m r.2.1 r.2.2
        | .ct => uWh t body m r.2.1 r.2.2
        | .bk => some (.nx, r.2.1, r.2.2)
        | .rt d => some (.rt d, r.2.1, r.2.2)) = some (f, ρ', st') := hu
      obtain ⟨⟨f3, ρ3, st3⟩, h3, hu⟩ := Option.bind_eq_some_iff.mp hu
      show ∃ N : St → Hp → Prop, _
      refine ⟨fun σ' H' => ∃ ρ1 st1, Rel K g ms σ' H' ρ1 st1 ∧ Same (hid H (Ex g ms σ)) (hid H' (Ex g ms σ')) ∧ uWh t body m ρ1 st1 = some (f, ρ', st'), fun σ' H' w => ⟨m, Nat.lt_succ_self m, w⟩, g, ρ1, st2, f3, ρ3, st3, R2, h3, ?_⟩
      cases f3 with
      | nx => exact fun σ4 H4 R4 sm4 => ⟨ρ3, st3, R4, Same.trans sm2 sm4, hu⟩
      | ct => exact fun σ4 H4 R4 sm4 => ⟨ρ3, st3, R4, Same.trans sm2 sm4, hu⟩
      | bk =>
        cases hu
        exact fun σ4 H4 R4 sm4 => k σ4 H4 R4 (Same.trans sm2 sm4)
      | rt z =>
        cases hu
        exact k
    | false =>
      show D.nx σ1 H2
      cases hu
      exact k σ1 H2 R2 sm2

/-! ### a def's entry -/
def uDef (rk : RK) (n : Nat) (body : US) : List Fw.D → St4 → Option (Fw.D × St4) := fun ds st => match body (ds.map some ++ List.replicate (n - ds.length) none) st with
  | some (.rt d, _, st') => some (d, st')
  | some (.nx, _, st') => (match rk with
    | .fz => some (.non, st')
    | .nw => none)
  | _ => none
theorem enter {N : List Str} {vs : List V} {Q : VK} {E : XK} {body : US} {n : Nat} (hN : N.length = n) (hm : ms.length = n) (hp : ms.take pm.length = pm) (h : spD K pm rk (uDef rk n body) vs H Q E) : canonSt K rk ms body { nx := fun _ H' => Q .non H', rt := Q } (L2.start N vs) H := by
  obtain ⟨g, ds, st, d, st', gok, sub, src, ra, nd, hf, k⟩ := h
  have lv := ra.len.1
  have ld := ra.len.2
  have lp : pm.length ≤ n := by
    have := congrArg List.length hp
    rw [List.length_take, hm] at this
    omega
  have mi : ∀ {i : Nat}, i < pm.length → ms[i]? = pm[i]? := fun {i} hi => by
    rw [← hp, List.getElem?_take_of_lt hi]
  have si : ∀ {i : Nat} {v : V}, (L2.start N vs)[i]? = some (some v) → i < pm.length ∧ vs[i]? = some v := fun {i v} h => by
    unfold L2.start at h
    by_cases hi : i < vs.length
    · rw [List.getElem?_append_left (by simpa using hi), List.getElem?_map] at h
      cases e : vs[i]? with
      | none => rw [e] at h; cases h
      | some z => rw [e] at h; cases h; exact ⟨by omega, rfl⟩
    · rw [List.getElem?_append_right (by simpa using hi), List.getElem?_replicate] at h
      split at h <;> cases h
  have sj : ∀ {i : Nat} {v : V}, vs[i]? = some v → (L2.start N vs)[i]? = some (some v) := fun {i v} h => by
    unfold L2.start
    rw [List.getElem?_append_left (by rw [List.length_map]; exact lt_of_get h), List.getElem?_map, h]
    rfl
  have ow : ∀ {i : Nat} {p : Addr}, ms[i]? = some .own → (L2.start N vs)[i]? = some (some (.ref p)) → pm[i]? = some .own ∧ vs[i]? = some (.ref p) ∧ g.B p = none ∧ ∃ vs, H p = some (.lst vs) := fun {i p} h1 h2 => by
    obtain ⟨hi, hv⟩ := si h2
    have hpm : pm[i]? = some .own := by
      rw [← mi hi]
      exact h1
    obtain ⟨d, hd, p', vs', ds', e1, e2, e3, e4, e5⟩ := ra.getV hpm hv
    cases e1
    exact ⟨hpm, hv, e3, vs', e4⟩
  have sm : Same (hid g.B g.F) (hid H (Ex g ms (L2.start N vs))) := hid_mono fun b o q z => by
    refine ⟨fun w => w.elim q fun ⟨i, h1, h2⟩ => ?_, sub b o z⟩
    rw [(ow h1 h2).2.2.1] at z
    cases z
  have R : Rel K g ms (L2.start N vs) H (ds.map some ++ List.replicate (n - ds.length) none) st := by
    refine ⟨gok, ?_, ?_, src, fun b o z _ => sub b o z, fun i m d h1 h2 => ?_, fun p ⟨i, h1, h2⟩ => ?_, fun i j p h1 h2 h3 h4 => ?_⟩
    · unfold L2.start
      rw [List.length_append, List.length_map, List.length_replicate]
      omega
    · rw [List.length_append, List.length_map, List.length_replicate]
      omega
    · have hi : i < ds.length ∧ ds[i]? = some d := by
        by_cases hi : i < ds.length
        · rw [List.getElem?_append_left (by simpa using hi), List.getElem?_map] at h2
          cases e : ds[i]? with
          | none => rw [e] at h2; cases h2
          | some z => rw [e] at h2; cases h2; exact ⟨hi, rfl⟩
        · rw [List.getElem?_append_right (by simpa using hi), List.getElem?_replicate] at h2
          split at h2 <;> cases h2
      have hpm : pm[i]? = some m := by
        rw [← mi (by omega)]
        exact h1
      obtain ⟨v, hv, a⟩ := ra.get hpm hi.2
      refine ⟨v, sj hv, ?_⟩
      cases m with
      | fz => exact Rp.mono sm a
      | sh =>
        obtain ⟨p', vs', ds', e1, e2, e3, e4, e5⟩ := a
        exact ⟨p', vs', ds', e1, e2, e3, e4, RpA.mono sm e5⟩
      | own =>
        obtain ⟨p', vs', ds', e1, e2, e3, e4, e5⟩ := a
        exact ⟨p', vs', ds', e1, e2, e4, RpA.mono sm e5⟩
      | sr => exact a
      | me _ => exact a
    · obtain ⟨_, _, e3, vs', e4⟩ := ow h1 h2
      exact ⟨e3, by rw [e4]; exact fun z => by cases z⟩
    · obtain ⟨a1, a2, _⟩ := ow h1 h3
      obtain ⟨b1, b2, _⟩ := ow h2 h4
      exact nd i j p a1 b1 a2 b2
  unfold uDef at hf
  split at hf
  · rename_i d' ρ' st2 e
    cases hf
    exact ⟨g, _, st, .rt d, ρ', st', R, e, k⟩
  · rename_i ρ' st2 e
    cases rk with
    | fz =>
      cases hf
      exact ⟨g, _, st, .nx, ρ', st', R, e, fun σ' H' R' _ => k .non H' R'.bk R'.src .non⟩
    | nw => cases hf
  · cases hf
end

/-! ### statements of the text -/
section
variable {X : Cx} {rk : RK} {ms pm : List Mo} {a b : US} {u : UE} {ul : UL} {t : UT} {s : Stmt} {rest : List Stmt} {pos : Pos}
theorem ss_cons (h1 : PS X s (canonSt X.K rk ms a)) (h2 : PSs X rest (canonSt X.K rk ms b)) : PSs X (s :: rest) (canonSt X.K rk ms (uSeq a b)) := PSs.imp (pss_cons h1 h2) fun _ _ _ c => c_seq c
theorem ss_one (h1 : PS X s (canonSt X.K rk ms a)) : PSs X [s] (canonSt X.K rk ms a) := pss_one h1
theorem ss_nil : PSs X [] (canonSt X.K rk ms uNext) := PSs.imp pss_nil fun _ _ _ c => c_next c
theorem fn_ok {P : Program} {w : World} {K : PySem.W.Frag} {mg : Str → Option Value} {base : Heap} {x qual : Str} {params : Arguments} {body : List Stmt} {scope : Scope} {dvs : List V} {kws : List (Str × V)} {f : Addr} {fd : FuncData} {CX : CXT} {N ps : List Str} {k n : Nat}
    (F : FunD K x qual params body scope dvs kws f fd) (S : FnScope N ps scope) (hN : N.length = n) (hm : ms.length = n) (hp : ms.take pm.length = pm) (hl : pm.length = ps.length)
    (hb : ∀ (cdv : Value) (A : Around) (outer : List PySem.Env) (s : Shared) (H : Hp) (E : XK), Room k (A.deeper (PyProof.Rows.envOfC qual scope s.heap.objs.size f cdv)) → PSs (cxOf CX P w K mg base N qual scope f cdv A outer s H E).nox body (canonSt K rk ms a)) :
    FnOk P w K mg base CX (k + 1) f fd ps (spD K pm rk (uDef rk n a)) :=
  F.ok S (fun vs H Q E h => (spD_len h).trans hl) fun cdv A outer s H vs Q E hr h => ⟨canonSt K rk ms a, PSs.nox (hb cdv A outer s H E hr), enter hN hm hp h⟩
end
end Fw
set_option Elab.async false
set_option linter.all false
set_option maxRecDepth 100000
set_option maxHeartbeats 4000000
/-! Fw8: comparisons as tests, the top's tables, defs as they are called. -/
namespace Fw
open PySem PySem.Spec L2

section
variable {X : Cx} {ms pm : List Mo} {e a b c : Expr} {es : List Expr} {ua ub uc : UE} {pos : Pos}
theorem ptd_cmp {op : CmpOp} {r : R2} {f : D → D → Option Bool} (ho : OpR X (compareOp op) r) (h : ROp X.K r fun x y => (f x y).map D.bl) (ha : PE X a (canon X.K ms ua)) (hb : PE X b (canon X.K ms ub)) (hm : behindInMarks op b = false) :
    PT X (.Compare a [op] [b] pos) (canonT X.K ms (uTst dBool (uRel f ua ub))) := PT.imp (pt_cmpR ho ha hb hm) fun σ H Q ⟨g, ρ, st, z, st', R, hu, k⟩ => by
  refine canon_op h ?_
  unfold uTst at hu
  obtain ⟨⟨d, st1⟩, h1, hu⟩ := Option.bind_eq_some_iff.mp hu
  obtain ⟨w, h2, hu⟩ := Option.map_eq_some_iff.mp hu
  cases hu
  exact ⟨g, ρ, st, d, _, R, h1, fun v H' e1 s1 rv => ⟨z, rp_bool rv h2, k H' e1 s1⟩⟩
theorem ptd_chain {op op' : CmpOp} {r r' : R2} {f f' : D → D → Option Bool} (ho : OpR X (compareOp op) r) (h : ROp X.K r fun x y => (f x y).map D.bl) (ho' : OpR X (compareOp op') r') (h' : ROp X.K r' fun x y => (f' x y).map D.bl)
    (ha : PE X a (canon X.K ms ua)) (hb : PE X b (canon X.K ms ub)) (hc : PE X c (canon X.K ms uc)) (hm : lastMarks [op, op'] [b, c] = false := by with_unfolding_all rfl) : PT X (.Compare a [op, op'] [b, c] pos) (canonT X.K ms (uTst dBool (uChain f f' ua ub uc))) :=
  PT.imp (pt_chain ho ho' ha hb hc hm) fun σ H Q ⟨g, ρ, st, z, st', R, hu, k⟩ => by
    unfold uTst at hu
    obtain ⟨⟨d, st1⟩, h1, hu⟩ := Option.bind_eq_some_iff.mp hu
    obtain ⟨w, h2, hu⟩ := Option.map_eq_some_iff.mp hu
    cases hu
    exact chain_tr h h' ⟨g, ρ, st, d, _, R, h1, fun v H' e1 s1 rv => ⟨z, rp_bool rv h2, k H' e1 s1⟩⟩
/-- a table of the top: texts to ints -/
def dTab (tab : List (Str × Int)) : D → Option D
  | .str z => (tab.lookup z).map .int
  | _ => none
theorem pd_tab {x : Str} {p : Pos} {tab : List (Str × Int)} {A : Addr} (hm : X.mg x = some (.ref A)) (ht : ∀ z v, tab.lookup z = some v → KDct X.K X.w A z (.int v)) (hb : PE X b (canon X.K ms ub)) (hg : Gl X x := by rfl) (hdb : (x == ("__debug__" : Str)) = false := by decide) (hs : PlainIx b := by exact fun _ _ => rfl) :
    PE X (.Subscript (.Name x p) b pos) (canon X.K ms (uUn (dTab tab) ub)) := PE.imp (pe_ix ix_kdict (pe_glob (v := .ref A) hg hm rfl hdb) hb hs) fun σ H Q ⟨g, ρ, st, d, st', R, hu, k⟩ => by
  unfold uUn at hu
  obtain ⟨⟨dx, st1⟩, h1, hu⟩ := Option.bind_eq_some_iff.mp hu
  obtain ⟨dz, h2, hu⟩ := Option.map_eq_some_iff.mp hu
  cases hu
  refine ⟨g, ρ, st, dx, _, R, h1, fun v H' e1 s1 rv => ?_⟩
  have h2 : dTab tab dx = some d := h2
  cases rv with
  | str z =>
    obtain ⟨n, h3, rfl⟩ := Option.map_eq_some_iff.mp (show (tab.lookup z).map D.int = some d from h2)
    exact ⟨A, z, .int n, rfl, rfl, ht z n h3, k _ H' e1 s1 (.int n)⟩
  | _ => cases h2
/-- a def as it is called -/
structure Callee (P : Program) (w : World) (K : PySem.W.Frag) (mg : Str → Option Value) (base : Heap) (CX : CXT) (x : Str) (k : Nat) (pm : List Mo) (rk : RK) (us : List D → St4 → Option (D × St4)) : Prop where
  ex : ∃ fd ps, mg x = some (.ref (He.ga K x)) ∧ FnOk P w K mg base CX k (He.ga K x) fd ps (spD K pm rk us) ∧ PySem.W.keepIn K (.ref (He.ga K x)) = true ∧ Binds K fd ps []
structure MethC (P : Program) (w : World) (K : PySem.W.Frag) (mg : Str → Option Value) (base : Heap) (CX : CXT) (c m : Str) (k : Nat) (pm : List Mo) (us : List D → St4 → Option (D × St4)) : Prop where
  ex : ∃ fd ps, Cls K (He.ga K c) ∧ Meth K (He.ga K c) m (He.ma K (He.ga K c) m) ∧ FnOk P w K mg base CX k (He.ma K (He.ga K c) m) fd ps (spD K pm .fz us) ∧ Binds K fd ps []
structure MakeC (P : Program) (w : World) (K : PySem.W.Frag) (mg : Str → Option Value) (base : Heap) (CX : CXT) (c : Str) (k : Nat) (pm : List Mo) (dvs : List V) (us : List D → St4 → Option (List (Str × D) × St4)) : Prop where
  ex : ∃ fd ps ds, mg c = some (.ref (He.ga K c)) ∧ Mk K (He.ga K c) (He.ma K (He.ga K c) "__init__") ∧ FnOk P w K mg base CX k (He.ma K (He.ga K c) "__init__") fd ps (spI K c (pm ++ dvs.map fun _ => Mo.fz) us) ∧ Binds K fd ps ds ∧ Vals dvs ds
variable {CX : CXT} {k kr : Nat} {us : List D → St4 → Option (D × St4)} {ua' : UA} {x : Str} {p : Pos}
theorem pd_callC (C : Callee X.prog X.w X.K X.mg X.base CX x k pm .fz us) (hr : Room kr X.A) (hk : k ≤ kr) (hx : Passes CX X E0) (ha : PA X (e :: es) (canonA X.K ms pm ua')) (hg : Gl X x := by rfl) (hdb : (x == ("__debug__" : Str)) = false := by decide)
    (he : starEach (e :: es) X.env = (false, eval e X.env) :: starEach es X.env := by rfl) (hpl : (backTo pos (starEach es X.env)).any (·.1) = false := by rfl) : PE X (.Call (.Name x p) (e :: es) [] pos) (canon X.K ms (uCall us [] ua')) := by
  obtain ⟨fd, ps, hm, F, kp, b⟩ := C.ex
  exact pd_call (pm := pm) (dvs := []) (by rw [List.map_nil, List.append_nil]; exact F) (hr.mono hk) hm kp b .nil .nil hx ha hg hdb he hpl
theorem pn_callC (C : Callee X.prog X.w X.K X.mg X.base CX x k pm .nw us) (hr : Room kr X.A) (hk : k ≤ kr) (hx : Passes CX X E0) (ha : PA X (e :: es) (canonA X.K ms pm ua')) (hg : Gl X x := by rfl) (hdb : (x == ("__debug__" : Str)) = false := by decide)
    (he : starEach (e :: es) X.env = (false, eval e X.env) :: starEach es X.env := by rfl) (hpl : (backTo pos (starEach es X.env)).any (·.1) = false := by rfl) : PE X (.Call (.Name x p) (e :: es) [] pos) (canonN X.K ms (uCallL us [] ua')) := by
  obtain ⟨fd, ps, hm, F, kp, b⟩ := C.ex
  exact pn_call (pm := pm) (dvs := []) (by rw [List.map_nil, List.append_nil]; exact F) (hr.mono hk) hm kp b .nil .nil hx ha hg hdb he hpl
theorem pd_methC {pl : Sem Bool} {c m : Str} {o : Expr} {apos : Pos} (C : MethC X.prog X.w X.K X.mg X.base CX c m k (.fz :: pm) us) (hr : Room kr X.A) (hk : k ≤ kr) (hx : Passes CX X E0) (ho : PE X o (canon X.K ms ua)) (ha : PA X (e :: es) (canonA X.K ms pm ua')) (hf : Mo.own ∉ pm := by decide)
    (hst : starEach (e :: es) X.env = (false, eval e X.env) :: starEach es X.env := by rfl) (hpl : (backTo pos (starEach es X.env)).any (·.1) = false := by rfl)
    (ht : eval (.Call (.Attribute o m apos) (e :: es) [] pos) X.env = (do
      let ov ← eval o X.env
      standAt apos.atName
      let (f, first) ← holding [ov] (getMethod ov m pl)
      callWith pos f first (backTo pos (starEach (e :: es) X.env)) (backToKw pos (keywordEach [] X.env))) := by rfl) : PE X (.Call (.Attribute o m apos) (e :: es) [] pos) (canon X.K ms (uMeth c m us ua ua')) := by
  obtain ⟨fd, ps, cl, me, F, b⟩ := C.ex
  exact pd_meth ho cl me F (hr.mono hk) b hx ha hf hst hpl ht
theorem pd_methC0 {pl : Sem Bool} {c m : Str} {o : Expr} {apos : Pos} (C : MethC X.prog X.w X.K X.mg X.base CX c m k [.fz] us) (hr : Room kr X.A) (hk : k ≤ kr) (hx : Passes CX X E0) (ho : PE X o (canon X.K ms ua))
    (ht : eval (.Call (.Attribute o m apos) [] [] pos) X.env = (do
      let ov ← eval o X.env
      standAt apos.atName
      let (f, first) ← holding [ov] (getMethod ov m pl)
      callWith pos f first (backTo pos (starEach [] X.env)) (backToKw pos (keywordEach [] X.env))) := by rfl) : PE X (.Call (.Attribute o m apos) [] [] pos) (canon X.K ms (uMeth c m us ua aNil)) := by
  obtain ⟨fd, ps, cl, me, F, b⟩ := C.ex
  exact pd_meth0 ho cl me F (hr.mono hk) b hx ht
theorem pd_makeC {c : Str} {fI : List D → St4 → Option (List (Str × D) × St4)} {dvs : List V} {dv : List D} (C : MakeC X.prog X.w X.K X.mg X.base CX c k pm dvs fI) (hr : Room kr X.A) (hk : k + 1 ≤ kr) (pl : Plain dvs dv) (hx : Passes CX X E0) (ha : PA X (e :: es) (canonA X.K ms pm ua')) (hf : Mo.own ∉ pm := by decide)
    (hg : Gl X c := by rfl) (hdb : (c == ("__debug__" : Str)) = false := by decide) (he : starEach (e :: es) X.env = (false, eval e X.env) :: starEach es X.env := by rfl) (hpl : (backTo pos (starEach es X.env)).any (·.1) = false := by rfl) :
    PE X (.Call (.Name c p) (e :: es) [] pos) (canon X.K ms (uMake c fI dv ua')) := by
  obtain ⟨fd, ps, ds, hm, M, F, b, vd⟩ := C.ex
  exact pd_make M F (hr.mono hk) hm b pl vd hx ha hf hg hdb he hpl
end
end Fw
set_option Elab.async false
set_option linter.all false
set_option maxRecDepth 100000
set_option maxHeartbeats 4000000
/-! Fw9: further forms. -/
namespace Fw
open PySem PySem.Spec L2

def bNe (x y : D) : Option Bool := (bEq x y).map not
section
variable {X : Cx} {rk : RK} {ms pm : List Mo} {e a b c : Expr} {es : List Expr} {u ua ub uc : UE} {ul : UL} {pos : Pos} {s : Stmt}
/-- x in xs, xs read where it stands -/
def uInL (neg : Bool) (a : UE) (l : UL) : UE := fun ρ st => (a ρ st).bind fun x => (l ρ x.2).bind fun y => (bInL x.1 y.1).map fun z => (.bl (if neg then !z else z), y.2)
theorem canon_inL {K : PySem.W.Frag} {neg : Bool} {σ : St} {H : Hp} {Q : VK} (cc : canon K ms (uInL neg ua ul) σ H Q) : tOp (rIn K neg) (canon K ms ua) (canonL K ms ul) σ H Q := by
  obtain ⟨g, ρ, st, d, st', R, hu, k⟩ := cc
  unfold uInL at hu
  obtain ⟨⟨dx, st1⟩, h1, hu⟩ := Option.bind_eq_some_iff.mp hu
  obtain ⟨⟨ds, st2⟩, h2, hu⟩ := Option.bind_eq_some_iff.mp hu
  obtain ⟨z, h3, hu⟩ := Option.map_eq_some_iff.mp hu
  cases hu
  refine ⟨g, ρ, st, dx, st1, R, h1, fun x H1 e1 s1 rx => ?_⟩
  have R1 := R.step e1 s1
  refine ⟨g, ρ, st1, ds, _, R1, h2, fun p vs H2 e2 s2 hp np r => ?_⟩
  obtain ⟨f1, f2, e⟩ := in_rel (Rp.mono (R1.sm e2) rx) r h3
  refine ⟨p, vs, rfl, .inl hp, f1, f2, ?_⟩
  rw [e]
  exact k _ H2 (e1.trans e2) s2 (.bl _)
theorem pd_inL {neg : Bool} {op : CmpOp} (ho : OpR X (compareOp op) (rIn X.K neg)) (ha : PE X a (canon X.K ms ua)) (hb : PE X b (canonL X.K ms ul)) (hm : behindInMarks op b = false := by exact nomark _) : PE X (.Compare a [op] [b] pos) (canon X.K ms (uInL neg ua ul)) :=
  PE.imp (pe_cmpR ho ha hb hm) fun _ _ _ c => canon_inL c
theorem ptd_inL {neg : Bool} {op : CmpOp} (ho : OpR X (compareOp op) (rIn X.K neg)) (ha : PE X a (canon X.K ms ua)) (hb : PE X b (canonL X.K ms ul)) (hm : behindInMarks op b = false := by exact nomark _) : PT X (.Compare a [op] [b] pos) (canonT X.K ms (uTst dBool (uInL neg ua ul))) :=
  PT.imp (pt_cmpR ho ha hb hm) fun σ H Q ⟨g, ρ, st, z, st', R, hu, k⟩ => by
    refine canon_inL ?_
    unfold uTst at hu
    obtain ⟨⟨d, st1⟩, h1, hu⟩ := Option.bind_eq_some_iff.mp hu
    obtain ⟨w, h2, hu⟩ := Option.map_eq_some_iff.mp hu
    cases hu
    exact ⟨g, ρ, st, d, _, R, h1, fun v H' e1 s1 rv => ⟨z, rp_bool rv h2, k H' e1 s1⟩⟩
/-- list(range(n)) -/
def uListRg (a : UE) : UL := fun ρ st => (a ρ st).bind fun x => match x.1 with
  | .int n => if 0 ≤ n ∧ n ≤ 16777216 then some (rng 0 n, x.2) else none
  | _ => none
theorem rgV_rel {K : PySem.W.Frag} {H : Hp} (a b : Int) : RpA K H (rgV a b) (rng a b) := by
  unfold rgV rng
  generalize List.range (b - a).toNat = l
  induction l with
  | nil => exact .nil
  | cons i l ih => exact .cons (.int _) ih
theorem pn_listRg {p p2 q : Pos} (hc : X.calm = true) (hm : X.mg "list" = none) (hm2 : X.mg "range" = none) (ha : PE X a (canon X.K ms ua)) (hg : Gl X "list" := by rfl) (hg2 : Gl X "range" := by rfl) (na : starEach [a] X.env = (false, eval a X.env) :: starEach [] X.env := by rfl)
    (nb : starEach [.Call (.Name "range" p2) [a] [] q] X.env = (false, eval (.Call (.Name "range" p2) [a] [] q) X.env) :: starEach [] X.env := by rfl) : PE X (.Call (.Name "list" p) [.Call (.Name "range" p2) [a] [] q] [] pos) (canonN X.K ms (uListRg ua)) :=
  PE.imp (pe_listRg hc hg hm (prg_1 hg2 hm2 ha na) nb) fun σ H Q ⟨g, ρ, st, d, st', R, hu, k⟩ => by
    unfold uListRg at hu
    obtain ⟨⟨dx, st1⟩, h1, hu⟩ := Option.bind_eq_some_iff.mp hu
    refine ⟨g, ρ, st, dx, st1, R, h1, fun x H1 e1 s1 rx => ?_⟩
    cases rx with
    | int n =>
      have hu : (if 0 ≤ n ∧ n ≤ 16777216 then some (rng 0 n, st1) else none) = some (d, st') := hu
      by_cases c : 0 ≤ n ∧ n ≤ 16777216
      · rw [if_pos c] at hu
        cases hu
        have R1 := R.step e1 s1
        exact ⟨n, rfl, RgOk.of_le (by omega) (by omega) (by omega) (by omega), fun q nq => k q _ _ (e1.trans (new_stp nq)) (R1.newSrc nq) (R.freshBack e1 s1 nq) upd_same (rgV_rel 0 n)⟩
      · rw [if_neg c] at hu
        cases hu
    | _ =>
      have hu : (none : Option (List D × St4)) = some (d, st') := hu
      cases hu
/-- a comprehension stored at once -/
theorem ps_setNof {i : Nat} {te : TE} (hm : ms[i]? = some .own) (h : PS X s (tAsg te (gName i))) (c : ∀ {σ H Q}, canonN X.K ms ul σ H Q → te σ H Q) : PS X s (canonSt X.K rk ms (uSetL i ul)) := PS.imp h fun D σ H z => c (show canonN X.K ms ul σ H _ from c_setN hm z)
theorem ps_setFof {i : Nat} {te : TE} (hm : ms[i]? = some .fz) (h : PS X s (tAsg te (gName i))) (c : ∀ {σ H Q}, canonN X.K ms ul σ H Q → te σ H Q) : PS X s (canonSt X.K rk ms (uSet i (uOfL ul))) := PS.imp h fun D σ H z => by
  refine c (show canonN X.K ms ul σ H (fun x H1 => gName i x σ H1 D.nx) from ?_)
  obtain ⟨g, ρ, st, d, st', R, hu, k⟩ := (show canon X.K ms (uOfL ul) σ H (fun x H1 => gName i x σ H1 D.nx) from c_set hm z)
  unfold uOfL at hu
  obtain ⟨⟨ds, st1⟩, h1, hu⟩ := Option.map_eq_some_iff.mp hu
  cases hu
  exact ⟨g, ρ, st, ds, _, R, h1, fun p vs H' e s np hp r => k _ H' e s (.lst (hid_of (R.freshEx np) hp) (RpA.mono (hid_mono fun b o q z => ⟨fun w => q (.inl w), z⟩) r))⟩
/-- a tuple constant of the top -/
theorem pd_gtup {x : Str} {p : Pos} {A : Addr} {xs : List V} {ds : List D} (hm : X.mg x = some (.ref A)) (h : (∀ H, SqT X.K H A xs) ∧ ∀ H, RpA X.K H xs ds) (hg : Gl X x := by rfl) (hdb : (x == ("__debug__" : Str)) = false := by decide) : PE X (.Name x p) (canon X.K ms (uC (.tup ds))) :=
  pd_c (pe_glob (v := .ref A) hg hm rfl hdb) fun H => .tup (h.1 H) (h.2 H)
end
section
variable {K : PySem.W.Frag} {g : Gh} {rk : RK} {ms pm : List Mo} {σ σ1 : St} {H H1 : Hp} {ρ ρ' : En} {st st' : St4} {D D' : Ends}
/-- a, xs = e, (a new list), by a tuple that is thrown away -/
theorem c_tup2N {i j : Nat} {ua : UA} (hi : ms[i]? = some .fz) (hj : ms[j]? = some .own) (c : canonSt K rk ms (uPar [i, j] ua) D σ H) : tAsg (tTup (canonA K ms [.fz, .own] ua)) (gTup K 2 (gCons (gName i) (gCons (gName j) gNil))) D σ H := by
  obtain ⟨g, ρ, st, f, ρ', st', R, hu, k⟩ := c
  unfold uPar at hu
  obtain ⟨⟨ds, st1⟩, h1, hu⟩ := Option.bind_eq_some_iff.mp hu
  obtain ⟨ρ1, h2, hu⟩ := Option.map_eq_some_iff.mp hu
  cases hu
  refine ⟨g, ρ, st, ds, _, R, h1, fun vs H1 O e1 s1 hO ra nd => ?_⟩
  obtain ⟨v, w, d, e, rfl, rfl, r1, p, vs, ds, rfl, rfl, hp, hOp, r2⟩ := ra2 ra
  cases h2
  refine ⟨(by show 2 ≤ sizeLine; decide), fun q nq => ⟨q, _, rfl, .inl (.inl upd_same), rfl, v, [.ref p], rfl, .ref p, [], rfl, rfl, ?_⟩⟩
  have ij : i ≠ j := fun c => by
    rw [c, hj] at hi
    cases hi
  have R1' := R.step e1 s1
  have e2 : Stp g H (upd H1 q (.tup [v, .ref p])) := e1.trans (new_stp nq)
  have s2 : Src g.as (upd H1 q (.tup [v, .ref p])) _ := R1'.newSrc nq
  have hp2 : upd H1 q (.tup [v, .ref p]) p = some (.lst vs) := by
    rw [upd_ne (ne_of_none hp nq)]
    exact hp
  have smO : Same (hid H1 fun b => Ex g ms σ b ∨ O b) (hid (upd H1 q (.tup [v, .ref p])) fun b => Ex g ms σ b ∨ b = p) := hid_mono fun b o q' z => by
    refine ⟨fun w => w.elim (fun w => q' (.inl w)) fun w => q' (.inr (by rw [w]; exact hOp)), ?_⟩
    rw [upd_ne (ne_of_none z nq)]
    exact z
  obtain ⟨R1, sm⟩ := R.setOwn hj e2 s2 (hO p hOp).1 hp2 (RpA.mono smO r2)
  have sub : Same (hid H1 fun b => Ex g ms σ b ∨ O b) (hid (upd H1 q (.tup [v, .ref p])) (Ex g ms (σ.set j (some (.ref p))))) := hid_mono fun b o q' z => by
    refine ⟨fun w => w.elim (fun w => q' (.inl (.inl w))) fun ⟨l, h1, h2⟩ => ?_, by rw [upd_ne (ne_of_none z nq)]; exact z⟩
    by_cases c : j = l
    · subst c
      rw [List.getElem?_set_self (by rw [R.l1]; exact lt_of_get hj)] at h2
      cases h2
      exact q' (.inr hOp)
    · rw [List.getElem?_set_ne c] at h2
      exact q' (.inl (.inr ⟨l, h1, h2⟩))
  have R2 := R1.setFz hi (Rp.mono sub r1)
  have e3 : (σ.set i (some v)).set j (some (V.ref p)) = (σ.set j (some (V.ref p))).set i (some v) := List.set_comm _ _ ij
  show D.nx ((σ.set i (some v)).set j (some (V.ref p))) _
  rw [e3]
  have e4 : (ρ.set i (some d)).set j (some (Fw.D.lst ds)) = (ρ.set j (some (Fw.D.lst ds))).set i (some d) := List.set_comm _ _ ij
  have k' : ∀ σ' H', Rel K g ms σ' H' ((ρ.set i (some d)).set j (some (Fw.D.lst ds))) _ → Same (hid H (Ex g ms σ)) (hid H' (Ex g ms σ')) → D.nx σ' H' := k
  rw [e4] at k'
  refine k' _ _ R2 ?_
  rw [ex_set hi (by decide)]
  exact sm
end
end Fw
set_option Elab.async false
set_option linter.all false
set_option maxRecDepth 100000
set_option maxHeartbeats 4000000
/-! Fw10: the body of an __init__: self stands at x, its fields grow, some of them are lists that only self holds. -/
namespace Fw
open PySem PySem.Spec L2

abbrev Owns := List (Addr × List Int)
def Fx (g : Gh) (own : Owns) (x : Addr) (b : Addr) : Prop := g.F b ∨ b = x ∨ ∃ ns, (b, ns) ∈ own
structure RI (K : PySem.W.Frag) (c : Str) (g : Gh) (own : Owns) (x dx : Addr) (vfs : List (Str × V)) (fs : List (Str × D)) (σ : St) (H : Hp) (ρ : En) (st : St4) : Prop where
  gok : GhOk g
  src : Src g.as H st
  bk : Bk g H
  xB : g.B x = none
  self : σ[0]? = some (some (.ref x))
  inst : H x = some (.ins (He.ga K c) dx vfs)
  rf : RpF K (hid H (Fx g own x)) vfs fs
  ownc : ∀ p ns, (p, ns) ∈ own → g.B p = none ∧ H p = some (.lst (ns.map V.int))
  nd : (own.map (·.1)).Nodup
  len : σ.length = ρ.length
  slot : ∀ (i : Nat) (d : D), ρ[i]? = some (some d) → ∃ v, σ[i]? = some (some v) ∧ Rp K (hid H (Fx g own x)) v d
def FzN (n : Nat) : List Mo := List.replicate n .fz
section
variable {K : PySem.W.Frag} {c : Str} {g : Gh} {own : Owns} {x dx : Addr} {vfs : List (Str × V)} {fs fs' : List (Str × D)} {σ : St} {H H1 H' : Hp} {ρ ρ' : En} {st st' : St4} {D : Ends} {f : Str} {u : UE} {d : Fw.D} {n : Nat}
theorem own_fz {p : Addr} : ¬ Own (FzN n) σ p := fun ⟨i, h, _⟩ => by
  unfold FzN at h
  rw [List.getElem?_replicate] at h
  split at h <;> cases h
theorem ex_fz {g : Gh} : Ex g (FzN n) σ = g.F := by
  funext b
  exact propext ⟨fun w => w.elim id fun w => absurd w own_fz, .inl⟩
theorem RI.asx (R : RI K c g own x dx vfs fs σ H ρ st) : g.as ≠ some x := fun q => R.gok.live x (R.gok.asF x q) R.xB
theorem RI.asO (R : RI K c g own x dx vfs fs σ H ρ st) {p : Addr} {ns : List Int} (h : (p, ns) ∈ own) : g.as ≠ some p := fun q => R.gok.live p (R.gok.asF p q) (R.ownc p ns h).1
theorem RI.live (R : RI K c g own x dx vfs fs σ H ρ st) {a : Addr} (h : Fx g own x a) : H a ≠ none := by
  rcases h with h | rfl | ⟨ns, h⟩
  · by_cases q : g.as = some a
    · rw [R.src a q]
      exact fun z => by cases z
    · intro z
      cases e : g.B a with
      | none => exact R.gok.live a h e
      | some o =>
        rw [R.bk a o e q] at z
        cases z
  · rw [R.inst]
    exact fun z => by cases z
  · rw [(R.ownc _ _ h).2]
    exact fun z => by cases z
/-- a reading's state: some of self's own lists are seen, or self as a whole -/
theorem RI.rel (R : RI K c g own x dx vfs fs σ H ρ st) {F' : Addr → Prop} (h1 : ∀ b, F' b → Fx g own x b) (h2 : ∀ b, g.F b → F' b) (hn : ρ'.length = ρ.length) (hρ : ∀ (i : Nat) (d : Fw.D), ρ'[i]? = some (some d) → ρ[i]? = some (some d) ∨ (i = 0 ∧ Rp K (hid H F') (.ref x) d)) :
    Rel K ⟨g.as, F', H⟩ (FzN ρ.length) σ H ρ' st where
  gok := ⟨fun a q => h2 a (R.gok.asF a q), fun a q => R.live (h1 a q)⟩
  l1 := by
    rw [R.len]
    exact (List.length_replicate).symm
  l2 := by
    rw [hn]
    exact (List.length_replicate).symm
  src := R.src
  bk := fun b o z _ => z
  slot := fun i m d hm hd => by
    have em : m = .fz := by
      unfold FzN at hm
      rw [List.getElem?_replicate] at hm
      split at hm
      · cases hm; rfl
      · cases hm
    subst em
    rcases hρ i d hd with z | ⟨rfl, z⟩
    · obtain ⟨v, hv, r⟩ := R.slot i d z
      refine ⟨v, hv, ?_⟩
      show Rp K (hid H (Ex ⟨g.as, F', H⟩ (FzN ρ.length) σ)) v d
      rw [ex_fz]
      exact Rp.mono (hid_mono fun b o q z => ⟨fun w => q (h1 b w), z⟩) r
    · refine ⟨_, R.self, ?_⟩
      show Rp K (hid H (Ex ⟨g.as, F', H⟩ (FzN ρ.length) σ)) (.ref x) d
      rw [ex_fz]
      exact z
  ownB := fun p h => absurd h own_fz
  ownD := fun i j p h => by
    unfold FzN at h
    rw [List.getElem?_replicate] at h
    split at h <;> cases h
/-- a step of reading -/
theorem RI.step (R : RI K c g own x dx vfs fs σ H ρ st) (e : Stp g H H') (s : Src g.as H' st') : RI K c g own x dx vfs fs σ H' ρ st' := by
  have sm : Same (hid H (Fx g own x)) (hid H' (Fx g own x)) := hid_mono fun b o q z => ⟨q, e b o z fun w => q (.inl (R.gok.asF b w))⟩
  exact ⟨R.gok, s, fun b o z n => e b o (R.bk b o z n) n, R.xB, R.self, e _ _ R.inst R.asx, RpF.mono sm R.rf, fun p ns h => ⟨(R.ownc p ns h).1, e _ _ (R.ownc p ns h).2 (R.asO h)⟩, R.nd, R.len, fun i d h => by
    obtain ⟨v, hv, r⟩ := R.slot i d h
    exact ⟨v, hv, Rp.mono sm r⟩⟩
theorem putF_new {v : V} : ∀ {vfs : List (Str × V)}, vfs.lookup f = none → putF f v vfs = vfs ++ [(f, v)]
  | [], _ => rfl
  | (k, w) :: r, h => by
    rw [List.lookup_cons] at h
    unfold putF
    cases e : (f == k) with
    | true =>
      rw [e] at h
      cases h
    | false =>
      rw [e] at h
      have ne : k ≠ f := fun q => by
        rw [q] at e
        simp at e
      rw [if_neg ne, putF_new h] <;> rfl
theorem RpF.app {H : Hp} : ∀ {vs ws : List (Str × V)} {ds es : List (Str × Fw.D)}, RpF K H vs ds → RpF K H ws es → RpF K H (vs ++ ws) (ds ++ es)
  | _, _, _, _, .nil, s => s
  | _, _, _, _, .cons q r, s => .cons q (RpF.app r s)
theorem RpF.length {H : Hp} : ∀ {vs : List (Str × V)} {ds : List (Str × Fw.D)}, RpF K H vs ds → vs.length = ds.length
  | _, _, .nil => rfl
  | _, _, .cons _ r => congrArg Nat.succ (RpF.length r)
theorem RI.updx (R : RI K c g own x dx vfs fs σ H ρ st) {o : HO} : Same (hid H (Fx g own x)) (hid (upd H x o) (Fx g own x)) := hid_mono fun b o' q z => ⟨q, by
  rw [upd_ne fun w => q (.inr (.inl w))]
  exact z⟩
/-- self.f = v -/
theorem RI.put (R : RI K c g own x dx vfs fs σ H ρ st) {v : V} (hf : fs.lookup f = none) (r : Rp K (hid H (Fx g own x)) v d) : RI K c g own x dx (vfs ++ [(f, v)]) (fs ++ [(f, d)]) σ (upd H x (.ins (He.ga K c) dx (putF f v vfs))) ρ st := by
  refine ⟨R.gok, fun a q => ?_, fun b o z n => ?_, R.xB, R.self, ?_, RpF.mono R.updx (RpF.app R.rf (.cons r .nil)), fun p ns h => ⟨(R.ownc p ns h).1, ?_⟩, R.nd, R.len, fun i d h => ?_⟩
  · rw [upd_ne fun w => R.asx (by rw [← w]; exact q)]
    exact R.src a q
  · rw [upd_ne fun w => by rw [w, R.xB] at z; cases z]
    exact R.bk b o z n
  · rw [upd_same, putF_new (R.rf.none hf)]
  · rw [upd_ne fun w => by
      have := (R.ownc p ns h).2
      rw [w, R.inst] at this
      cases this]
    exact (R.ownc p ns h).2
  · obtain ⟨v, hv, q⟩ := R.slot i d h
    exact ⟨v, hv, Rp.mono R.updx q⟩
/-- self.f = e, where e does not read self -/
theorem st_fz (R : RI K c g own x dx vfs fs σ H ρ st) (hu : u ρ st = some (d, st')) (hl : fs.length < 900) (hf : fs.lookup f = none) (cl : Cls K (He.ga K c)) (na : NoAttr K (He.ga K c) f)
    (k : ∀ v H2, RI K c g own x dx (vfs ++ [(f, v)]) (fs ++ [(f, d)]) σ H2 ρ st' → D.nx σ H2) : sFld K (tVar 0) (canon K (FzN ρ.length) u) f D σ H := by
  refine ⟨⟨g.as, Fx g own x, H⟩, ρ, st, d, st', R.rel (fun _ z => z) (fun _ => .inl) rfl fun _ _ h => .inl h, hu, fun v H1 e s r => ?_⟩
  rw [ex_fz] at r
  have R1 := R.step e s
  refine ⟨_, R1.self, x, _, dx, vfs, rfl, R1.inst, cl, na, ?_, k v _ (R1.put hf r)⟩
  rw [R.rf.length]
  omega
/-- self.f = e, an int, self is read as fs' -/
theorem st_int {i : Int} {F' : Addr → Prop} (R : RI K c g own x dx vfs fs σ H ρ st) (h1 : ∀ b, F' b → Fx g own x b) (h2 : ∀ b, g.F b → F' b) (hx : ¬ F' x) (hr : RpF K (hid H F') vfs fs') (hn : ρ'.length = ρ.length)
    (hρ : ∀ (i : Nat) (d : Fw.D), ρ'[i]? = some (some d) → ρ[i]? = some (some d) ∨ (i = 0 ∧ d = .ins c fs')) (hu : u ρ' st = some (.int i, st')) (hl : fs.length < 900) (hf : fs.lookup f = none) (cl : Cls K (He.ga K c)) (na : NoAttr K (He.ga K c) f)
    (k : ∀ H2, RI K c g own x dx (vfs ++ [(f, .int i)]) (fs ++ [(f, .int i)]) σ H2 ρ st' → D.nx σ H2) : sFld K (tVar 0) (canon K (FzN ρ.length) u) f D σ H := by
  refine ⟨⟨g.as, F', H⟩, ρ', st, .int i, st', R.rel h1 h2 hn fun j d h => (hρ j d h).imp id fun ⟨a, b⟩ => ⟨a, by rw [b]; exact .ins (hid_of hx R.inst) hr⟩, hu, fun v H1 e s r => ?_⟩
  cases r
  have R1 := R.step e s
  refine ⟨_, R1.self, x, _, dx, vfs, rfl, R1.inst, cl, na, ?_, k _ (R1.put hf (.int i))⟩
  rw [R.rf.length]
  omega
/-- self.f = [..], a list of self's own -/
theorem st_own {ul : UL} {ns : List Int} (R : RI K c g own x dx vfs fs σ H ρ st) (hu : ul ρ st = some (ns.map Fw.D.int, st')) (hl : fs.length < 900) (hf : fs.lookup f = none) (cl : Cls K (He.ga K c)) (na : NoAttr K (He.ga K c) f)
    (k : ∀ p H2, RI K c g ((p, ns) :: own) x dx (vfs ++ [(f, .ref p)]) (fs ++ [(f, .src)]) σ H2 ρ st' → D.nx σ H2) : sFld K (tVar 0) (canonN K (FzN ρ.length) ul) f D σ H := by
  refine ⟨⟨g.as, Fx g own x, H⟩, ρ, st, _, st', R.rel (fun _ z => z) (fun _ => .inl) rfl fun _ _ h => .inl h, hu, fun p vs H1 e s np hp r => ?_⟩
  have R1 := R.step e s
  have ev := r.ints
  have hF : ¬ Fx g own x p := fun w => R.live w np
  have sub : Same (hid H1 (Fx g own x)) (hid H1 (Fx g ((p, ns) :: own) x)) → True := fun _ => trivial
  have np1 : ∀ b o, hid H (Fx g own x) b = some o → b ≠ p := fun b o z w => by
    have := (hid_some z).2
    rw [w, np] at this
    cases this
  have sm : Same (hid H (Fx g own x)) (hid H1 (Fx g ((p, ns) :: own) x)) := fun b o z => by
    obtain ⟨q1, q2⟩ := hid_some z
    refine hid_of (fun w => ?_) (e b o q2 fun w => q1 (.inl (R.gok.asF b w)))
    rcases w with w | w | ⟨ms, w⟩
    · exact q1 (.inl w)
    · exact q1 (.inr (.inl w))
    · rcases List.mem_cons.mp w with w | w
      · exact np1 b o z (congrArg (·.1) w)
      · exact q1 (.inr (.inr ⟨ms, w⟩))
  have pB : g.B p = none := by
    cases z : g.B p with
    | none => rfl
    | some o =>
      by_cases w : g.as = some p
      · exact absurd (.inl (R.gok.asF p w)) hF
      · rw [R.bk p o z w] at np
        cases np
  have R2 : RI K c g ((p, ns) :: own) x dx vfs fs σ H1 ρ st' := by
    refine ⟨R.gok, s, R1.bk, R.xB, R.self, R1.inst, RpF.mono sm R.rf, fun q ms h => ?_, ?_, R.len, fun i d h => ?_⟩
    · rcases List.mem_cons.mp h with h | h
      · cases h
        exact ⟨pB, by rw [hp, ev]⟩
      · exact R1.ownc q ms h
    · refine List.nodup_cons.mpr ⟨fun w => ?_, R.nd⟩
      obtain ⟨⟨q, ms⟩, w1, w2⟩ := List.mem_map.mp w
      subst w2
      exact hF (.inr (.inr ⟨ms, w1⟩))
    · obtain ⟨v, hv, r⟩ := R.slot i d h
      exact ⟨v, hv, Rp.mono sm r⟩
  refine ⟨_, R2.self, x, _, dx, vfs, rfl, R2.inst, cl, na, ?_, k p _ (R2.put hf (.any _))⟩
  rw [R.rf.length]
  omega
/-- the own list at p has another content -/
theorem RI.grow {own1 own2 : Owns} {p : Addr} {ns ms : List Int} (R : RI K c g (own1 ++ (p, ns) :: own2) x dx vfs fs σ H ρ st) : RI K c g (own1 ++ (p, ms) :: own2) x dx vfs fs σ (upd H p (.lst (ms.map V.int))) ρ st := by
  have hm : (p, ns) ∈ own1 ++ (p, ns) :: own2 := List.mem_append_right _ List.mem_cons_self
  have eF : ∀ b, Fx g (own1 ++ (p, ms) :: own2) x b → Fx g (own1 ++ (p, ns) :: own2) x b := fun b w => by
    rcases w with w | w | ⟨l, w⟩
    · exact .inl w
    · exact .inr (.inl w)
    · refine .inr (.inr ?_)
      rcases List.mem_append.mp w with w | w
      · exact ⟨l, List.mem_append_left _ w⟩
      · rcases List.mem_cons.mp w with w | w
        · cases w
          exact ⟨ns, hm⟩
        · exact ⟨l, List.mem_append_right _ (List.mem_cons_of_mem _ w)⟩
  have sm : Same (hid H (Fx g (own1 ++ (p, ns) :: own2) x)) (hid (upd H p (.lst (ms.map V.int))) (Fx g (own1 ++ (p, ms) :: own2) x)) := hid_mono fun b o q z => ⟨fun w => q (eF b w), by
    rw [upd_ne fun w => q (.inr (.inr ⟨ns, by rw [w]; exact hm⟩))]
    exact z⟩
  have nd := R.nd
  refine ⟨R.gok, fun a q => ?_, fun b o z n => ?_, R.xB, R.self, ?_, RpF.mono sm R.rf, fun q l h => ?_, ?_, R.len, fun i d h => ?_⟩
  · rw [upd_ne fun w => R.asO hm (by rw [← w]; exact q)]
    exact R.src a q
  · rw [upd_ne fun w => by rw [w, (R.ownc p ns hm).1] at z; cases z]
    exact R.bk b o z n
  · rw [upd_ne fun w => by
      have := (R.ownc p ns hm).2
      rw [← w, R.inst] at this
      cases this]
    exact R.inst
  · by_cases w : q = p
    · subst w
      have e : l = ms := by
        rw [List.map_append, List.map_cons] at nd
        obtain ⟨_, n2, n3⟩ := List.nodup_append.mp nd
        rcases List.mem_append.mp h with h | h
        · exact absurd rfl (n3 q (List.mem_map.mpr ⟨_, h, rfl⟩) q List.mem_cons_self)
        · rcases List.mem_cons.mp h with h | h
          · cases h; rfl
          · exact absurd (List.mem_map.mpr ⟨_, h, rfl⟩) (List.nodup_cons.mp n2).1
      subst e
      exact ⟨(R.ownc q ns hm).1, upd_same⟩
    · rw [upd_ne w]
      refine R.ownc q l ?_
      rcases List.mem_append.mp h with h | h
      · exact List.mem_append_left _ h
      · rcases List.mem_cons.mp h with h | h
        · cases h
          exact absurd rfl w
        · exact List.mem_append_right _ (List.mem_cons_of_mem _ h)
  · rw [List.map_append, List.map_cons] at nd ⊢
    exact nd
  · obtain ⟨v, hv, r⟩ := R.slot i d h
    exact ⟨v, hv, Rp.mono sm r⟩
/-- self.f.append(e), an int -/
theorem st_app {i : Int} {F' : Addr → Prop} {own1 own2 : Owns} {p : Addr} {ns : List Int} (R : RI K c g (own1 ++ (p, ns) :: own2) x dx vfs fs σ H ρ st) (hv : vfs.lookup f = some (.ref p)) (h1 : ∀ b, F' b → Fx g (own1 ++ (p, ns) :: own2) x b) (h2 : ∀ b, g.F b → F' b) (hx : ¬ F' x) (hr : RpF K (hid H F') vfs fs') (hn : ρ'.length = ρ.length)
    (hρ : ∀ (i : Nat) (d : Fw.D), ρ'[i]? = some (some d) → ρ[i]? = some (some d) ∨ (i = 0 ∧ d = .ins c fs')) (hu : u ρ' st = some (.int i, st')) (hl : ns.length < 100000) (cl : Cls K (He.ga K c)) (na : NoAttr K (He.ga K c) f)
    (k : ∀ H2, RI K c g (own1 ++ (p, ns ++ [i]) :: own2) x dx vfs fs σ H2 ρ st' → D.nx σ H2) : tDrop (tBM K "list" rAppend (tFld K (tVar 0) f) (tCons (canon K (FzN ρ.length) u) tNil)) D σ H := by
  have hm : (p, ns) ∈ own1 ++ (p, ns) :: own2 := List.mem_append_right _ List.mem_cons_self
  refine ⟨_, R.self, x, _, dx, vfs, .ref p, rfl, R.inst, cl, na, hv, .inl ⟨rfl, _, .inl (.inl (R.ownc p ns hm).2)⟩, ?_⟩
  refine ⟨⟨g.as, F', H⟩, ρ', st, .int i, st', R.rel h1 h2 hn fun j d h => (hρ j d h).imp id fun ⟨a, b⟩ => ⟨a, by rw [b]; exact .ins (hid_of hx R.inst) hr⟩, hu, fun v H1 e s r => ?_⟩
  cases r
  have R1 := R.step e s
  refine ⟨p, ns.map V.int, .int i, rfl, rfl, (R1.ownc p ns hm).2, by rw [List.length_map]; exact Nat.lt_of_lt_of_le hl (by decide), ?_⟩
  have e : ns.map V.int ++ [V.int i] = (ns ++ [i]).map V.int := by
    rw [List.map_append] <;> rfl
  rw [e]
  exact k _ R1.grow
end
end Fw
set_option Elab.async false
set_option linter.all false
set_option maxRecDepth 100000
set_option maxHeartbeats 4000000
namespace Fw
open PySem PySem.Spec L2
set_option maxHeartbeats 4000000
/-! printed by gen.py -/
def tab_SIZES : List (Str × Int) := [("day", 3), ("month", 2), ("year", 1)]
def tab_MOST : List (Str × Int) := [("rows", 5000), ("number", 10 ^ 30), ("segments", 12), ("months", 24), ("monthdays", 60), ("dayticks", 60), ("numbers", 400), ("round", 200000)]

/-- segment_at: 0=segments 1=t 2=place 3=k -/
def u_segment_at : US :=
  (uSeq (uSet 2 (uC (.int 0)))
  (uSeq (uFor (uRng2 (uC (.int 1)) (uUn dLen (uVar 0))) (bName 3)
  (uIfS (uTst dBool (uRel (bI2 fun i j => decide (i ≤ j)) (uUn (dFld ("Segment" : PySem.Str) ("tick" : PySem.Str)) (uOp dIx (uVar 0) (uVar 3))) (uVar 1)))
  (uSet 2 (uVar 3))
  uNext))
  (uRet (uVar 2))))
def f_segment_at : List D → St4 → Option (D × St4) := uDef .fz 4 u_segment_at
/-- place_in: 0=starts 1=number 2=low 3=high 4=middle -/
def u_place_in : US :=
  (uSeq (uSet 2 (uC (.int 0)))
  (uSeq (uSet 3 (uOp (dI2 fun i j => some (i - j)) (uUn dLen (uVar 0)) (uC (.int 1))))
  (uSeq (uWh (uTst dBool (uRel (bI2 fun i j => decide (i < j)) (uVar 2) (uVar 3)))
  (uSeq (uSet 4 (uOp (dI2 iDiv) (uOp dAdd (uOp dAdd (uVar 2) (uVar 3)) (uC (.int 1))) (uC (.int 2))))
  (uIfS (uTst dBool (uRel (bI2 fun i j => decide (i ≤ j)) (uOp dIx (uVar 0) (uVar 4)) (uVar 1)))
  (uSet 2 (uVar 4))
  (uSet 3 (uOp (dI2 fun i j => some (i - j)) (uVar 4) (uC (.int 1)))))) 1000)
  (uRet (uVar 2)))))
def f_place_in : List D → St4 → Option (D × St4) := uDef .fz 5 u_place_in
/-- is_long: 0=leap 1=year 2=told 3=number -/
def u_is_long : US :=
  (uSeq (uIfS (uTst dBool (uRel bEq (uOp dIx (uVar 0) (uC (.int 0))) (uC (.str ("never" : PySem.Str)))))
  (uRet (uC (.bl false)))
  uNext)
  (uSeq (uIfS (uTst dBool (uRel bEq (uOp dIx (uVar 0) (uC (.int 0))) (uC (.str ("of" : PySem.Str)))))
  (uRet (uRel (bIn false) (uOp (dI2 iMod) (uVar 1) (uOp dIx (uVar 0) (uC (.int 1)))) (uOp dIx (uVar 0) (uC (.int 2)))))
  uNext)
  (uSeq (uSet 2 (uC (.bl false)))
  (uSeq (uFor (uItems (uSl (uVar 0) (some (uC (.int 1))) none)) (bName 3)
  (uIfS (uTst dBool (uRel bEq (uOp (dI2 iMod) (uVar 1) (uVar 3)) (uC (.int 0))))
  (uSet 2 (uNotV (uVar 2)))
  uNext))
  (uRet (uVar 2))))))
def f_is_long : List D → St4 → Option (D × St4) := uDef .fz 4 u_is_long
/-- Segment.starts: 0=self 1=year -/
def u_Segment_starts : US :=
  (uRet (uIf (uTru (uCall f_is_long [] (aCons (uUn (dFld ("Segment" : PySem.Str) ("leap" : PySem.Str)) (uVar 0)) (aCons (uVar 1) aNil)))) (uUn (dFld ("Segment" : PySem.Str) ("longer" : PySem.Str)) (uVar 0)) (uUn (dFld ("Segment" : PySem.Str) ("common" : PySem.Str)) (uVar 0))))
def f_Segment_starts : List D → St4 → Option (D × St4) := uDef .fz 2 u_Segment_starts
/-- Segment.date_of: 0=self 1=day 2=rest 3=place 4=year 5=starts 6=month -/
def u_Segment_date_of : US :=
  (uSeq (uSet 2 (uOp (dI2 iMod) (uVar 1) (uUn (dFld ("Segment" : PySem.Str) ("days" : PySem.Str)) (uVar 0))))
  (uSeq (uSet 3 (uCall f_place_in [] (aCons (uUn (dFld ("Segment" : PySem.Str) ("year_days" : PySem.Str)) (uVar 0)) (aCons (uVar 2) aNil))))
  (uSeq (uSet 4 (uOp dAdd (uOp (dI2 iMul) (uOp (dI2 iDiv) (uVar 1) (uUn (dFld ("Segment" : PySem.Str) ("days" : PySem.Str)) (uVar 0))) (uUn (dFld ("Segment" : PySem.Str) ("years" : PySem.Str)) (uVar 0))) (uVar 3)))
  (uSeq (uSet 2 (uOp (dI2 fun i j => some (i - j)) (uVar 2) (uOp dIx (uUn (dFld ("Segment" : PySem.Str) ("year_days" : PySem.Str)) (uVar 0)) (uVar 3))))
  (uSeq (uSet 5 (uMeth ("Segment" : PySem.Str) ("starts" : PySem.Str) f_Segment_starts (uVar 0) (aCons (uVar 4) aNil)))
  (uSeq (uSet 6 (uCall f_place_in [] (aCons (uVar 5) (aCons (uVar 2) aNil))))
  (uRet (uTup (aCons (uVar 4) (aCons (uOp dAdd (uVar 6) (uC (.int 1))) (aCons (uOp dAdd (uOp (dI2 fun i j => some (i - j)) (uVar 2) (uOp dIx (uVar 5) (uVar 6))) (uC (.int 1))) aNil)))))))))))
def f_Segment_date_of : List D → St4 → Option (D × St4) := uDef .fz 7 u_Segment_date_of
/-- Segment.day_at: 0=self 1=t -/
def u_Segment_day_at : US :=
  (uRet (uOp dAdd (uUn (dFld ("Segment" : PySem.Str) ("first_day" : PySem.Str)) (uVar 0)) (uOp (dI2 iDiv) (uOp dAdd (uOp (dI2 fun i j => some (i - j)) (uVar 1) (uUn (dFld ("Segment" : PySem.Str) ("tick" : PySem.Str)) (uVar 0))) (uUn (dFld ("Segment" : PySem.Str) ("into" : PySem.Str)) (uVar 0))) (uUn (dFld ("Segment" : PySem.Str) ("width" : PySem.Str)) (uVar 0)))))
def f_Segment_day_at : List D → St4 → Option (D × St4) := uDef .fz 2 u_Segment_day_at
/-- name_at: 0=segments 1=level 2=t 3=segment -/
def u_name_at : US :=
  (uSeq (uSet 3 (uOp dIx (uVar 0) (uCall f_segment_at [] (aCons (uVar 0) (aCons (uVar 2) aNil)))))
  (uRet (uSl (uMeth ("Segment" : PySem.Str) ("date_of" : PySem.Str) f_Segment_date_of (uVar 3) (aCons (uMeth ("Segment" : PySem.Str) ("day_at" : PySem.Str) f_Segment_day_at (uVar 3) (aCons (uVar 2) aNil)) aNil)) none (some (uUn (dTab tab_SIZES) (uVar 1))))))
def f_name_at : List D → St4 → Option (D × St4) := uDef .fz 4 u_name_at
/-- leap_numbers: 0=leap -/
def u_leap_numbers : US :=
  (uSeq (uIfS (uTst dBool (uRel bEq (uOp dIx (uVar 0) (uC (.int 0))) (uC (.str ("of" : PySem.Str)))))
  (uRet (uOp dAdd (uOfL (uLst (aCons (uOp dIx (uVar 0) (uC (.int 1))) aNil))) (uUn dList (uOp dIx (uVar 0) (uC (.int 2))))))
  uNext)
  (uRet (uUn dList (uSl (uVar 0) (some (uC (.int 1))) none))))
def f_leap_numbers : List D → St4 → Option (D × St4) := uDef .fz 1 u_leap_numbers
/-- leap_fits: 0=leap 1=above 2=rest 3=numbers 4=k -/
def u_leap_fits : US :=
  (uSeq (uIfS (uTst dBool (uRel bEq (uOp dIx (uVar 0) (uC (.int 0))) (uC (.str ("of" : PySem.Str)))))
  (uSeq (uIfS (uOr (uTst dBool (uRel (bI2 fun i j => decide (i < j)) (uOp dIx (uVar 0) (uC (.int 1))) (uC (.int 1)))) (uTst dBool (uRel bEq (uUn dLen (uOp dIx (uVar 0) (uC (.int 2)))) (uC (.int 0)))))
  (uRet (uC (.bl false)))
  uNext)
  (uSeq (uSet 1 (uUn dNeg (uC (.int 1))))
  (uSeq (uFor (uItems (uOp dIx (uVar 0) (uC (.int 2)))) (bName 2)
  (uSeq (uIfS (uOr (uTst dBool (uRel (bI2 fun i j => decide (i ≤ j)) (uVar 2) (uVar 1))) (uTst dBool (uRel (bI2 fun i j => decide (j ≤ i)) (uVar 2) (uOp dIx (uVar 0) (uC (.int 1))))))
  (uRet (uC (.bl false)))
  uNext)
  (uSet 1 (uVar 2))))
  (uRet (uC (.bl true))))))
  uNext)
  (uSeq (uSet 3 (uUn dList (uSl (uVar 0) (some (uC (.int 1))) none)))
  (uSeq (uFor (uRng1 (uUn dLen (uVar 3))) (bName 4)
  (uIfS (uOr (uTst dBool (uRel (bI2 fun i j => decide (i < j)) (uOp dIx (uVar 3) (uVar 4)) (uC (.int 1)))) (uAnd (uTst dBool (uRel (bI2 fun i j => decide (j < i)) (uVar 4) (uC (.int 0)))) (uTst dBool (uRel bNe (uOp (dI2 iMod) (uOp dIx (uVar 3) (uVar 4)) (uOp dIx (uVar 3) (uOp (dI2 fun i j => some (i - j)) (uVar 4) (uC (.int 1))))) (uC (.int 0))))))
  (uRet (uC (.bl false)))
  uNext))
  (uRet (uC (.bl true))))))
def f_leap_fits : List D → St4 → Option (D × St4) := uDef .fz 5 u_leap_fits
/-- leap_round: 0=leap -/
def u_leap_round : US :=
  (uSeq (uIfS (uTst dBool (uRel bEq (uOp dIx (uVar 0) (uC (.int 0))) (uC (.str ("never" : PySem.Str)))))
  (uRet (uC (.int 1)))
  uNext)
  (uSeq (uIfS (uTst dBool (uRel bEq (uOp dIx (uVar 0) (uC (.int 0))) (uC (.str ("of" : PySem.Str)))))
  (uRet (uOp dIx (uVar 0) (uC (.int 1))))
  uNext)
  (uRet (uOp dIx (uVar 0) (uOp (dI2 fun i j => some (i - j)) (uUn dLen (uVar 0)) (uC (.int 1)))))))
def f_leap_round : List D → St4 → Option (D × St4) := uDef .fz 1 u_leap_round
/-- too_many: 0=what 1=kind 2=number -/
def u_too_many : US :=
  (uIfS (uTst dBool (uRel (bI2 fun i j => decide (j < i)) (uVar 2) (uUn (dTab tab_MOST) (uVar 1))))
  uNever
  uNext)
def f_too_many : List D → St4 → Option (D × St4) := uDef .fz 3 u_too_many
/-- number_check: 0=numbers 1=number -/
def u_number_check : US :=
  (uFor (uItems (uVar 0)) (bName 1)
  (uIfS (uTst dBool (uRel (bI2 fun i j => decide (j < i)) (uUn dAbs (uVar 1)) (uUn (dTab tab_MOST) (uC (.str ("number" : PySem.Str))))))
  uNever
  uNext))
def f_number_check : List D → St4 → Option (D × St4) := uDef .fz 2 u_number_check
/-- segment_limits: 0=row 1=lengths 2=length 3=number 4=cycle -/
def u_segment_limits : US :=
  (uSeq (uFor (uItems (uTup (aCons (uOp dIx (uVar 0) (uC (.int 4))) (aCons (uOp dIx (uVar 0) (uC (.int 5))) aNil)))) (bName 1)
  (uSeq (uDrop (uCall f_too_many [] (aCons (uC (.str ("calendar" : PySem.Str))) (aCons (uC (.str ("months" : PySem.Str))) (aCons (uUn dLen (uVar 1)) aNil)))))
  (uFor (uItems (uVar 1)) (bName 2)
  (uDrop (uCall f_too_many [] (aCons (uC (.str ("calendar" : PySem.Str))) (aCons (uC (.str ("monthdays" : PySem.Str))) (aCons (uVar 2) aNil))))))))
  (uSeq (uDrop (uCall f_too_many [] (aCons (uC (.str ("calendar" : PySem.Str))) (aCons (uC (.str ("dayticks" : PySem.Str))) (aCons (uOp dIx (uVar 0) (uC (.int 1))) aNil)))))
  (uSeq (uFor (uItems (uCall f_leap_numbers [] (aCons (uOp dIx (uVar 0) (uC (.int 6))) aNil))) (bName 3)
  (uDrop (uCall f_too_many [] (aCons (uC (.str ("calendar" : PySem.Str))) (aCons (uC (.str ("numbers" : PySem.Str))) (aCons (uVar 3) aNil))))))
  (uFor (uItems (uOp dIx (uVar 0) (uC (.int 7)))) (bName 4)
  (uDrop (uCall f_too_many [] (aCons (uC (.str ("calendar" : PySem.Str))) (aCons (uC (.str ("numbers" : PySem.Str))) (aCons (uOp dIx (uVar 4) (uC (.int 1))) aNil)))))))))
def f_segment_limits : List D → St4 → Option (D × St4) := uDef .fz 5 u_segment_limits
/-- starts_of: 0=lengths 1=starts 2=length -/
def u_starts_of : US :=
  (uSeq (uSetL 1 (uLst (aCons (uC (.int 0)) aNil)))
  (uSeq (uFor (uItems (uVar 0)) (bName 2)
  (uApp 1 (uOp dAdd (uIxL (uLVar 1) (uOp (dI2 fun i j => some (i - j)) (uUnL lLen (uLVar 1)) (uC (.int 1)))) (uVar 2))))
  (uRetL (uLVar 1))))
def f_starts_of : List D → St4 → Option (D × St4) := uDef .nw 3 u_starts_of
/-- Segment.day_of: 0=self 1=date 2=year 3=day -/
def u_Segment_day_of : US :=
  (uSeq (uSet 2 (uOp dIx (uVar 1) (uC (.int 0))))
  (uSeq (uSet 3 (uOp dAdd (uOp (dI2 iMul) (uOp (dI2 iDiv) (uVar 2) (uUn (dFld ("Segment" : PySem.Str) ("years" : PySem.Str)) (uVar 0))) (uUn (dFld ("Segment" : PySem.Str) ("days" : PySem.Str)) (uVar 0))) (uOp dIx (uUn (dFld ("Segment" : PySem.Str) ("year_days" : PySem.Str)) (uVar 0)) (uOp (dI2 iMod) (uVar 2) (uUn (dFld ("Segment" : PySem.Str) ("years" : PySem.Str)) (uVar 0))))))
  (uRet (uOp (dI2 fun i j => some (i - j)) (uOp dAdd (uOp dAdd (uVar 3) (uOp dIx (uMeth ("Segment" : PySem.Str) ("starts" : PySem.Str) f_Segment_starts (uVar 0) (aCons (uVar 2) aNil)) (uOp (dI2 fun i j => some (i - j)) (uOp dIx (uVar 1) (uC (.int 1))) (uC (.int 1))))) (uOp dIx (uVar 1) (uC (.int 2)))) (uC (.int 1))))))
def f_Segment_day_of : List D → St4 → Option (D × St4) := uDef .fz 4 u_Segment_day_of
def e_tick : UE := (uOp dIx (uVar 1) (uC (.int 0)))
def e_width : UE := (uOp dIx (uVar 1) (uC (.int 1)))
def e_into : UE := (uOp dIx (uVar 1) (uC (.int 2)))
def e_date : UE := (uUn dTup (uOp dIx (uVar 1) (uC (.int 3))))
def e_leap : UE := (uOp dIx (uVar 1) (uC (.int 6)))
def e_cycles : UE := (uOfL (uLc [4] (uItems (uOp dIx (uVar 1) (uC (.int 7)))) (bName 4) tYesU (uUn dTup (uVar 4))))
def e_common : UE := (uOfL (uCallL f_starts_of [] (aCons (uOp dIx (uVar 1) (uC (.int 4))) aNil)))
def e_longer : UE := (uOfL (uCallL f_starts_of [] (aCons (uOp dIx (uVar 1) (uC (.int 5))) aNil)))
def e_years : UE := (uCall f_leap_round [] (aCons (uUn (dFld ("Segment" : PySem.Str) ("leap" : PySem.Str)) (uVar 0)) aNil))
def e_year_days : UE := (uOfL (uLst (aCons (uC (.int 0)) aNil)))
def e_year_months : UE := (uOfL (uLst (aCons (uC (.int 0)) aNil)))
def e_upto : UE := (uUn (dFld ("Segment" : PySem.Str) ("years" : PySem.Str)) (uVar 0))
def e_starts : UE := (uMeth ("Segment" : PySem.Str) ("starts" : PySem.Str) f_Segment_starts (uVar 0) (aCons (uVar 2) aNil))
def e_ydapp : UE := (uOp dAdd (uOp dIx (uUn (dFld ("Segment" : PySem.Str) ("year_days" : PySem.Str)) (uVar 0)) (uVar 2)) (uOp dIx (uVar 3) (uOp (dI2 fun i j => some (i - j)) (uUn dLen (uVar 3)) (uC (.int 1)))))
def e_ymapp : UE := (uOp (dI2 fun i j => some (i - j)) (uOp dAdd (uOp dIx (uUn (dFld ("Segment" : PySem.Str) ("year_months" : PySem.Str)) (uVar 0)) (uVar 2)) (uUn dLen (uVar 3))) (uC (.int 1)))
def e_days : UE := (uOp dIx (uUn (dFld ("Segment" : PySem.Str) ("year_days" : PySem.Str)) (uVar 0)) (uUn (dFld ("Segment" : PySem.Str) ("years" : PySem.Str)) (uVar 0)))
def e_months : UE := (uOp dIx (uUn (dFld ("Segment" : PySem.Str) ("year_months" : PySem.Str)) (uVar 0)) (uUn (dFld ("Segment" : PySem.Str) ("years" : PySem.Str)) (uVar 0)))
def e_first_day : UE := (uMeth ("Segment" : PySem.Str) ("day_of" : PySem.Str) f_Segment_day_of (uVar 0) (aCons (uUn (dFld ("Segment" : PySem.Str) ("date" : PySem.Str)) (uVar 0)) aNil))
def uInt (u : UE) (ρ : En) (st : St4) : Option (Int × St4) := (u ρ st).bind fun x => match x.1 with
  | .int n => some (n, x.2)
  | _ => none
def iL (l : List Int) : D := .lst (l.map .int)
def fD (x : Str) (i : Int) : Str × D := (x, .int i)
def yPair (a b : D) : List (Str × D) := [("year_days", a), ("year_months", b)]
def sEn (fs : List (Str × D)) (row : D) (y s : Option D) : En := [some (.ins "Segment" fs), some row, y, s, none]
def initGo (fs : List (Str × D)) (row : D) : List D → List Int → List Int → St4 → Option (List Int × List Int × St4)
  | [], yd, ym, st => some (yd, ym, st)
  | y :: ys, yd, ym, st => if yd.length < 100000 ∧ ym.length < 100000 then (e_starts (sEn (fs ++ yPair .src .src) row (some y) none) st).bind fun s => match s.1 with
    | .lst ds => (asI ds).bind fun ns => (uInt e_ydapp (sEn (fs ++ yPair (iL yd) (iL ym)) row (some y) (some (iL ns))) s.2).bind fun a =>
      (uInt e_ymapp (sEn (fs ++ yPair (iL (yd ++ [a.1])) (iL ym)) row (some y) (some (iL ns))) a.2).bind fun b => initGo fs row ys (yd ++ [a.1]) (ym ++ [b.1]) b.2
    | _ => none
    else none
def f_Segment___init__ : List D → St4 → Option (List (Str × D) × St4)
  | [row], st =>
    let ρ : En := [some .src, some row, none, none, none]
    (e_tick ρ st).bind fun x1 => (e_width ρ x1.2).bind fun x2 => (e_into ρ x2.2).bind fun x3 => (e_date ρ x3.2).bind fun x4 => (e_leap ρ x4.2).bind fun x5 => (e_cycles ρ x5.2).bind fun x6 =>
    (e_common ρ x6.2).bind fun x7 => (e_longer ρ x7.2).bind fun x8 =>
    let fs8 : List (Str × D) := [("tick", x1.1), ("width", x2.1), ("into", x3.1), ("date", x4.1), ("leap", x5.1), ("cycles", x6.1), ("common", x7.1), ("longer", x8.1)]
    (uInt e_years (sEn fs8 row none none) x8.2).bind fun x9 =>
    let fs9 := fs8 ++ [fD "years" x9.1]
    (uInt e_upto (sEn (fs9 ++ yPair .src .src) row none none) x9.2).bind fun x10 => if -(2 ^ 62) ≤ x10.1 ∧ x10.1 < 2 ^ 62 then
    (initGo fs9 row (rng 0 x10.1) [0] [0] x10.2).bind fun x11 =>
    let fsA := fs9 ++ yPair (iL x11.1) (iL x11.2.1)
    (uInt e_days (sEn fsA row none none) x11.2.2).bind fun x12 =>
    (uInt e_months (sEn (fsA ++ [fD "days" x12.1]) row none none) x12.2).bind fun x13 =>
    (uInt e_first_day (sEn (fsA ++ [fD "days" x12.1, fD "months" x13.1]) row none none) x13.2).bind fun x14 =>
    some (fsA ++ [fD "days" x12.1, fD "months" x13.1, fD "first_day" x14.1], x14.2)
    else none
  | _, _ => none
/-- Segment.has_date: 0=self 1=date 2=starts -/
def u_Segment_has_date : US :=
  (uSeq (uSet 2 (uMeth ("Segment" : PySem.Str) ("starts" : PySem.Str) f_Segment_starts (uVar 0) (aCons (uOp dIx (uVar 1) (uC (.int 0))) aNil)))
  (uSeq (uIfS (uNot (uTst dBool (uChain (bI2 fun i j => decide (i ≤ j)) (bI2 fun i j => decide (i < j)) (uC (.int 1)) (uOp dIx (uVar 1) (uC (.int 1))) (uUn dLen (uVar 2)))))
  (uRet (uC (.bl false)))
  uNext)
  (uRet (uChain (bI2 fun i j => decide (i ≤ j)) (bI2 fun i j => decide (i ≤ j)) (uC (.int 1)) (uOp dIx (uVar 1) (uC (.int 2))) (uOp (dI2 fun i j => some (i - j)) (uOp dIx (uVar 2) (uOp dIx (uVar 1) (uC (.int 1)))) (uOp dIx (uVar 2) (uOp (dI2 fun i j => some (i - j)) (uOp dIx (uVar 1) (uC (.int 1))) (uC (.int 1)))))))))
def f_Segment_has_date : List D → St4 → Option (D × St4) := uDef .fz 3 u_Segment_has_date
/-- common_divisor: 0=one 1=other -/
def u_common_divisor : US :=
  (uSeq (uWh (uTst dBool (uRel (bI2 fun i j => decide (j < i)) (uVar 1) (uC (.int 0))))
  (uPar [0, 1] (aCons (uVar 1) (aCons (uOp (dI2 iMod) (uVar 0) (uVar 1)) aNil))) 5000)
  (uRet (uVar 0)))
def f_common_divisor : List D → St4 → Option (D × St4) := uDef .fz 2 u_common_divisor
/-- least_multiple: 0=one 1=other -/
def u_least_multiple : US :=
  (uRet (uOp (dI2 iMul) (uOp (dI2 iDiv) (uVar 0) (uCall f_common_divisor [] (aCons (uVar 0) (aCons (uVar 1) aNil)))) (uVar 1)))
def f_least_multiple : List D → St4 → Option (D × St4) := uDef .fz 2 u_least_multiple
/-- row_numbers: 0=row 1=numbers 2=cycle -/
def u_row_numbers : US :=
  (uSeq (uSet 1 (uOp dAdd (uOp dAdd (uOp dAdd (uOp dAdd (uOfL (uLst (aCons (uOp dIx (uVar 0) (uC (.int 0))) (aCons (uOp dIx (uVar 0) (uC (.int 1))) (aCons (uOp dIx (uVar 0) (uC (.int 2))) aNil))))) (uUn dList (uOp dIx (uVar 0) (uC (.int 3))))) (uUn dList (uOp dIx (uVar 0) (uC (.int 4))))) (uUn dList (uOp dIx (uVar 0) (uC (.int 5))))) (uCall f_leap_numbers [] (aCons (uOp dIx (uVar 0) (uC (.int 6))) aNil))))
  (uSeq (uFor (uItems (uOp dIx (uVar 0) (uC (.int 7)))) (bName 2)
  (uSet 1 (uOp dAdd (uVar 1) (uOfL (uLst (aCons (uOp dIx (uVar 2) (uC (.int 1))) (aCons (uOp dIx (uVar 2) (uC (.int 2))) aNil)))))))
  (uRet (uVar 1))))
def f_row_numbers : List D → St4 → Option (D × St4) := uDef .fz 3 u_row_numbers
/-- bounds_check: 0=rows 1=row -/
def u_bounds_check : US :=
  (uSeq (uFor (uItems (uVar 0)) (bName 1)
  (uDrop (uCall f_number_check [] (aCons (uCall f_row_numbers [] (aCons (uVar 1) aNil)) aNil))))
  (uSeq (uDrop (uCall f_too_many [] (aCons (uC (.str ("segments" : PySem.Str))) (aCons (uC (.str ("segments" : PySem.Str))) (aCons (uUn dLen (uVar 0)) aNil)))))
  (uFor (uItems (uVar 0)) (bName 1)
  (uDrop (uCall f_segment_limits [] (aCons (uVar 1) aNil))))))
def f_bounds_check : List D → St4 → Option (D × St4) := uDef .fz 2 u_bounds_check
/-- cycles_fit: 0=row 1=first 2=names 3=name 4=length 5=value 6=cycle -/
def u_cycles_fit : US :=
  (uSeq (uSetL 2 (uLst aNil))
  (uSeq (uFor (uItems (uOp dIx (uVar 0) (uC (.int 7)))) (bTup [3, 4, 5])
  (uSeq (uIfS (uOr (uNot (uTst dBool (uChain (bI2 fun i j => decide (i ≤ j)) (bI2 fun i j => decide (i < j)) (uC (.int 0)) (uVar 5) (uVar 4)))) (uTst dBool (uInL false (uVar 3) (uLVar 2))))
  (uRet (uC (.bl false)))
  uNext)
  (uApp 2 (uVar 3))))
  (uRet (uRel bEqD (uOfL (uLc [6] (uItems (uOp dIx (uVar 0) (uC (.int 7)))) (bName 6) tYesU (uUn dTup (uSl (uVar 6) none (some (uC (.int 2))))))) (uOfL (uLc [6] (uItems (uOp dIx (uVar 1) (uC (.int 7)))) (bName 6) tYesU (uUn dTup (uSl (uVar 6) none (some (uC (.int 2)))))))))))
def f_cycles_fit : List D → St4 → Option (D × St4) := uDef .fz 7 u_cycles_fit
/-- lengths_fit: 0=lengths -/
def u_lengths_fit : US :=
  (uSeq (uIfS (uTst dBool (uRel bEq (uUn dLen (uVar 0)) (uC (.int 0))))
  (uRet (uC (.bl false)))
  uNext)
  (uRet (uRel (bI2 fun i j => decide (j ≤ i)) (uUn dMinA (uVar 0)) (uC (.int 1)))))
def f_lengths_fit : List D → St4 → Option (D × St4) := uDef .fz 1 u_lengths_fit
/-- row_check: 0=name 1=rows 2=k 3=row 4=segment -/
def u_row_check : US :=
  (uSeq (uSet 3 (uOp dIx (uVar 1) (uVar 2)))
  (uSeq (uIfS (uAnd (uTst dBool (uRel (bI2 fun i j => decide (j < i)) (uVar 2) (uC (.int 0)))) (uTst dBool (uRel (bI2 fun i j => decide (i ≤ j)) (uOp dIx (uVar 3) (uC (.int 0))) (uOp dIx (uOp dIx (uVar 1) (uOp (dI2 fun i j => some (i - j)) (uVar 2) (uC (.int 1)))) (uC (.int 0))))))
  uNever
  uNext)
  (uSeq (uIfS (uNot (uTst dBool (uChain (bI2 fun i j => decide (i ≤ j)) (bI2 fun i j => decide (i < j)) (uC (.int 0)) (uOp dIx (uVar 3) (uC (.int 2))) (uOp dIx (uVar 3) (uC (.int 1))))))
  uNever
  uNext)
  (uSeq (uIfS (uOr (uNot (uTru (uCall f_lengths_fit [] (aCons (uOp dIx (uVar 3) (uC (.int 4))) aNil)))) (uNot (uTru (uCall f_lengths_fit [] (aCons (uOp dIx (uVar 3) (uC (.int 5))) aNil)))))
  uNever
  uNext)
  (uSeq (uIfS (uNot (uTru (uCall f_leap_fits [] (aCons (uOp dIx (uVar 3) (uC (.int 6))) aNil))))
  uNever
  uNext)
  (uSeq (uSet 4 (uMake ("Segment" : PySem.Str) f_Segment___init__ [] (aCons (uOp dAdd (uOp dAdd (uUn dTup (uSl (uVar 3) none (some (uC (.int 3))))) (uTup (aCons (uTup (aCons (uC (.int 0)) (aCons (uC (.int 1)) (aCons (uC (.int 1)) aNil)))) aNil))) (uUn dTup (uSl (uVar 3) (some (uC (.int 4))) none))) aNil)))
  (uSeq (uIfS (uNot (uTst dBool (uChain (bI2 fun i j => decide (i ≤ j)) (bI2 fun i j => decide (i < j)) (uC (.int 1)) (uOp dIx (uOp dIx (uVar 3) (uC (.int 3))) (uC (.int 1))) (uUn dLen (uMeth ("Segment" : PySem.Str) ("starts" : PySem.Str) f_Segment_starts (uVar 4) (aCons (uOp dIx (uOp dIx (uVar 3) (uC (.int 3))) (uC (.int 0))) aNil))))))
  uNever
  uNext)
  (uSeq (uIfS (uNot (uTru (uMeth ("Segment" : PySem.Str) ("has_date" : PySem.Str) f_Segment_has_date (uVar 4) (aCons (uOp dIx (uVar 3) (uC (.int 3))) aNil))))
  uNever
  uNext)
  (uIfS (uNot (uTru (uCall f_cycles_fit [] (aCons (uVar 3) (aCons (uOp dIx (uVar 1) (uC (.int 0))) aNil)))))
  uNever
  uNext)))))))))
def f_row_check : List D → St4 → Option (D × St4) := uDef .fz 5 u_row_check
/-- Calendar.__init__: 0=self 1=rows 2=name 3=k 4=row -/
def u_cal1 : US := (uDrop (uCall f_bounds_check [] (aCons (uVar 1) aNil)))
def u_cal2 : US := (uFor (uRng1 (uUn dLen (uVar 1))) (bName 3)
  (uDrop (uCall f_row_check [] (aCons (uVar 2) (aCons (uVar 1) (aCons (uVar 3) aNil))))))
def e_own : UE := (uOfL (uLc [4] (uItems (uVar 1)) (bName 4) tYesU (uMake ("Segment" : PySem.Str) f_Segment___init__ [] (aCons (uVar 4) aNil))))
def f_Calendar___init__ : List D → St4 → Option (List (Str × D) × St4)
  | [rows, name], st => (uSeq u_cal1 u_cal2 ([some .src, some rows, some name] ++ List.replicate 2 none) st).bind fun r => match r.1 with
    | .nx => (gv r.2.1 0).bind fun _ => (e_own r.2.1 r.2.2).map fun x => ([("own_segments", x.1)], x.2)
    | _ => none
  | _, _ => none
/-- Calendar.goes_back: 0=self 1=k 2=segment 3=old -/
def u_Calendar_goes_back : US :=
  (uSeq (uFor (uRng2 (uC (.int 1)) (uUn dLen (uUn (dFld ("Calendar" : PySem.Str) ("own_segments" : PySem.Str)) (uVar 0)))) (bName 1)
  (uSeq (uSet 2 (uOp dIx (uUn (dFld ("Calendar" : PySem.Str) ("own_segments" : PySem.Str)) (uVar 0)) (uVar 1)))
  (uSeq (uSet 3 (uCall f_name_at [] (aCons (uUn (dFld ("Calendar" : PySem.Str) ("own_segments" : PySem.Str)) (uVar 0)) (aCons (uC (.str ("day" : PySem.Str))) (aCons (uOp (dI2 fun i j => some (i - j)) (uUn (dFld ("Segment" : PySem.Str) ("tick" : PySem.Str)) (uVar 2)) (uC (.int 1))) aNil)))))
  (uIfS (uTst dBool (uRel bLtT (uUn (dFld ("Segment" : PySem.Str) ("date" : PySem.Str)) (uVar 2)) (uVar 3)))
  (uRet (uTup (aCons (uVar 1) (aCons (uVar 3) (aCons (uUn (dFld ("Segment" : PySem.Str) ("date" : PySem.Str)) (uVar 2)) aNil)))))
  uNext))))
  (uRet (uC .non)))
def f_Calendar_goes_back : List D → St4 → Option (D × St4) := uDef .fz 4 u_Calendar_goes_back
/-- Calendar.round_length: 0=self 1=told 2=segment 3=days 4=cycle -/
def u_Calendar_round_length : US :=
  (uSeq (uSet 1 (uC (.int 1)))
  (uSeq (uFor (uItems (uTup (aCons (uOp dIx (uUn (dFld ("Calendar" : PySem.Str) ("own_segments" : PySem.Str)) (uVar 0)) (uC (.int 0))) (aCons (uOp dIx (uUn (dFld ("Calendar" : PySem.Str) ("own_segments" : PySem.Str)) (uVar 0)) (uOp (dI2 fun i j => some (i - j)) (uUn dLen (uUn (dFld ("Calendar" : PySem.Str) ("own_segments" : PySem.Str)) (uVar 0))) (uC (.int 1)))) aNil)))) (bName 2)
  (uSeq (uSet 3 (uUn (dFld ("Segment" : PySem.Str) ("days" : PySem.Str)) (uVar 2)))
  (uSeq (uFor (uItems (uUn (dFld ("Segment" : PySem.Str) ("cycles" : PySem.Str)) (uVar 2))) (bName 4)
  (uSet 3 (uCall f_least_multiple [] (aCons (uVar 3) (aCons (uOp dIx (uVar 4) (uC (.int 1))) aNil)))))
  (uSet 1 (uCall f_least_multiple [] (aCons (uVar 1) (aCons (uOp (dI2 iMul) (uVar 3) (uUn (dFld ("Segment" : PySem.Str) ("width" : PySem.Str)) (uVar 2))) aNil)))))))
  (uRet (uVar 1))))
def f_Calendar_round_length : List D → St4 → Option (D × St4) := uDef .fz 5 u_Calendar_round_length
/-- _law_source: 0=script 1=at 2=fold 3=cell 4=own 5=great 6=left -/
def u_law_source : US :=
  (uSeq (uSet 2 (uC (.int 0)))
  (uSeq (uFor (uItems (uOfL (uSlL (uLVar 0) none (some (uC (.int 63)))))) (bName 3)
  (uSet 2 (uOp (dI2 iMod) (uOp dAdd (uOp dAdd (uOp (dI2 iMul) (uVar 2) (uC (.int 1000033))) (uUn dInt (uVar 3))) (uC (.int 10007))) (uC (.int 2305843009213693951)))))
  (uSeq (uSet 4 (uIf (uTst dBool (uRel (bI2 fun i j => decide (i < j)) (uVar 1) (uUnL lLen (uLVar 0)))) (uUn dInt (uIxL (uLVar 0) (uVar 1))) (uC (.int 0))))
  (uSeq (uSet 5 (uOp (dI2 iPow) (uC (.int 10)) (uC (.int 64))))
  (uSeq (uSet 4 (uOp (dI2 iMod) (uVar 4) (uOp (dI2 iMul) (uOp (dI2 iMul) (uOp (dI2 iMul) (uOp (dI2 iMul) (uVar 5) (uVar 5)) (uVar 5)) (uVar 5)) (uVar 5))))
  (uSeq (uSet 6 (uIf (uTst dBool (uRel (bI2 fun i j => decide (j ≤ i)) (uVar 4) (uOp (dI2 iPow) (uC (.int 10)) (uC (.int 18))))) (uVar 4) (uC (.int 0))))
  (uRetL (uLst (aCons (uVar 6) (aCons (uOp (dI2 iMod) (uOp dAdd (uOp dAdd (uVar 2) (uOp (dI2 iMul) (uC (.int 919)) (uVar 1))) (uC (.int 13))) (uC (.int 2147483647))) (aCons (uOp (dI2 iMod) (uOp dAdd (uOp dAdd (uOp (dI2 iDiv) (uVar 2) (uC (.int 2147483647))) (uOp (dI2 iMul) (uC (.int 5081)) (uVar 1))) (uC (.int 5))) (uC (.int 2147483629))) (aCons (uC (.int 0)) aNil))))))))))))
def f_law_source : List D → St4 → Option (D × St4) := uDef .nw 7 u_law_source
/-- _law_pick: 0=s 1=many 2=told -/
def u_law_pick : US :=
  (uSeq (uIfS (uTst dBool (uRel (bI2 fun i j => decide (i ≤ j)) (uVar 1) (uC (.int 1))))
  (uRet (uC (.int 0)))
  uNext)
  (uSeq (uIfS (uTst dBool (uRel (bI2 fun i j => decide (j < i)) (uSrcAt 0 0) (uC (.int 0))))
  (uSeq (uSet 2 (uOp (dI2 iMod) (uUn dInt (uSrcAt 0 0)) (uVar 1)))
  (uSeq (uSetSrc 0 0 (uOp (dI2 iDiv) (uSrcAt 0 0) (uVar 1)))
  (uRet (uVar 2))))
  uNext)
  (uSeq (uSetSrc 0 3 (uOp dAdd (uSrcAt 0 3) (uC (.int 1))))
  (uSeq (uSetSrc 0 1 (uOp (dI2 iMod) (uUn dInt (uOp dAdd (uOp dAdd (uOp (dI2 iMul) (uSrcAt 0 1) (uC (.int 48271))) (uOp (dI2 iMul) (uSrcAt 0 3) (uC (.int 69621)))) (uC (.int 17)))) (uC (.int 2147483647))))
  (uSeq (uSetSrc 0 2 (uOp (dI2 iMod) (uUn dInt (uOp dAdd (uOp dAdd (uOp (dI2 iMul) (uSrcAt 0 2) (uC (.int 69621))) (uOp (dI2 iMul) (uSrcAt 0 1) (uC (.int 7)))) (uSrcAt 0 3))) (uC (.int 2147483629))))
  (uRet (uOp (dI2 iMod) (uUn dInt (uOp dAdd (uOp (dI2 iDiv) (uSrcAt 0 1) (uC (.int 5))) (uOp (dI2 iDiv) (uSrcAt 0 2) (uC (.int 3))))) (uVar 1))))))))
def f_law_pick : List D → St4 → Option (D × St4) := uDef .fz 3 u_law_pick
/-- _law_one: 0=s 1=things -/
def u_law_one : US :=
  (uRet (uOp dIx (uVar 1) (uCall f_law_pick [] (aSrc 0 (aCons (uUn dLen (uVar 1)) aNil)))))
def f_law_one : List D → St4 → Option (D × St4) := uDef .fz 2 u_law_one
/-- _law_shuffled: 0=s 1=things 2=left 3=out 4=k -/
def u_law_shuffled : US :=
  (uSeq (uSetL 2 (uUnN some (uLOf (uVar 1))))
  (uSeq (uSetL 3 (uLst aNil))
  (uSeq (uFor (uRng1 (uUn dLen (uVar 1))) (bName 4)
  (uAppPop 3 2 (uCall f_law_pick [] (aSrc 0 (aCons (uUnL lLen (uLVar 2)) aNil)))))
  (uRetL (uLVar 3)))))
def f_law_shuffled : List D → St4 → Option (D × St4) := uDef .nw 5 u_law_shuffled
/-- _law_name: 0=s 1=taken 2=letters 3=figures 4=size 5=name 6=place 7=free 8=k 9=other -/
def u_law_name : US :=
  (uSeq (uTgt (bTup [2, 3]) (uTup (aCons (uC (.str ("abcdefghijlmnopqrstuvwxyz" : PySem.Str))) (aCons (uC (.str ("0123456789" : PySem.Str))) aNil))))
  (uSeq (uSet 4 (uIf (uTst dBool (uRel bEq (uCall f_law_pick [] (aSrc 0 (aCons (uC (.int 4)) aNil))) (uC (.int 0)))) (uCall f_law_pick [] (aSrc 0 (aCons (uC (.int 12)) aNil))) (uCall f_law_pick [] (aSrc 0 (aCons (uC (.int 3)) aNil)))))
  (uSeq (uSet 5 (uOp dAdd (uCall f_law_one [] (aSrc 0 (aCons (uVar 2) aNil))) (uJoin ("" : PySem.Str) (uLc [8] (uRng1 (uVar 4)) (bName 8) tYesU (uCall f_law_one [] (aSrc 0 (aCons (uOp dAdd (uVar 2) (uVar 3)) aNil)))))))
  (uSeq (uSet 6 (uOp dAdd (uC (.int 1)) (uCall f_law_pick [] (aSrc 0 (aCons (uVar 4) aNil)))))
  (uSeq (uIfS (uTru (uVar 4))
  (uSet 5 (uOp dAdd (uOp dAdd (uSl (uVar 5) none (some (uVar 6))) (uCall f_law_one [] (aSrc 0 (aCons (uVar 3) aNil)))) (uSl (uVar 5) (some (uOp dAdd (uVar 6) (uC (.int 1)))) none)))
  uNext)
  (uSeq (uSet 7 (uOp dAdd (uOfL (uLst (aCons (uVar 5) aNil))) (uOfL (uLc [8] (uRng1 (uC (.int 200))) (bName 8) tYesU (uOp dAdd (uSl (uVar 5) none (some (uC (.int 9)))) (uUn dStr (uOp dAdd (uVar 8) (uC (.int 100)))))))))
  (uRet (uOp dIx (uOfL (uLc [9] (uItems (uVar 7)) (bName 9) (uTst dBool (uInL true (uVar 9) (uLVar 1))) (uVar 9))) (uC (.int 0))))))))))
def f_law_name : List D → St4 → Option (D × St4) := uDef .fz 10 u_law_name
/-- _law_names: 0=s 1=many 2=taken 3=out 4=k -/
def u_law_names : US :=
  (uSeq (uSetL 3 (uLst aNil))
  (uSeq (uFor (uRng1 (uVar 1)) (bName 4)
  (uSeq (uApp 3 (uCall f_law_name [] (aSrc 0 (aConsL (uLVar 2) aNil))))
  (uApp 2 (uIxL (uLVar 3) (uUn dNeg (uC (.int 1)))))))
  (uRetL (uLVar 3))))
def f_law_names : List D → St4 → Option (D × St4) := uDef .nw 5 u_law_names
/-- _law_same: 0=answer 1=due 2=key 3=k -/
def u_law_same (frec : List D → St4 → Option (D × St4)) : US :=
  (uSeq (uIfS (uTst dBool (uRel bIsN (uVar 1) (uC .non)))
  (uRet (uRel bIsN (uVar 0) (uC .non)))
  uNext)
  (uSeq (uIfS (uTru (uUn (dIsi "str") (uVar 1)))
  (uRet (uAndV (uUn (dIsi "str") (uVar 0)) (uRel bEq (uVar 0) (uVar 1))))
  uNext)
  (uSeq (uIfS (uTru (uUn (dIsi "int") (uVar 1)))
  (uRet (uAndV (uUn (dIsi "int") (uVar 0)) (uAndV (uRel bEq (uUn (dIsi "bool") (uVar 0)) (uUn (dIsi "bool") (uVar 1))) (uRel bEq (uVar 0) (uVar 1)))))
  uNext)
  (uSeq (uIfS (uTru (uUn (dIsi "dict") (uVar 1)))
  (uSeq (uIfS (uOr (uNot (uTru (uUn (dIsi "dict") (uVar 0)))) (uTst dBool (uRel bNe (uUn dLen (uVar 1)) (uUn dLen (uVar 0)))))
  (uRet (uC (.bl false)))
  uNext)
  (uRet (uUnL lAll (uLc [2] (uItems (uVar 1)) (bName 2) tYesU (uAndV (uRel (bIn false) (uVar 2) (uVar 0)) (uCall frec [] (aCons (uOp dIx (uVar 0) (uVar 2)) (aCons (uOp dIx (uVar 1) (uVar 2)) aNil))))))))
  uNext)
  (uSeq (uIfS (uOr (uTst dBool (uRel bNe (uUn (dIsi "tuple") (uVar 1)) (uUn (dIsi "tuple") (uVar 0)))) (uTst dBool (uRel bNe (uUn (dIsi "list") (uVar 1)) (uUn (dIsi "list") (uVar 0)))))
  (uRet (uC (.bl false)))
  uNext)
  (uRet (uAndV (uRel bEq (uUn dLen (uVar 0)) (uUn dLen (uVar 1))) (uUnL lAll (uLc [3] (uRng1 (uUn dLen (uVar 1))) (bName 3) tYesU (uCall frec [] (aCons (uOp dIx (uVar 0) (uVar 3)) (aCons (uOp dIx (uVar 1) (uVar 3)) aNil))))))))))))
def f_law_same : Nat → List D → St4 → Option (D × St4)
  | 0 => fun _ _ => none
  | k + 1 => uDef .fz 4 (u_law_same (f_law_same k))
/-- _law_far: 0=s 1=size -/
def u_law_far : US :=
  (uSeq (uSet 1 (uOp dAdd (uOp (dI2 iMul) (uOp dAdd (uC (.int 1)) (uCall f_law_pick [] (aSrc 0 (aCons (uC (.int 999999999)) aNil)))) (uOp (dI2 iPow) (uC (.int 10)) (uC (.int 20)))) (uCall f_law_pick [] (aSrc 0 (aCons (uOp (dI2 iPow) (uC (.int 10)) (uC (.int 18))) aNil)))))
  (uRet (uIf (uTru (uCall f_law_pick [] (aSrc 0 (aCons (uC (.int 2)) aNil)))) (uVar 1) (uOp (dI2 fun i j => some (i - j)) (uC (.int 0)) (uVar 1)))))
def f_law_far : List D → St4 → Option (D × St4) := uDef .fz 2 u_law_far
/-- _law_lengths: 0=s 1=k -/
def u_law_lengths : US :=
  (uRet (uOfL (uLc [1] (uRng1 (uOp dAdd (uC (.int 1)) (uCall f_law_pick [] (aSrc 0 (aCons (uC (.int 3)) aNil))))) (bName 1) tYesU (uOp dAdd (uC (.int 1)) (uCall f_law_pick [] (aSrc 0 (aCons (uC (.int 3)) aNil)))))))
def f_law_lengths : List D → St4 → Option (D × St4) := uDef .fz 2 u_law_lengths
/-- _law_leap: 0=s 1=kind 2=a 3=b 4=rules -/
def u_law_leap : US :=
  (uSeq (uPar [1, 2] (aCons (uCall f_law_pick [] (aSrc 0 (aCons (uC (.int 5)) aNil))) (aCons (uOp dAdd (uC (.int 2)) (uCall f_law_pick [] (aSrc 0 (aCons (uC (.int 3)) aNil)))) aNil)))
  (uSeq (uSet 3 (uOp (dI2 iMul) (uVar 2) (uOp dAdd (uC (.int 2)) (uCall f_law_pick [] (aSrc 0 (aCons (uC (.int 2)) aNil))))))
  (uSeq (uSet 4 (uOfL (uLst (aCons (uTup (aCons (uC (.str ("never" : PySem.Str))) aNil)) (aCons (uTup (aCons (uC (.str ("every" : PySem.Str))) (aCons (uVar 2) aNil))) (aCons (uTup (aCons (uC (.str ("every" : PySem.Str))) (aCons (uVar 2) (aCons (uVar 3) aNil)))) (aCons (uTup (aCons (uC (.str ("every" : PySem.Str))) (aCons (uVar 2) (aCons (uVar 3) (aCons (uOp (dI2 iMul) (uVar 3) (uC (.int 2))) aNil))))) aNil)))))))
  (uRet (uIf (uTst dBool (uRel (bI2 fun i j => decide (i < j)) (uVar 1) (uC (.int 4)))) (uOp dIx (uVar 4) (uVar 1)) (uTup (aCons (uC (.str ("of" : PySem.Str))) (aCons (uVar 2) (aCons (uOfL (uUnN lSort (uLOf (uSl (uOfL (uCallL f_law_shuffled [] (aSrc 0 (aCons (uOfL (uListRg (uVar 2))) aNil)))) none (some (uOp dAdd (uC (.int 1)) (uCall f_law_pick [] (aSrc 0 (aCons (uOp (dI2 fun i j => some (i - j)) (uVar 2) (uC (.int 1))) aNil))))))))) aNil)))))))))
def f_law_leap : List D → St4 → Option (D × St4) := uDef .fz 5 u_law_leap
/-- _law_is_long: 0=leap 1=y 2=hits 3=n -/
def u_law_is_long : US :=
  (uSeq (uIfS (uTst dBool (uRel bEq (uOp dIx (uVar 0) (uC (.int 0))) (uC (.str ("never" : PySem.Str)))))
  (uRet (uC (.bl false)))
  uNext)
  (uSeq (uIfS (uTst dBool (uRel bEq (uOp dIx (uVar 0) (uC (.int 0))) (uC (.str ("of" : PySem.Str)))))
  (uRet (uRel (bIn false) (uOp (dI2 iMod) (uUn dInt (uVar 1)) (uOp dIx (uVar 0) (uC (.int 1)))) (uOp dIx (uVar 0) (uC (.int 2)))))
  uNext)
  (uSeq (uSet 2 (uOfL (uLc [3] (uItems (uSl (uVar 0) (some (uC (.int 1))) none)) (bName 3) tYesU (uRel bEq (uOp (dI2 iMod) (uUn dInt (uVar 1)) (uVar 3)) (uC (.int 0))))))
  (uRet (uIf (uTst dBool (uRel bEq (uUn dLen (uVar 2)) (uC (.int 1)))) (uOp dIx (uVar 2) (uC (.int 0))) (uAndV (uOp dIx (uVar 2) (uC (.int 0))) (uOrV (uNotV (uOp dIx (uVar 2) (uC (.int 1)))) (uAndV (uRel bEq (uUn dLen (uVar 2)) (uC (.int 3))) (uOp dIx (uVar 2) (uC (.int 2)))))))))))
def f_law_is_long : List D → St4 → Option (D × St4) := uDef .fz 4 u_law_is_long
/-- _law_months: 0=seg 1=y -/
def u_law_months : US :=
  (uRet (uIf (uTru (uCall f_law_is_long [] (aCons (uOp dIx (uVar 0) (uC (.int 6))) (aCons (uVar 1) aNil)))) (uOp dIx (uVar 0) (uC (.int 5))) (uOp dIx (uVar 0) (uC (.int 4)))))
def f_law_months : List D → St4 → Option (D × St4) := uDef .fz 2 u_law_months
/-- _law_lcm: 0=one 1=other 2=a 3=b 4=k -/
def u_law_lcm : US :=
  (uSeq (uPar [2, 3] (aCons (uVar 0) (aCons (uVar 1) aNil)))
  (uSeq (uFor (uRng1 (uC (.int 400))) (bName 4)
  (uIfS (uTst dBool (uRel (bI2 fun i j => decide (j < i)) (uVar 3) (uC (.int 0))))
  (uPar [2, 3] (aCons (uVar 3) (aCons (uOp (dI2 iMod) (uUn dInt (uVar 2)) (uVar 3)) aNil)))
  uNext))
  (uRet (uOp (dI2 iMul) (uOp (dI2 iDiv) (uVar 0) (uVar 2)) (uVar 1)))))
def f_law_lcm : List D → St4 → Option (D × St4) := uDef .fz 5 u_law_lcm
/-- _law_walk_days: 0=seg 1=days 2=y 3=m 4=d 5=k -/
def u_law_walk_days : US :=
  (uSeq (uTgt (bTup [2, 3, 4]) (uOp dIx (uVar 0) (uC (.int 3))))
  (uSeq (uFor (uRng1 (uUn dAbs (uVar 1))) (bName 5)
  (uIfS (uTst dBool (uRel (bI2 fun i j => decide (j < i)) (uVar 1) (uC (.int 0))))
  (uSeq (uSet 4 (uOp dAdd (uVar 4) (uC (.int 1))))
  (uSeq (uIfS (uTst dBool (uRel (bI2 fun i j => decide (j < i)) (uVar 4) (uOp dIx (uCall f_law_months [] (aCons (uVar 0) (aCons (uVar 2) aNil))) (uOp (dI2 fun i j => some (i - j)) (uVar 3) (uC (.int 1))))))
  (uPar [3, 4] (aCons (uOp dAdd (uVar 3) (uC (.int 1))) (aCons (uC (.int 1)) aNil)))
  uNext)
  (uIfS (uTst dBool (uRel (bI2 fun i j => decide (j < i)) (uVar 3) (uUn dLen (uCall f_law_months [] (aCons (uVar 0) (aCons (uVar 2) aNil))))))
  (uPar [2, 3] (aCons (uOp dAdd (uVar 2) (uC (.int 1))) (aCons (uC (.int 1)) aNil)))
  uNext)))
  (uSeq (uSet 4 (uOp (dI2 fun i j => some (i - j)) (uVar 4) (uC (.int 1))))
  (uIfS (uTst dBool (uRel (bI2 fun i j => decide (i < j)) (uVar 4) (uC (.int 1))))
  (uSeq (uSet 3 (uOp (dI2 fun i j => some (i - j)) (uVar 3) (uC (.int 1))))
  (uSeq (uIfS (uTst dBool (uRel (bI2 fun i j => decide (i < j)) (uVar 3) (uC (.int 1))))
  (uPar [2, 3] (aCons (uOp (dI2 fun i j => some (i - j)) (uVar 2) (uC (.int 1))) (aCons (uUn dLen (uCall f_law_months [] (aCons (uVar 0) (aCons (uOp (dI2 fun i j => some (i - j)) (uVar 2) (uC (.int 1))) aNil)))) aNil)))
  uNext)
  (uSet 4 (uOp dIx (uCall f_law_months [] (aCons (uVar 0) (aCons (uVar 2) aNil))) (uOp (dI2 fun i j => some (i - j)) (uVar 3) (uC (.int 1)))))))
  uNext))))
  (uRet (uTup (aCons (uVar 2) (aCons (uVar 3) (aCons (uVar 4) aNil)))))))
def f_law_walk_days : List D → St4 → Option (D × St4) := uDef .fz 6 u_law_walk_days
/-- _law_seg_at: 0=segs 1=t 2=told 3=seg -/
def u_law_seg_at : US :=
  (uSeq (uSet 2 (uOfL (uLc [3] (uLVar 0) (bName 3) (uTst dBool (uRel (bI2 fun i j => decide (i ≤ j)) (uOp dIx (uVar 3) (uC (.int 0))) (uVar 1))) (uVar 3))))
  (uRet (uIf (uTru (uVar 2)) (uOp dIx (uVar 2) (uUn dNeg (uC (.int 1)))) (uIxL (uLVar 0) (uC (.int 0))))))
def f_law_seg_at : List D → St4 → Option (D × St4) := uDef .fz 4 u_law_seg_at
/-- _law_date: 0=segs 1=t 2=seg 3=past -/
def u_law_date : US :=
  (uSeq (uSet 2 (uCall f_law_seg_at [] (aConsL (uLVar 0) (aCons (uVar 1) aNil))))
  (uSeq (uSet 3 (uOp dAdd (uOp (dI2 fun i j => some (i - j)) (uVar 1) (uOp dIx (uVar 2) (uC (.int 0)))) (uOp dIx (uVar 2) (uC (.int 2)))))
  (uRet (uOp dAdd (uCall f_law_walk_days [] (aCons (uVar 2) (aCons (uOp (dI2 iDiv) (uVar 3) (uOp dIx (uVar 2) (uC (.int 1)))) aNil))) (uTup (aCons (uOp (dI2 iMod) (uUn dInt (uVar 3)) (uOp dIx (uVar 2) (uC (.int 1)))) aNil))))))
def f_law_date : List D → St4 → Option (D × St4) := uDef .fz 4 u_law_date
/-- _law_a_segment: 0=s 1=tick 2=date 3=cycles 4=great 5=width 6=common 7=long 8=leap 9=kind 10=into 11=seg 12=months 13=month 14=k -/
def u_law_a_segment : US :=
  (uSeq (uPar [5, 6, 7] (aCons (uOp dAdd (uC (.int 1)) (uCall f_law_pick [] (aSrc 0 (aCons (uC (.int 3)) aNil)))) (aCons (uCall f_law_lengths [] (aSrc 0 aNil)) (aCons (uCall f_law_lengths [] (aSrc 0 aNil)) aNil))))
  (uSeq (uIfS (uTru (uCall f_law_pick [] (aSrc 0 (aCons (uC (.int 2)) aNil))))
  (uSet 7 (uOp dAdd (uSl (uVar 6) none (some (uUn dNeg (uC (.int 1))))) (uOfL (uLst (aCons (uOp dAdd (uOp dIx (uVar 6) (uUn dNeg (uC (.int 1)))) (uC (.int 1))) aNil)))))
  uNext)
  (uSeq (uPar [8, 9] (aCons (uCall f_law_leap [] (aSrc 0 aNil)) (aCons (uIf (uTru (uVar 4)) (uCall f_law_pick [] (aSrc 0 (aCons (uC (.int 6)) aNil))) (uC (.int 9))) aNil)))
  (uSeq (uIfS (uTst dBool (uRel bEq (uVar 9) (uC (.int 0))))
  (uSet 5 (uIf (uTru (uCall f_law_pick [] (aSrc 0 (aCons (uC (.int 2)) aNil)))) (uOp (dI2 fun i j => some (i - j)) (uC (.int 60)) (uCall f_law_pick [] (aSrc 0 (aCons (uC (.int 2)) aNil)))) (uOp dAdd (uC (.int 1)) (uCall f_law_pick [] (aSrc 0 (aCons (uC (.int 60)) aNil))))))
  uNext)
  (uSeq (uIfS (uTst dBool (uRel bEq (uVar 9) (uC (.int 1))))
  (uSet 6 (uOfL (uLc [14] (uRng1 (uIf (uTru (uCall f_law_pick [] (aSrc 0 (aCons (uC (.int 2)) aNil)))) (uOp (dI2 fun i j => some (i - j)) (uC (.int 24)) (uCall f_law_pick [] (aSrc 0 (aCons (uC (.int 2)) aNil)))) (uOp dAdd (uC (.int 1)) (uCall f_law_pick [] (aSrc 0 (aCons (uC (.int 24)) aNil)))))) (bName 14) tYesU (uOp dAdd (uC (.int 1)) (uCall f_law_pick [] (aSrc 0 (aCons (uC (.int 60)) aNil)))))))
  uNext)
  (uSeq (uIfS (uTst dBool (uRel bEq (uVar 9) (uC (.int 2))))
  (uSet 8 (uTup (aCons (uC (.str ("of" : PySem.Str))) (aCons (uOp (dI2 fun i j => some (i - j)) (uC (.int 400)) (uCall f_law_pick [] (aSrc 0 (aCons (uC (.int 2)) aNil)))) (aCons (uOfL (uUnN lSort (uLOf (uSl (uOfL (uCallL f_law_shuffled [] (aSrc 0 (aCons (uOfL (uListRg (uC (.int 9)))) aNil)))) none (some (uOp dAdd (uC (.int 1)) (uCall f_law_pick [] (aSrc 0 (aCons (uC (.int 4)) aNil))))))))) aNil)))))
  uNext)
  (uSeq (uIfS (uTst dBool (uRel bEq (uVar 9) (uC (.int 3))))
  (uSet 8 (uTup (aCons (uC (.str ("every" : PySem.Str))) (aCons (uC (.int 4)) (aCons (uC (.int 100)) (aCons (uC (.int 400)) aNil))))))
  uNext)
  (uSeq (uSet 10 (uIf (uTru (uCall f_law_pick [] (aSrc 0 (aCons (uC (.int 3)) aNil)))) (uCall f_law_pick [] (aSrc 0 (aCons (uVar 5) aNil))) (uOp (dI2 fun i j => some (i - j)) (uVar 5) (uC (.int 1)))))
  (uSeq (uSet 11 (uTup (aCons (uVar 1) (aCons (uVar 5) (aCons (uVar 10) (aCons (uVar 2) (aCons (uVar 6) (aCons (uVar 7) (aCons (uVar 8) (aCons (uVar 3) aNil))))))))))
  (uSeq (uSet 12 (uCall f_law_months [] (aCons (uVar 11) (aCons (uOp dIx (uVar 2) (uC (.int 0))) aNil))))
  (uSeq (uSet 13 (uOp (dI2 fun i j => some (if j < i then j else i)) (uOp dIx (uVar 2) (uC (.int 1))) (uUn dLen (uVar 12))))
  (uRet (uOp dAdd (uOp dAdd (uSl (uVar 11) none (some (uC (.int 3)))) (uTup (aCons (uTup (aCons (uOp dIx (uVar 2) (uC (.int 0))) (aCons (uVar 13) (aCons (uOp (dI2 fun i j => some (if j < i then j else i)) (uOp dIx (uVar 2) (uC (.int 2))) (uOp dIx (uVar 12) (uOp (dI2 fun i j => some (i - j)) (uVar 13) (uC (.int 1))))) aNil)))) aNil))) (uSl (uVar 11) (some (uC (.int 4))) none))))))))))))))
def f_law_a_segment : List D → St4 → Option (D × St4) := uDef .fz 15 u_law_a_segment
/-- _law_a_days: 0=seg 1=t -/
def u_law_a_days : US :=
  (uRet (uOp (dI2 iDiv) (uOp dAdd (uOp (dI2 fun i j => some (i - j)) (uVar 1) (uOp dIx (uVar 0) (uC (.int 0)))) (uOp dIx (uVar 0) (uC (.int 2)))) (uOp dIx (uVar 0) (uC (.int 1)))))
def f_law_a_days : List D → St4 → Option (D × St4) := uDef .fz 2 u_law_a_days
/-- _law_a_segs: 0=s 1=most 2=great 3=base 4=names 5=out 6=lengths 7=date 8=k 9=cycles 10=kind 11=old 12=name 13=j -/
def u_law_a_segs : US :=
  (uSeq (uSet 3 (uIf (uTst dBool (uRel bEq (uCall f_law_pick [] (aSrc 0 (aCons (uC (.int 3)) aNil))) (uC (.int 0)))) (uCall f_law_far [] (aSrc 0 aNil)) (uOp (dI2 fun i j => some (i - j)) (uCall f_law_pick [] (aSrc 0 (aCons (uC (.int 40)) aNil))) (uC (.int 20)))))
  (uSeq (uPar [4, 5] (aCons (uOfL (uCallL f_law_names [] (aSrc 0 (aCons (uCall f_law_pick [] (aSrc 0 (aCons (uC (.int 3)) aNil))) (aConsL (uLst aNil) aNil))))) (aConsL (uLst aNil) aNil)))
  (uSeq (uSet 6 (uOfL (uLc [12] (uItems (uVar 4)) (bName 12) tYesU (uIf (uTru (uCall f_law_pick [] (aSrc 0 (aCons (uC (.int 3)) aNil)))) (uOp dAdd (uC (.int 2)) (uCall f_law_pick [] (aSrc 0 (aCons (uC (.int 5)) aNil)))) (uOp (dI2 fun i j => some (i - j)) (uC (.int 400)) (uCall f_law_pick [] (aSrc 0 (aCons (uC (.int 2)) aNil))))))))
  (uSeq (uSet 7 (uTup (aCons (uIf (uTru (uCall f_law_pick [] (aSrc 0 (aCons (uC (.int 3)) aNil)))) (uOp (dI2 fun i j => some (i - j)) (uCall f_law_pick [] (aSrc 0 (aCons (uC (.int 9)) aNil))) (uC (.int 4))) (uCall f_law_far [] (aSrc 0 aNil))) (aCons (uOp dAdd (uC (.int 1)) (uCall f_law_pick [] (aSrc 0 (aCons (uC (.int 3)) aNil)))) (aCons (uOp dAdd (uC (.int 1)) (uCall f_law_pick [] (aSrc 0 (aCons (uC (.int 3)) aNil)))) aNil)))))
  (uSeq (uFor (uRng1 (uOp dAdd (uC (.int 1)) (uCall f_law_pick [] (aSrc 0 (aCons (uVar 1) aNil))))) (bName 8)
  (uSeq (uSet 9 (uOfL (uLc [13] (uRng1 (uUn dLen (uVar 4))) (bName 13) tYesU (uTup (aCons (uOp dIx (uVar 4) (uVar 13)) (aCons (uOp dIx (uVar 6) (uVar 13)) (aCons (uCall f_law_pick [] (aSrc 0 (aCons (uOp dIx (uVar 6) (uVar 13)) aNil))) aNil)))))))
  (uSeq (uIfS (uTst dBool (uRel bEq (uVar 8) (uC (.int 0))))
  (uSeq (uApp 5 (uCall f_law_a_segment [] (aSrc 0 (aCons (uVar 3) (aCons (uVar 7) (aCons (uVar 9) (aCons (uVar 2) aNil)))))))
  uCont)
  uNext)
  (uSeq (uPar [3, 10] (aCons (uOp dAdd (uOp dAdd (uVar 3) (uC (.int 1))) (uCall f_law_pick [] (aSrc 0 (aCons (uC (.int 9)) aNil)))) (aCons (uCall f_law_pick [] (aSrc 0 (aCons (uC (.int 6)) aNil))) aNil)))
  (uSeq (uPar [7, 11] (aCons (uSl (uCall f_law_date [] (aConsL (uLVar 5) (aCons (uVar 3) aNil))) none (some (uC (.int 3)))) (aCons (uIxL (uLVar 5) (uUn dNeg (uC (.int 1)))) aNil)))
  (uIfS (uTst dBool (uRel (bI2 fun i j => decide (i < j)) (uVar 10) (uC (.int 2))))
  (uApp 5 (uOp dAdd (uOp dAdd (uTup (aCons (uVar 3) (aCons (uOp dIx (uVar 11) (uC (.int 1))) (aCons (uCall f_law_pick [] (aSrc 0 (aCons (uOp dIx (uVar 11) (uC (.int 1))) aNil))) (aCons (uVar 7) aNil))))) (uSl (uVar 11) (some (uC (.int 4))) (some (uC (.int 7))))) (uTup (aCons (uVar 9) aNil))))
  (uIfS (uTst dBool (uRel bEq (uVar 10) (uC (.int 2))))
  (uApp 5 (uOp dAdd (uOp dAdd (uTup (aCons (uVar 3) (aCons (uOp dIx (uVar 11) (uC (.int 1))) (aCons (uCall f_law_pick [] (aSrc 0 (aCons (uOp dIx (uVar 11) (uC (.int 1))) aNil))) (aCons (uCall f_law_walk_days [] (aCons (uVar 11) (aCons (uOp (dI2 fun i j => some (i - j)) (uCall f_law_a_days [] (aCons (uVar 11) (aCons (uVar 3) aNil))) (uC (.int 1))) aNil))) aNil))))) (uSl (uVar 11) (some (uC (.int 4))) (some (uC (.int 7))))) (uTup (aCons (uVar 9) aNil))))
  (uApp 5 (uCall f_law_a_segment [] (aSrc 0 (aCons (uVar 3) (aCons (uTup (aCons (uOp (dI2 fun i j => some (i - j)) (uOp dAdd (uOp dIx (uVar 7) (uC (.int 0))) (uVar 10)) (uC (.int 4))) (aCons (uOp dAdd (uC (.int 1)) (uCall f_law_pick [] (aSrc 0 (aCons (uC (.int 3)) aNil)))) (aCons (uOp dAdd (uC (.int 1)) (uCall f_law_pick [] (aSrc 0 (aCons (uC (.int 3)) aNil)))) aNil)))) (aCons (uVar 9) (aCons (uVar 2) aNil))))))))))))))
  (uRetL (uLVar 5)))))))
def f_law_a_segs : List D → St4 → Option (D × St4) := uDef .nw 14 u_law_a_segs
/-- _law_a_loose: 0=leap 1=part -/
def u_law_a_loose : US :=
  (uRet (uUn dTup (uOfL (uLc [1] (uItems (uVar 0)) (bName 1) tYesU (uIf (uTru (uUn (dIsi "list") (uVar 1))) (uUn dList (uVar 1)) (uVar 1))))))
def f_law_a_loose : List D → St4 → Option (D × St4) := uDef .fz 2 u_law_a_loose
/-- _law_a_rows: 0=segs 1=seg -/
def u_law_a_rows : US :=
  (uRet (uOfL (uLc [1] (uLVar 0) (bName 1) tYesU (uTup (aCons (uOp dIx (uVar 1) (uC (.int 0))) (aCons (uOp dIx (uVar 1) (uC (.int 1))) (aCons (uOp dIx (uVar 1) (uC (.int 2))) (aCons (uUn dTup (uOp dIx (uVar 1) (uC (.int 3)))) (aCons (uUn dList (uOp dIx (uVar 1) (uC (.int 4)))) (aCons (uUn dTup (uOp dIx (uVar 1) (uC (.int 5)))) (aCons (uCall f_law_a_loose [] (aCons (uOp dIx (uVar 1) (uC (.int 6))) aNil)) (aCons (uUn dList (uOp dIx (uVar 1) (uC (.int 7)))) aNil))))))))))))
def f_law_a_rows : List D → St4 → Option (D × St4) := uDef .fz 2 u_law_a_rows
/-- _law_a_years: 0=seg 1=leap -/
def u_law_a_years : US :=
  (uSeq (uSet 1 (uOp dIx (uVar 0) (uC (.int 6))))
  (uRet (uIf (uTst dBool (uRel bEq (uOp dIx (uVar 1) (uC (.int 0))) (uC (.str ("never" : PySem.Str))))) (uC (.int 1)) (uIf (uTst dBool (uRel bEq (uOp dIx (uVar 1) (uC (.int 0))) (uC (.str ("of" : PySem.Str))))) (uOp dIx (uVar 1) (uC (.int 1))) (uOp dIx (uVar 1) (uUn dNeg (uC (.int 1))))))))
def f_law_a_years : List D → St4 → Option (D × St4) := uDef .fz 2 u_law_a_years
/-- law: 0=script 1=s 2=at 3=segs 4=k 5=kind 6=old 7=date 8=back 9=j 10=told 11=days 12=seg 13=many 14=cycle 15=y; sh sr fz own fz fz fz fz own fz fz own fz fz fz fz -/
def u_law_rest : US :=
  (uSeq (uFor (uRng1 (uC (.int 3))) (bName 2)
  (uSeq (uSetL 3 (uCallL f_law_a_segs [] (aSrc 1 (aCons (uC (.int 4)) (aCons (uRel bEq (uVar 2) (uC (.int 2))) aNil)))))
  (uSeq (uPar [4, 5] (aCons (uCall f_law_pick [] (aSrc 1 (aCons (uUnL lLen (uLVar 3)) aNil))) (aCons (uCall f_law_pick [] (aSrc 1 (aCons (uC (.int 4)) aNil))) aNil)))
  (uSeq (uIfS (uAnd (uTst dBool (uRel (bI2 fun i j => decide (j < i)) (uVar 4) (uC (.int 0)))) (uTst dBool (uRel (bI2 fun i j => decide (i < j)) (uVar 5) (uC (.int 2)))))
  (uSeq (uSet 6 (uIxL (uLVar 3) (uOp (dI2 fun i j => some (i - j)) (uVar 4) (uC (.int 1)))))
  (uSeq (uSet 7 (uCall f_law_walk_days [] (aCons (uVar 6) (aCons (uOp (dI2 fun i j => some (i - j)) (uCall f_law_a_days [] (aCons (uVar 6) (aCons (uOp (dI2 fun i j => some (i - j)) (uOp dIx (uIxL (uLVar 3) (uVar 4)) (uC (.int 0))) (uC (.int 1))) aNil))) (uVar 5)) aNil))))
  (uSetIx 3 (uVar 4) (uOp dAdd (uOp dAdd (uTup (aCons (uOp dIx (uIxL (uLVar 3) (uVar 4)) (uC (.int 0))) (aCons (uOp dIx (uVar 6) (uC (.int 1))) (aCons (uIf (uTst dBool (uRel (bI2 fun i j => decide (i < j)) (uOp dIx (uIxL (uLVar 3) (uVar 4)) (uC (.int 2))) (uOp dIx (uVar 6) (uC (.int 1))))) (uOp dIx (uIxL (uLVar 3) (uVar 4)) (uC (.int 2))) (uC (.int 0))) (aCons (uVar 7) aNil))))) (uSl (uVar 6) (some (uC (.int 4))) (some (uC (.int 7))))) (uSl (uIxL (uLVar 3) (uVar 4)) (some (uC (.int 7))) none)))))
  uNext)
  (uSeq (uSetL 8 (uLst aNil))
  (uSeq (uFor (uRng2 (uC (.int 1)) (uUnL lLen (uLVar 3))) (bName 9)
  (uSeq (uSet 7 (uCall f_law_walk_days [] (aCons (uIxL (uLVar 3) (uOp (dI2 fun i j => some (i - j)) (uVar 9) (uC (.int 1)))) (aCons (uCall f_law_a_days [] (aCons (uIxL (uLVar 3) (uOp (dI2 fun i j => some (i - j)) (uVar 9) (uC (.int 1)))) (aCons (uOp (dI2 fun i j => some (i - j)) (uOp dIx (uIxL (uLVar 3) (uVar 9)) (uC (.int 0))) (uC (.int 1))) aNil))) aNil))))
  (uIfS (uTst dBool (uRel bLtT (uOp dIx (uIxL (uLVar 3) (uVar 9)) (uC (.int 3))) (uVar 7)))
  (uApp 8 (uTup (aCons (uVar 9) (aCons (uVar 7) (aCons (uUn dTup (uOp dIx (uIxL (uLVar 3) (uVar 9)) (uC (.int 3)))) aNil)))))
  uNext)))
  (uSeq (uSet 10 (uMake ("Calendar" : PySem.Str) f_Calendar___init__ [.str ("" : PySem.Str)] (aCons (uCall f_law_a_rows [] (aConsL (uLVar 3) aNil)) aNil)))
  (uSeq (uIfS (uNot (uTru (uCall (f_law_same 4) [] (aCons (uMeth ("Calendar" : PySem.Str) ("goes_back" : PySem.Str) f_Calendar_goes_back (uVar 10) aNil) (aCons (uIf (uTruL (uLVar 8)) (uIxL (uLVar 8) (uC (.int 0))) (uC .non)) aNil)))))
  (uRet (uC (.bl false)))
  uNext)
  (uSeq (uSetL 11 (uLst aNil))
  (uSeq (uFor (uItems (uTup (aCons (uIxL (uLVar 3) (uC (.int 0))) (aCons (uIxL (uLVar 3) (uUn dNeg (uC (.int 1)))) aNil)))) (bName 12)
  (uSeq (uSet 13 (uUnL lSum (uLc [15] (uRng1 (uCall f_law_a_years [] (aCons (uVar 12) aNil))) (bName 15) tYesU (uUnL lSum (uLOf (uCall f_law_months [] (aCons (uVar 12) (aCons (uVar 15) aNil))))))))
  (uSeq (uFor (uItems (uOp dIx (uVar 12) (uC (.int 7)))) (bName 14)
  (uSet 13 (uCall f_law_lcm [] (aCons (uVar 13) (aCons (uOp dIx (uVar 14) (uC (.int 1))) aNil)))))
  (uApp 11 (uOp (dI2 iMul) (uVar 13) (uOp dIx (uVar 12) (uC (.int 1))))))))
  (uIfS (uNot (uTru (uCall (f_law_same 4) [] (aCons (uMeth ("Calendar" : PySem.Str) ("round_length" : PySem.Str) f_Calendar_round_length (uVar 10) aNil) (aCons (uCall f_law_lcm [] (aCons (uIxL (uLVar 11) (uC (.int 0))) (aCons (uIxL (uLVar 11) (uC (.int 1))) aNil))) aNil)))))
  (uRet (uC (.bl false)))
  uNext)))))))))))
  (uRet (uC (.bl true))))
abbrev lms : List Mo := [.sh, .sr, .fz, .own, .fz, .fz, .fz, .fz, .own, .fz, .fz, .own, .fz, .fz, .fz, .fz]
def lawSrc : UL := (uCallL f_law_source [] (aConsL (uLVar 0) (aCons (uC (.int 0)) aNil)))
end Fw
set_option Elab.async false
set_option linter.all false
set_option maxRecDepth 100000
set_option maxHeartbeats 4000000
namespace Fw
open PySem PySem.Spec L2
/-! printed by gen.py -/
def top (i : Nat) : Stmt := PySem.Challenge.pw_doubteddays_k03_names_that_go_back.main.body.getD i (.Pass ⟨0, 0, 0, 0⟩)
abbrev s_segment_at : Stmt := top 3
abbrev s_name_at : Stmt := top 4
abbrev s_leap_numbers : Stmt := top 11
abbrev s_leap_fits : Stmt := top 12
abbrev s_leap_round : Stmt := top 13
abbrev s_is_long : Stmt := top 14
abbrev s_too_many : Stmt := top 17
abbrev s_number_check : Stmt := top 18
abbrev s_segment_limits : Stmt := top 20
abbrev s_starts_of : Stmt := top 21
abbrev s_place_in : Stmt := top 22
abbrev s_Segment___init__ : Stmt := inClass (top 23) 0
abbrev s_Segment_starts : Stmt := inClass (top 23) 1
abbrev s_Segment_has_date : Stmt := inClass (top 23) 2
abbrev s_Segment_day_of : Stmt := inClass (top 23) 3
abbrev s_Segment_date_of : Stmt := inClass (top 23) 4
abbrev s_Segment_day_at : Stmt := inClass (top 23) 5
abbrev s_common_divisor : Stmt := top 31
abbrev s_least_multiple : Stmt := top 32
abbrev s_row_numbers : Stmt := top 25
abbrev s_bounds_check : Stmt := top 26
abbrev s_cycles_fit : Stmt := top 27
abbrev s_lengths_fit : Stmt := top 28
abbrev s_row_check : Stmt := top 29
abbrev s_Calendar___init__ : Stmt := inClass (top 36) 0
abbrev s_Calendar_goes_back : Stmt := inClass (top 36) 8
abbrev s_Calendar_round_length : Stmt := inClass (top 36) 9
abbrev s_law_source : Stmt := top 38
abbrev s_law_pick : Stmt := top 39
abbrev s_law_one : Stmt := top 40
abbrev s_law_shuffled : Stmt := top 41
abbrev s_law_name : Stmt := top 42
abbrev s_law_names : Stmt := top 43
abbrev s_law_same : Stmt := top 44
abbrev s_law_far : Stmt := top 45
abbrev s_law_lengths : Stmt := top 46
abbrev s_law_leap : Stmt := top 47
abbrev s_law_is_long : Stmt := top 48
abbrev s_law_months : Stmt := top 49
abbrev s_law_lcm : Stmt := top 50
abbrev s_law_walk_days : Stmt := top 51
abbrev s_law_seg_at : Stmt := top 52
abbrev s_law_date : Stmt := top 53
abbrev s_law_a_segment : Stmt := top 54
abbrev s_law_a_segs : Stmt := top 55
abbrev s_law_a_days : Stmt := top 56
abbrev s_law_a_loose : Stmt := top 57
abbrev s_law_a_rows : Stmt := top 58
abbrev s_law_a_years : Stmt := top 59
abbrev s_law : Stmt := top 60
def d_segment_at : He.DefD := ⟨("segment_at", none), "segment_at", "segment_at", defArgs s_segment_at, defBody s_segment_at, defScope s_segment_at, [], []⟩
def d_name_at : He.DefD := ⟨("name_at", none), "name_at", "name_at", defArgs s_name_at, defBody s_name_at, defScope s_name_at, [], []⟩
def d_leap_numbers : He.DefD := ⟨("leap_numbers", none), "leap_numbers", "leap_numbers", defArgs s_leap_numbers, defBody s_leap_numbers, defScope s_leap_numbers, [], []⟩
def d_leap_fits : He.DefD := ⟨("leap_fits", none), "leap_fits", "leap_fits", defArgs s_leap_fits, defBody s_leap_fits, defScope s_leap_fits, [], []⟩
def d_leap_round : He.DefD := ⟨("leap_round", none), "leap_round", "leap_round", defArgs s_leap_round, defBody s_leap_round, defScope s_leap_round, [], []⟩
def d_is_long : He.DefD := ⟨("is_long", none), "is_long", "is_long", defArgs s_is_long, defBody s_is_long, defScope s_is_long, [], []⟩
def d_too_many : He.DefD := ⟨("too_many", none), "too_many", "too_many", defArgs s_too_many, defBody s_too_many, defScope s_too_many, [], []⟩
def d_number_check : He.DefD := ⟨("number_check", none), "number_check", "number_check", defArgs s_number_check, defBody s_number_check, defScope s_number_check, [], []⟩
def d_segment_limits : He.DefD := ⟨("segment_limits", none), "segment_limits", "segment_limits", defArgs s_segment_limits, defBody s_segment_limits, defScope s_segment_limits, [], []⟩
def d_starts_of : He.DefD := ⟨("starts_of", none), "starts_of", "starts_of", defArgs s_starts_of, defBody s_starts_of, defScope s_starts_of, [], []⟩
def d_place_in : He.DefD := ⟨("place_in", none), "place_in", "place_in", defArgs s_place_in, defBody s_place_in, defScope s_place_in, [], []⟩
def d_Segment___init__ : He.DefD := ⟨("Segment", some "__init__"), "__init__", "Segment.__init__", defArgs s_Segment___init__, defBody s_Segment___init__, defScope s_Segment___init__, [], []⟩
def d_Segment_starts : He.DefD := ⟨("Segment", some "starts"), "starts", "Segment.starts", defArgs s_Segment_starts, defBody s_Segment_starts, defScope s_Segment_starts, [], []⟩
def d_Segment_has_date : He.DefD := ⟨("Segment", some "has_date"), "has_date", "Segment.has_date", defArgs s_Segment_has_date, defBody s_Segment_has_date, defScope s_Segment_has_date, [], []⟩
def d_Segment_day_of : He.DefD := ⟨("Segment", some "day_of"), "day_of", "Segment.day_of", defArgs s_Segment_day_of, defBody s_Segment_day_of, defScope s_Segment_day_of, [], []⟩
def d_Segment_date_of : He.DefD := ⟨("Segment", some "date_of"), "date_of", "Segment.date_of", defArgs s_Segment_date_of, defBody s_Segment_date_of, defScope s_Segment_date_of, [], []⟩
def d_Segment_day_at : He.DefD := ⟨("Segment", some "day_at"), "day_at", "Segment.day_at", defArgs s_Segment_day_at, defBody s_Segment_day_at, defScope s_Segment_day_at, [], []⟩
def d_common_divisor : He.DefD := ⟨("common_divisor", none), "common_divisor", "common_divisor", defArgs s_common_divisor, defBody s_common_divisor, defScope s_common_divisor, [], []⟩
def d_least_multiple : He.DefD := ⟨("least_multiple", none), "least_multiple", "least_multiple", defArgs s_least_multiple, defBody s_least_multiple, defScope s_least_multiple, [], []⟩
def d_row_numbers : He.DefD := ⟨("row_numbers", none), "row_numbers", "row_numbers", defArgs s_row_numbers, defBody s_row_numbers, defScope s_row_numbers, [], []⟩
def d_bounds_check : He.DefD := ⟨("bounds_check", none), "bounds_check", "bounds_check", defArgs s_bounds_check, defBody s_bounds_check, defScope s_bounds_check, [], []⟩
def d_cycles_fit : He.DefD := ⟨("cycles_fit", none), "cycles_fit", "cycles_fit", defArgs s_cycles_fit, defBody s_cycles_fit, defScope s_cycles_fit, [], []⟩
def d_lengths_fit : He.DefD := ⟨("lengths_fit", none), "lengths_fit", "lengths_fit", defArgs s_lengths_fit, defBody s_lengths_fit, defScope s_lengths_fit, [], []⟩
def d_row_check : He.DefD := ⟨("row_check", none), "row_check", "row_check", defArgs s_row_check, defBody s_row_check, defScope s_row_check, [], []⟩
def d_Calendar___init__ : He.DefD := ⟨("Calendar", some "__init__"), "__init__", "Calendar.__init__", defArgs s_Calendar___init__, defBody s_Calendar___init__, defScope s_Calendar___init__, [.str ""], []⟩
def d_Calendar_goes_back : He.DefD := ⟨("Calendar", some "goes_back"), "goes_back", "Calendar.goes_back", defArgs s_Calendar_goes_back, defBody s_Calendar_goes_back, defScope s_Calendar_goes_back, [], []⟩
def d_Calendar_round_length : He.DefD := ⟨("Calendar", some "round_length"), "round_length", "Calendar.round_length", defArgs s_Calendar_round_length, defBody s_Calendar_round_length, defScope s_Calendar_round_length, [], []⟩
def d_law_source : He.DefD := ⟨("_law_source", none), "_law_source", "_law_source", defArgs s_law_source, defBody s_law_source, defScope s_law_source, [], []⟩
def d_law_pick : He.DefD := ⟨("_law_pick", none), "_law_pick", "_law_pick", defArgs s_law_pick, defBody s_law_pick, defScope s_law_pick, [], []⟩
def d_law_one : He.DefD := ⟨("_law_one", none), "_law_one", "_law_one", defArgs s_law_one, defBody s_law_one, defScope s_law_one, [], []⟩
def d_law_shuffled : He.DefD := ⟨("_law_shuffled", none), "_law_shuffled", "_law_shuffled", defArgs s_law_shuffled, defBody s_law_shuffled, defScope s_law_shuffled, [], []⟩
def d_law_name : He.DefD := ⟨("_law_name", none), "_law_name", "_law_name", defArgs s_law_name, defBody s_law_name, defScope s_law_name, [], []⟩
def d_law_names : He.DefD := ⟨("_law_names", none), "_law_names", "_law_names", defArgs s_law_names, defBody s_law_names, defScope s_law_names, [], []⟩
def d_law_same : He.DefD := ⟨("_law_same", none), "_law_same", "_law_same", defArgs s_law_same, defBody s_law_same, defScope s_law_same, [], []⟩
def d_law_far : He.DefD := ⟨("_law_far", none), "_law_far", "_law_far", defArgs s_law_far, defBody s_law_far, defScope s_law_far, [], []⟩
def d_law_lengths : He.DefD := ⟨("_law_lengths", none), "_law_lengths", "_law_lengths", defArgs s_law_lengths, defBody s_law_lengths, defScope s_law_lengths, [], []⟩
def d_law_leap : He.DefD := ⟨("_law_leap", none), "_law_leap", "_law_leap", defArgs s_law_leap, defBody s_law_leap, defScope s_law_leap, [], []⟩
def d_law_is_long : He.DefD := ⟨("_law_is_long", none), "_law_is_long", "_law_is_long", defArgs s_law_is_long, defBody s_law_is_long, defScope s_law_is_long, [], []⟩
def d_law_months : He.DefD := ⟨("_law_months", none), "_law_months", "_law_months", defArgs s_law_months, defBody s_law_months, defScope s_law_months, [], []⟩
def d_law_lcm : He.DefD := ⟨("_law_lcm", none), "_law_lcm", "_law_lcm", defArgs s_law_lcm, defBody s_law_lcm, defScope s_law_lcm, [], []⟩
def d_law_walk_days : He.DefD := ⟨("_law_walk_days", none), "_law_walk_days", "_law_walk_days", defArgs s_law_walk_days, defBody s_law_walk_days, defScope s_law_walk_days, [], []⟩
def d_law_seg_at : He.DefD := ⟨("_law_seg_at", none), "_law_seg_at", "_law_seg_at", defArgs s_law_seg_at, defBody s_law_seg_at, defScope s_law_seg_at, [], []⟩
def d_law_date : He.DefD := ⟨("_law_date", none), "_law_date", "_law_date", defArgs s_law_date, defBody s_law_date, defScope s_law_date, [], []⟩
def d_law_a_segment : He.DefD := ⟨("_law_a_segment", none), "_law_a_segment", "_law_a_segment", defArgs s_law_a_segment, defBody s_law_a_segment, defScope s_law_a_segment, [], []⟩
def d_law_a_segs : He.DefD := ⟨("_law_a_segs", none), "_law_a_segs", "_law_a_segs", defArgs s_law_a_segs, defBody s_law_a_segs, defScope s_law_a_segs, [], []⟩
def d_law_a_days : He.DefD := ⟨("_law_a_days", none), "_law_a_days", "_law_a_days", defArgs s_law_a_days, defBody s_law_a_days, defScope s_law_a_days, [], []⟩
def d_law_a_loose : He.DefD := ⟨("_law_a_loose", none), "_law_a_loose", "_law_a_loose", defArgs s_law_a_loose, defBody s_law_a_loose, defScope s_law_a_loose, [], []⟩
def d_law_a_rows : He.DefD := ⟨("_law_a_rows", none), "_law_a_rows", "_law_a_rows", defArgs s_law_a_rows, defBody s_law_a_rows, defScope s_law_a_rows, [], []⟩
def d_law_a_years : He.DefD := ⟨("_law_a_years", none), "_law_a_years", "_law_a_years", defArgs s_law_a_years, defBody s_law_a_years, defScope s_law_a_years, [], []⟩
def d_law : He.DefD := ⟨("law", none), "law", "law", defArgs s_law, defBody s_law, defScope s_law, [], []⟩
def fn : List He.DefD := [d_segment_at, d_name_at, d_leap_numbers, d_leap_fits, d_leap_round, d_is_long, d_too_many, d_number_check, d_segment_limits, d_starts_of, d_place_in, d_Segment___init__, d_Segment_starts, d_Segment_has_date, d_Segment_day_of, d_Segment_date_of, d_Segment_day_at, d_common_divisor, d_least_multiple, d_row_numbers, d_bounds_check, d_cycles_fit, d_lengths_fit, d_row_check, d_Calendar___init__, d_Calendar_goes_back, d_Calendar_round_length, d_law_source, d_law_pick, d_law_one, d_law_shuffled, d_law_name, d_law_names, d_law_same, d_law_far, d_law_lengths, d_law_leap, d_law_is_long, d_law_months, d_law_lcm, d_law_walk_days, d_law_seg_at, d_law_date, d_law_a_segment, d_law_a_segs, d_law_a_days, d_law_a_loose, d_law_a_rows, d_law_a_years, d_law]
def fa0 : List He.Fa := [.free "len", .free "range", .cls "Segment", .noat "Segment" "tick", .noat "Segment" "leap", .noat "Segment" "longer", .noat "Segment" "common", .noat "Segment" "days", .noat "Segment" "year_days", .noat "Segment" "years", .noat "Segment" "first_day", .noat "Segment" "into", .noat "Segment" "width", .glo "SIZES", .free "list", .glo "MOST", .free "abs", .free "tuple", .noat "Segment" "year_months", .noat "Segment" "date", .noat "Segment" "cycles", .noat "Segment" "months", .glo "Segment", .mkr "Segment", .free "min", .glo "Calendar", .mkr "Calendar", .cls "Calendar", .noat "Calendar" "own_segments", .free "int"]
def fa1 : List He.Fa := [.free "str", .free "isinstance", .free "bool", .free "dict", .free "all", .free "sorted", .free "sum", .glo "segment_at", .glo "place_in", .glo "is_long", .meth "Segment" "starts", .meth "Segment" "date_of", .meth "Segment" "day_at", .glo "name_at", .glo "leap_numbers", .glo "leap_fits", .glo "leap_round", .glo "too_many", .glo "number_check", .glo "segment_limits", .glo "starts_of", .meth "Segment" "day_of", .meth "Segment" "has_date", .glo "common_divisor", .glo "least_multiple", .glo "row_numbers", .glo "bounds_check", .glo "cycles_fit", .glo "lengths_fit", .glo "row_check"]
def fa2 : List He.Fa := [.meth "Calendar" "goes_back", .meth "Calendar" "round_length", .glo "_law_source", .glo "_law_pick", .glo "_law_one", .glo "_law_shuffled", .glo "_law_name", .glo "_law_names", .glo "_law_same", .glo "_law_far", .glo "_law_lengths", .glo "_law_leap", .glo "_law_is_long", .glo "_law_months", .glo "_law_lcm", .glo "_law_walk_days", .glo "_law_seg_at", .glo "_law_date", .glo "_law_a_segment", .glo "_law_a_days", .glo "_law_a_segs", .glo "_law_a_loose", .glo "_law_a_rows", .glo "_law_a_years", .glo "law"]
def fa : List He.Fa := fa0 ++ fa1 ++ fa2
/-! ### what the top holds -/
def kvI (l : List (Str × Int)) : List (Str × He.Dv) := l.map fun q => (q.1, .int q.2)
def keys_SIZES : List Str := ["day", "month", "year"]
def keys_MOST0 : List Str := ["rows", "number", "segments", "months", "monthdays", "dayticks", "numbers", "round", "events", "window", "pairs", "lines", "records", "recordprice", "recordprices"]
def keys_MOST1 : List Str := ["keeps", "keepprice", "starts", "table", "wrong", "copies", "depth", "asks", "kinds", "turnlines", "shift", "web", "span", "deeds", "lot"]
def tabs : List He.Tab := [(fun K => He.ga K "SIZES", keys_SIZES), (fun K => He.ga K "MOST", keys_MOST0 ++ keys_MOST1)]
def exB (K : PySem.W.Frag) : Bool := He.valsB K (He.ga K "SIZES") (kvI tab_SIZES) && He.valsB K (He.ga K "MOST") (kvI tab_MOST)
structure Tx (w : World) (K : PySem.W.Frag) (mg : Str → Option Value) : Prop where
  kin : ∃ h : Heap, K.In h ∧ h.Ns mainGlobals mg
  t : He.SaysT fa fn tabs w K
  ex : exB K = true
section
variable {P : Program} {w : World} {K : PySem.W.Frag} {mg : Str → Option Value} {base : Heap}
theorem Tx.fact (T : Tx w K mg) (i : Nat) {f : He.Fa} (h : fa[i]? = some f := by rfl) : f.ok K = true := T.t.d.fact i h
theorem Tx.glo (T : Tx w K mg) (i : Nat) {x : Str} (h : fa[i]? = some (.glo x) := by rfl) : mg x = some (.ref (He.ga K x)) := by
  obtain ⟨h', X, G⟩ := T.kin
  exact He.glo_ok X G (T.fact i h)
theorem Tx.free (T : Tx w K mg) (i : Nat) {x : Str} (h : fa[i]? = some (.free x) := by rfl) : mg x = none := by
  obtain ⟨h', X, G⟩ := T.kin
  exact He.free_ok X G (T.fact i h)
theorem Tx.cls (T : Tx w K mg) (i : Nat) {x : Str} (h : fa[i]? = some (.cls x) := by rfl) : Cls K (He.ga K x) := He.cls_ok (T.fact i h)
theorem Tx.noat (T : Tx w K mg) (i : Nat) {x f : Str} (h : fa[i]? = some (.noat x f) := by rfl) : NoAttr K (He.ga K x) f := He.noat_ok (T.fact i h)
theorem Tx.meth (T : Tx w K mg) (i : Nat) {x m : Str} (h : fa[i]? = some (.meth x m) := by rfl) : Meth K (He.ga K x) m (He.ma K (He.ga K x) m) := He.meth_ok (T.fact i h)
theorem Tx.mk_ (T : Tx w K mg) (i : Nat) {x : Str} (h : fa[i]? = some (.mkr x) := by rfl) : Mk K (He.ga K x) (He.ma K (He.ga K x) "__init__") := He.mkr_ok (T.fact i h)
theorem Tx.def_ (T : Tx w K mg) (i : Nat) {d : He.DefD} (h : fn[i]? = some d := by rfl) : ∃ fd, FunD K d.name d.qual d.params d.body d.scope (d.dvs K) (d.kws K) (He.fAd K d.at_) fd := T.t.d.def_ i h
theorem lookup_mem {z : Str} {v : Int} : ∀ {l : List (Str × Int)}, l.lookup z = some v → (z, v) ∈ l
  | [], h => by cases h
  | (k, u) :: l, h => by
    rw [List.lookup_cons] at h
    cases e : (z == k) with
    | true =>
      rw [e] at h
      cases h
      rw [eq_of_beq e]
      exact List.mem_cons_self
    | false =>
      rw [e] at h
      exact List.mem_cons_of_mem _ (lookup_mem h)
theorem tab_of {a : Addr} {l : List (Str × Int)} (h1 : ∃ es n, KDict K w a es n) (h2 : He.valsB K a (kvI l) = true) (z : Str) (v : Int) (e : l.lookup z = some v) : KDct K w a z (.int v) := by
  obtain ⟨es, n, D⟩ := h1
  obtain ⟨u, e1, e2⟩ := He.valsB_ok h2 (q := (z, .int v)) (List.mem_map.mpr ⟨(z, v), lookup_mem e, rfl⟩)
  exact ⟨es, n, u, D.at_, D.lit, e1, e2⟩
theorem Tx.tab_SIZES (T : Tx w K mg) (z : Str) (v : Int) (e : Fw.tab_SIZES.lookup z = some v) : KDct K w (He.ga K "SIZES") z (.int v) := tab_of (T.t.tab 0) (He.ba T.ex).1 z v e
theorem Tx.tab_MOST (T : Tx w K mg) (z : Str) (v : Int) (e : Fw.tab_MOST.lookup z = some v) : KDct K w (He.ga K "MOST") z (.int v) := tab_of (T.t.tab 1) (He.ba T.ex).2 z v e
end
end Fw
set_option Elab.async false
set_option linter.all false
set_option maxRecDepth 100000
set_option maxHeartbeats 0
namespace Fw
open PySem PySem.Spec PyProof.Rows L2
def loose0 : List PySem.Str := ["BadAsk", "BadCalendar", "Calendar", "DoubtedError", "LEVELS", "MOST", "SIZES", "Segment", "TooMany", "_law_a_days", "_law_a_loose", "_law_a_rows", "_law_a_segment", "_law_a_segs", "_law_a_years", "_law_date", "_law_far", "_law_is_long", "_law_lcm", "_law_leap", "_law_lengths", "_law_months", "_law_name", "_law_names", "_law_one", "_law_pick", "_law_same", "_law_seg_at", "_law_shuffled", "_law_source"]
def loose1 : List PySem.Str := ["_law_walk_days", "_wall", "bounds_check", "common_divisor", "cycles_fit", "is_long", "leap_fits", "leap_numbers", "leap_round", "least_multiple", "lengths_fit", "level_check", "name_at", "number_check", "place_in", "row_check", "row_numbers", "segment_at", "segment_limits", "starts_of", "too_many"]
def looseN : List PySem.Str := loose0 ++ loose1
abbrev lawR : PySem.W.OpenRow := PySem.W.OpenLaw.row PySem.Challenge.rw_doubteddays_k03_names_that_go_back
abbrev lawH : PySem.W.Hook := He.hookX 5 fa fn tabs [] exB
def lawOb (s : PySem.W.SharedT) : He.AlX := He.obsX 5 fa fn tabs [] exB (HandSHeadRun.getT s)
theorem lawOb_eq (s : PySem.W.SharedT) : lawOb s = lawH.obs s.abs := He.obsX_eq (HandSHeadRun.getT_eq s)
theorem lawRunF (w : World) : HandSHeadRun.RunEq lawR (PySem.W.view lawR.prog [60]) lawH lawOb 6000 looseN (w.withFollow "special-get-raises" false) := by
  intro os
  kernel_rfl
theorem lawRunT (w : World) : HandSHeadRun.RunEq lawR (PySem.W.view lawR.prog [60]) lawH lawOb 6000 looseN (w.withFollow "special-get-raises" true) := by
  intro os
  kernel_rfl
theorem lawRun (w : World) : HandSHeadRun.RunEq lawR (PySem.W.view lawR.prog [60]) lawH lawOb 6000 looseN w :=
  PySem.W.byRow2 "special-get-raises" (P := fun w => HandSHeadRun.RunEq lawR (PySem.W.view lawR.prog [60]) lawH lawOb 6000 looseN w) lawRunF lawRunT w
end Fw
set_option Elab.async false
set_option linter.all false
set_option maxRecDepth 100000
set_option maxHeartbeats 4000000
namespace Fw
open PySem PySem.Spec L2
/-! ### evaluating -/
theorem uSeq_go {a b : US} {ρ ρ1 : En} {st st1 : St4} {r : Option (Fl × En × St4)} (h1 : a ρ st = some (.nx, ρ1, st1)) (h2 : b ρ1 st1 = r) : uSeq a b ρ st = r := by
  unfold uSeq
  rw [h1]
  exact h2
theorem uSeq_rt {a b : US} {ρ ρ1 : En} {st st1 : St4} {d : D} (h1 : a ρ st = some (.rt d, ρ1, st1)) : uSeq a b ρ st = some (.rt d, ρ1, st1) := by
  unfold uSeq
  rw [h1] <;> rfl
theorem uDef_rt {rk : RK} {n : Nat} {body : US} {ds : List D} {ρ' : En} {st st' : St4} {d : D} (h : body (ds.map some ++ List.replicate (n - ds.length) none) st = some (.rt d, ρ', st')) : uDef rk n body ds st = some (d, st') := by
  unfold uDef
  rw [h]
theorem uDef_nx {n : Nat} {body : US} {ds : List D} {ρ' : En} {st st' : St4} (h : body (ds.map some ++ List.replicate (n - ds.length) none) st = some (.nx, ρ', st')) : uDef .fz n body ds st = some (.non, st') := by
  unfold uDef
  rw [h]
/-- u hands back d -/
def Rt (u : US) (ρ : En) (st : St4) (d : D) (st' : St4) : Prop := ∃ ρ', u ρ st = some (.rt d, ρ', st')
theorem Rt.fin {rk : RK} {n : Nat} {body : US} {ds : List D} {st st' : St4} {d : D} (h : Rt body (ds.map some ++ List.replicate (n - ds.length) none) st d st') : uDef rk n body ds st = some (d, st') := by
  obtain ⟨ρ', h⟩ := h
  exact uDef_rt h
theorem Rt.go {a b : US} {ρ ρ1 : En} {st st1 st' : St4} {d : D} (h1 : a ρ st = some (.nx, ρ1, st1)) (h2 : Rt b ρ1 st1 d st') : Rt (uSeq a b) ρ st d st' := by
  obtain ⟨ρ', h⟩ := h2
  exact ⟨ρ', uSeq_go h1 h⟩
theorem Rt.now {a b : US} {ρ : En} {st st' : St4} {d : D} (h : Rt a ρ st d st') : Rt (uSeq a b) ρ st d st' := by
  obtain ⟨ρ', h⟩ := h
  exact ⟨ρ', uSeq_rt h⟩
theorem Rt.ret {u : UE} {ρ : En} {st st' : St4} {d : D} (h : u ρ st = some (d, st')) : Rt (uRet u) ρ st d st' := ⟨ρ, by
  unfold uRet
  rw [h] <;> rfl⟩
theorem Rt.retL {u : UL} {ρ : En} {st st' : St4} {ds : List D} (h : u ρ st = some (ds, st')) : Rt (uRetL u) ρ st (.lst ds) st' := ⟨ρ, by
  unfold uRetL
  rw [h] <;> rfl⟩
theorem at0 {α : Type} {x : α} {xs : List α} : atI (x :: xs) 0 = some x := by
  simp [atI, ixN]
theorem atK {α : Type} {xs : List α} {k : Nat} {x : α} (h : xs[k]? = some x) : atI xs (k : Int) = some x := by
  have := (List.getElem?_eq_some_iff.mp h).1
  unfold atI ixN
  have e : (0 : Int) ≤ (k : Int) := by omega
  simp [e, this]
  exact (List.getElem?_eq_some_iff.mp h).2
theorem at1 {α : Type} {x y : α} {xs : List α} : atI (x :: y :: xs) 1 = some y := atK (k := 1) rfl
theorem at2 {α : Type} {x y z : α} {xs : List α} : atI (x :: y :: z :: xs) 2 = some z := atK (k := 2) rfl
theorem at3 {α : Type} {a b c d : α} {xs : List α} : atI (a :: b :: c :: d :: xs) 3 = some d := atK (k := 3) rfl
theorem at4 {α : Type} {a b c d e : α} {xs : List α} : atI (a :: b :: c :: d :: e :: xs) 4 = some e := atK (k := 4) rfl
theorem at5 {α : Type} {a b c d e f : α} {xs : List α} : atI (a :: b :: c :: d :: e :: f :: xs) 5 = some f := atK (k := 5) rfl
theorem at6 {α : Type} {a b c d e f g : α} {xs : List α} : atI (a :: b :: c :: d :: e :: f :: g :: xs) 6 = some g := atK (k := 6) rfl
theorem at7 {α : Type} {a b c d e f g h : α} {xs : List α} : atI (a :: b :: c :: d :: e :: f :: g :: h :: xs) 7 = some h := atK (k := 7) rfl
theorem sEO : (Str.ofString "every" = Str.ofString "of") = False := eq_false (by decide)
theorem sEN : (Str.ofString "every" = Str.ofString "never") = False := eq_false (by decide)
theorem sON : (Str.ofString "of" = Str.ofString "never") = False := eq_false (by decide)
theorem sNE : (Str.ofString "never" = Str.ofString "every") = False := eq_false (by decide)
theorem sNO : (Str.ofString "never" = Str.ofString "of") = False := eq_false (by decide)
theorem sOE : (Str.ofString "of" = Str.ofString "every") = False := eq_false (by decide)
/-! ### ints -/
theorem log2_le {n : Nat} {k : Nat} (h : n < 2 ^ (k + 1)) : n.log2 ≤ k := by
  by_cases z : n = 0
  · subst z
    simp
  · exact Nat.lt_succ_iff.mp ((Nat.log2_lt z).mpr h)
theorem iDiv_eq {i j : Int} (h : 0 < j) (h2 : j < 2 ^ 200) : iDiv i j = some (i / j) := by
  have h3 : j.natAbs.log2 ≤ 199 := log2_le (by omega)
  have h4 : 0 < j ∧ j.natAbs.log2 < 9000 := ⟨h, by omega⟩
  unfold iDiv
  rw [if_pos h4]
theorem iMod_eq {i j : Int} (h : 0 < j) : iMod i j = some (i % j) := by
  unfold iMod
  rw [if_pos h]
theorem iMul_eqR {i j : Int} (h : -(2 ^ 64) < j) (h2 : j < 2 ^ 64) : iMul i j = some (i * j) := by
  unfold iMul
  rw [if_pos (.inl ⟨h, h2⟩)]
theorem iMul_eqL {i j : Int} (h : -(2 ^ 64) < i) (h2 : i < 2 ^ 64) : iMul i j = some (i * j) := by
  unfold iMul
  rw [if_pos (.inr (.inl ⟨h, h2⟩))]
theorem uRng1_eq {u : UE} {ρ : En} {st st' : St4} {n : Int} (h : u ρ st = some (.int n, st')) (h1 : -(2 ^ 62) ≤ n) (h2 : n < 2 ^ 62) : uRng1 u ρ st = some (rng 0 n, st') := by
  unfold uRng1
  rw [h, Option.bind_some]
  exact if_pos ⟨h1, h2⟩
theorem uRng2_eq {u u2 : UE} {ρ : En} {st st' st2 : St4} {n m : Int} (h : u ρ st = some (.int n, st')) (h' : u2 ρ st' = some (.int m, st2)) (h1 : -(2 ^ 62) ≤ n) (h2 : n < 2 ^ 62) (h3 : -(2 ^ 62) ≤ m) (h4 : m < 2 ^ 62) : uRng2 u u2 ρ st = some (rng n m, st2) := by
  unfold uRng2
  rw [h, Option.bind_some, h', Option.bind_some]
  exact if_pos ⟨h1, h2, h3, h4⟩
theorem uFor_eq {it : UL} {bd : D → En → Option En} {b : US} {ρ : En} {st st' : St4} {ds : List D} (h : it ρ st = some (ds, st')) : uFor it bd b ρ st = uForGo bd b ds ρ st' := by
  unfold uFor
  rw [h, Option.bind_some]
theorem uOp_eq {f : D → D → Option D} {a b : UE} {ρ : En} {st s1 s2 : St4} {x y z : D} (h1 : a ρ st = some (x, s1)) (h2 : b ρ s1 = some (y, s2)) (h3 : f x y = some z) : uOp f a b ρ st = some (z, s2) := by
  unfold uOp
  rw [h1, Option.bind_some, h2, Option.bind_some, h3] <;> rfl
theorem uUn_eq {f : D → Option D} {a : UE} {ρ : En} {st s1 : St4} {x z : D} (h1 : a ρ st = some (x, s1)) (h3 : f x = some z) : uUn f a ρ st = some (z, s1) := by
  unfold uUn
  rw [h1, Option.bind_some, h3] <;> rfl
theorem dAdd_str {a b : Str} (h : a.length + b.length ≤ 100000) : dAdd (.str a) (.str b) = some (.str (a ++ b)) := if_pos h
theorem dAdd_tup {a b : List D} (h : a.length + b.length ≤ 100000) : dAdd (.tup a) (.tup b) = some (.tup (a ++ b)) := if_pos h
theorem dAdd_lst {a b : List D} (h : a.length + b.length ≤ 100000) : dAdd (.lst a) (.lst b) = some (.lst (a ++ b)) := if_pos h
section
variable {ρ : En} {st s1 s2 s3 : St4} {a b u : UE} {l : UL} {r ua : UA} {x y z d : D} {xs ys ds : List D}
theorem aCons_eq (h1 : a ρ st = some (x, s1)) (h2 : r ρ s1 = some (xs, s2)) : aCons a r ρ st = some (x :: xs, s2) := by
  unfold aCons
  rw [h1, Option.bind_some, h2] <;> rfl
theorem aConsL_eq (h1 : l ρ st = some (ys, s1)) (h2 : r ρ s1 = some (xs, s2)) : aConsL l r ρ st = some (.lst ys :: xs, s2) := by
  unfold aConsL
  rw [h1, Option.bind_some, h2] <;> rfl
theorem aSrc_eq {i : Nat} (h1 : gv ρ i = some d) (h2 : r ρ st = some (xs, s2)) : aSrc i r ρ st = some (.src :: xs, s2) := by
  unfold aSrc
  rw [h1, Option.bind_some, h2] <;> rfl
theorem uCall_eq {f : List D → St4 → Option (D × St4)} (h1 : ua ρ st = some (xs, s1)) (h2 : f xs s1 = some (y, s2)) : uCall f [] ua ρ st = some (y, s2) := by
  unfold uCall
  rw [h1, Option.bind_some, List.append_nil, h2]
theorem uCallL_eq {f : List D → St4 → Option (D × St4)} (h1 : ua ρ st = some (xs, s1)) (h2 : f xs s1 = some (.lst ys, s2)) : uCallL f [] ua ρ st = some (ys, s2) := by
  unfold uCallL uLOf
  rw [uCall_eq h1 h2]
theorem uOfL_eq (h : l ρ st = some (ys, s1)) : uOfL l ρ st = some (.lst ys, s1) := by
  unfold uOfL
  rw [h] <;> rfl
theorem uLOf_eq (h : a ρ st = some (.lst ys, s1)) : uLOf a ρ st = some (ys, s1) := by
  unfold uLOf
  rw [h]
theorem uUnN_eq {f : List D → Option (List D)} (h : l ρ st = some (ys, s1)) (h2 : f ys = some xs) : uUnN f l ρ st = some (xs, s1) := by
  unfold uUnN
  rw [h, Option.bind_some, h2] <;> rfl
theorem uUnL_eq {f : List D → Option D} (h : l ρ st = some (ys, s1)) (h2 : f ys = some x) : uUnL f l ρ st = some (x, s1) := by
  unfold uUnL
  rw [h, Option.bind_some, h2] <;> rfl
theorem uTup_eq (h : ua ρ st = some (ys, s1)) (hl : ys.length ≤ 1000) : uTup ua ρ st = some (.tup ys, s1) := by
  unfold uTup
  rw [h, Option.bind_some]
  exact if_pos hl
theorem uLst_eq (h : ua ρ st = some (ys, s1)) (hl : ys.length ≤ 1000) : uLst ua ρ st = some (ys, s1) := by
  unfold uLst
  rw [h, Option.bind_some]
  exact if_pos hl
theorem uPart_eq {i : Int} (h : a ρ st = some (.int i, s1)) : uPart (some a) ρ st = some (some i, s1) := by
  show ((a ρ st).bind fun x => match x.1 with
    | .int i => some (some i, x.2)
    | _ => none) = _
  rw [h] <;> rfl
theorem uSl_eq {lo hi : Option UE} {i j : Option Int} (h : a ρ st = some (x, s1)) (h1 : uPart lo ρ s1 = some (i, s2)) (h2 : uPart hi ρ s2 = some (j, s3)) (h3 : dSl x i j = some z) : uSl a lo hi ρ st = some (z, s3) := by
  unfold uSl
  rw [h, Option.bind_some, h1, Option.bind_some, h2, Option.bind_some, h3] <;> rfl
theorem uIf_t {t : UT} (h : t ρ st = some (true, s1)) (h1 : a ρ s1 = some (x, s2)) : uIf t a b ρ st = some (x, s2) := by
  unfold uIf
  rw [h, Option.bind_some]
  exact h1
theorem uIf_f {t : UT} (h : t ρ st = some (false, s1)) (h1 : b ρ s1 = some (x, s2)) : uIf t a b ρ st = some (x, s2) := by
  unfold uIf
  rw [h, Option.bind_some]
  exact h1
theorem uIfS_t {t : UT} {a b : US} {o : Option (Fl × En × St4)} (h : t ρ st = some (true, s1)) (h1 : a ρ s1 = o) : uIfS t a b ρ st = o := by
  unfold uIfS
  rw [h, Option.bind_some]
  exact h1
theorem uIfS_f {t : UT} {a b : US} {o : Option (Fl × En × St4)} (h : t ρ st = some (false, s1)) (h1 : b ρ s1 = o) : uIfS t a b ρ st = o := by
  unfold uIfS
  rw [h, Option.bind_some]
  exact h1
theorem Rt.ifT {t : UT} {a b : US} (h : t ρ st = some (true, s1)) (h1 : Rt a ρ s1 d s2) : Rt (uIfS t a b) ρ st d s2 := by
  obtain ⟨ρ', h1⟩ := h1
  exact ⟨ρ', uIfS_t h h1⟩
theorem Rt.ifF {t : UT} {a b : US} (h : t ρ st = some (false, s1)) (h1 : Rt b ρ s1 d s2) : Rt (uIfS t a b) ρ st d s2 := by
  obtain ⟨ρ', h1⟩ := h1
  exact ⟨ρ', uIfS_f h h1⟩
theorem uTst_eq {f : D → Option Bool} {v : Bool} (h : a ρ st = some (x, s1)) (h1 : f x = some v) : uTst f a ρ st = some (v, s1) := by
  unfold uTst
  rw [h, Option.bind_some, h1] <;> rfl
theorem uRelT_eq {f : D → D → Option Bool} {v : Bool} (h1 : a ρ st = some (x, s1)) (h2 : b ρ s1 = some (y, s2)) (h3 : f x y = some v) : uTst dBool (uRel f a b) ρ st = some (v, s2) :=
  uTst_eq (x := .bl v) (uOp_eq h1 h2 (by rw [h3] <;> rfl)) rfl
theorem uSet_eq {i : Nat} (h : a ρ st = some (x, s1)) : uSet i a ρ st = some (.nx, ρ.set i (some x), s1) := by
  unfold uSet
  rw [h] <;> rfl
theorem uSetL_eq {i : Nat} (h : l ρ st = some (ys, s1)) : uSetL i l ρ st = some (.nx, ρ.set i (some (.lst ys)), s1) := by
  unfold uSetL
  rw [h] <;> rfl
theorem uPar_eq {is : List Nat} {ρ1 : En} (h : ua ρ st = some (ys, s1)) (h2 : bNames is ys ρ = some ρ1) : uPar is ua ρ st = some (.nx, ρ1, s1) := by
  unfold uPar
  rw [h, Option.bind_some, h2] <;> rfl
theorem uApp_eq {i : Nat} (h : a ρ st = some (x, s1)) (h2 : gv ρ i = some (.lst ys)) (hl : ys.length < 100000) : uApp i a ρ st = some (.nx, ρ.set i (some (.lst (ys ++ [x]))), s1) := by
  unfold uApp
  rw [h, Option.bind_some, h2]
  exact if_pos hl
theorem uDrop_eq (h : a ρ st = some (x, s1)) : uDrop a ρ st = some (.nx, ρ, s1) := by
  unfold uDrop
  rw [h] <;> rfl
theorem uItems_lst (h : a ρ st = some (.lst ys, s1)) : uItems a ρ st = some (ys, s1) := by
  unfold uItems
  rw [h] <;> rfl
theorem uItems_tup (h : a ρ st = some (.tup ys, s1)) : uItems a ρ st = some (ys, s1) := by
  unfold uItems
  rw [h] <;> rfl
theorem uForGo_cons {bd : D → En → Option En} {b : US} {ρ1 ρ2 : En} {o : Option (Fl × En × St4)} (h : bd d ρ = some ρ1) (h1 : b ρ1 st = some (.nx, ρ2, s1)) (h2 : uForGo bd b ds ρ2 s1 = o) : uForGo bd b (d :: ds) ρ st = o := by
  show ((bd d ρ).bind fun ρ1 => (b ρ1 st).bind fun r => match r.1 with
    | .nx => uForGo bd b ds r.2.1 r.2.2
    | .ct => uForGo bd b ds r.2.1 r.2.2
    | .bk => some (.nx, r.2.1, r.2.2)
    | .rt d => some (.rt d, r.2.1, r.2.2)) = _
  rw [h, Option.bind_some, h1]
  exact h2
end
theorem f_law_pick_ok (many : Int) (hm : many < 2 ^ 200) (st : St4) : ∃ r st', f_law_pick [.src, .int many] st = some (.int r, st') ∧ 0 ≤ r ∧ (1 < many → r < many) ∧ (many ≤ 1 → r = 0) := by
  unfold f_law_pick uDef u_law_pick
  by_cases h1 : many ≤ 1
  · refine ⟨0, st, ?_, by omega, by omega, fun _ => rfl⟩
    simp [uSeq, uIfS, uTst, uRel, uOp, uVar, uC, gv, bI2, dBool, uRet, h1]
  · have h3 : 0 < many := by omega
    by_cases h2 : 0 < st.1
    · refine ⟨st.1 % many, (st.1 / many, st.2.1, st.2.2.1, st.2.2.2), ?_, Int.emod_nonneg _ (by omega), fun _ => Int.emod_lt_of_pos _ (by omega), fun h => absurd h h1⟩
      simp [uSeq, uIfS, uTst, uRel, uOp, uUn, uVar, uC, gv, bI2, dBool, uRet, uNext, uSet, uSetSrc, uSrcAt, s4at, s4set, dInt, dI2, iMod_eq h3, iDiv_eq h3 hm, h1, h2]
    · refine ⟨?r, ?s, ?_, ?_⟩
      rotate_left 2
      · simp [uSeq, uIfS, uTst, uRel, uOp, uUn, uVar, uC, gv, bI2, dBool, uRet, uNext, uSet, uSetSrc, uSrcAt, s4at, s4set, dInt, dI2, iMod_eq, iDiv_eq, iMul_eqR, dAdd, h1, h2, h3, hm]
        constructor
        · rfl
        · rfl
      · exact ⟨Int.emod_nonneg _ (by omega), fun _ => Int.emod_lt_of_pos _ (by omega), fun h => absurd h h1⟩
end Fw
set_option Elab.async false
set_option linter.all false
set_option maxRecDepth 100000
set_option maxHeartbeats 4000000
namespace Fw
open PySem PySem.Spec L2
/-! ### leaps -/
inductive Leap where
  | never | e1 (a : Int) | e2 (a b : Int) | e3 (a b c : Int) | of (a : Int) (rs : List Int)
def Leap.d : Leap → D
  | .never => .tup [.str "never"]
  | .e1 a => .tup [.str "every", .int a]
  | .e2 a b => .tup [.str "every", .int a, .int b]
  | .e3 a b c => .tup [.str "every", .int a, .int b, .int c]
  | .of a rs => .tup [.str "of", .int a, iL rs]
def Leap.Ok : Leap → Prop
  | .never => True
  | .e1 a => 1 ≤ a ∧ a ≤ 400
  | .e2 a b => 1 ≤ a ∧ a ≤ 400 ∧ 1 ≤ b ∧ b ≤ 400 ∧ b % a = 0
  | .e3 a b c => 1 ≤ a ∧ a ≤ 400 ∧ 1 ≤ b ∧ b ≤ 400 ∧ b % a = 0 ∧ 1 ≤ c ∧ c ≤ 400 ∧ c % b = 0
  | .of a rs => 1 ≤ a ∧ a ≤ 400 ∧ rs ≠ [] ∧ rs.Pairwise (· < ·) ∧ (∀ r ∈ rs, 0 ≤ r ∧ r < a) ∧ rs.length ≤ 400
def Leap.long : Leap → Int → Bool
  | .never, _ => false
  | .e1 a, y => decide (y % a = 0)
  | .e2 a b, y => decide (y % a = 0) && !decide (y % b = 0)
  | .e3 a b c, y => decide (y % a = 0) && (!decide (y % b = 0) || decide (y % c = 0))
  | .of a rs, y => decide (y % a ∈ rs)
def Leap.round : Leap → Int
  | .never => 1
  | .e1 a => a
  | .e2 _ b => b
  | .e3 _ _ c => c
  | .of a _ => a
theorem Leap.round_pos {l : Leap} (h : l.Ok) : 1 ≤ l.round ∧ l.round ≤ 400 := by
  cases l <;> simp only [Leap.Ok, Leap.round] at h ⊢ <;> omega
theorem mod_mod {y a b : Int} (h : b % a = 0) : (y % b) % a = y % a := Int.emod_emod_of_dvd y (Int.dvd_of_emod_eq_zero h)
theorem Leap.long_round {l : Leap} (h : l.Ok) (y : Int) : l.long (y % l.round) = l.long y := by
  cases l with
  | never => rfl
  | e1 a => simp only [Leap.long, Leap.round, Int.emod_emod_of_dvd y (Int.dvd_refl a)]
  | e2 a b =>
    obtain ⟨_, _, _, _, h⟩ := h
    simp only [Leap.long, Leap.round, Int.emod_emod_of_dvd y (Int.dvd_refl b), mod_mod h]
  | e3 a b c =>
    obtain ⟨_, _, _, _, h, _, _, h2⟩ := h
    have h3 : c % a = 0 := Int.emod_eq_zero_of_dvd (Int.dvd_trans (Int.dvd_of_emod_eq_zero h) (Int.dvd_of_emod_eq_zero h2))
    simp only [Leap.long, Leap.round, Int.emod_emod_of_dvd y (Int.dvd_refl c), mod_mod h2, mod_mod h3]
  | of a rs => simp only [Leap.long, Leap.round, Int.emod_emod_of_dvd y (Int.dvd_refl a)]
theorem asI_iL (rs : List Int) : asI (rs.map D.int) = some rs := asI_map rs
theorem cut1 {x : D} {xs : List D} : cutD (x :: xs) (some 1) none = xs := by
  simp [cutD, HT.sIx]
theorem f_law_is_long_eq {l : Leap} (h : l.Ok) (y : Int) (st : St4) : f_law_is_long [l.d, .int y] st = some (.bl (l.long y), st) := by
  cases l with
  | never => exact Rt.fin (.now (by simp [uSeq, uIfS, uTst, uRel, uOp, uUn, uVar, uC, gv, bI2, dBool, uRet, uNext, uSet, uSetL, uDrop, dI2, dAdd, uTgt, uPar, uCall, uCallL, uMeth, aNil, aCons, aConsL, aSrc, uTup, uLst, uOfL, uLOf, uLVar, uUnL, uUnN, uIxL, uAnd, uOr, uNot, uIf, uTru, uTruL, bTru, bName, bTup, bNames, uItems, dIx, bEq, bNe, dInt, uAndV, uOrV, uNotV, uRetL, uRetN, dFld, dLen, lLen, dList, dTup, dNeg, at0, at1, at2, at3, at4, at5, at6, at7, sEO, sEN, sON, sNE, sNO, sOE, Rt, Leap.d, Leap.long]))
  | e1 a =>
    obtain ⟨h1, h2⟩ := h
    have h3 : 0 < a := by omega
    refine Rt.fin (.go (by simp [uSeq, uIfS, uTst, uRel, uOp, uUn, uVar, uC, gv, bI2, dBool, uRet, uNext, uSet, uSetL, uDrop, dI2, dAdd, uTgt, uPar, uCall, uCallL, uMeth, aNil, aCons, aConsL, aSrc, uTup, uLst, uOfL, uLOf, uLVar, uUnL, uUnN, uIxL, uAnd, uOr, uNot, uIf, uTru, uTruL, bTru, bName, bTup, bNames, uItems, dIx, bEq, bNe, dInt, uAndV, uOrV, uNotV, uRetL, uRetN, dFld, dLen, lLen, dList, dTup, dNeg, at0, at1, at2, at3, at4, at5, at6, at7, sEO, sEN, sON, sNE, sNO, sOE, Leap.d] <;> first | exact ⟨rfl, rfl⟩ | rfl) (.go (by simp [uSeq, uIfS, uTst, uRel, uOp, uUn, uVar, uC, gv, bI2, dBool, uRet, uNext, uSet, uSetL, uDrop, dI2, dAdd, uTgt, uPar, uCall, uCallL, uMeth, aNil, aCons, aConsL, aSrc, uTup, uLst, uOfL, uLOf, uLVar, uUnL, uUnN, uIxL, uAnd, uOr, uNot, uIf, uTru, uTruL, bTru, bName, bTup, bNames, uItems, dIx, bEq, bNe, dInt, uAndV, uOrV, uNotV, uRetL, uRetN, dFld, dLen, lLen, dList, dTup, dNeg, at0, at1, at2, at3, at4, at5, at6, at7, sEO, sEN, sON, sNE, sNO, sOE, Leap.d] <;> first | exact ⟨rfl, rfl⟩ | rfl) (.go (by simp [uSeq, uIfS, uTst, uRel, uOp, uUn, uVar, uC, gv, bI2, dBool, uRet, uNext, uSet, uSetL, uDrop, dI2, dAdd, uTgt, uPar, uCall, uCallL, uMeth, aNil, aCons, aConsL, aSrc, uTup, uLst, uOfL, uLOf, uLVar, uUnL, uUnN, uIxL, uAnd, uOr, uNot, uIf, uTru, uTruL, bTru, bName, bTup, bNames, uItems, dIx, bEq, bNe, dInt, uAndV, uOrV, uNotV, uRetL, uRetN, dFld, dLen, lLen, dList, dTup, dNeg, at0, at1, at2, at3, at4, at5, at6, at7, sEO, sEN, sON, sNE, sNO, sOE, Leap.d, uLc, uPart, uSl, dSl, cut1, wipeD, uLcGo, tYesU, iMod_eq h3] <;> first | exact ⟨rfl, rfl⟩ | rfl) (.ret (by simp [uSeq, uIfS, uTst, uRel, uOp, uUn, uVar, uC, gv, bI2, dBool, uRet, uNext, uSet, uSetL, uDrop, dI2, dAdd, uTgt, uPar, uCall, uCallL, uMeth, aNil, aCons, aConsL, aSrc, uTup, uLst, uOfL, uLOf, uLVar, uUnL, uUnN, uIxL, uAnd, uOr, uNot, uIf, uTru, uTruL, bTru, bName, bTup, bNames, uItems, dIx, bEq, bNe, dInt, uAndV, uOrV, uNotV, uRetL, uRetN, dFld, dLen, lLen, dList, dTup, dNeg, at0, at1, at2, at3, at4, at5, at6, at7, sEO, sEN, sON, sNE, sNO, sOE, Leap.d, Leap.long])))))
  | e2 a b =>
    obtain ⟨h1, h2, h3, h4, h5⟩ := h
    have h6 : 0 < a := by omega
    have h7 : 0 < b := by omega
    refine Rt.fin (.go (by simp [uSeq, uIfS, uTst, uRel, uOp, uUn, uVar, uC, gv, bI2, dBool, uRet, uNext, uSet, uSetL, uDrop, dI2, dAdd, uTgt, uPar, uCall, uCallL, uMeth, aNil, aCons, aConsL, aSrc, uTup, uLst, uOfL, uLOf, uLVar, uUnL, uUnN, uIxL, uAnd, uOr, uNot, uIf, uTru, uTruL, bTru, bName, bTup, bNames, uItems, dIx, bEq, bNe, dInt, uAndV, uOrV, uNotV, uRetL, uRetN, dFld, dLen, lLen, dList, dTup, dNeg, at0, at1, at2, at3, at4, at5, at6, at7, sEO, sEN, sON, sNE, sNO, sOE, Leap.d] <;> first | exact ⟨rfl, rfl⟩ | rfl) (.go (by simp [uSeq, uIfS, uTst, uRel, uOp, uUn, uVar, uC, gv, bI2, dBool, uRet, uNext, uSet, uSetL, uDrop, dI2, dAdd, uTgt, uPar, uCall, uCallL, uMeth, aNil, aCons, aConsL, aSrc, uTup, uLst, uOfL, uLOf, uLVar, uUnL, uUnN, uIxL, uAnd, uOr, uNot, uIf, uTru, uTruL, bTru, bName, bTup, bNames, uItems, dIx, bEq, bNe, dInt, uAndV, uOrV, uNotV, uRetL, uRetN, dFld, dLen, lLen, dList, dTup, dNeg, at0, at1, at2, at3, at4, at5, at6, at7, sEO, sEN, sON, sNE, sNO, sOE, Leap.d] <;> first | exact ⟨rfl, rfl⟩ | rfl) (.go (by simp [uSeq, uIfS, uTst, uRel, uOp, uUn, uVar, uC, gv, bI2, dBool, uRet, uNext, uSet, uSetL, uDrop, dI2, dAdd, uTgt, uPar, uCall, uCallL, uMeth, aNil, aCons, aConsL, aSrc, uTup, uLst, uOfL, uLOf, uLVar, uUnL, uUnN, uIxL, uAnd, uOr, uNot, uIf, uTru, uTruL, bTru, bName, bTup, bNames, uItems, dIx, bEq, bNe, dInt, uAndV, uOrV, uNotV, uRetL, uRetN, dFld, dLen, lLen, dList, dTup, dNeg, at0, at1, at2, at3, at4, at5, at6, at7, sEO, sEN, sON, sNE, sNO, sOE, Leap.d, uLc, uPart, uSl, dSl, cut1, wipeD, uLcGo, tYesU, iMod_eq h6, iMod_eq h7] <;> first | exact ⟨rfl, rfl⟩ | rfl) (.ret ?_))))
    by_cases c : y % a = 0 <;> by_cases c2 : y % b = 0 <;> simp [uSeq, uIfS, uTst, uRel, uOp, uUn, uVar, uC, gv, bI2, dBool, uRet, uNext, uSet, uSetL, uDrop, dI2, dAdd, uTgt, uPar, uCall, uCallL, uMeth, aNil, aCons, aConsL, aSrc, uTup, uLst, uOfL, uLOf, uLVar, uUnL, uUnN, uIxL, uAnd, uOr, uNot, uIf, uTru, uTruL, bTru, bName, bTup, bNames, uItems, dIx, bEq, bNe, dInt, uAndV, uOrV, uNotV, uRetL, uRetN, dFld, dLen, lLen, dList, dTup, dNeg, at0, at1, at2, at3, at4, at5, at6, at7, sEO, sEN, sON, sNE, sNO, sOE, Leap.d, Leap.long, c, c2]
  | e3 a b c =>
    obtain ⟨h1, h2, h3, h4, h5, h8, h9, h10⟩ := h
    have h6 : 0 < a := by omega
    have h7 : 0 < b := by omega
    have h8 : 0 < c := by omega
    refine Rt.fin (.go (by simp [uSeq, uIfS, uTst, uRel, uOp, uUn, uVar, uC, gv, bI2, dBool, uRet, uNext, uSet, uSetL, uDrop, dI2, dAdd, uTgt, uPar, uCall, uCallL, uMeth, aNil, aCons, aConsL, aSrc, uTup, uLst, uOfL, uLOf, uLVar, uUnL, uUnN, uIxL, uAnd, uOr, uNot, uIf, uTru, uTruL, bTru, bName, bTup, bNames, uItems, dIx, bEq, bNe, dInt, uAndV, uOrV, uNotV, uRetL, uRetN, dFld, dLen, lLen, dList, dTup, dNeg, at0, at1, at2, at3, at4, at5, at6, at7, sEO, sEN, sON, sNE, sNO, sOE, Leap.d] <;> first | exact ⟨rfl, rfl⟩ | rfl) (.go (by simp [uSeq, uIfS, uTst, uRel, uOp, uUn, uVar, uC, gv, bI2, dBool, uRet, uNext, uSet, uSetL, uDrop, dI2, dAdd, uTgt, uPar, uCall, uCallL, uMeth, aNil, aCons, aConsL, aSrc, uTup, uLst, uOfL, uLOf, uLVar, uUnL, uUnN, uIxL, uAnd, uOr, uNot, uIf, uTru, uTruL, bTru, bName, bTup, bNames, uItems, dIx, bEq, bNe, dInt, uAndV, uOrV, uNotV, uRetL, uRetN, dFld, dLen, lLen, dList, dTup, dNeg, at0, at1, at2, at3, at4, at5, at6, at7, sEO, sEN, sON, sNE, sNO, sOE, Leap.d] <;> first | exact ⟨rfl, rfl⟩ | rfl) (.go (by simp [uSeq, uIfS, uTst, uRel, uOp, uUn, uVar, uC, gv, bI2, dBool, uRet, uNext, uSet, uSetL, uDrop, dI2, dAdd, uTgt, uPar, uCall, uCallL, uMeth, aNil, aCons, aConsL, aSrc, uTup, uLst, uOfL, uLOf, uLVar, uUnL, uUnN, uIxL, uAnd, uOr, uNot, uIf, uTru, uTruL, bTru, bName, bTup, bNames, uItems, dIx, bEq, bNe, dInt, uAndV, uOrV, uNotV, uRetL, uRetN, dFld, dLen, lLen, dList, dTup, dNeg, at0, at1, at2, at3, at4, at5, at6, at7, sEO, sEN, sON, sNE, sNO, sOE, Leap.d, uLc, uPart, uSl, dSl, cut1, wipeD, uLcGo, tYesU, iMod_eq h6, iMod_eq h7, iMod_eq h8] <;> first | exact ⟨rfl, rfl⟩ | rfl) (.ret ?_))))
    by_cases c1 : y % a = 0 <;> by_cases c2 : y % b = 0 <;> by_cases c3 : y % c = 0 <;> simp [uSeq, uIfS, uTst, uRel, uOp, uUn, uVar, uC, gv, bI2, dBool, uRet, uNext, uSet, uSetL, uDrop, dI2, dAdd, uTgt, uPar, uCall, uCallL, uMeth, aNil, aCons, aConsL, aSrc, uTup, uLst, uOfL, uLOf, uLVar, uUnL, uUnN, uIxL, uAnd, uOr, uNot, uIf, uTru, uTruL, bTru, bName, bTup, bNames, uItems, dIx, bEq, bNe, dInt, uAndV, uOrV, uNotV, uRetL, uRetN, dFld, dLen, lLen, dList, dTup, dNeg, at0, at1, at2, at3, at4, at5, at6, at7, sEO, sEN, sON, sNE, sNO, sOE, Leap.d, Leap.long, c1, c2, c3]
  | of a rs =>
    obtain ⟨h1, h2, _⟩ := h
    have h3 : 0 < a := by omega
    exact Rt.fin (.go (by simp [uSeq, uIfS, uTst, uRel, uOp, uUn, uVar, uC, gv, bI2, dBool, uRet, uNext, uSet, uSetL, uDrop, dI2, dAdd, uTgt, uPar, uCall, uCallL, uMeth, aNil, aCons, aConsL, aSrc, uTup, uLst, uOfL, uLOf, uLVar, uUnL, uUnN, uIxL, uAnd, uOr, uNot, uIf, uTru, uTruL, bTru, bName, bTup, bNames, uItems, dIx, bEq, bNe, dInt, uAndV, uOrV, uNotV, uRetL, uRetN, dFld, dLen, lLen, dList, dTup, dNeg, at0, at1, at2, at3, at4, at5, at6, at7, sEO, sEN, sON, sNE, sNO, sOE, Leap.d] <;> first | exact ⟨rfl, rfl⟩ | rfl) (.now (by simp [uSeq, uIfS, uTst, uRel, uOp, uUn, uVar, uC, gv, bI2, dBool, uRet, uNext, uSet, uSetL, uDrop, dI2, dAdd, uTgt, uPar, uCall, uCallL, uMeth, aNil, aCons, aConsL, aSrc, uTup, uLst, uOfL, uLOf, uLVar, uUnL, uUnN, uIxL, uAnd, uOr, uNot, uIf, uTru, uTruL, bTru, bName, bTup, bNames, uItems, dIx, bEq, bNe, dInt, uAndV, uOrV, uNotV, uRetL, uRetN, dFld, dLen, lLen, dList, dTup, dNeg, at0, at1, at2, at3, at4, at5, at6, at7, sEO, sEN, sON, sNE, sNO, sOE, Rt, Leap.d, Leap.long, iMod_eq h3, iL, bIn, bInL, asI_iL])))
theorem f_is_long_eq {l : Leap} (h : l.Ok) (y : Int) (st : St4) : f_is_long [l.d, .int y] st = some (.bl (l.long y), st) := by
  cases l with
  | never => exact Rt.fin (.now (by simp [uSeq, uIfS, uTst, uRel, uOp, uUn, uVar, uC, gv, bI2, dBool, uRet, uNext, uSet, uSetL, uDrop, dI2, dAdd, uTgt, uPar, uCall, uCallL, uMeth, aNil, aCons, aConsL, aSrc, uTup, uLst, uOfL, uLOf, uLVar, uUnL, uUnN, uIxL, uAnd, uOr, uNot, uIf, uTru, uTruL, bTru, bName, bTup, bNames, uItems, dIx, bEq, bNe, dInt, uAndV, uOrV, uNotV, uRetL, uRetN, dFld, dLen, lLen, dList, dTup, dNeg, at0, at1, at2, at3, at4, at5, at6, at7, sEO, sEN, sON, sNE, sNO, sOE, Rt, Leap.d, Leap.long]))
  | e1 a =>
    obtain ⟨h1, h2⟩ := h
    have h3 : 0 < a := by omega
    by_cases c : y % a = 0
    · exact Rt.fin (.go (by simp [uSeq, uIfS, uTst, uRel, uOp, uUn, uVar, uC, gv, bI2, dBool, uRet, uNext, uSet, uSetL, uDrop, dI2, dAdd, uTgt, uPar, uCall, uCallL, uMeth, aNil, aCons, aConsL, aSrc, uTup, uLst, uOfL, uLOf, uLVar, uUnL, uUnN, uIxL, uAnd, uOr, uNot, uIf, uTru, uTruL, bTru, bName, bTup, bNames, uItems, dIx, bEq, bNe, dInt, uAndV, uOrV, uNotV, uRetL, uRetN, dFld, dLen, lLen, dList, dTup, dNeg, at0, at1, at2, at3, at4, at5, at6, at7, sEO, sEN, sON, sNE, sNO, sOE, Leap.d] <;> first | exact ⟨rfl, rfl⟩ | rfl) (.go (by simp [uSeq, uIfS, uTst, uRel, uOp, uUn, uVar, uC, gv, bI2, dBool, uRet, uNext, uSet, uSetL, uDrop, dI2, dAdd, uTgt, uPar, uCall, uCallL, uMeth, aNil, aCons, aConsL, aSrc, uTup, uLst, uOfL, uLOf, uLVar, uUnL, uUnN, uIxL, uAnd, uOr, uNot, uIf, uTru, uTruL, bTru, bName, bTup, bNames, uItems, dIx, bEq, bNe, dInt, uAndV, uOrV, uNotV, uRetL, uRetN, dFld, dLen, lLen, dList, dTup, dNeg, at0, at1, at2, at3, at4, at5, at6, at7, sEO, sEN, sON, sNE, sNO, sOE, Leap.d] <;> first | exact ⟨rfl, rfl⟩ | rfl) (.go (by simp [uSeq, uIfS, uTst, uRel, uOp, uUn, uVar, uC, gv, bI2, dBool, uRet, uNext, uSet, uSetL, uDrop, dI2, dAdd, uTgt, uPar, uCall, uCallL, uMeth, aNil, aCons, aConsL, aSrc, uTup, uLst, uOfL, uLOf, uLVar, uUnL, uUnN, uIxL, uAnd, uOr, uNot, uIf, uTru, uTruL, bTru, bName, bTup, bNames, uItems, dIx, bEq, bNe, dInt, uAndV, uOrV, uNotV, uRetL, uRetN, dFld, dLen, lLen, dList, dTup, dNeg, at0, at1, at2, at3, at4, at5, at6, at7, sEO, sEN, sON, sNE, sNO, sOE] <;> first | exact ⟨rfl, rfl⟩ | rfl) (.go (by simp [uSeq, uIfS, uTst, uRel, uOp, uUn, uVar, uC, gv, bI2, dBool, uRet, uNext, uSet, uSetL, uDrop, dI2, dAdd, uTgt, uPar, uCall, uCallL, uMeth, aNil, aCons, aConsL, aSrc, uTup, uLst, uOfL, uLOf, uLVar, uUnL, uUnN, uIxL, uAnd, uOr, uNot, uIf, uTru, uTruL, bTru, bName, bTup, bNames, uItems, dIx, bEq, bNe, dInt, uAndV, uOrV, uNotV, uRetL, uRetN, dFld, dLen, lLen, dList, dTup, dNeg, at0, at1, at2, at3, at4, at5, at6, at7, sEO, sEN, sON, sNE, sNO, sOE, Leap.d, uFor, uForGo, uPart, uSl, dSl, cut1, iMod_eq h3, c] <;> first | exact ⟨rfl, rfl⟩ | rfl) (.ret (by simp [uSeq, uIfS, uTst, uRel, uOp, uUn, uVar, uC, gv, bI2, dBool, uRet, uNext, uSet, uSetL, uDrop, dI2, dAdd, uTgt, uPar, uCall, uCallL, uMeth, aNil, aCons, aConsL, aSrc, uTup, uLst, uOfL, uLOf, uLVar, uUnL, uUnN, uIxL, uAnd, uOr, uNot, uIf, uTru, uTruL, bTru, bName, bTup, bNames, uItems, dIx, bEq, bNe, dInt, uAndV, uOrV, uNotV, uRetL, uRetN, dFld, dLen, lLen, dList, dTup, dNeg, at0, at1, at2, at3, at4, at5, at6, at7, sEO, sEN, sON, sNE, sNO, sOE, Leap.d, Leap.long, c]))))))
    · exact Rt.fin (.go (by simp [uSeq, uIfS, uTst, uRel, uOp, uUn, uVar, uC, gv, bI2, dBool, uRet, uNext, uSet, uSetL, uDrop, dI2, dAdd, uTgt, uPar, uCall, uCallL, uMeth, aNil, aCons, aConsL, aSrc, uTup, uLst, uOfL, uLOf, uLVar, uUnL, uUnN, uIxL, uAnd, uOr, uNot, uIf, uTru, uTruL, bTru, bName, bTup, bNames, uItems, dIx, bEq, bNe, dInt, uAndV, uOrV, uNotV, uRetL, uRetN, dFld, dLen, lLen, dList, dTup, dNeg, at0, at1, at2, at3, at4, at5, at6, at7, sEO, sEN, sON, sNE, sNO, sOE, Leap.d] <;> first | exact ⟨rfl, rfl⟩ | rfl) (.go (by simp [uSeq, uIfS, uTst, uRel, uOp, uUn, uVar, uC, gv, bI2, dBool, uRet, uNext, uSet, uSetL, uDrop, dI2, dAdd, uTgt, uPar, uCall, uCallL, uMeth, aNil, aCons, aConsL, aSrc, uTup, uLst, uOfL, uLOf, uLVar, uUnL, uUnN, uIxL, uAnd, uOr, uNot, uIf, uTru, uTruL, bTru, bName, bTup, bNames, uItems, dIx, bEq, bNe, dInt, uAndV, uOrV, uNotV, uRetL, uRetN, dFld, dLen, lLen, dList, dTup, dNeg, at0, at1, at2, at3, at4, at5, at6, at7, sEO, sEN, sON, sNE, sNO, sOE, Leap.d] <;> first | exact ⟨rfl, rfl⟩ | rfl) (.go (by simp [uSeq, uIfS, uTst, uRel, uOp, uUn, uVar, uC, gv, bI2, dBool, uRet, uNext, uSet, uSetL, uDrop, dI2, dAdd, uTgt, uPar, uCall, uCallL, uMeth, aNil, aCons, aConsL, aSrc, uTup, uLst, uOfL, uLOf, uLVar, uUnL, uUnN, uIxL, uAnd, uOr, uNot, uIf, uTru, uTruL, bTru, bName, bTup, bNames, uItems, dIx, bEq, bNe, dInt, uAndV, uOrV, uNotV, uRetL, uRetN, dFld, dLen, lLen, dList, dTup, dNeg, at0, at1, at2, at3, at4, at5, at6, at7, sEO, sEN, sON, sNE, sNO, sOE] <;> first | exact ⟨rfl, rfl⟩ | rfl) (.go (by simp [uSeq, uIfS, uTst, uRel, uOp, uUn, uVar, uC, gv, bI2, dBool, uRet, uNext, uSet, uSetL, uDrop, dI2, dAdd, uTgt, uPar, uCall, uCallL, uMeth, aNil, aCons, aConsL, aSrc, uTup, uLst, uOfL, uLOf, uLVar, uUnL, uUnN, uIxL, uAnd, uOr, uNot, uIf, uTru, uTruL, bTru, bName, bTup, bNames, uItems, dIx, bEq, bNe, dInt, uAndV, uOrV, uNotV, uRetL, uRetN, dFld, dLen, lLen, dList, dTup, dNeg, at0, at1, at2, at3, at4, at5, at6, at7, sEO, sEN, sON, sNE, sNO, sOE, Leap.d, uFor, uForGo, uPart, uSl, dSl, cut1, iMod_eq h3, c] <;> first | exact ⟨rfl, rfl⟩ | rfl) (.ret (by simp [uSeq, uIfS, uTst, uRel, uOp, uUn, uVar, uC, gv, bI2, dBool, uRet, uNext, uSet, uSetL, uDrop, dI2, dAdd, uTgt, uPar, uCall, uCallL, uMeth, aNil, aCons, aConsL, aSrc, uTup, uLst, uOfL, uLOf, uLVar, uUnL, uUnN, uIxL, uAnd, uOr, uNot, uIf, uTru, uTruL, bTru, bName, bTup, bNames, uItems, dIx, bEq, bNe, dInt, uAndV, uOrV, uNotV, uRetL, uRetN, dFld, dLen, lLen, dList, dTup, dNeg, at0, at1, at2, at3, at4, at5, at6, at7, sEO, sEN, sON, sNE, sNO, sOE, Leap.d, Leap.long, c]))))))
  | e2 a b =>
    obtain ⟨h1, h2, h3, h4, h5⟩ := h
    have h6 : 0 < a := by omega
    have h7 : 0 < b := by omega
    have i1 : y % b = 0 → y % a = 0 := fun e => by rw [← mod_mod (y := y) h5, e]; simp
    by_cases c2 : y % b = 0
    · have c1 := i1 c2
      exact Rt.fin (.go (by simp [uSeq, uIfS, uTst, uRel, uOp, uUn, uVar, uC, gv, bI2, dBool, uRet, uNext, uSet, uSetL, uDrop, dI2, dAdd, uTgt, uPar, uCall, uCallL, uMeth, aNil, aCons, aConsL, aSrc, uTup, uLst, uOfL, uLOf, uLVar, uUnL, uUnN, uIxL, uAnd, uOr, uNot, uIf, uTru, uTruL, bTru, bName, bTup, bNames, uItems, dIx, bEq, bNe, dInt, uAndV, uOrV, uNotV, uRetL, uRetN, dFld, dLen, lLen, dList, dTup, dNeg, at0, at1, at2, at3, at4, at5, at6, at7, sEO, sEN, sON, sNE, sNO, sOE, Leap.d] <;> first | exact ⟨rfl, rfl⟩ | rfl) (.go (by simp [uSeq, uIfS, uTst, uRel, uOp, uUn, uVar, uC, gv, bI2, dBool, uRet, uNext, uSet, uSetL, uDrop, dI2, dAdd, uTgt, uPar, uCall, uCallL, uMeth, aNil, aCons, aConsL, aSrc, uTup, uLst, uOfL, uLOf, uLVar, uUnL, uUnN, uIxL, uAnd, uOr, uNot, uIf, uTru, uTruL, bTru, bName, bTup, bNames, uItems, dIx, bEq, bNe, dInt, uAndV, uOrV, uNotV, uRetL, uRetN, dFld, dLen, lLen, dList, dTup, dNeg, at0, at1, at2, at3, at4, at5, at6, at7, sEO, sEN, sON, sNE, sNO, sOE, Leap.d] <;> first | exact ⟨rfl, rfl⟩ | rfl) (.go (by simp [uSeq, uIfS, uTst, uRel, uOp, uUn, uVar, uC, gv, bI2, dBool, uRet, uNext, uSet, uSetL, uDrop, dI2, dAdd, uTgt, uPar, uCall, uCallL, uMeth, aNil, aCons, aConsL, aSrc, uTup, uLst, uOfL, uLOf, uLVar, uUnL, uUnN, uIxL, uAnd, uOr, uNot, uIf, uTru, uTruL, bTru, bName, bTup, bNames, uItems, dIx, bEq, bNe, dInt, uAndV, uOrV, uNotV, uRetL, uRetN, dFld, dLen, lLen, dList, dTup, dNeg, at0, at1, at2, at3, at4, at5, at6, at7, sEO, sEN, sON, sNE, sNO, sOE] <;> first | exact ⟨rfl, rfl⟩ | rfl) (.go (by simp [uSeq, uIfS, uTst, uRel, uOp, uUn, uVar, uC, gv, bI2, dBool, uRet, uNext, uSet, uSetL, uDrop, dI2, dAdd, uTgt, uPar, uCall, uCallL, uMeth, aNil, aCons, aConsL, aSrc, uTup, uLst, uOfL, uLOf, uLVar, uUnL, uUnN, uIxL, uAnd, uOr, uNot, uIf, uTru, uTruL, bTru, bName, bTup, bNames, uItems, dIx, bEq, bNe, dInt, uAndV, uOrV, uNotV, uRetL, uRetN, dFld, dLen, lLen, dList, dTup, dNeg, at0, at1, at2, at3, at4, at5, at6, at7, sEO, sEN, sON, sNE, sNO, sOE, Leap.d, uFor, uForGo, uPart, uSl, dSl, cut1, iMod_eq h6, iMod_eq h7, c1, c2] <;> first | exact ⟨rfl, rfl⟩ | rfl) (.ret (by simp [uSeq, uIfS, uTst, uRel, uOp, uUn, uVar, uC, gv, bI2, dBool, uRet, uNext, uSet, uSetL, uDrop, dI2, dAdd, uTgt, uPar, uCall, uCallL, uMeth, aNil, aCons, aConsL, aSrc, uTup, uLst, uOfL, uLOf, uLVar, uUnL, uUnN, uIxL, uAnd, uOr, uNot, uIf, uTru, uTruL, bTru, bName, bTup, bNames, uItems, dIx, bEq, bNe, dInt, uAndV, uOrV, uNotV, uRetL, uRetN, dFld, dLen, lLen, dList, dTup, dNeg, at0, at1, at2, at3, at4, at5, at6, at7, sEO, sEN, sON, sNE, sNO, sOE, Leap.d, Leap.long, c1, c2]))))))
    · by_cases c1 : y % a = 0
      · exact Rt.fin (.go (by simp [uSeq, uIfS, uTst, uRel, uOp, uUn, uVar, uC, gv, bI2, dBool, uRet, uNext, uSet, uSetL, uDrop, dI2, dAdd, uTgt, uPar, uCall, uCallL, uMeth, aNil, aCons, aConsL, aSrc, uTup, uLst, uOfL, uLOf, uLVar, uUnL, uUnN, uIxL, uAnd, uOr, uNot, uIf, uTru, uTruL, bTru, bName, bTup, bNames, uItems, dIx, bEq, bNe, dInt, uAndV, uOrV, uNotV, uRetL, uRetN, dFld, dLen, lLen, dList, dTup, dNeg, at0, at1, at2, at3, at4, at5, at6, at7, sEO, sEN, sON, sNE, sNO, sOE, Leap.d] <;> first | exact ⟨rfl, rfl⟩ | rfl) (.go (by simp [uSeq, uIfS, uTst, uRel, uOp, uUn, uVar, uC, gv, bI2, dBool, uRet, uNext, uSet, uSetL, uDrop, dI2, dAdd, uTgt, uPar, uCall, uCallL, uMeth, aNil, aCons, aConsL, aSrc, uTup, uLst, uOfL, uLOf, uLVar, uUnL, uUnN, uIxL, uAnd, uOr, uNot, uIf, uTru, uTruL, bTru, bName, bTup, bNames, uItems, dIx, bEq, bNe, dInt, uAndV, uOrV, uNotV, uRetL, uRetN, dFld, dLen, lLen, dList, dTup, dNeg, at0, at1, at2, at3, at4, at5, at6, at7, sEO, sEN, sON, sNE, sNO, sOE, Leap.d] <;> first | exact ⟨rfl, rfl⟩ | rfl) (.go (by simp [uSeq, uIfS, uTst, uRel, uOp, uUn, uVar, uC, gv, bI2, dBool, uRet, uNext, uSet, uSetL, uDrop, dI2, dAdd, uTgt, uPar, uCall, uCallL, uMeth, aNil, aCons, aConsL, aSrc, uTup, uLst, uOfL, uLOf, uLVar, uUnL, uUnN, uIxL, uAnd, uOr, uNot, uIf, uTru, uTruL, bTru, bName, bTup, bNames, uItems, dIx, bEq, bNe, dInt, uAndV, uOrV, uNotV, uRetL, uRetN, dFld, dLen, lLen, dList, dTup, dNeg, at0, at1, at2, at3, at4, at5, at6, at7, sEO, sEN, sON, sNE, sNO, sOE] <;> first | exact ⟨rfl, rfl⟩ | rfl) (.go (by simp [uSeq, uIfS, uTst, uRel, uOp, uUn, uVar, uC, gv, bI2, dBool, uRet, uNext, uSet, uSetL, uDrop, dI2, dAdd, uTgt, uPar, uCall, uCallL, uMeth, aNil, aCons, aConsL, aSrc, uTup, uLst, uOfL, uLOf, uLVar, uUnL, uUnN, uIxL, uAnd, uOr, uNot, uIf, uTru, uTruL, bTru, bName, bTup, bNames, uItems, dIx, bEq, bNe, dInt, uAndV, uOrV, uNotV, uRetL, uRetN, dFld, dLen, lLen, dList, dTup, dNeg, at0, at1, at2, at3, at4, at5, at6, at7, sEO, sEN, sON, sNE, sNO, sOE, Leap.d, uFor, uForGo, uPart, uSl, dSl, cut1, iMod_eq h6, iMod_eq h7, c1, c2] <;> first | exact ⟨rfl, rfl⟩ | rfl) (.ret (by simp [uSeq, uIfS, uTst, uRel, uOp, uUn, uVar, uC, gv, bI2, dBool, uRet, uNext, uSet, uSetL, uDrop, dI2, dAdd, uTgt, uPar, uCall, uCallL, uMeth, aNil, aCons, aConsL, aSrc, uTup, uLst, uOfL, uLOf, uLVar, uUnL, uUnN, uIxL, uAnd, uOr, uNot, uIf, uTru, uTruL, bTru, bName, bTup, bNames, uItems, dIx, bEq, bNe, dInt, uAndV, uOrV, uNotV, uRetL, uRetN, dFld, dLen, lLen, dList, dTup, dNeg, at0, at1, at2, at3, at4, at5, at6, at7, sEO, sEN, sON, sNE, sNO, sOE, Leap.d, Leap.long, c1, c2]))))))
      · exact Rt.fin (.go (by simp [uSeq, uIfS, uTst, uRel, uOp, uUn, uVar, uC, gv, bI2, dBool, uRet, uNext, uSet, uSetL, uDrop, dI2, dAdd, uTgt, uPar, uCall, uCallL, uMeth, aNil, aCons, aConsL, aSrc, uTup, uLst, uOfL, uLOf, uLVar, uUnL, uUnN, uIxL, uAnd, uOr, uNot, uIf, uTru, uTruL, bTru, bName, bTup, bNames, uItems, dIx, bEq, bNe, dInt, uAndV, uOrV, uNotV, uRetL, uRetN, dFld, dLen, lLen, dList, dTup, dNeg, at0, at1, at2, at3, at4, at5, at6, at7, sEO, sEN, sON, sNE, sNO, sOE, Leap.d] <;> first | exact ⟨rfl, rfl⟩ | rfl) (.go (by simp [uSeq, uIfS, uTst, uRel, uOp, uUn, uVar, uC, gv, bI2, dBool, uRet, uNext, uSet, uSetL, uDrop, dI2, dAdd, uTgt, uPar, uCall, uCallL, uMeth, aNil, aCons, aConsL, aSrc, uTup, uLst, uOfL, uLOf, uLVar, uUnL, uUnN, uIxL, uAnd, uOr, uNot, uIf, uTru, uTruL, bTru, bName, bTup, bNames, uItems, dIx, bEq, bNe, dInt, uAndV, uOrV, uNotV, uRetL, uRetN, dFld, dLen, lLen, dList, dTup, dNeg, at0, at1, at2, at3, at4, at5, at6, at7, sEO, sEN, sON, sNE, sNO, sOE, Leap.d] <;> first | exact ⟨rfl, rfl⟩ | rfl) (.go (by simp [uSeq, uIfS, uTst, uRel, uOp, uUn, uVar, uC, gv, bI2, dBool, uRet, uNext, uSet, uSetL, uDrop, dI2, dAdd, uTgt, uPar, uCall, uCallL, uMeth, aNil, aCons, aConsL, aSrc, uTup, uLst, uOfL, uLOf, uLVar, uUnL, uUnN, uIxL, uAnd, uOr, uNot, uIf, uTru, uTruL, bTru, bName, bTup, bNames, uItems, dIx, bEq, bNe, dInt, uAndV, uOrV, uNotV, uRetL, uRetN, dFld, dLen, lLen, dList, dTup, dNeg, at0, at1, at2, at3, at4, at5, at6, at7, sEO, sEN, sON, sNE, sNO, sOE] <;> first | exact ⟨rfl, rfl⟩ | rfl) (.go (by simp [uSeq, uIfS, uTst, uRel, uOp, uUn, uVar, uC, gv, bI2, dBool, uRet, uNext, uSet, uSetL, uDrop, dI2, dAdd, uTgt, uPar, uCall, uCallL, uMeth, aNil, aCons, aConsL, aSrc, uTup, uLst, uOfL, uLOf, uLVar, uUnL, uUnN, uIxL, uAnd, uOr, uNot, uIf, uTru, uTruL, bTru, bName, bTup, bNames, uItems, dIx, bEq, bNe, dInt, uAndV, uOrV, uNotV, uRetL, uRetN, dFld, dLen, lLen, dList, dTup, dNeg, at0, at1, at2, at3, at4, at5, at6, at7, sEO, sEN, sON, sNE, sNO, sOE, Leap.d, uFor, uForGo, uPart, uSl, dSl, cut1, iMod_eq h6, iMod_eq h7, c1, c2] <;> first | exact ⟨rfl, rfl⟩ | rfl) (.ret (by simp [uSeq, uIfS, uTst, uRel, uOp, uUn, uVar, uC, gv, bI2, dBool, uRet, uNext, uSet, uSetL, uDrop, dI2, dAdd, uTgt, uPar, uCall, uCallL, uMeth, aNil, aCons, aConsL, aSrc, uTup, uLst, uOfL, uLOf, uLVar, uUnL, uUnN, uIxL, uAnd, uOr, uNot, uIf, uTru, uTruL, bTru, bName, bTup, bNames, uItems, dIx, bEq, bNe, dInt, uAndV, uOrV, uNotV, uRetL, uRetN, dFld, dLen, lLen, dList, dTup, dNeg, at0, at1, at2, at3, at4, at5, at6, at7, sEO, sEN, sON, sNE, sNO, sOE, Leap.d, Leap.long, c1, c2]))))))
  | e3 a b c =>
    obtain ⟨h1, h2, h3, h4, h5, h8, h9, h10⟩ := h
    have h6 : 0 < a := by omega
    have h7 : 0 < b := by omega
    have h8 : 0 < c := by omega
    have i1 : y % b = 0 → y % a = 0 := fun e => by rw [← mod_mod (y := y) h5, e]; simp
    have i2 : y % c = 0 → y % b = 0 := fun e => by rw [← mod_mod (y := y) h10, e]; simp
    by_cases c3 : y % c = 0
    · have c2 := i2 c3
      have c1 := i1 c2
      exact Rt.fin (.go (by simp [uSeq, uIfS, uTst, uRel, uOp, uUn, uVar, uC, gv, bI2, dBool, uRet, uNext, uSet, uSetL, uDrop, dI2, dAdd, uTgt, uPar, uCall, uCallL, uMeth, aNil, aCons, aConsL, aSrc, uTup, uLst, uOfL, uLOf, uLVar, uUnL, uUnN, uIxL, uAnd, uOr, uNot, uIf, uTru, uTruL, bTru, bName, bTup, bNames, uItems, dIx, bEq, bNe, dInt, uAndV, uOrV, uNotV, uRetL, uRetN, dFld, dLen, lLen, dList, dTup, dNeg, at0, at1, at2, at3, at4, at5, at6, at7, sEO, sEN, sON, sNE, sNO, sOE, Leap.d] <;> first | exact ⟨rfl, rfl⟩ | rfl) (.go (by simp [uSeq, uIfS, uTst, uRel, uOp, uUn, uVar, uC, gv, bI2, dBool, uRet, uNext, uSet, uSetL, uDrop, dI2, dAdd, uTgt, uPar, uCall, uCallL, uMeth, aNil, aCons, aConsL, aSrc, uTup, uLst, uOfL, uLOf, uLVar, uUnL, uUnN, uIxL, uAnd, uOr, uNot, uIf, uTru, uTruL, bTru, bName, bTup, bNames, uItems, dIx, bEq, bNe, dInt, uAndV, uOrV, uNotV, uRetL, uRetN, dFld, dLen, lLen, dList, dTup, dNeg, at0, at1, at2, at3, at4, at5, at6, at7, sEO, sEN, sON, sNE, sNO, sOE, Leap.d] <;> first | exact ⟨rfl, rfl⟩ | rfl) (.go (by simp [uSeq, uIfS, uTst, uRel, uOp, uUn, uVar, uC, gv, bI2, dBool, uRet, uNext, uSet, uSetL, uDrop, dI2, dAdd, uTgt, uPar, uCall, uCallL, uMeth, aNil, aCons, aConsL, aSrc, uTup, uLst, uOfL, uLOf, uLVar, uUnL, uUnN, uIxL, uAnd, uOr, uNot, uIf, uTru, uTruL, bTru, bName, bTup, bNames, uItems, dIx, bEq, bNe, dInt, uAndV, uOrV, uNotV, uRetL, uRetN, dFld, dLen, lLen, dList, dTup, dNeg, at0, at1, at2, at3, at4, at5, at6, at7, sEO, sEN, sON, sNE, sNO, sOE] <;> first | exact ⟨rfl, rfl⟩ | rfl) (.go (by simp [uSeq, uIfS, uTst, uRel, uOp, uUn, uVar, uC, gv, bI2, dBool, uRet, uNext, uSet, uSetL, uDrop, dI2, dAdd, uTgt, uPar, uCall, uCallL, uMeth, aNil, aCons, aConsL, aSrc, uTup, uLst, uOfL, uLOf, uLVar, uUnL, uUnN, uIxL, uAnd, uOr, uNot, uIf, uTru, uTruL, bTru, bName, bTup, bNames, uItems, dIx, bEq, bNe, dInt, uAndV, uOrV, uNotV, uRetL, uRetN, dFld, dLen, lLen, dList, dTup, dNeg, at0, at1, at2, at3, at4, at5, at6, at7, sEO, sEN, sON, sNE, sNO, sOE, Leap.d, uFor, uForGo, uPart, uSl, dSl, cut1, iMod_eq h6, iMod_eq h7, iMod_eq h8, c1, c2, c3] <;> first | exact ⟨rfl, rfl⟩ | rfl) (.ret (by simp [uSeq, uIfS, uTst, uRel, uOp, uUn, uVar, uC, gv, bI2, dBool, uRet, uNext, uSet, uSetL, uDrop, dI2, dAdd, uTgt, uPar, uCall, uCallL, uMeth, aNil, aCons, aConsL, aSrc, uTup, uLst, uOfL, uLOf, uLVar, uUnL, uUnN, uIxL, uAnd, uOr, uNot, uIf, uTru, uTruL, bTru, bName, bTup, bNames, uItems, dIx, bEq, bNe, dInt, uAndV, uOrV, uNotV, uRetL, uRetN, dFld, dLen, lLen, dList, dTup, dNeg, at0, at1, at2, at3, at4, at5, at6, at7, sEO, sEN, sON, sNE, sNO, sOE, Leap.d, Leap.long, c1, c2, c3]))))))
    · by_cases c2 : y % b = 0
      · have c1 := i1 c2
        exact Rt.fin (.go (by simp [uSeq, uIfS, uTst, uRel, uOp, uUn, uVar, uC, gv, bI2, dBool, uRet, uNext, uSet, uSetL, uDrop, dI2, dAdd, uTgt, uPar, uCall, uCallL, uMeth, aNil, aCons, aConsL, aSrc, uTup, uLst, uOfL, uLOf, uLVar, uUnL, uUnN, uIxL, uAnd, uOr, uNot, uIf, uTru, uTruL, bTru, bName, bTup, bNames, uItems, dIx, bEq, bNe, dInt, uAndV, uOrV, uNotV, uRetL, uRetN, dFld, dLen, lLen, dList, dTup, dNeg, at0, at1, at2, at3, at4, at5, at6, at7, sEO, sEN, sON, sNE, sNO, sOE, Leap.d] <;> first | exact ⟨rfl, rfl⟩ | rfl) (.go (by simp [uSeq, uIfS, uTst, uRel, uOp, uUn, uVar, uC, gv, bI2, dBool, uRet, uNext, uSet, uSetL, uDrop, dI2, dAdd, uTgt, uPar, uCall, uCallL, uMeth, aNil, aCons, aConsL, aSrc, uTup, uLst, uOfL, uLOf, uLVar, uUnL, uUnN, uIxL, uAnd, uOr, uNot, uIf, uTru, uTruL, bTru, bName, bTup, bNames, uItems, dIx, bEq, bNe, dInt, uAndV, uOrV, uNotV, uRetL, uRetN, dFld, dLen, lLen, dList, dTup, dNeg, at0, at1, at2, at3, at4, at5, at6, at7, sEO, sEN, sON, sNE, sNO, sOE, Leap.d] <;> first | exact ⟨rfl, rfl⟩ | rfl) (.go (by simp [uSeq, uIfS, uTst, uRel, uOp, uUn, uVar, uC, gv, bI2, dBool, uRet, uNext, uSet, uSetL, uDrop, dI2, dAdd, uTgt, uPar, uCall, uCallL, uMeth, aNil, aCons, aConsL, aSrc, uTup, uLst, uOfL, uLOf, uLVar, uUnL, uUnN, uIxL, uAnd, uOr, uNot, uIf, uTru, uTruL, bTru, bName, bTup, bNames, uItems, dIx, bEq, bNe, dInt, uAndV, uOrV, uNotV, uRetL, uRetN, dFld, dLen, lLen, dList, dTup, dNeg, at0, at1, at2, at3, at4, at5, at6, at7, sEO, sEN, sON, sNE, sNO, sOE] <;> first | exact ⟨rfl, rfl⟩ | rfl) (.go (by simp [uSeq, uIfS, uTst, uRel, uOp, uUn, uVar, uC, gv, bI2, dBool, uRet, uNext, uSet, uSetL, uDrop, dI2, dAdd, uTgt, uPar, uCall, uCallL, uMeth, aNil, aCons, aConsL, aSrc, uTup, uLst, uOfL, uLOf, uLVar, uUnL, uUnN, uIxL, uAnd, uOr, uNot, uIf, uTru, uTruL, bTru, bName, bTup, bNames, uItems, dIx, bEq, bNe, dInt, uAndV, uOrV, uNotV, uRetL, uRetN, dFld, dLen, lLen, dList, dTup, dNeg, at0, at1, at2, at3, at4, at5, at6, at7, sEO, sEN, sON, sNE, sNO, sOE, Leap.d, uFor, uForGo, uPart, uSl, dSl, cut1, iMod_eq h6, iMod_eq h7, iMod_eq h8, c1, c2, c3] <;> first | exact ⟨rfl, rfl⟩ | rfl) (.ret (by simp [uSeq, uIfS, uTst, uRel, uOp, uUn, uVar, uC, gv, bI2, dBool, uRet, uNext, uSet, uSetL, uDrop, dI2, dAdd, uTgt, uPar, uCall, uCallL, uMeth, aNil, aCons, aConsL, aSrc, uTup, uLst, uOfL, uLOf, uLVar, uUnL, uUnN, uIxL, uAnd, uOr, uNot, uIf, uTru, uTruL, bTru, bName, bTup, bNames, uItems, dIx, bEq, bNe, dInt, uAndV, uOrV, uNotV, uRetL, uRetN, dFld, dLen, lLen, dList, dTup, dNeg, at0, at1, at2, at3, at4, at5, at6, at7, sEO, sEN, sON, sNE, sNO, sOE, Leap.d, Leap.long, c1, c2, c3]))))))
      · by_cases c1 : y % a = 0
        · exact Rt.fin (.go (by simp [uSeq, uIfS, uTst, uRel, uOp, uUn, uVar, uC, gv, bI2, dBool, uRet, uNext, uSet, uSetL, uDrop, dI2, dAdd, uTgt, uPar, uCall, uCallL, uMeth, aNil, aCons, aConsL, aSrc, uTup, uLst, uOfL, uLOf, uLVar, uUnL, uUnN, uIxL, uAnd, uOr, uNot, uIf, uTru, uTruL, bTru, bName, bTup, bNames, uItems, dIx, bEq, bNe, dInt, uAndV, uOrV, uNotV, uRetL, uRetN, dFld, dLen, lLen, dList, dTup, dNeg, at0, at1, at2, at3, at4, at5, at6, at7, sEO, sEN, sON, sNE, sNO, sOE, Leap.d] <;> first | exact ⟨rfl, rfl⟩ | rfl) (.go (by simp [uSeq, uIfS, uTst, uRel, uOp, uUn, uVar, uC, gv, bI2, dBool, uRet, uNext, uSet, uSetL, uDrop, dI2, dAdd, uTgt, uPar, uCall, uCallL, uMeth, aNil, aCons, aConsL, aSrc, uTup, uLst, uOfL, uLOf, uLVar, uUnL, uUnN, uIxL, uAnd, uOr, uNot, uIf, uTru, uTruL, bTru, bName, bTup, bNames, uItems, dIx, bEq, bNe, dInt, uAndV, uOrV, uNotV, uRetL, uRetN, dFld, dLen, lLen, dList, dTup, dNeg, at0, at1, at2, at3, at4, at5, at6, at7, sEO, sEN, sON, sNE, sNO, sOE, Leap.d] <;> first | exact ⟨rfl, rfl⟩ | rfl) (.go (by simp [uSeq, uIfS, uTst, uRel, uOp, uUn, uVar, uC, gv, bI2, dBool, uRet, uNext, uSet, uSetL, uDrop, dI2, dAdd, uTgt, uPar, uCall, uCallL, uMeth, aNil, aCons, aConsL, aSrc, uTup, uLst, uOfL, uLOf, uLVar, uUnL, uUnN, uIxL, uAnd, uOr, uNot, uIf, uTru, uTruL, bTru, bName, bTup, bNames, uItems, dIx, bEq, bNe, dInt, uAndV, uOrV, uNotV, uRetL, uRetN, dFld, dLen, lLen, dList, dTup, dNeg, at0, at1, at2, at3, at4, at5, at6, at7, sEO, sEN, sON, sNE, sNO, sOE] <;> first | exact ⟨rfl, rfl⟩ | rfl) (.go (by simp [uSeq, uIfS, uTst, uRel, uOp, uUn, uVar, uC, gv, bI2, dBool, uRet, uNext, uSet, uSetL, uDrop, dI2, dAdd, uTgt, uPar, uCall, uCallL, uMeth, aNil, aCons, aConsL, aSrc, uTup, uLst, uOfL, uLOf, uLVar, uUnL, uUnN, uIxL, uAnd, uOr, uNot, uIf, uTru, uTruL, bTru, bName, bTup, bNames, uItems, dIx, bEq, bNe, dInt, uAndV, uOrV, uNotV, uRetL, uRetN, dFld, dLen, lLen, dList, dTup, dNeg, at0, at1, at2, at3, at4, at5, at6, at7, sEO, sEN, sON, sNE, sNO, sOE, Leap.d, uFor, uForGo, uPart, uSl, dSl, cut1, iMod_eq h6, iMod_eq h7, iMod_eq h8, c1, c2, c3] <;> first | exact ⟨rfl, rfl⟩ | rfl) (.ret (by simp [uSeq, uIfS, uTst, uRel, uOp, uUn, uVar, uC, gv, bI2, dBool, uRet, uNext, uSet, uSetL, uDrop, dI2, dAdd, uTgt, uPar, uCall, uCallL, uMeth, aNil, aCons, aConsL, aSrc, uTup, uLst, uOfL, uLOf, uLVar, uUnL, uUnN, uIxL, uAnd, uOr, uNot, uIf, uTru, uTruL, bTru, bName, bTup, bNames, uItems, dIx, bEq, bNe, dInt, uAndV, uOrV, uNotV, uRetL, uRetN, dFld, dLen, lLen, dList, dTup, dNeg, at0, at1, at2, at3, at4, at5, at6, at7, sEO, sEN, sON, sNE, sNO, sOE, Leap.d, Leap.long, c1, c2, c3]))))))
        · exact Rt.fin (.go (by simp [uSeq, uIfS, uTst, uRel, uOp, uUn, uVar, uC, gv, bI2, dBool, uRet, uNext, uSet, uSetL, uDrop, dI2, dAdd, uTgt, uPar, uCall, uCallL, uMeth, aNil, aCons, aConsL, aSrc, uTup, uLst, uOfL, uLOf, uLVar, uUnL, uUnN, uIxL, uAnd, uOr, uNot, uIf, uTru, uTruL, bTru, bName, bTup, bNames, uItems, dIx, bEq, bNe, dInt, uAndV, uOrV, uNotV, uRetL, uRetN, dFld, dLen, lLen, dList, dTup, dNeg, at0, at1, at2, at3, at4, at5, at6, at7, sEO, sEN, sON, sNE, sNO, sOE, Leap.d] <;> first | exact ⟨rfl, rfl⟩ | rfl) (.go (by simp [uSeq, uIfS, uTst, uRel, uOp, uUn, uVar, uC, gv, bI2, dBool, uRet, uNext, uSet, uSetL, uDrop, dI2, dAdd, uTgt, uPar, uCall, uCallL, uMeth, aNil, aCons, aConsL, aSrc, uTup, uLst, uOfL, uLOf, uLVar, uUnL, uUnN, uIxL, uAnd, uOr, uNot, uIf, uTru, uTruL, bTru, bName, bTup, bNames, uItems, dIx, bEq, bNe, dInt, uAndV, uOrV, uNotV, uRetL, uRetN, dFld, dLen, lLen, dList, dTup, dNeg, at0, at1, at2, at3, at4, at5, at6, at7, sEO, sEN, sON, sNE, sNO, sOE, Leap.d] <;> first | exact ⟨rfl, rfl⟩ | rfl) (.go (by simp [uSeq, uIfS, uTst, uRel, uOp, uUn, uVar, uC, gv, bI2, dBool, uRet, uNext, uSet, uSetL, uDrop, dI2, dAdd, uTgt, uPar, uCall, uCallL, uMeth, aNil, aCons, aConsL, aSrc, uTup, uLst, uOfL, uLOf, uLVar, uUnL, uUnN, uIxL, uAnd, uOr, uNot, uIf, uTru, uTruL, bTru, bName, bTup, bNames, uItems, dIx, bEq, bNe, dInt, uAndV, uOrV, uNotV, uRetL, uRetN, dFld, dLen, lLen, dList, dTup, dNeg, at0, at1, at2, at3, at4, at5, at6, at7, sEO, sEN, sON, sNE, sNO, sOE] <;> first | exact ⟨rfl, rfl⟩ | rfl) (.go (by simp [uSeq, uIfS, uTst, uRel, uOp, uUn, uVar, uC, gv, bI2, dBool, uRet, uNext, uSet, uSetL, uDrop, dI2, dAdd, uTgt, uPar, uCall, uCallL, uMeth, aNil, aCons, aConsL, aSrc, uTup, uLst, uOfL, uLOf, uLVar, uUnL, uUnN, uIxL, uAnd, uOr, uNot, uIf, uTru, uTruL, bTru, bName, bTup, bNames, uItems, dIx, bEq, bNe, dInt, uAndV, uOrV, uNotV, uRetL, uRetN, dFld, dLen, lLen, dList, dTup, dNeg, at0, at1, at2, at3, at4, at5, at6, at7, sEO, sEN, sON, sNE, sNO, sOE, Leap.d, uFor, uForGo, uPart, uSl, dSl, cut1, iMod_eq h6, iMod_eq h7, iMod_eq h8, c1, c2, c3] <;> first | exact ⟨rfl, rfl⟩ | rfl) (.ret (by simp [uSeq, uIfS, uTst, uRel, uOp, uUn, uVar, uC, gv, bI2, dBool, uRet, uNext, uSet, uSetL, uDrop, dI2, dAdd, uTgt, uPar, uCall, uCallL, uMeth, aNil, aCons, aConsL, aSrc, uTup, uLst, uOfL, uLOf, uLVar, uUnL, uUnN, uIxL, uAnd, uOr, uNot, uIf, uTru, uTruL, bTru, bName, bTup, bNames, uItems, dIx, bEq, bNe, dInt, uAndV, uOrV, uNotV, uRetL, uRetN, dFld, dLen, lLen, dList, dTup, dNeg, at0, at1, at2, at3, at4, at5, at6, at7, sEO, sEN, sON, sNE, sNO, sOE, Leap.d, Leap.long, c1, c2, c3]))))))
  | of a rs =>
    obtain ⟨h1, h2, _⟩ := h
    have h3 : 0 < a := by omega
    exact Rt.fin (.go (by simp [uSeq, uIfS, uTst, uRel, uOp, uUn, uVar, uC, gv, bI2, dBool, uRet, uNext, uSet, uSetL, uDrop, dI2, dAdd, uTgt, uPar, uCall, uCallL, uMeth, aNil, aCons, aConsL, aSrc, uTup, uLst, uOfL, uLOf, uLVar, uUnL, uUnN, uIxL, uAnd, uOr, uNot, uIf, uTru, uTruL, bTru, bName, bTup, bNames, uItems, dIx, bEq, bNe, dInt, uAndV, uOrV, uNotV, uRetL, uRetN, dFld, dLen, lLen, dList, dTup, dNeg, at0, at1, at2, at3, at4, at5, at6, at7, sEO, sEN, sON, sNE, sNO, sOE, Leap.d] <;> first | exact ⟨rfl, rfl⟩ | rfl) (.now (by simp [uSeq, uIfS, uTst, uRel, uOp, uUn, uVar, uC, gv, bI2, dBool, uRet, uNext, uSet, uSetL, uDrop, dI2, dAdd, uTgt, uPar, uCall, uCallL, uMeth, aNil, aCons, aConsL, aSrc, uTup, uLst, uOfL, uLOf, uLVar, uUnL, uUnN, uIxL, uAnd, uOr, uNot, uIf, uTru, uTruL, bTru, bName, bTup, bNames, uItems, dIx, bEq, bNe, dInt, uAndV, uOrV, uNotV, uRetL, uRetN, dFld, dLen, lLen, dList, dTup, dNeg, at0, at1, at2, at3, at4, at5, at6, at7, sEO, sEN, sON, sNE, sNO, sOE, Rt, Leap.d, Leap.long, iMod_eq h3, iL, bIn, bInL, asI_iL])))
/-! ### segments -/
structure Sg where
  tick : Int
  width : Int
  into : Int
  y : Int
  m : Int
  dd : Int
  common : List Int
  longer : List Int
  leap : Leap
  cycles : List (Str × Int × Int)
def cycD (c : Str × Int × Int) : D := .tup [.str c.1, .int c.2.1, .int c.2.2]
def dt (y m d : Int) : D := .tup [.int y, .int m, .int d]
def Sg.d (s : Sg) : D := .tup [.int s.tick, .int s.width, .int s.into, dt s.y s.m s.dd, iL s.common, iL s.longer, s.leap.d, .lst (s.cycles.map cycD)]
/-- the months of a year -/
def Sg.mon (s : Sg) (y : Int) : List Int := if s.leap.long y = true then s.longer else s.common
def LsOk (l : List Int) : Prop := l ≠ [] ∧ l.length ≤ 24 ∧ ∀ x ∈ l, 1 ≤ x ∧ x ≤ 60
/-- what does not hang on the date -/
structure Sg.Ok (s : Sg) : Prop where
  w : 1 ≤ s.width ∧ s.width ≤ 60
  i : 0 ≤ s.into ∧ s.into < s.width
  c : LsOk s.common
  l : LsOk s.longer
  leap : s.leap.Ok
theorem Sg.Ok.mon {s : Sg} (h : s.Ok) (y : Int) : LsOk (s.mon y) := by
  unfold Sg.mon
  split
  · exact h.l
  · exact h.c
theorem f_law_months_eq {s : Sg} (h : s.Ok) (y : Int) (st : St4) : f_law_months [s.d, .int y] st = some (iL (s.mon y), st) := by
  have e := f_law_is_long_eq h.leap y st
  refine Rt.fin (.ret ?_)
  by_cases c : s.leap.long y = true <;> simp [uSeq, uIfS, uTst, uRel, uOp, uUn, uVar, uC, gv, bI2, dBool, uRet, uNext, uSet, uSetL, uDrop, dI2, dAdd, uTgt, uPar, uCall, uCallL, uMeth, aNil, aCons, aConsL, aSrc, uTup, uLst, uOfL, uLOf, uLVar, uUnL, uUnN, uIxL, uAnd, uOr, uNot, uIf, uTru, uTruL, bTru, bName, bTup, bNames, uItems, dIx, bEq, bNe, dInt, uAndV, uOrV, uNotV, uRetL, uRetN, dFld, dLen, lLen, dList, dTup, dNeg, at0, at1, at2, at3, at4, at5, at6, at7, sEO, sEN, sON, sNE, sNO, sOE, Sg.d, e, c, Sg.mon]
end Fw
set_option Elab.async false
set_option linter.all false
set_option maxRecDepth 100000
set_option maxHeartbeats 4000000
namespace Fw
open PySem PySem.Spec L2
/-! ### the days of a segment, counted -/
theorem atI_of {α : Type} {xs : List α} {i : Int} {x : α} (h0 : 0 ≤ i) (h : xs[i.toNat]? = some x) : atI xs i = some x := by
  have := atK (k := i.toNat) h
  rwa [Int.toNat_of_nonneg h0] at this
theorem atI_map {xs : List Int} {i : Int} (h0 : 0 ≤ i) (h : i < xs.length) : atI (xs.map D.int) i = some (.int (xs.getD i.toNat 0)) := by
  refine atI_of h0 ?_
  rw [List.getElem?_map, List.getElem?_eq_getElem (by omega), List.getD_eq_getElem?_getD, List.getElem?_eq_getElem (by omega)]
  rfl
namespace Sg
def L (s : Sg) (y : Int) : Int := (s.mon y).sum
/-- the length of a month -/
def md (s : Sg) (y m : Int) : Int := (s.mon y).getD (m - 1).toNat 0
def pre (s : Sg) : Nat → Int
  | 0 => 0
  | k + 1 => s.pre k + s.L k
def N (s : Sg) : Int := s.leap.round
def T (s : Sg) : Int := s.pre s.N.toNat
def ys (s : Sg) (y : Int) : Int := y / s.N * s.T + s.pre (y % s.N).toNat
def dn (s : Sg) (y m d : Int) : Int := s.ys y + ((s.mon y).take (m - 1).toNat).sum + d - 1
structure Vd (s : Sg) (y m d : Int) : Prop where
  m1 : 1 ≤ m
  m2 : m ≤ (s.mon y).length
  d1 : 1 ≤ d
  d2 : d ≤ s.md y m
variable {s : Sg}
theorem N_pos (h : s.Ok) : 1 ≤ s.N ∧ s.N ≤ 400 := Leap.round_pos h.leap
theorem mon_mod (h : s.Ok) (y : Int) : s.mon (y % s.N) = s.mon y := by
  unfold mon N
  rw [Leap.long_round h.leap]
theorem ys_succ (h : s.Ok) (y : Int) : s.ys (y + 1) = s.ys y + s.L y := by
  have hN := (N_pos h).1
  have hm : s.L (y % s.N) = s.L y := by
    unfold L
    rw [mon_mod h]
  have e1 := Int.emod_nonneg y (show s.N ≠ 0 by omega)
  have e2 := Int.emod_lt_of_pos y (show 0 < s.N by omega)
  have e3 := Int.emod_add_mul_ediv y s.N
  by_cases c : y % s.N + 1 < s.N
  · have q : (y + 1) / s.N = y / s.N ∧ (y + 1) % s.N = y % s.N + 1 := by
      have := (Int.ediv_emod_unique (a := y + 1) (b := s.N) (r := y % s.N + 1) (q := y / s.N) (by omega)).mpr ⟨by
        generalize s.N * (y / s.N) = z at *
        omega, by omega, c⟩
      exact this
    unfold ys
    rw [q.1, q.2, show (y % s.N + 1).toNat = (y % s.N).toNat + 1 by omega]
    show _ + (s.pre _ + s.L _) = _
    rw [Int.toNat_of_nonneg e1, hm]
    omega
  · have q : (y + 1) / s.N = y / s.N + 1 ∧ (y + 1) % s.N = 0 := by
      have := (Int.ediv_emod_unique (a := y + 1) (b := s.N) (r := 0) (q := y / s.N + 1) (by omega)).mpr ⟨by
        rw [Int.mul_add, Int.mul_one]
        generalize s.N * (y / s.N) = z at *
        omega, by omega, by omega⟩
      exact this
    unfold ys
    rw [q.1, q.2]
    have e4 : s.T = s.pre (y % s.N).toNat + s.L y := by
      unfold T
      rw [show s.N.toNat = (y % s.N).toNat + 1 by omega]
      show s.pre _ + s.L _ = _
      rw [Int.toNat_of_nonneg e1, hm]
    rw [Int.add_mul, Int.one_mul]
    have e5 : s.pre ((0 : Int).toNat) = 0 := rfl
    rw [e5, e4]
    generalize y / s.N * (s.pre (y % s.N).toNat + s.L y) = z
    omega
theorem sum_take {l : List Int} {k : Nat} (h : k < l.length) : (l.take (k + 1)).sum = (l.take k).sum + l.getD k 0 := by
  rw [List.take_succ, List.sum_append, List.getElem?_eq_getElem h, List.getD_eq_getElem?_getD, List.getElem?_eq_getElem h]
  simp
theorem sum_all {l : List Int} {k : Nat} (h : k + 1 = l.length) : l.sum = (l.take k).sum + l.getD k 0 := by
  rw [← sum_take (by omega), List.take_of_length_le (by omega)]
/-- the day behind -/
def nx (s : Sg) (y m d : Int) : Int × Int × Int := if d + 1 ≤ s.md y m then (y, m, d + 1) else if m + 1 ≤ (s.mon y).length then (y, m + 1, 1) else (y + 1, 1, 1)
def pv (s : Sg) (y m d : Int) : Int × Int × Int := if 1 ≤ d - 1 then (y, m, d - 1) else if 1 ≤ m - 1 then (y, m - 1, s.md y (m - 1)) else (y - 1, (s.mon (y - 1)).length, s.md (y - 1) (s.mon (y - 1)).length)
theorem md_pos (h : s.Ok) {y m : Int} (h1 : 1 ≤ m) (h2 : m ≤ (s.mon y).length) : 1 ≤ s.md y m ∧ s.md y m ≤ 60 := by
  unfold md
  rw [List.getD_eq_getElem?_getD, List.getElem?_eq_getElem (by omega)]
  exact (h.mon y).2.2 _ (List.getElem_mem _)
theorem len_pos (h : s.Ok) (y : Int) : 1 ≤ (s.mon y).length := List.length_pos_iff.mpr (h.mon y).1
theorem nx_ok (h : s.Ok) {y m d : Int} (v : s.Vd y m d) : s.Vd (s.nx y m d).1 (s.nx y m d).2.1 (s.nx y m d).2.2 ∧ s.dn (s.nx y m d).1 (s.nx y m d).2.1 (s.nx y m d).2.2 = s.dn y m d + 1 ∧ (s.nx y m d).1 - y ≤ 1 ∧ 0 ≤ (s.nx y m d).1 - y := by
  obtain ⟨m1, m2, d1, d2⟩ := v
  unfold nx
  by_cases c : d + 1 ≤ s.md y m
  · rw [if_pos c]
    refine ⟨⟨m1, m2, by show 1 ≤ d + 1; omega, c⟩, ?_, ?_⟩
    · show s.dn y m (d + 1) = _
      unfold dn
      omega
    · show y - y ≤ 1 ∧ 0 ≤ y - y
      omega
  · rw [if_neg c]
    by_cases c2 : m + 1 ≤ (s.mon y).length
    · rw [if_pos c2]
      refine ⟨⟨by show 1 ≤ m + 1; omega, c2, Int.le_refl _, (md_pos h (by omega) c2).1⟩, ?_, ?_⟩
      · show s.dn y (m + 1) 1 = _
        unfold dn
        rw [show (m + 1 - 1).toNat = (m - 1).toNat + 1 by omega, sum_take (by omega)]
        have : s.md y m = (s.mon y).getD (m - 1).toNat 0 := rfl
        omega
      · show y - y ≤ 1 ∧ 0 ≤ y - y
        omega
    · rw [if_neg c2]
      have l1 := len_pos h (y + 1)
      refine ⟨⟨Int.le_refl _, by show (1 : Int) ≤ (s.mon (y + 1)).length; omega, Int.le_refl _, (md_pos h (y := y + 1) (m := 1) (Int.le_refl _) (by omega)).1⟩, ?_, ?_⟩
      · show s.dn (y + 1) 1 1 = _
        unfold dn
        rw [ys_succ h]
        have e : s.L y = ((s.mon y).take (m - 1).toNat).sum + (s.mon y).getD (m - 1).toNat 0 := sum_all (by omega)
        have : s.md y m = (s.mon y).getD (m - 1).toNat 0 := rfl
        have e0 : ((s.mon (y + 1)).take ((1 : Int) - 1).toNat).sum = 0 := rfl
        rw [e0]
        omega
      · show y + 1 - y ≤ 1 ∧ 0 ≤ y + 1 - y
        omega
theorem pv_ok (h : s.Ok) {y m d : Int} (v : s.Vd y m d) : s.Vd (s.pv y m d).1 (s.pv y m d).2.1 (s.pv y m d).2.2 ∧ s.dn (s.pv y m d).1 (s.pv y m d).2.1 (s.pv y m d).2.2 = s.dn y m d - 1 ∧ y - (s.pv y m d).1 ≤ 1 ∧ 0 ≤ y - (s.pv y m d).1 := by
  obtain ⟨m1, m2, d1, d2⟩ := v
  unfold pv
  by_cases c : 1 ≤ d - 1
  · rw [if_pos c]
    refine ⟨⟨m1, m2, c, by show d - 1 ≤ s.md y m; omega⟩, ?_, ?_⟩
    · show s.dn y m (d - 1) = _
      unfold dn
      omega
    · show y - y ≤ 1 ∧ 0 ≤ y - y
      omega
  · rw [if_neg c]
    by_cases c2 : 1 ≤ m - 1
    · rw [if_pos c2]
      have q := md_pos h (y := y) c2 (by omega)
      refine ⟨⟨c2, by show m - 1 ≤ ((s.mon y).length : Int); omega, q.1, Int.le_refl _⟩, ?_, ?_⟩
      · show s.dn y (m - 1) (s.md y (m - 1)) = _
        unfold dn
        rw [show (m - 1).toNat = (m - 1 - 1).toNat + 1 by omega, sum_take (by omega)]
        have : s.md y (m - 1) = (s.mon y).getD (m - 1 - 1).toNat 0 := rfl
        omega
      · show y - y ≤ 1 ∧ 0 ≤ y - y
        omega
    · rw [if_neg c2]
      have l1 := len_pos h (y - 1)
      have q := md_pos h (y := y - 1) (m := (s.mon (y - 1)).length) (by omega) (Int.le_refl _)
      refine ⟨⟨by show (1 : Int) ≤ (s.mon (y - 1)).length; omega, Int.le_refl _, q.1, Int.le_refl _⟩, ?_, ?_⟩
      · show s.dn (y - 1) (s.mon (y - 1)).length (s.md (y - 1) (s.mon (y - 1)).length) = _
        have e1 := ys_succ h (y - 1)
        rw [Int.sub_add_cancel] at e1
        unfold dn
        have e : s.L (y - 1) = ((s.mon (y - 1)).take (((s.mon (y - 1)).length : Int) - 1).toNat).sum + (s.mon (y - 1)).getD (((s.mon (y - 1)).length : Int) - 1).toNat 0 := sum_all (by omega)
        have : s.md (y - 1) (s.mon (y - 1)).length = (s.mon (y - 1)).getD (((s.mon (y - 1)).length : Int) - 1).toNat 0 := rfl
        have e0 : (m - 1).toNat = 0 := by omega
        rw [e0, List.take_zero, List.sum_nil]
        omega
      · show y - (y - 1) ≤ 1 ∧ 0 ≤ y - (y - 1)
        omega
end Sg
/-! ### the law's walk, day by day -/
/-- the loop's body -/
def u_walk_body : US := (uIfS (uTst dBool (uRel (bI2 fun i j => decide (j < i)) (uVar 1) (uC (.int 0))))
  (uSeq (uSet 4 (uOp dAdd (uVar 4) (uC (.int 1))))
  (uSeq (uIfS (uTst dBool (uRel (bI2 fun i j => decide (j < i)) (uVar 4) (uOp dIx (uCall f_law_months [] (aCons (uVar 0) (aCons (uVar 2) aNil))) (uOp (dI2 fun i j => some (i - j)) (uVar 3) (uC (.int 1))))))
  (uPar [3, 4] (aCons (uOp dAdd (uVar 3) (uC (.int 1))) (aCons (uC (.int 1)) aNil)))
  uNext)
  (uIfS (uTst dBool (uRel (bI2 fun i j => decide (j < i)) (uVar 3) (uUn dLen (uCall f_law_months [] (aCons (uVar 0) (aCons (uVar 2) aNil))))))
  (uPar [2, 3] (aCons (uOp dAdd (uVar 2) (uC (.int 1))) (aCons (uC (.int 1)) aNil)))
  uNext)))
  (uSeq (uSet 4 (uOp (dI2 fun i j => some (i - j)) (uVar 4) (uC (.int 1))))
  (uIfS (uTst dBool (uRel (bI2 fun i j => decide (i < j)) (uVar 4) (uC (.int 1))))
  (uSeq (uSet 3 (uOp (dI2 fun i j => some (i - j)) (uVar 3) (uC (.int 1))))
  (uSeq (uIfS (uTst dBool (uRel (bI2 fun i j => decide (i < j)) (uVar 3) (uC (.int 1))))
  (uPar [2, 3] (aCons (uOp (dI2 fun i j => some (i - j)) (uVar 2) (uC (.int 1))) (aCons (uUn dLen (uCall f_law_months [] (aCons (uVar 0) (aCons (uOp (dI2 fun i j => some (i - j)) (uVar 2) (uC (.int 1))) aNil)))) aNil)))
  uNext)
  (uSet 4 (uOp dIx (uCall f_law_months [] (aCons (uVar 0) (aCons (uVar 2) aNil))) (uOp (dI2 fun i j => some (i - j)) (uVar 3) (uC (.int 1)))))))
  uNext)))
def wEn (s : Sg) (days y m d : Int) (k : Option D) : En := [some s.d, some (.int days), some (.int y), some (.int m), some (.int d), k]
theorem ix_md {s : Sg} {y m : Int} (h1 : 1 ≤ m) (h2 : m ≤ (s.mon y).length) : atI ((s.mon y).map D.int) (m - 1) = some (.int (s.md y m)) := atI_map (by omega) (by omega)
theorem walk_fwd {s : Sg} (h : s.Ok) {days y m d : Int} (v : s.Vd y m d) (hd : 0 < days) (k : Option D) (st : St4) : u_walk_body (wEn s days y m d k) st = some (.nx, wEn s days (s.nx y m d).1 (s.nx y m d).2.1 (s.nx y m d).2.2 k, st) := by
  have e1 := f_law_months_eq h y st
  have e2 := ix_md v.m1 v.m2
  unfold u_walk_body wEn Sg.nx
  by_cases c : d + 1 ≤ s.md y m
  · have c' : ¬ s.md y m < d + 1 := by omega
    have c2 : ¬ ((s.mon y).length : Int) < m := by have := v.m2; omega
    simp [uSeq, uIfS, uTst, uRel, uOp, uUn, uVar, uC, gv, bI2, dBool, uRet, uNext, uSet, uSetL, uDrop, dI2, dAdd, uTgt, uPar, uCall, uCallL, uMeth, aNil, aCons, aConsL, aSrc, uTup, uLst, uOfL, uLOf, uLVar, uUnL, uUnN, uIxL, uAnd, uOr, uNot, uIf, uTru, uTruL, bTru, bName, bTup, bNames, uItems, dIx, bEq, bNe, dInt, uAndV, uOrV, uNotV, uRetL, uRetN, dFld, dLen, lLen, dList, dTup, dNeg, at0, at1, at2, at3, at4, at5, at6, at7, sEO, sEN, sON, sNE, sNO, sOE, hd, e1, iL, e2, c, c', c2]
  · have c' : s.md y m < d + 1 := by omega
    by_cases c2 : m + 1 ≤ (s.mon y).length
    · have c2' : ¬ ((s.mon y).length : Int) < m + 1 := by omega
      simp [uSeq, uIfS, uTst, uRel, uOp, uUn, uVar, uC, gv, bI2, dBool, uRet, uNext, uSet, uSetL, uDrop, dI2, dAdd, uTgt, uPar, uCall, uCallL, uMeth, aNil, aCons, aConsL, aSrc, uTup, uLst, uOfL, uLOf, uLVar, uUnL, uUnN, uIxL, uAnd, uOr, uNot, uIf, uTru, uTruL, bTru, bName, bTup, bNames, uItems, dIx, bEq, bNe, dInt, uAndV, uOrV, uNotV, uRetL, uRetN, dFld, dLen, lLen, dList, dTup, dNeg, at0, at1, at2, at3, at4, at5, at6, at7, sEO, sEN, sON, sNE, sNO, sOE, hd, e1, iL, e2, c, c', c2, c2']
    · have c2' : ((s.mon y).length : Int) < m + 1 := by omega
      simp [uSeq, uIfS, uTst, uRel, uOp, uUn, uVar, uC, gv, bI2, dBool, uRet, uNext, uSet, uSetL, uDrop, dI2, dAdd, uTgt, uPar, uCall, uCallL, uMeth, aNil, aCons, aConsL, aSrc, uTup, uLst, uOfL, uLOf, uLVar, uUnL, uUnN, uIxL, uAnd, uOr, uNot, uIf, uTru, uTruL, bTru, bName, bTup, bNames, uItems, dIx, bEq, bNe, dInt, uAndV, uOrV, uNotV, uRetL, uRetN, dFld, dLen, lLen, dList, dTup, dNeg, at0, at1, at2, at3, at4, at5, at6, at7, sEO, sEN, sON, sNE, sNO, sOE, hd, e1, iL, e2, c, c', c2, c2']
theorem walk_bwd {s : Sg} (h : s.Ok) {days y m d : Int} (v : s.Vd y m d) (hd : ¬ 0 < days) (k : Option D) (st : St4) : u_walk_body (wEn s days y m d k) st = some (.nx, wEn s days (s.pv y m d).1 (s.pv y m d).2.1 (s.pv y m d).2.2 k, st) := by
  have e1 := f_law_months_eq h y st
  have e3 := f_law_months_eq h (y - 1) st
  unfold u_walk_body wEn Sg.pv
  by_cases c : 1 ≤ d - 1
  · have c' : ¬ d - 1 < 1 := by omega
    simp [uSeq, uIfS, uTst, uRel, uOp, uUn, uVar, uC, gv, bI2, dBool, uRet, uNext, uSet, uSetL, uDrop, dI2, dAdd, uTgt, uPar, uCall, uCallL, uMeth, aNil, aCons, aConsL, aSrc, uTup, uLst, uOfL, uLOf, uLVar, uUnL, uUnN, uIxL, uAnd, uOr, uNot, uIf, uTru, uTruL, bTru, bName, bTup, bNames, uItems, dIx, bEq, bNe, dInt, uAndV, uOrV, uNotV, uRetL, uRetN, dFld, dLen, lLen, dList, dTup, dNeg, at0, at1, at2, at3, at4, at5, at6, at7, sEO, sEN, sON, sNE, sNO, sOE, hd, c, c']
  · have c' : d - 1 < 1 := by omega
    by_cases c2 : 1 ≤ m - 1
    · have c2' : ¬ m - 1 < 1 := by omega
      have e2 := ix_md (s := s) (y := y) (m := m - 1) c2 (by have := v.m2; omega)
      simp [uSeq, uIfS, uTst, uRel, uOp, uUn, uVar, uC, gv, bI2, dBool, uRet, uNext, uSet, uSetL, uDrop, dI2, dAdd, uTgt, uPar, uCall, uCallL, uMeth, aNil, aCons, aConsL, aSrc, uTup, uLst, uOfL, uLOf, uLVar, uUnL, uUnN, uIxL, uAnd, uOr, uNot, uIf, uTru, uTruL, bTru, bName, bTup, bNames, uItems, dIx, bEq, bNe, dInt, uAndV, uOrV, uNotV, uRetL, uRetN, dFld, dLen, lLen, dList, dTup, dNeg, at0, at1, at2, at3, at4, at5, at6, at7, sEO, sEN, sON, sNE, sNO, sOE, hd, e1, iL, e2, c, c', c2, c2']
    · have c2' : m - 1 < 1 := by omega
      have l1 := Sg.len_pos h (y - 1)
      have e2 := ix_md (s := s) (y := y - 1) (m := (s.mon (y - 1)).length) (by omega) (Int.le_refl _)
      simp [uSeq, uIfS, uTst, uRel, uOp, uUn, uVar, uC, gv, bI2, dBool, uRet, uNext, uSet, uSetL, uDrop, dI2, dAdd, uTgt, uPar, uCall, uCallL, uMeth, aNil, aCons, aConsL, aSrc, uTup, uLst, uOfL, uLOf, uLVar, uUnL, uUnN, uIxL, uAnd, uOr, uNot, uIf, uTru, uTruL, bTru, bName, bTup, bNames, uItems, dIx, bEq, bNe, dInt, uAndV, uOrV, uNotV, uRetL, uRetN, dFld, dLen, lLen, dList, dTup, dNeg, at0, at1, at2, at3, at4, at5, at6, at7, sEO, sEN, sON, sNE, sNO, sOE, hd, e3, iL, e2, c, c', c2, c2']
theorem walk_go {s : Sg} (h : s.Ok) {days : Int} (st : St4) : ∀ (ds : List D) {y m d : Int} (k : Option D), s.Vd y m d → ∃ y' m' d' k', uForGo (bName 5) u_walk_body ds (wEn s days y m d k) st = some (.nx, wEn s days y' m' d' k', st) ∧ s.Vd y' m' d' ∧
    s.dn y' m' d' = s.dn y m d + (if 0 < days then (ds.length : Int) else -ds.length) ∧ y - ds.length ≤ y' ∧ y' ≤ y + ds.length
  | [], y, m, d, k, v => ⟨y, m, d, k, rfl, v, by split <;> simp, by simp, by simp⟩
  | x :: ds, y, m, d, k, v => by
    by_cases hd : 0 < days
    · obtain ⟨v1, e1, b1, b2⟩ := Sg.nx_ok h v
      obtain ⟨y', m', d', k', r, v', e, b3, b4⟩ := walk_go h st ds (some x) v1
      refine ⟨y', m', d', k', ?_, v', ?_, ?_, ?_⟩
      · have z := walk_fwd h v hd (some x) st
        show ((bName 5 x (wEn s days y m d k)).bind fun ρ1 => (u_walk_body ρ1 st).bind fun r => _) = _
        have : bName 5 x (wEn s days y m d k) = some (wEn s days y m d (some x)) := rfl
        rw [this, Option.bind_some, z]
        exact r
      · rw [if_pos hd] at e ⊢
        rw [e, e1, List.length_cons]
        push_cast
        omega
      · rw [List.length_cons]
        push_cast
        omega
      · rw [List.length_cons]
        push_cast
        omega
    · obtain ⟨v1, e1, b1, b2⟩ := Sg.pv_ok h v
      obtain ⟨y', m', d', k', r, v', e, b3, b4⟩ := walk_go h st ds (some x) v1
      refine ⟨y', m', d', k', ?_, v', ?_, ?_, ?_⟩
      · have z := walk_bwd h v hd (some x) st
        show ((bName 5 x (wEn s days y m d k)).bind fun ρ1 => (u_walk_body ρ1 st).bind fun r => _) = _
        have : bName 5 x (wEn s days y m d k) = some (wEn s days y m d (some x)) := rfl
        rw [this, Option.bind_some, z]
        exact r
      · rw [if_neg hd] at e ⊢
        rw [e, e1, List.length_cons]
        push_cast
        omega
      · rw [List.length_cons]
        push_cast
        omega
      · rw [List.length_cons]
        push_cast
        omega
/-- days behind the date: dn tells where -/
def Sg.V (s : Sg) : Prop := s.Vd s.y s.m s.dd
theorem f_law_walk_days_ok {s : Sg} (h : s.Ok) (v : s.V) {days : Int} (hb : -(2 ^ 60) < days ∧ days < 2 ^ 60) (st : St4) : ∃ y m d, f_law_walk_days [s.d, .int days] st = some (dt y m d, st) ∧ s.Vd y m d ∧ s.dn y m d = s.dn s.y s.m s.dd + days ∧ s.y - days.natAbs ≤ y ∧ y ≤ s.y + days.natAbs := by
  have hl : (rng 0 (if days < 0 then -days else days)).length = days.natAbs := by
    unfold rng
    rw [List.length_map, List.length_range]
    split <;> omega
  obtain ⟨y', m', d', k', r, v', e, b3, b4⟩ := walk_go h (days := days) st (rng 0 (if days < 0 then -days else days)) none v
  rw [hl] at e b3 b4
  refine ⟨y', m', d', Rt.fin (.go (ρ1 := wEn s days s.y s.m s.dd none) (st1 := st) ?_ (.go (ρ1 := wEn s days y' m' d' k') (st1 := st) ?_ (.ret ?_))), v', ?_, b3, b4⟩
  · simp [uSeq, uIfS, uTst, uRel, uOp, uUn, uVar, uC, gv, bI2, dBool, uRet, uNext, uSet, uSetL, uDrop, dI2, dAdd, uTgt, uPar, uCall, uCallL, uMeth, aNil, aCons, aConsL, aSrc, uTup, uLst, uOfL, uLOf, uLVar, uUnL, uUnN, uIxL, uAnd, uOr, uNot, uIf, uTru, uTruL, bTru, bName, bTup, bNames, uItems, dIx, bEq, bNe, dInt, uAndV, uOrV, uNotV, uRetL, uRetN, dFld, dLen, lLen, dList, dTup, dNeg, at0, at1, at2, at3, at4, at5, at6, at7, sEO, sEN, sON, sNE, sNO, sOE, Sg.d, dt, wEn]
  · refine (uFor_eq (uRng1_eq (n := if days < 0 then -days else days) (st' := st) ?_ ?_ ?_)).trans r
    · simp [uUn, dAbs, uVar, gv, wEn]
    · split <;> omega
    · split <;> omega
  · simp [uSeq, uIfS, uTst, uRel, uOp, uUn, uVar, uC, gv, bI2, dBool, uRet, uNext, uSet, uSetL, uDrop, dI2, dAdd, uTgt, uPar, uCall, uCallL, uMeth, aNil, aCons, aConsL, aSrc, uTup, uLst, uOfL, uLOf, uLVar, uUnL, uUnN, uIxL, uAnd, uOr, uNot, uIf, uTru, uTruL, bTru, bName, bTup, bNames, uItems, dIx, bEq, bNe, dInt, uAndV, uOrV, uNotV, uRetL, uRetN, dFld, dLen, lLen, dList, dTup, dNeg, at0, at1, at2, at3, at4, at5, at6, at7, sEO, sEN, sON, sNE, sNO, sOE, wEn, dt]
  · rw [e]
    split <;> omega
end Fw
set_option Elab.async false
set_option linter.all false
set_option maxRecDepth 100000
set_option maxHeartbeats 4000000
namespace Fw
open PySem PySem.Spec L2
/-! ### the program's search in a list of starts -/
def pWhile (k : Nat) : US := (uWh (uTst dBool (uRel (bI2 fun i j => decide (i < j)) (uVar 2) (uVar 3)))
  (uSeq (uSet 4 (uOp (dI2 iDiv) (uOp dAdd (uOp dAdd (uVar 2) (uVar 3)) (uC (.int 1))) (uC (.int 2))))
  (uIfS (uTst dBool (uRel (bI2 fun i j => decide (i ≤ j)) (uOp dIx (uVar 0) (uVar 4)) (uVar 1)))
  (uSet 2 (uVar 4))
  (uSet 3 (uOp (dI2 fun i j => some (i - j)) (uVar 4) (uC (.int 1)))))) k)
def pEn (xs : List Int) (n low high : Int) (mid : Option D) : En := [some (iL xs), some (.int n), some (.int low), some (.int high), mid]
theorem place_go {xs : List Int} {n : Int} {i : Nat} (hi : i < xs.length) (g1 : ∀ j : Nat, j ≤ i → xs.getD j 0 ≤ n) (g2 : ∀ j : Nat, i < j → j < xs.length → n < xs.getD j 0) (st : St4) :
    ∀ (k : Nat) (low high : Int) (mid : Option D), 0 ≤ low → low ≤ i → (i : Int) ≤ high → high < xs.length → high - low < k → ∃ mid', pWhile k (pEn xs n low high mid) st = some (.nx, pEn xs n i i mid', st)
  | 0, low, high, mid, _, _, _, _, h => by omega
  | k + 1, low, high, mid, h0, h1, h2, h3, h4 => by
    by_cases c : low < high
    · have d2 : iDiv (low + high + 1) 2 = some ((low + high + 1) / 2) := iDiv_eq (by omega) (by omega)
      obtain ⟨mm, hmm⟩ : ∃ mm, (low + high + 1) / 2 = mm := ⟨_, rfl⟩
      rw [hmm] at d2
      have e := atI_map (xs := xs) (i := mm) (by omega) (by omega)
      obtain ⟨gm, hgm⟩ : ∃ gm, xs.getD mm.toNat 0 = gm := ⟨_, rfl⟩
      rw [hgm] at e
      by_cases c2 : gm ≤ n
      · have h6 : mm ≤ i := by
          by_cases q : mm ≤ i
          · exact q
          · have := g2 mm.toNat (by omega) (by omega)
            omega
        obtain ⟨mid', r⟩ := place_go hi g1 g2 st k mm high (some (.int mm)) (by omega) h6 h2 h3 (by omega)
        refine ⟨mid', ?_⟩
        rw [← r]
        unfold pWhile
        show ((uTst dBool (uRel (bI2 fun i j => decide (i < j)) (uVar 2) (uVar 3))) (pEn xs n low high mid) st).bind _ = _
        simp [uSeq, uIfS, uTst, uRel, uOp, uUn, uVar, uC, gv, bI2, dBool, uRet, uNext, uSet, uSetL, uDrop, dI2, dAdd, uTgt, uPar, uCall, uCallL, uMeth, aNil, aCons, aConsL, aSrc, uTup, uLst, uOfL, uLOf, uLVar, uUnL, uUnN, uIxL, uAnd, uOr, uNot, uIf, uTru, uTruL, bTru, bName, bTup, bNames, uItems, dIx, bEq, bNe, dInt, uAndV, uOrV, uNotV, uRetL, uRetN, dFld, dLen, lLen, dList, dTup, dNeg, at0, at1, at2, at3, at4, at5, at6, at7, sEO, sEN, sON, sNE, sNO, sOE, pEn, c, d2, iL, e, c2]
      · have h6 : (i : Int) ≤ mm - 1 := by
          by_cases q : (i : Int) < mm
          · omega
          · have := g1 mm.toNat (by omega)
            omega
        obtain ⟨mid', r⟩ := place_go hi g1 g2 st k low (mm - 1) (some (.int mm)) h0 h1 h6 (by omega) (by omega)
        refine ⟨mid', ?_⟩
        rw [← r]
        unfold pWhile
        show ((uTst dBool (uRel (bI2 fun i j => decide (i < j)) (uVar 2) (uVar 3))) (pEn xs n low high mid) st).bind _ = _
        simp [uSeq, uIfS, uTst, uRel, uOp, uUn, uVar, uC, gv, bI2, dBool, uRet, uNext, uSet, uSetL, uDrop, dI2, dAdd, uTgt, uPar, uCall, uCallL, uMeth, aNil, aCons, aConsL, aSrc, uTup, uLst, uOfL, uLOf, uLVar, uUnL, uUnN, uIxL, uAnd, uOr, uNot, uIf, uTru, uTruL, bTru, bName, bTup, bNames, uItems, dIx, bEq, bNe, dInt, uAndV, uOrV, uNotV, uRetL, uRetN, dFld, dLen, lLen, dList, dTup, dNeg, at0, at1, at2, at3, at4, at5, at6, at7, sEO, sEN, sON, sNE, sNO, sOE, pEn, c, d2, iL, e, c2]
    · have e1 : low = i := by omega
      have e2 : high = i := by omega
      subst e1 e2
      refine ⟨mid, ?_⟩
      unfold pWhile
      show ((uTst dBool (uRel (bI2 fun i j => decide (i < j)) (uVar 2) (uVar 3))) (pEn xs n i i mid) st).bind _ = _
      simp [uSeq, uIfS, uTst, uRel, uOp, uUn, uVar, uC, gv, bI2, dBool, uRet, uNext, uSet, uSetL, uDrop, dI2, dAdd, uTgt, uPar, uCall, uCallL, uMeth, aNil, aCons, aConsL, aSrc, uTup, uLst, uOfL, uLOf, uLVar, uUnL, uUnN, uIxL, uAnd, uOr, uNot, uIf, uTru, uTruL, bTru, bName, bTup, bNames, uItems, dIx, bEq, bNe, dInt, uAndV, uOrV, uNotV, uRetL, uRetN, dFld, dLen, lLen, dList, dTup, dNeg, at0, at1, at2, at3, at4, at5, at6, at7, sEO, sEN, sON, sNE, sNO, sOE, pEn]
theorem f_place_in_eq {xs : List Int} {n : Int} {i : Nat} (hi : i < xs.length) (hl : xs.length ≤ 900) (g1 : ∀ j : Nat, j ≤ i → xs.getD j 0 ≤ n) (g2 : ∀ j : Nat, i < j → j < xs.length → n < xs.getD j 0) (st : St4) : f_place_in [iL xs, .int n] st = some (.int i, st) := by
  obtain ⟨mid, r⟩ := place_go hi g1 g2 st 1000 0 (xs.length - 1) none (Int.le_refl _) (by omega) (by omega) (by omega) (by omega)
  refine Rt.fin (.go (ρ1 := [some (iL xs), some (.int n), some (.int 0), none, none]) (st1 := st) ?_ (.go (ρ1 := pEn xs n 0 (xs.length - 1) none) (st1 := st) ?_ (.go (ρ1 := pEn xs n i i mid) (st1 := st) r (.ret ?_))))
  · simp [uSeq, uIfS, uTst, uRel, uOp, uUn, uVar, uC, gv, bI2, dBool, uRet, uNext, uSet, uSetL, uDrop, dI2, dAdd, uTgt, uPar, uCall, uCallL, uMeth, aNil, aCons, aConsL, aSrc, uTup, uLst, uOfL, uLOf, uLVar, uUnL, uUnN, uIxL, uAnd, uOr, uNot, uIf, uTru, uTruL, bTru, bName, bTup, bNames, uItems, dIx, bEq, bNe, dInt, uAndV, uOrV, uNotV, uRetL, uRetN, dFld, dLen, lLen, dList, dTup, dNeg, at0, at1, at2, at3, at4, at5, at6, at7, sEO, sEN, sON, sNE, sNO, sOE]
  · simp [uSeq, uIfS, uTst, uRel, uOp, uUn, uVar, uC, gv, bI2, dBool, uRet, uNext, uSet, uSetL, uDrop, dI2, dAdd, uTgt, uPar, uCall, uCallL, uMeth, aNil, aCons, aConsL, aSrc, uTup, uLst, uOfL, uLOf, uLVar, uUnL, uUnN, uIxL, uAnd, uOr, uNot, uIf, uTru, uTruL, bTru, bName, bTup, bNames, uItems, dIx, bEq, bNe, dInt, uAndV, uOrV, uNotV, uRetL, uRetN, dFld, dLen, lLen, dList, dTup, dNeg, at0, at1, at2, at3, at4, at5, at6, at7, sEO, sEN, sON, sNE, sNO, sOE, iL, pEn]
  · simp [uSeq, uIfS, uTst, uRel, uOp, uUn, uVar, uC, gv, bI2, dBool, uRet, uNext, uSet, uSetL, uDrop, dI2, dAdd, uTgt, uPar, uCall, uCallL, uMeth, aNil, aCons, aConsL, aSrc, uTup, uLst, uOfL, uLOf, uLVar, uUnL, uUnN, uIxL, uAnd, uOr, uNot, uIf, uTru, uTruL, bTru, bName, bTup, bNames, uItems, dIx, bEq, bNe, dInt, uAndV, uOrV, uNotV, uRetL, uRetN, dFld, dLen, lLen, dList, dTup, dNeg, at0, at1, at2, at3, at4, at5, at6, at7, sEO, sEN, sON, sNE, sNO, sOE, pEn]
/-! ### starts -/
def scan (a : Int) : List Int → List Int
  | [] => []
  | x :: r => (a + x) :: scan (a + x) r
def starts (l : List Int) : List Int := 0 :: scan 0 l
theorem scan_len (a : Int) : ∀ l : List Int, (scan a l).length = l.length
  | [] => rfl
  | x :: r => congrArg Nat.succ (scan_len (a + x) r)
theorem scan_get (a : Int) : ∀ (l : List Int) (k : Nat), k ≤ l.length → (a :: scan a l).getD k 0 = a + (l.take k).sum
  | l, 0, _ => by simp
  | [], k + 1, h => by simp at h
  | x :: r, k + 1, h => by
    have := scan_get (a + x) r k (by simpa using h)
    show ((a + x) :: scan (a + x) r).getD k 0 = _
    rw [this, List.take_succ_cons, List.sum_cons]
    omega
theorem starts_len (l : List Int) : (starts l).length = l.length + 1 := by
  unfold starts
  rw [List.length_cons, scan_len]
theorem starts_get (l : List Int) {k : Nat} (h : k ≤ l.length) : (starts l).getD k 0 = (l.take k).sum := by
  unfold starts
  rw [scan_get 0 l k h]
  omega
def sBody : US := (uApp 1 (uOp dAdd (uIxL (uLVar 1) (uOp (dI2 fun i j => some (i - j)) (uUnL lLen (uLVar 1)) (uC (.int 1)))) (uVar 2)))
theorem last_at {α : Type} {ps : List α} {a : α} : atI (ps ++ [a]) (((ps ++ [a]).length : Int) - 1) = some a := by
  have : ((ps ++ [a]).length : Int) - 1 = (ps.length : Int) := by simp
  rw [this]
  exact atK (by simp)
theorem sBody_eq {x0 : Option D} {ps : List Int} {a x : Int} (hl : ps.length < 1000) (st : St4) : sBody [x0, some (iL (ps ++ [a])), some (.int x)] st = some (.nx, [x0, some (iL ((ps ++ [a]) ++ [a + x])), some (.int x)], st) := by
  have e : (ps ++ [a]).map D.int = ps.map D.int ++ [.int a] := by simp
  have e1 := last_at (ps := ps.map D.int) (a := .int a)
  have e2 : (ps.map D.int ++ [D.int a]).length < 100000 := by simp; omega
  unfold sBody uApp iL
  rw [List.map_append (l₂ := [a + x]), e]
  simp only [List.map_cons, List.map_nil]
  simp [uOp, uIxL, uLVar, gv, uUnL, lLen, uC, dI2, uVar, dAdd]
  simp at e1
  rw [e1]
  simp
  omega
theorem starts_go {x0 : Option D} (st : St4) : ∀ (l ps : List Int) (a : Int) (y : Option D), ps.length + l.length < 900 → ∃ y', uForGo (bName 2) sBody (l.map D.int) [x0, some (iL (ps ++ [a])), y] st = some (.nx, [x0, some (iL ((ps ++ [a]) ++ scan a l)), y'], st)
  | [], ps, a, y, _ => ⟨y, by simp [uForGo, scan]⟩
  | x :: l, ps, a, y, h => by
    have h' : ps.length + (l.length + 1) < 900 := by simpa using h
    obtain ⟨y', r⟩ := starts_go st l (ps ++ [a]) (a + x) (some (.int x)) (by simp; omega)
    refine ⟨y', ?_⟩
    have z := sBody_eq (x0 := x0) (ps := ps) (a := a) (x := x) (by omega) st
    show ((bName 2 (.int x) [x0, some (iL (ps ++ [a])), y]).bind fun ρ1 => (sBody ρ1 st).bind fun r => _) = _
    have : bName 2 (D.int x) [x0, some (iL (ps ++ [a])), y] = some [x0, some (iL (ps ++ [a])), some (.int x)] := rfl
    rw [this, Option.bind_some, z]
    have e : (ps ++ [a]) ++ scan a (x :: l) = ((ps ++ [a]) ++ [a + x]) ++ scan (a + x) l := by
      show (ps ++ [a]) ++ ((a + x) :: scan (a + x) l) = _
      simp
    rw [e]
    exact r
theorem f_starts_of_eq {d : D} {l : List Int} (hl : l.length ≤ 100) (h : d = iL l ∨ d = .tup (l.map .int)) (st : St4) : f_starts_of [d] st = some (iL (starts l), st) := by
  obtain ⟨y', r⟩ := starts_go (x0 := some d) st l [] 0 none (by simp; omega)
  refine Rt.fin (.go (ρ1 := [some d, some (iL [0]), none]) (st1 := st) ?_ (.go (ρ1 := [some d, some (iL (starts l)), y']) (st1 := st) ?_ (.retL ?_)))
  · simp [uSeq, uIfS, uTst, uRel, uOp, uUn, uVar, uC, gv, bI2, dBool, uRet, uNext, uSet, uSetL, uDrop, dI2, dAdd, uTgt, uPar, uCall, uCallL, uMeth, aNil, aCons, aConsL, aSrc, uTup, uLst, uOfL, uLOf, uLVar, uUnL, uUnN, uIxL, uAnd, uOr, uNot, uIf, uTru, uTruL, bTru, bName, bTup, bNames, uItems, dIx, bEq, bNe, dInt, uAndV, uOrV, uNotV, uRetL, uRetN, dFld, dLen, lLen, dList, dTup, dNeg, at0, at1, at2, at3, at4, at5, at6, at7, sEO, sEN, sON, sNE, sNO, sOE, iL]
  · refine (uFor_eq (ds := l.map .int) (st' := st) ?_).trans r
    rcases h with rfl | rfl <;> simp [uSeq, uIfS, uTst, uRel, uOp, uUn, uVar, uC, gv, bI2, dBool, uRet, uNext, uSet, uSetL, uDrop, dI2, dAdd, uTgt, uPar, uCall, uCallL, uMeth, aNil, aCons, aConsL, aSrc, uTup, uLst, uOfL, uLOf, uLVar, uUnL, uUnN, uIxL, uAnd, uOr, uNot, uIf, uTru, uTruL, bTru, bName, bTup, bNames, uItems, dIx, bEq, bNe, dInt, uAndV, uOrV, uNotV, uRetL, uRetN, dFld, dLen, lLen, dList, dTup, dNeg, at0, at1, at2, at3, at4, at5, at6, at7, sEO, sEN, sON, sNE, sNO, sOE, iL]
  · simp [uSeq, uIfS, uTst, uRel, uOp, uUn, uVar, uC, gv, bI2, dBool, uRet, uNext, uSet, uSetL, uDrop, dI2, dAdd, uTgt, uPar, uCall, uCallL, uMeth, aNil, aCons, aConsL, aSrc, uTup, uLst, uOfL, uLOf, uLVar, uUnL, uUnN, uIxL, uAnd, uOr, uNot, uIf, uTru, uTruL, bTru, bName, bTup, bNames, uItems, dIx, bEq, bNe, dInt, uAndV, uOrV, uNotV, uRetL, uRetN, dFld, dLen, lLen, dList, dTup, dNeg, at0, at1, at2, at3, at4, at5, at6, at7, sEO, sEN, sON, sNE, sNO, sOE, iL]
end Fw
set_option Elab.async false
set_option linter.all false
set_option maxRecDepth 100000
set_option maxHeartbeats 4000000
namespace Fw
open PySem PySem.Spec L2
/-! ### the program's segment -/
theorem sum_pos {l : List Int} (h : ∀ x ∈ l, 1 ≤ x ∧ x ≤ 60) : (l.length : Int) ≤ l.sum ∧ l.sum ≤ 60 * l.length := by
  induction l with
  | nil => simp
  | cons a l ih =>
    have h1 := h a List.mem_cons_self
    have h2 := ih fun x hx => h x (List.mem_cons_of_mem _ hx)
    rw [List.sum_cons, List.length_cons]
    push_cast
    omega
theorem LsOk.sum {l : List Int} (h : LsOk l) : 1 ≤ l.sum ∧ l.sum ≤ 1440 := by
  have := sum_pos h.2.2
  have h1 : 1 ≤ l.length := List.length_pos_iff.mpr h.1
  have h2 := h.2.1
  omega
namespace Sg
variable {s : Sg}
theorem L_pos (h : s.Ok) (y : Int) : 1 ≤ s.L y ∧ s.L y ≤ 1440 := (h.mon y).sum
theorem pre_bd (h : s.Ok) : ∀ k : Nat, (k : Int) ≤ s.pre k ∧ s.pre k ≤ 1440 * k
  | 0 => by simp [pre]
  | k + 1 => by
    have h1 := pre_bd h k
    have h2 := L_pos h k
    show ((k + 1 : Nat) : Int) ≤ s.pre k + s.L k ∧ s.pre k + s.L k ≤ 1440 * ((k + 1 : Nat) : Int)
    push_cast
    omega
theorem pre_mono (h : s.Ok) {i j : Nat} (hij : i ≤ j) : s.pre i ≤ s.pre j := by
  induction j with
  | zero =>
    have : i = 0 := by omega
    subst this
    exact Int.le_refl _
  | succ j ih =>
    by_cases c : i = j + 1
    · subst c
      exact Int.le_refl _
    · have h1 := ih (by omega)
      have h2 := L_pos h j
      show s.pre i ≤ s.pre j + s.L j
      omega
theorem T_bd (h : s.Ok) : 1 ≤ s.T ∧ s.T ≤ 576000 := by
  have h1 := pre_bd h s.N.toNat
  have h2 := N_pos h
  unfold T
  omega
def cnt (s : Sg) : Nat → Int
  | 0 => 0
  | k + 1 => s.cnt k + (s.mon k).length
def row (s : Sg) : D := .tup [.int s.tick, .int s.width, .int s.into, dt s.y s.m s.dd, iL s.common, .tup (s.longer.map .int), s.leap.d, .lst (s.cycles.map cycD)]
end Sg
def tab (f : Nat → Int) (n : Nat) : List Int := (List.range (n + 1)).map f
theorem tab_succ (f : Nat → Int) (n : Nat) : tab f (n + 1) = tab f n ++ [f (n + 1)] := by
  unfold tab
  rw [List.range_succ, List.map_append] <;> rfl
theorem tab_len (f : Nat → Int) (n : Nat) : (tab f n).length = n + 1 := by simp [tab]
theorem tab_get (f : Nat → Int) {n k : Nat} (h : k ≤ n) : (tab f n).getD k 0 = f k := by
  unfold tab
  rw [List.getD_eq_getElem?_getD, List.getElem?_map, List.getElem?_range (by omega)] <;> rfl
theorem tab_at (f : Nat → Int) {n k : Nat} (h : k ≤ n) : atI ((tab f n).map D.int) (k : Int) = some (.int (f k)) := by
  have := atI_map (xs := tab f n) (i := k) (by omega) (by rw [tab_len]; omega)
  rwa [Int.toNat_natCast, tab_get f h] at this
namespace Sg
def fs8 (s : Sg) : List (Str × D) := [("tick", .int s.tick), ("width", .int s.width), ("into", .int s.into), ("date", dt s.y s.m s.dd), ("leap", s.leap.d), ("cycles", .lst (s.cycles.map cycD)), ("common", iL (starts s.common)), ("longer", iL (starts s.longer))]
def fs9 (s : Sg) : List (Str × D) := [("tick", .int s.tick), ("width", .int s.width), ("into", .int s.into), ("date", dt s.y s.m s.dd), ("leap", s.leap.d), ("cycles", .lst (s.cycles.map cycD)), ("common", iL (starts s.common)), ("longer", iL (starts s.longer)), ("years", .int s.N)]
def fsA (s : Sg) : List (Str × D) := s.fs9 ++ yPair (iL (tab s.pre s.N.toNat)) (iL (tab s.cnt s.N.toNat))
def fs (s : Sg) : List (Str × D) := s.fsA ++ [fD "days" s.T, fD "months" (s.cnt s.N.toNat), fD "first_day" (s.dn s.y s.m s.dd)]
def ins (s : Sg) : D := .ins "Segment" s.fs
end Sg
variable {s : Sg} {fs : List (Str × D)}
theorem f_Segment_starts_eq (h : s.Ok) (h1 : fs.lookup ("leap" : Str) = some s.leap.d) (h2 : fs.lookup ("longer" : Str) = some (iL (starts s.longer))) (h3 : fs.lookup ("common" : Str) = some (iL (starts s.common))) (y : Int) (st : St4) :
    f_Segment_starts [.ins "Segment" fs, .int y] st = some (iL (starts (s.mon y)), st) := by
  have e := f_is_long_eq h.leap y st
  refine Rt.fin (.ret ?_)
  by_cases c : s.leap.long y = true <;> simp [uSeq, uIfS, uTst, uRel, uOp, uUn, uVar, uC, gv, bI2, dBool, uRet, uNext, uSet, uSetL, uDrop, dI2, dAdd, uTgt, uPar, uCall, uCallL, uMeth, aNil, aCons, aConsL, aSrc, uTup, uLst, uOfL, uLOf, uLVar, uUnL, uUnN, uIxL, uAnd, uOr, uNot, uIf, uTru, uTruL, bTru, bName, bTup, bNames, uItems, dIx, bEq, bNe, dInt, uAndV, uOrV, uNotV, uRetL, uRetN, dFld, dLen, lLen, dList, dTup, dNeg, at0, at1, at2, at3, at4, at5, at6, at7, sEO, sEN, sON, sNE, sNO, sOE, e, c, Sg.mon, h1, h2, h3]
theorem f_Segment_day_of_eq (h : s.Ok) (h1 : fs.lookup ("leap" : Str) = some s.leap.d) (h2 : fs.lookup ("longer" : Str) = some (iL (starts s.longer))) (h3 : fs.lookup ("common" : Str) = some (iL (starts s.common))) (h4 : fs.lookup ("years" : Str) = some (.int s.N)) (h5 : fs.lookup ("days" : Str) = some (.int s.T)) (h6 : fs.lookup ("year_days" : Str) = some (iL (tab s.pre s.N.toNat))) (h7 : fs.lookup ("starts" : Str) = none)
    {y m d : Int} (m1 : 1 ≤ m) (m2 : m ≤ (s.mon y).length) (st : St4) : f_Segment_day_of [.ins "Segment" fs, dt y m d] st = some (.int (s.dn y m d), st) := by
  have e := f_Segment_starts_eq h h1 h2 h3 y st
  have hN := Sg.N_pos h
  have hT := Sg.T_bd h
  have e1 : iDiv y s.N = some (y / s.N) := iDiv_eq (by omega) (by omega)
  have e2 : iMod y s.N = some (y % s.N) := iMod_eq (by omega)
  have e3 : iMul (y / s.N) s.T = some (y / s.N * s.T) := iMul_eqR (by omega) (by omega)
  have b1 := Int.emod_nonneg y (show s.N ≠ 0 by omega)
  have b2 := Int.emod_lt_of_pos y (show 0 < s.N by omega)
  have e4 : atI ((tab s.pre s.N.toNat).map D.int) (y % s.N) = some (.int (s.pre (y % s.N).toNat)) := by
    have := tab_at s.pre (n := s.N.toNat) (k := (y % s.N).toNat) (by omega)
    rwa [Int.toNat_of_nonneg b1] at this
  have e5 : atI ((starts (s.mon y)).map D.int) (m - 1) = some (.int ((s.mon y).take (m - 1).toNat).sum) := by
    have := atI_map (xs := starts (s.mon y)) (i := m - 1) (by omega) (by rw [starts_len]; omega)
    rwa [starts_get _ (by omega)] at this
  refine Rt.fin (.go (ρ1 := [some (.ins "Segment" fs), some (dt y m d), some (.int y), none]) (st1 := st) ?_ (.go (ρ1 := [some (.ins "Segment" fs), some (dt y m d), some (.int y), some (.int (s.ys y))]) (st1 := st) ?_ (.ret ?_)))
  · simp [uSeq, uIfS, uTst, uRel, uOp, uUn, uVar, uC, gv, bI2, dBool, uRet, uNext, uSet, uSetL, uDrop, dI2, dAdd, uTgt, uPar, uCall, uCallL, uMeth, aNil, aCons, aConsL, aSrc, uTup, uLst, uOfL, uLOf, uLVar, uUnL, uUnN, uIxL, uAnd, uOr, uNot, uIf, uTru, uTruL, bTru, bName, bTup, bNames, uItems, dIx, bEq, bNe, dInt, uAndV, uOrV, uNotV, uRetL, uRetN, dFld, dLen, lLen, dList, dTup, dNeg, at0, at1, at2, at3, at4, at5, at6, at7, sEO, sEN, sON, sNE, sNO, sOE, dt]
  · simp [uSeq, uIfS, uTst, uRel, uOp, uUn, uVar, uC, gv, bI2, dBool, uRet, uNext, uSet, uSetL, uDrop, dI2, dAdd, uTgt, uPar, uCall, uCallL, uMeth, aNil, aCons, aConsL, aSrc, uTup, uLst, uOfL, uLOf, uLVar, uUnL, uUnN, uIxL, uAnd, uOr, uNot, uIf, uTru, uTruL, bTru, bName, bTup, bNames, uItems, dIx, bEq, bNe, dInt, uAndV, uOrV, uNotV, uRetL, uRetN, dFld, dLen, lLen, dList, dTup, dNeg, at0, at1, at2, at3, at4, at5, at6, at7, sEO, sEN, sON, sNE, sNO, sOE, h4, h5, h6, e1, e2, e3, iL, e4, Sg.ys]
  · simp [uSeq, uIfS, uTst, uRel, uOp, uUn, uVar, uC, gv, bI2, dBool, uRet, uNext, uSet, uSetL, uDrop, dI2, dAdd, uTgt, uPar, uCall, uCallL, uMeth, aNil, aCons, aConsL, aSrc, uTup, uLst, uOfL, uLOf, uLVar, uUnL, uUnN, uIxL, uAnd, uOr, uNot, uIf, uTru, uTruL, bTru, bName, bTup, bNames, uItems, dIx, bEq, bNe, dInt, uAndV, uOrV, uNotV, uRetL, uRetN, dFld, dLen, lLen, dList, dTup, dNeg, at0, at1, at2, at3, at4, at5, at6, at7, sEO, sEN, sON, sNE, sNO, sOE, h7, e, iL, dt, e5, Sg.dn]
theorem initGo_eq (h : s.Ok) (row : D) (st : St4) : ∀ (c i : Nat), i + c ≤ 400 → initGo s.fs9 row ((List.range' i c).map fun j => D.int (j : Nat)) (tab s.pre i) (tab s.cnt i) st = some (tab s.pre (i + c), tab s.cnt (i + c), st)
  | 0, i, _ => rfl
  | c + 1, i, hc => by
    have ih := initGo_eq h row st c (i + 1) (by omega)
    rw [List.range'_succ, List.map_cons]
    have e := f_Segment_starts_eq (s := s) (fs := s.fs9 ++ yPair .src .src) h rfl rfl rfl (i : Int) st
    have e1 : e_starts (sEn (s.fs9 ++ yPair .src .src) row (some (.int (i : Nat))) none) st = some (.lst ((starts (s.mon i)).map .int), st) := by
      have q : (s.fs9 ++ yPair .src .src).lookup ("starts" : Str) = none := rfl
      simp [e_starts, sEn, uSeq, uIfS, uTst, uRel, uOp, uUn, uVar, uC, gv, bI2, dBool, uRet, uNext, uSet, uSetL, uDrop, dI2, dAdd, uTgt, uPar, uCall, uCallL, uMeth, aNil, aCons, aConsL, aSrc, uTup, uLst, uOfL, uLOf, uLVar, uUnL, uUnN, uIxL, uAnd, uOr, uNot, uIf, uTru, uTruL, bTru, bName, bTup, bNames, uItems, dIx, bEq, bNe, dInt, uAndV, uOrV, uNotV, uRetL, uRetN, dFld, dLen, lLen, dList, dTup, dNeg, at0, at1, at2, at3, at4, at5, at6, at7, sEO, sEN, sON, sNE, sNO, sOE, q, e, iL]
    have e2 : uInt e_ydapp (sEn (s.fs9 ++ yPair (iL (tab s.pre i)) (iL (tab s.cnt i))) row (some (.int (i : Nat))) (some (iL (starts (s.mon i))))) st = some (s.pre (i + 1), st) := by
      have q : (s.fs9 ++ yPair (iL (tab s.pre i)) (iL (tab s.cnt i))).lookup ("year_days" : Str) = some (iL (tab s.pre i)) := rfl
      have q2 := tab_at s.pre (Nat.le_refl i)
      have q3 : atI ((starts (s.mon i)).map D.int) (((starts (s.mon i)).length : Int) - 1) = some (.int (s.L i)) := by
        have := atI_map (xs := starts (s.mon i)) (i := ((starts (s.mon i)).length : Int) - 1) (by rw [starts_len]; omega) (by omega)
        rw [this]
        rw [starts_len, show (((s.mon i).length + 1 : Nat) : Int) - 1 = ((s.mon i).length : Int) by omega, Int.toNat_natCast, starts_get _ (Nat.le_refl _), List.take_length] <;> rfl
      have q4 : s.pre (i + 1) = s.pre i + s.L i := rfl
      simp [e_ydapp, uInt, sEn, uSeq, uIfS, uTst, uRel, uOp, uUn, uVar, uC, gv, bI2, dBool, uRet, uNext, uSet, uSetL, uDrop, dI2, dAdd, uTgt, uPar, uCall, uCallL, uMeth, aNil, aCons, aConsL, aSrc, uTup, uLst, uOfL, uLOf, uLVar, uUnL, uUnN, uIxL, uAnd, uOr, uNot, uIf, uTru, uTruL, bTru, bName, bTup, bNames, uItems, dIx, bEq, bNe, dInt, uAndV, uOrV, uNotV, uRetL, uRetN, dFld, dLen, lLen, dList, dTup, dNeg, at0, at1, at2, at3, at4, at5, at6, at7, sEO, sEN, sON, sNE, sNO, sOE, q]
      simp [iL, q2, q3, q4]
    have e3 : uInt e_ymapp (sEn (s.fs9 ++ yPair (iL (tab s.pre i ++ [s.pre (i + 1)])) (iL (tab s.cnt i))) row (some (.int (i : Nat))) (some (iL (starts (s.mon i))))) st = some (s.cnt (i + 1), st) := by
      have q : (s.fs9 ++ yPair (iL (tab s.pre i ++ [s.pre (i + 1)])) (iL (tab s.cnt i))).lookup ("year_months" : Str) = some (iL (tab s.cnt i)) := rfl
      have q2 := tab_at s.cnt (Nat.le_refl i)
      have q4 : s.cnt (i + 1) = s.cnt i + (s.mon i).length := rfl
      simp [e_ymapp, uInt, sEn, uSeq, uIfS, uTst, uRel, uOp, uUn, uVar, uC, gv, bI2, dBool, uRet, uNext, uSet, uSetL, uDrop, dI2, dAdd, uTgt, uPar, uCall, uCallL, uMeth, aNil, aCons, aConsL, aSrc, uTup, uLst, uOfL, uLOf, uLVar, uUnL, uUnN, uIxL, uAnd, uOr, uNot, uIf, uTru, uTruL, bTru, bName, bTup, bNames, uItems, dIx, bEq, bNe, dInt, uAndV, uOrV, uNotV, uRetL, uRetN, dFld, dLen, lLen, dList, dTup, dNeg, at0, at1, at2, at3, at4, at5, at6, at7, sEO, sEN, sON, sNE, sNO, sOE, q]
      simp [iL, q2, q4, starts_len]
      omega
    unfold initGo
    rw [if_pos (by rw [tab_len, tab_len]; omega), e1]
    show ((asI ((starts (s.mon i)).map D.int)).bind fun ns => _) = _
    rw [asI_map, Option.bind_some, e2]
    simp only [Option.bind_some]
    rw [e3]
    simp only [Option.bind_some]
    rw [← tab_succ, ← tab_succ, ih, show i + (c + 1) = i + 1 + c by omega]
theorem cyc_go (st : St4) (ρ : En) (hρ : ρ.length = 5) : ∀ cs : List (Str × Int × Int), uLcGo (bName 4) tYesU (uUn dTup (uVar 4)) ρ (cs.map cycD) st = some (cs.map cycD, st)
  | [] => rfl
  | c :: cs => by
    have ih := cyc_go st ρ hρ cs
    match ρ, hρ with
    | [a, b, c', d, e], _ => simp [uLcGo, ih, uSeq, uIfS, uTst, uRel, uOp, uUn, uVar, uC, gv, bI2, dBool, uRet, uNext, uSet, uSetL, uDrop, dI2, dAdd, uTgt, uPar, uCall, uCallL, uMeth, aNil, aCons, aConsL, aSrc, uTup, uLst, uOfL, uLOf, uLVar, uUnL, uUnN, uIxL, uAnd, uOr, uNot, uIf, uTru, uTruL, bTru, bName, bTup, bNames, uItems, dIx, bEq, bNe, dInt, uAndV, uOrV, uNotV, uRetL, uRetN, dFld, dLen, lLen, dList, dTup, dNeg, at0, at1, at2, at3, at4, at5, at6, at7, sEO, sEN, sON, sNE, sNO, sOE, tYesU, cycD]
theorem f_leap_round_eq {l : Leap} (h : l.Ok) (st : St4) : f_leap_round [l.d] st = some (.int l.round, st) := by
  cases l with
  | never => exact Rt.fin (.now (by simp [uSeq, uIfS, uTst, uRel, uOp, uUn, uVar, uC, gv, bI2, dBool, uRet, uNext, uSet, uSetL, uDrop, dI2, dAdd, uTgt, uPar, uCall, uCallL, uMeth, aNil, aCons, aConsL, aSrc, uTup, uLst, uOfL, uLOf, uLVar, uUnL, uUnN, uIxL, uAnd, uOr, uNot, uIf, uTru, uTruL, bTru, bName, bTup, bNames, uItems, dIx, bEq, bNe, dInt, uAndV, uOrV, uNotV, uRetL, uRetN, dFld, dLen, lLen, dList, dTup, dNeg, at0, at1, at2, at3, at4, at5, at6, at7, sEO, sEN, sON, sNE, sNO, sOE, Rt, Leap.d, Leap.round]))
  | e1 a => exact Rt.fin (.go (by simp [uSeq, uIfS, uTst, uRel, uOp, uUn, uVar, uC, gv, bI2, dBool, uRet, uNext, uSet, uSetL, uDrop, dI2, dAdd, uTgt, uPar, uCall, uCallL, uMeth, aNil, aCons, aConsL, aSrc, uTup, uLst, uOfL, uLOf, uLVar, uUnL, uUnN, uIxL, uAnd, uOr, uNot, uIf, uTru, uTruL, bTru, bName, bTup, bNames, uItems, dIx, bEq, bNe, dInt, uAndV, uOrV, uNotV, uRetL, uRetN, dFld, dLen, lLen, dList, dTup, dNeg, at0, at1, at2, at3, at4, at5, at6, at7, sEO, sEN, sON, sNE, sNO, sOE, Leap.d] <;> first | exact ⟨rfl, rfl⟩ | rfl) (.go (by simp [uSeq, uIfS, uTst, uRel, uOp, uUn, uVar, uC, gv, bI2, dBool, uRet, uNext, uSet, uSetL, uDrop, dI2, dAdd, uTgt, uPar, uCall, uCallL, uMeth, aNil, aCons, aConsL, aSrc, uTup, uLst, uOfL, uLOf, uLVar, uUnL, uUnN, uIxL, uAnd, uOr, uNot, uIf, uTru, uTruL, bTru, bName, bTup, bNames, uItems, dIx, bEq, bNe, dInt, uAndV, uOrV, uNotV, uRetL, uRetN, dFld, dLen, lLen, dList, dTup, dNeg, at0, at1, at2, at3, at4, at5, at6, at7, sEO, sEN, sON, sNE, sNO, sOE, Leap.d] <;> first | exact ⟨rfl, rfl⟩ | rfl) (.ret (by simp [uSeq, uIfS, uTst, uRel, uOp, uUn, uVar, uC, gv, bI2, dBool, uRet, uNext, uSet, uSetL, uDrop, dI2, dAdd, uTgt, uPar, uCall, uCallL, uMeth, aNil, aCons, aConsL, aSrc, uTup, uLst, uOfL, uLOf, uLVar, uUnL, uUnN, uIxL, uAnd, uOr, uNot, uIf, uTru, uTruL, bTru, bName, bTup, bNames, uItems, dIx, bEq, bNe, dInt, uAndV, uOrV, uNotV, uRetL, uRetN, dFld, dLen, lLen, dList, dTup, dNeg, at0, at1, at2, at3, at4, at5, at6, at7, sEO, sEN, sON, sNE, sNO, sOE, Leap.d, Leap.round]))))
  | e2 a b => exact Rt.fin (.go (by simp [uSeq, uIfS, uTst, uRel, uOp, uUn, uVar, uC, gv, bI2, dBool, uRet, uNext, uSet, uSetL, uDrop, dI2, dAdd, uTgt, uPar, uCall, uCallL, uMeth, aNil, aCons, aConsL, aSrc, uTup, uLst, uOfL, uLOf, uLVar, uUnL, uUnN, uIxL, uAnd, uOr, uNot, uIf, uTru, uTruL, bTru, bName, bTup, bNames, uItems, dIx, bEq, bNe, dInt, uAndV, uOrV, uNotV, uRetL, uRetN, dFld, dLen, lLen, dList, dTup, dNeg, at0, at1, at2, at3, at4, at5, at6, at7, sEO, sEN, sON, sNE, sNO, sOE, Leap.d] <;> first | exact ⟨rfl, rfl⟩ | rfl) (.go (by simp [uSeq, uIfS, uTst, uRel, uOp, uUn, uVar, uC, gv, bI2, dBool, uRet, uNext, uSet, uSetL, uDrop, dI2, dAdd, uTgt, uPar, uCall, uCallL, uMeth, aNil, aCons, aConsL, aSrc, uTup, uLst, uOfL, uLOf, uLVar, uUnL, uUnN, uIxL, uAnd, uOr, uNot, uIf, uTru, uTruL, bTru, bName, bTup, bNames, uItems, dIx, bEq, bNe, dInt, uAndV, uOrV, uNotV, uRetL, uRetN, dFld, dLen, lLen, dList, dTup, dNeg, at0, at1, at2, at3, at4, at5, at6, at7, sEO, sEN, sON, sNE, sNO, sOE, Leap.d] <;> first | exact ⟨rfl, rfl⟩ | rfl) (.ret (by simp [uSeq, uIfS, uTst, uRel, uOp, uUn, uVar, uC, gv, bI2, dBool, uRet, uNext, uSet, uSetL, uDrop, dI2, dAdd, uTgt, uPar, uCall, uCallL, uMeth, aNil, aCons, aConsL, aSrc, uTup, uLst, uOfL, uLOf, uLVar, uUnL, uUnN, uIxL, uAnd, uOr, uNot, uIf, uTru, uTruL, bTru, bName, bTup, bNames, uItems, dIx, bEq, bNe, dInt, uAndV, uOrV, uNotV, uRetL, uRetN, dFld, dLen, lLen, dList, dTup, dNeg, at0, at1, at2, at3, at4, at5, at6, at7, sEO, sEN, sON, sNE, sNO, sOE, Leap.d, Leap.round]))))
  | e3 a b c => exact Rt.fin (.go (by simp [uSeq, uIfS, uTst, uRel, uOp, uUn, uVar, uC, gv, bI2, dBool, uRet, uNext, uSet, uSetL, uDrop, dI2, dAdd, uTgt, uPar, uCall, uCallL, uMeth, aNil, aCons, aConsL, aSrc, uTup, uLst, uOfL, uLOf, uLVar, uUnL, uUnN, uIxL, uAnd, uOr, uNot, uIf, uTru, uTruL, bTru, bName, bTup, bNames, uItems, dIx, bEq, bNe, dInt, uAndV, uOrV, uNotV, uRetL, uRetN, dFld, dLen, lLen, dList, dTup, dNeg, at0, at1, at2, at3, at4, at5, at6, at7, sEO, sEN, sON, sNE, sNO, sOE, Leap.d] <;> first | exact ⟨rfl, rfl⟩ | rfl) (.go (by simp [uSeq, uIfS, uTst, uRel, uOp, uUn, uVar, uC, gv, bI2, dBool, uRet, uNext, uSet, uSetL, uDrop, dI2, dAdd, uTgt, uPar, uCall, uCallL, uMeth, aNil, aCons, aConsL, aSrc, uTup, uLst, uOfL, uLOf, uLVar, uUnL, uUnN, uIxL, uAnd, uOr, uNot, uIf, uTru, uTruL, bTru, bName, bTup, bNames, uItems, dIx, bEq, bNe, dInt, uAndV, uOrV, uNotV, uRetL, uRetN, dFld, dLen, lLen, dList, dTup, dNeg, at0, at1, at2, at3, at4, at5, at6, at7, sEO, sEN, sON, sNE, sNO, sOE, Leap.d] <;> first | exact ⟨rfl, rfl⟩ | rfl) (.ret (by simp [uSeq, uIfS, uTst, uRel, uOp, uUn, uVar, uC, gv, bI2, dBool, uRet, uNext, uSet, uSetL, uDrop, dI2, dAdd, uTgt, uPar, uCall, uCallL, uMeth, aNil, aCons, aConsL, aSrc, uTup, uLst, uOfL, uLOf, uLVar, uUnL, uUnN, uIxL, uAnd, uOr, uNot, uIf, uTru, uTruL, bTru, bName, bTup, bNames, uItems, dIx, bEq, bNe, dInt, uAndV, uOrV, uNotV, uRetL, uRetN, dFld, dLen, lLen, dList, dTup, dNeg, at0, at1, at2, at3, at4, at5, at6, at7, sEO, sEN, sON, sNE, sNO, sOE, Leap.d, Leap.round]))))
  | of a rs => exact Rt.fin (.go (by simp [uSeq, uIfS, uTst, uRel, uOp, uUn, uVar, uC, gv, bI2, dBool, uRet, uNext, uSet, uSetL, uDrop, dI2, dAdd, uTgt, uPar, uCall, uCallL, uMeth, aNil, aCons, aConsL, aSrc, uTup, uLst, uOfL, uLOf, uLVar, uUnL, uUnN, uIxL, uAnd, uOr, uNot, uIf, uTru, uTruL, bTru, bName, bTup, bNames, uItems, dIx, bEq, bNe, dInt, uAndV, uOrV, uNotV, uRetL, uRetN, dFld, dLen, lLen, dList, dTup, dNeg, at0, at1, at2, at3, at4, at5, at6, at7, sEO, sEN, sON, sNE, sNO, sOE, Leap.d] <;> first | exact ⟨rfl, rfl⟩ | rfl) (.now (by simp [uSeq, uIfS, uTst, uRel, uOp, uUn, uVar, uC, gv, bI2, dBool, uRet, uNext, uSet, uSetL, uDrop, dI2, dAdd, uTgt, uPar, uCall, uCallL, uMeth, aNil, aCons, aConsL, aSrc, uTup, uLst, uOfL, uLOf, uLVar, uUnL, uUnN, uIxL, uAnd, uOr, uNot, uIf, uTru, uTruL, bTru, bName, bTup, bNames, uItems, dIx, bEq, bNe, dInt, uAndV, uOrV, uNotV, uRetL, uRetN, dFld, dLen, lLen, dList, dTup, dNeg, at0, at1, at2, at3, at4, at5, at6, at7, sEO, sEN, sON, sNE, sNO, sOE, Rt, Leap.d, Leap.round])))
theorem bind_go {α β : Type} {a : Option α} {f : α → Option β} {x : α} {r : Option β} (h : a = some x) (h2 : f x = r) : a.bind f = r := by
  rw [h]
  exact h2
abbrev l8 (x1 x2 x3 x4 x5 x6 x7 x8 : D) : List (Str × D) := [("tick", x1), ("width", x2), ("into", x3), ("date", x4), ("leap", x5), ("cycles", x6), ("common", x7), ("longer", x8)]
theorem init_bind {row : D} {st s1 s2 s3 s4 s5 s6 s7 s8 s9 s10 s11 s12 s13 s14 : St4} {x1 x2 x3 x4 x5 x6 x7 x8 : D} {n N days months fd : Int} {yd ym : List Int}
    (h1 : e_tick [some .src, some row, none, none, none] st = some (x1, s1)) (h2 : e_width [some .src, some row, none, none, none] s1 = some (x2, s2)) (h3 : e_into [some .src, some row, none, none, none] s2 = some (x3, s3)) (h4 : e_date [some .src, some row, none, none, none] s3 = some (x4, s4))
    (h5 : e_leap [some .src, some row, none, none, none] s4 = some (x5, s5)) (h6 : e_cycles [some .src, some row, none, none, none] s5 = some (x6, s6)) (h7 : e_common [some .src, some row, none, none, none] s6 = some (x7, s7)) (h8 : e_longer [some .src, some row, none, none, none] s7 = some (x8, s8))
    (h9 : uInt e_years (sEn (l8 x1 x2 x3 x4 x5 x6 x7 x8) row none none) s8 = some (n, s9))
    (h10 : uInt e_upto (sEn ((l8 x1 x2 x3 x4 x5 x6 x7 x8 ++ [fD "years" n]) ++ yPair .src .src) row none none) s9 = some (N, s10)) (hN : -(2 ^ 62) ≤ N ∧ N < 2 ^ 62)
    (h11 : initGo (l8 x1 x2 x3 x4 x5 x6 x7 x8 ++ [fD "years" n]) row (rng 0 N) [0] [0] s10 = some (yd, ym, s11))
    (h12 : uInt e_days (sEn ((l8 x1 x2 x3 x4 x5 x6 x7 x8 ++ [fD "years" n]) ++ yPair (iL yd) (iL ym)) row none none) s11 = some (days, s12))
    (h13 : uInt e_months (sEn (((l8 x1 x2 x3 x4 x5 x6 x7 x8 ++ [fD "years" n]) ++ yPair (iL yd) (iL ym)) ++ [fD "days" days]) row none none) s12 = some (months, s13))
    (h14 : uInt e_first_day (sEn (((l8 x1 x2 x3 x4 x5 x6 x7 x8 ++ [fD "years" n]) ++ yPair (iL yd) (iL ym)) ++ [fD "days" days, fD "months" months]) row none none) s13 = some (fd, s14)) :
    f_Segment___init__ [row] st = some (((l8 x1 x2 x3 x4 x5 x6 x7 x8 ++ [fD "years" n]) ++ yPair (iL yd) (iL ym)) ++ [fD "days" days, fD "months" months, fD "first_day" fd], s14) := by
  unfold f_Segment___init__
  dsimp only
  rw [h1, Option.bind_some, h2, Option.bind_some, h3, Option.bind_some, h4, Option.bind_some, h5, Option.bind_some, h6, Option.bind_some, h7, Option.bind_some, h8, Option.bind_some]
  refine (congrArg (fun z => Option.bind z _) h9).trans ?_
  rw [Option.bind_some]
  refine (congrArg (fun z => Option.bind z _) h10).trans ?_
  rw [Option.bind_some, if_pos hN]
  refine (congrArg (fun z => Option.bind z _) h11).trans ?_
  rw [Option.bind_some]
  refine (congrArg (fun z => Option.bind z _) h12).trans ?_
  rw [Option.bind_some]
  refine (congrArg (fun z => Option.bind z _) h13).trans ?_
  rw [Option.bind_some]
  refine (congrArg (fun z => Option.bind z _) h14).trans ?_
  rfl
theorem f_Segment___init___eq (h : s.Ok) (hc : s.cycles.length ≤ 1000) (m1 : 1 ≤ s.m) (m2 : s.m ≤ (s.mon s.y).length) (st : St4) : f_Segment___init__ [s.row] st = some (s.fs, st) := by
  have hN := Sg.N_pos h
  have h1 : e_tick [some .src, some s.row, none, none, none] st = some (.int s.tick, st) := by simp [e_tick, uSeq, uIfS, uTst, uRel, uOp, uUn, uVar, uC, gv, bI2, dBool, uRet, uNext, uSet, uSetL, uDrop, dI2, dAdd, uTgt, uPar, uCall, uCallL, uMeth, aNil, aCons, aConsL, aSrc, uTup, uLst, uOfL, uLOf, uLVar, uUnL, uUnN, uIxL, uAnd, uOr, uNot, uIf, uTru, uTruL, bTru, bName, bTup, bNames, uItems, dIx, bEq, bNe, dInt, uAndV, uOrV, uNotV, uRetL, uRetN, dFld, dLen, lLen, dList, dTup, dNeg, at0, at1, at2, at3, at4, at5, at6, at7, sEO, sEN, sON, sNE, sNO, sOE, Sg.row]
  have h2 : e_width [some .src, some s.row, none, none, none] st = some (.int s.width, st) := by simp [e_width, uSeq, uIfS, uTst, uRel, uOp, uUn, uVar, uC, gv, bI2, dBool, uRet, uNext, uSet, uSetL, uDrop, dI2, dAdd, uTgt, uPar, uCall, uCallL, uMeth, aNil, aCons, aConsL, aSrc, uTup, uLst, uOfL, uLOf, uLVar, uUnL, uUnN, uIxL, uAnd, uOr, uNot, uIf, uTru, uTruL, bTru, bName, bTup, bNames, uItems, dIx, bEq, bNe, dInt, uAndV, uOrV, uNotV, uRetL, uRetN, dFld, dLen, lLen, dList, dTup, dNeg, at0, at1, at2, at3, at4, at5, at6, at7, sEO, sEN, sON, sNE, sNO, sOE, Sg.row]
  have h3 : e_into [some .src, some s.row, none, none, none] st = some (.int s.into, st) := by simp [e_into, uSeq, uIfS, uTst, uRel, uOp, uUn, uVar, uC, gv, bI2, dBool, uRet, uNext, uSet, uSetL, uDrop, dI2, dAdd, uTgt, uPar, uCall, uCallL, uMeth, aNil, aCons, aConsL, aSrc, uTup, uLst, uOfL, uLOf, uLVar, uUnL, uUnN, uIxL, uAnd, uOr, uNot, uIf, uTru, uTruL, bTru, bName, bTup, bNames, uItems, dIx, bEq, bNe, dInt, uAndV, uOrV, uNotV, uRetL, uRetN, dFld, dLen, lLen, dList, dTup, dNeg, at0, at1, at2, at3, at4, at5, at6, at7, sEO, sEN, sON, sNE, sNO, sOE, Sg.row]
  have h4 : e_date [some .src, some s.row, none, none, none] st = some (dt s.y s.m s.dd, st) := by simp [e_date, uSeq, uIfS, uTst, uRel, uOp, uUn, uVar, uC, gv, bI2, dBool, uRet, uNext, uSet, uSetL, uDrop, dI2, dAdd, uTgt, uPar, uCall, uCallL, uMeth, aNil, aCons, aConsL, aSrc, uTup, uLst, uOfL, uLOf, uLVar, uUnL, uUnN, uIxL, uAnd, uOr, uNot, uIf, uTru, uTruL, bTru, bName, bTup, bNames, uItems, dIx, bEq, bNe, dInt, uAndV, uOrV, uNotV, uRetL, uRetN, dFld, dLen, lLen, dList, dTup, dNeg, at0, at1, at2, at3, at4, at5, at6, at7, sEO, sEN, sON, sNE, sNO, sOE, Sg.row, dt]
  have h5 : e_leap [some .src, some s.row, none, none, none] st = some (s.leap.d, st) := by simp [e_leap, uSeq, uIfS, uTst, uRel, uOp, uUn, uVar, uC, gv, bI2, dBool, uRet, uNext, uSet, uSetL, uDrop, dI2, dAdd, uTgt, uPar, uCall, uCallL, uMeth, aNil, aCons, aConsL, aSrc, uTup, uLst, uOfL, uLOf, uLVar, uUnL, uUnN, uIxL, uAnd, uOr, uNot, uIf, uTru, uTruL, bTru, bName, bTup, bNames, uItems, dIx, bEq, bNe, dInt, uAndV, uOrV, uNotV, uRetL, uRetN, dFld, dLen, lLen, dList, dTup, dNeg, at0, at1, at2, at3, at4, at5, at6, at7, sEO, sEN, sON, sNE, sNO, sOE, Sg.row]
  have h6 : e_cycles [some .src, some s.row, none, none, none] st = some (.lst (s.cycles.map cycD), st) := by
    have q := cyc_go st [some .src, some s.row, none, none, none] rfl s.cycles
    have q2 : s.cycles.length ≤ 100000 := by omega
    simp [e_cycles, uSeq, uIfS, uTst, uRel, uOp, uUn, uVar, uC, gv, bI2, dBool, uRet, uNext, uSet, uSetL, uDrop, dI2, dAdd, uTgt, uPar, uCall, uCallL, uMeth, aNil, aCons, aConsL, aSrc, uTup, uLst, uOfL, uLOf, uLVar, uUnL, uUnN, uIxL, uAnd, uOr, uNot, uIf, uTru, uTruL, bTru, bName, bTup, bNames, uItems, dIx, bEq, bNe, dInt, uAndV, uOrV, uNotV, uRetL, uRetN, dFld, dLen, lLen, dList, dTup, dNeg, at0, at1, at2, at3, at4, at5, at6, at7, sEO, sEN, sON, sNE, sNO, sOE, uLc, Sg.row, wipeD, q2]
    simp only [uSeq, uIfS, uTst, uRel, uOp, uUn, uVar, uC, gv, bI2, dBool, uRet, uNext, uSet, uSetL, uDrop, dI2, dAdd, uTgt, uPar, uCall, uCallL, uMeth, aNil, aCons, aConsL, aSrc, uTup, uLst, uOfL, uLOf, uLVar, uUnL, uUnN, uIxL, uAnd, uOr, uNot, uIf, uTru, uTruL, bTru, bName, bTup, bNames, uItems, dIx, bEq, bNe, dInt, uAndV, uOrV, uNotV, uRetL, uRetN, dFld, dLen, lLen, dList, dTup, dNeg, at0, at1, at2, at3, at4, at5, at6, at7, sEO, sEN, sON, sNE, sNO, sOE, Sg.row] at q
    exact q
  have h7 : e_common [some .src, some s.row, none, none, none] st = some (iL (starts s.common), st) := by
    have q := f_starts_of_eq (d := iL s.common) (l := s.common) (by have := h.c.2.1; omega) (.inl rfl) st
    simp [e_common, uSeq, uIfS, uTst, uRel, uOp, uUn, uVar, uC, gv, bI2, dBool, uRet, uNext, uSet, uSetL, uDrop, dI2, dAdd, uTgt, uPar, uCall, uCallL, uMeth, aNil, aCons, aConsL, aSrc, uTup, uLst, uOfL, uLOf, uLVar, uUnL, uUnN, uIxL, uAnd, uOr, uNot, uIf, uTru, uTruL, bTru, bName, bTup, bNames, uItems, dIx, bEq, bNe, dInt, uAndV, uOrV, uNotV, uRetL, uRetN, dFld, dLen, lLen, dList, dTup, dNeg, at0, at1, at2, at3, at4, at5, at6, at7, sEO, sEN, sON, sNE, sNO, sOE, Sg.row, q]
    simp [iL]
  have h8 : e_longer [some .src, some s.row, none, none, none] st = some (iL (starts s.longer), st) := by
    have q := f_starts_of_eq (d := .tup (s.longer.map .int)) (l := s.longer) (by have := h.l.2.1; omega) (.inr rfl) st
    simp [e_longer, uSeq, uIfS, uTst, uRel, uOp, uUn, uVar, uC, gv, bI2, dBool, uRet, uNext, uSet, uSetL, uDrop, dI2, dAdd, uTgt, uPar, uCall, uCallL, uMeth, aNil, aCons, aConsL, aSrc, uTup, uLst, uOfL, uLOf, uLVar, uUnL, uUnN, uIxL, uAnd, uOr, uNot, uIf, uTru, uTruL, bTru, bName, bTup, bNames, uItems, dIx, bEq, bNe, dInt, uAndV, uOrV, uNotV, uRetL, uRetN, dFld, dLen, lLen, dList, dTup, dNeg, at0, at1, at2, at3, at4, at5, at6, at7, sEO, sEN, sON, sNE, sNO, sOE, Sg.row, q]
    simp [iL]
  have h9 : uInt e_years (sEn [("tick", .int s.tick), ("width", .int s.width), ("into", .int s.into), ("date", dt s.y s.m s.dd), ("leap", s.leap.d), ("cycles", .lst (s.cycles.map cycD)), ("common", iL (starts s.common)), ("longer", iL (starts s.longer))] s.row none none) st = some (s.N, st) := by
    have q : ([("tick", .int s.tick), ("width", .int s.width), ("into", .int s.into), ("date", dt s.y s.m s.dd), ("leap", s.leap.d), ("cycles", .lst (s.cycles.map cycD)), ("common", iL (starts s.common)), ("longer", iL (starts s.longer))] : List (Str × D)).lookup ("leap" : Str) = some s.leap.d := rfl
    have q2 := f_leap_round_eq h.leap st
    simp [e_years, uInt, sEn, uSeq, uIfS, uTst, uRel, uOp, uUn, uVar, uC, gv, bI2, dBool, uRet, uNext, uSet, uSetL, uDrop, dI2, dAdd, uTgt, uPar, uCall, uCallL, uMeth, aNil, aCons, aConsL, aSrc, uTup, uLst, uOfL, uLOf, uLVar, uUnL, uUnN, uIxL, uAnd, uOr, uNot, uIf, uTru, uTruL, bTru, bName, bTup, bNames, uItems, dIx, bEq, bNe, dInt, uAndV, uOrV, uNotV, uRetL, uRetN, dFld, dLen, lLen, dList, dTup, dNeg, at0, at1, at2, at3, at4, at5, at6, at7, sEO, sEN, sON, sNE, sNO, sOE, q, q2]
    rfl
  have h10 : uInt e_upto (sEn (s.fs9 ++ yPair .src .src) s.row none none) st = some (s.N, st) := by
    have q : (s.fs9 ++ yPair .src .src).lookup ("years" : Str) = some (.int s.N) := rfl
    simp [e_upto, uInt, sEn, uSeq, uIfS, uTst, uRel, uOp, uUn, uVar, uC, gv, bI2, dBool, uRet, uNext, uSet, uSetL, uDrop, dI2, dAdd, uTgt, uPar, uCall, uCallL, uMeth, aNil, aCons, aConsL, aSrc, uTup, uLst, uOfL, uLOf, uLVar, uUnL, uUnN, uIxL, uAnd, uOr, uNot, uIf, uTru, uTruL, bTru, bName, bTup, bNames, uItems, dIx, bEq, bNe, dInt, uAndV, uOrV, uNotV, uRetL, uRetN, dFld, dLen, lLen, dList, dTup, dNeg, at0, at1, at2, at3, at4, at5, at6, at7, sEO, sEN, sON, sNE, sNO, sOE, q]
  have h11 : initGo s.fs9 s.row (rng 0 s.N) [0] [0] st = some (tab s.pre s.N.toNat, tab s.cnt s.N.toNat, st) := by
    have q := initGo_eq h s.row st s.N.toNat 0 (by omega)
    have q2 : rng 0 s.N = (List.range' 0 s.N.toNat).map fun j => D.int (j : Nat) := by
      unfold rng
      rw [Int.sub_zero, List.range_eq_range']
      simp
    rw [q2]
    have q3 : tab s.pre 0 = [0] := rfl
    have q4 : tab s.cnt 0 = [0] := rfl
    rw [q3, q4, Nat.zero_add] at q
    exact q
  have h12 : uInt e_days (sEn s.fsA s.row none none) st = some (s.T, st) := by
    have q : s.fsA.lookup ("year_days" : Str) = some (iL (tab s.pre s.N.toNat)) := rfl
    have q2 : s.fsA.lookup ("years" : Str) = some (.int s.N) := rfl
    have q3 := tab_at s.pre (Nat.le_refl s.N.toNat)
    rw [Int.toNat_of_nonneg (by omega)] at q3
    simp [e_days, uInt, sEn, uSeq, uIfS, uTst, uRel, uOp, uUn, uVar, uC, gv, bI2, dBool, uRet, uNext, uSet, uSetL, uDrop, dI2, dAdd, uTgt, uPar, uCall, uCallL, uMeth, aNil, aCons, aConsL, aSrc, uTup, uLst, uOfL, uLOf, uLVar, uUnL, uUnN, uIxL, uAnd, uOr, uNot, uIf, uTru, uTruL, bTru, bName, bTup, bNames, uItems, dIx, bEq, bNe, dInt, uAndV, uOrV, uNotV, uRetL, uRetN, dFld, dLen, lLen, dList, dTup, dNeg, at0, at1, at2, at3, at4, at5, at6, at7, sEO, sEN, sON, sNE, sNO, sOE, q, q2]
    simp [iL, q3]
    rfl
  have h13 : uInt e_months (sEn (s.fsA ++ [fD "days" s.T]) s.row none none) st = some (s.cnt s.N.toNat, st) := by
    have q : (s.fsA ++ [fD "days" s.T]).lookup ("year_months" : Str) = some (iL (tab s.cnt s.N.toNat)) := rfl
    have q2 : (s.fsA ++ [fD "days" s.T]).lookup ("years" : Str) = some (.int s.N) := rfl
    have q3 := tab_at s.cnt (Nat.le_refl s.N.toNat)
    rw [Int.toNat_of_nonneg (by omega)] at q3
    simp [e_months, uInt, sEn, uSeq, uIfS, uTst, uRel, uOp, uUn, uVar, uC, gv, bI2, dBool, uRet, uNext, uSet, uSetL, uDrop, dI2, dAdd, uTgt, uPar, uCall, uCallL, uMeth, aNil, aCons, aConsL, aSrc, uTup, uLst, uOfL, uLOf, uLVar, uUnL, uUnN, uIxL, uAnd, uOr, uNot, uIf, uTru, uTruL, bTru, bName, bTup, bNames, uItems, dIx, bEq, bNe, dInt, uAndV, uOrV, uNotV, uRetL, uRetN, dFld, dLen, lLen, dList, dTup, dNeg, at0, at1, at2, at3, at4, at5, at6, at7, sEO, sEN, sON, sNE, sNO, sOE, q, q2]
    simp [iL, q3]
  have h14 : uInt e_first_day (sEn (s.fsA ++ [fD "days" s.T, fD "months" (s.cnt s.N.toNat)]) s.row none none) st = some (s.dn s.y s.m s.dd, st) := by
    have q := f_Segment_day_of_eq (s := s) (fs := s.fsA ++ [fD "days" s.T, fD "months" (s.cnt s.N.toNat)]) h rfl rfl rfl rfl rfl rfl rfl (d := s.dd) m1 m2 st
    have q1 : (s.fsA ++ [fD "days" s.T, fD "months" (s.cnt s.N.toNat)]).lookup ("day_of" : Str) = none := rfl
    have q2 : (s.fsA ++ [fD "days" s.T, fD "months" (s.cnt s.N.toNat)]).lookup ("date" : Str) = some (dt s.y s.m s.dd) := rfl
    simp [e_first_day, uInt, sEn, uSeq, uIfS, uTst, uRel, uOp, uUn, uVar, uC, gv, bI2, dBool, uRet, uNext, uSet, uSetL, uDrop, dI2, dAdd, uTgt, uPar, uCall, uCallL, uMeth, aNil, aCons, aConsL, aSrc, uTup, uLst, uOfL, uLOf, uLVar, uUnL, uUnN, uIxL, uAnd, uOr, uNot, uIf, uTru, uTruL, bTru, bName, bTup, bNames, uItems, dIx, bEq, bNe, dInt, uAndV, uOrV, uNotV, uRetL, uRetN, dFld, dLen, lLen, dList, dTup, dNeg, at0, at1, at2, at3, at4, at5, at6, at7, sEO, sEN, sON, sNE, sNO, sOE, q1, q2, q]
  exact init_bind h1 h2 h3 h4 h5 h6 h7 h8 h9 h10 ⟨by omega, by omega⟩ h11 h12 h13 h14
/-- the date at a day -/
theorem place_tab {f : Nat → Int} {n i : Nat} {r : Int} (mono : ∀ a b : Nat, a ≤ b → b ≤ n → f a ≤ f b) (hi : i < n) (h1 : f i ≤ r) (h2 : r < f (i + 1)) (hn : n ≤ 800) {xs : List Int} (hx : xs.length = n + 1) (hg : ∀ k, k ≤ n → xs.getD k 0 = f k) (st : St4) : f_place_in [iL xs, .int r] st = some (.int i, st) := by
  refine f_place_in_eq (by omega) (by omega) (fun j hj => ?_) (fun j hj hj2 => ?_) st
  · rw [hg j (by omega)]
    exact Int.le_trans (mono j i hj (by omega)) h1
  · rw [hg j (by omega)]
    exact Int.lt_of_lt_of_le h2 (mono (i + 1) j hj (by omega))
theorem take_mono {l : List Int} (h : ∀ x ∈ l, 1 ≤ x ∧ x ≤ 60) {a b : Nat} (hab : a ≤ b) (hb : b ≤ l.length) : (l.take a).sum ≤ (l.take b).sum := by
  induction b with
  | zero =>
    have : a = 0 := by omega
    subst this
    exact Int.le_refl _
  | succ b ih =>
    by_cases c : a = b + 1
    · subst c
      exact Int.le_refl _
    · have h1 := ih (by omega) (by omega)
      have h2 := Sg.sum_take (l := l) (k := b) (by omega)
      rw [List.getD_eq_getElem?_getD, List.getElem?_eq_getElem (by omega)] at h2
      have h3 := h l[b] (List.getElem_mem _)
      simp at h2
      omega
theorem f_Segment_date_of_eq (h : s.Ok) {y m d : Int} (v : s.Vd y m d) (st : St4) : f_Segment_date_of [s.ins, .int (s.dn y m d)] st = some (dt y m d, st) := by
  have hN := Sg.N_pos h
  have hT := Sg.T_bd h
  obtain ⟨m1, m2, d1, d2⟩ := v
  have b1 := Int.emod_nonneg y (show s.N ≠ 0 by omega)
  have b2 := Int.emod_lt_of_pos y (show 0 < s.N by omega)
  have hm := (h.mon y).2.2
  have hlen := (h.mon y).2.1
  -- within the year
  have r0 : (0 : Int) ≤ ((s.mon y).take (m - 1).toNat).sum := take_mono hm (Nat.zero_le _) (by omega)
  have r1 : ((s.mon y).take (m - 1).toNat).sum + (d - 1) < ((s.mon y).take ((m - 1).toNat + 1)).sum := by
    rw [Sg.sum_take (by omega)]
    have : s.md y m = (s.mon y).getD (m - 1).toNat 0 := rfl
    omega
  have r2 : ((s.mon y).take ((m - 1).toNat + 1)).sum ≤ s.L y := by
    have := take_mono hm (a := (m - 1).toNat + 1) (b := (s.mon y).length) (by omega) (Nat.le_refl _)
    rwa [List.take_length] at this
  obtain ⟨ms, hms⟩ : ∃ ms, ((s.mon y).take (m - 1).toNat).sum = ms := ⟨_, rfl⟩
  rw [hms] at r0 r1
  -- within the round
  obtain ⟨i, hi⟩ : ∃ i : Nat, (y % s.N).toNat = i := ⟨_, rfl⟩
  have hiN : i < s.N.toNat := by omega
  have eL : s.L (i : Int) = s.L y := by
    unfold Sg.L
    rw [show (i : Int) = y % s.N by omega, Sg.mon_mod h]
  have p0 := Sg.pre_bd h i
  have p1 : s.pre (i + 1) = s.pre i + s.L y := by rw [← eL] <;> rfl
  have p2 : s.pre (i + 1) ≤ s.T := Sg.pre_mono h (by omega)
  have edn : s.dn y m d = (s.pre i + ms + (d - 1)) + s.T * (y / s.N) := by
    unfold Sg.dn Sg.ys
    rw [hi, hms, Int.mul_comm s.T]
    omega
  have q1 : s.dn y m d % s.T = s.pre i + ms + (d - 1) := by
    rw [edn, Int.add_mul_emod_self_left]
    exact Int.emod_eq_of_lt (by omega) (by omega)
  have q2 : s.dn y m d / s.T = y / s.N := by
    rw [edn, Int.add_mul_ediv_left _ _ (by omega), Int.ediv_eq_zero_of_lt (by omega) (by omega), Int.zero_add]
  have ey : y / s.N * s.N + (i : Int) = y := by
    have := Int.emod_add_mul_ediv y s.N
    rw [Int.mul_comm]
    omega
  have e1 : iMod (s.dn y m d) s.T = some (s.pre i + ms + (d - 1)) := by rw [iMod_eq (by omega), q1]
  have e2 : iDiv (s.dn y m d) s.T = some (y / s.N) := by rw [iDiv_eq (by omega) (by omega), q2]
  have e3 : f_place_in [iL (tab s.pre s.N.toNat), .int (s.pre i + ms + (d - 1))] st = some (.int i, st) :=
    place_tab (n := s.N.toNat) (fun a b hab hb => Sg.pre_mono h hab) hiN (by omega) (by omega) (by omega) (tab_len _ _) (fun k hk => tab_get _ hk) st
  have e4 : iMul (y / s.N) s.N = some (y / s.N * s.N) := iMul_eqR (by omega) (by omega)
  have e5 := tab_at s.pre (n := s.N.toNat) (k := i) (by omega)
  have e6 := f_Segment_starts_eq (s := s) (fs := s.fs) h rfl rfl rfl y st
  have e7 : f_place_in [iL (starts (s.mon y)), .int (ms + (d - 1))] st = some (.int (m - 1), st) := by
    have := place_tab (f := fun k => ((s.mon y).take k).sum) (n := (s.mon y).length) (i := (m - 1).toNat) (r := ms + (d - 1)) (fun a b hab hb => take_mono hm hab hb) (by omega) (by show ((s.mon y).take (m - 1).toNat).sum ≤ _; omega) (by omega) (by omega) (starts_len _) (fun k hk => starts_get _ hk) st
    rw [this, Int.toNat_of_nonneg (by omega)]
  have e8 : atI ((starts (s.mon y)).map D.int) (m - 1) = some (.int ms) := by
    have := atI_map (xs := starts (s.mon y)) (i := m - 1) (by omega) (by rw [starts_len]; omega)
    rwa [starts_get _ (by omega), hms] at this
  have l1 : s.fs.lookup ("days" : Str) = some (.int s.T) := rfl
  have l2 : s.fs.lookup ("year_days" : Str) = some (iL (tab s.pre s.N.toNat)) := rfl
  have l3 : s.fs.lookup ("years" : Str) = some (.int s.N) := rfl
  have l4 : s.fs.lookup ("starts" : Str) = none := rfl
  refine Rt.fin (.go (ρ1 := [some s.ins, some (.int (s.dn y m d)), some (.int (s.pre i + ms + (d - 1))), none, none, none, none]) (st1 := st) ?_ (.go (ρ1 := [some s.ins, some (.int (s.dn y m d)), some (.int (s.pre i + ms + (d - 1))), some (.int i), none, none, none]) (st1 := st) ?_
    (.go (ρ1 := [some s.ins, some (.int (s.dn y m d)), some (.int (s.pre i + ms + (d - 1))), some (.int i), some (.int y), none, none]) (st1 := st) ?_ (.go (ρ1 := [some s.ins, some (.int (s.dn y m d)), some (.int (ms + (d - 1))), some (.int i), some (.int y), none, none]) (st1 := st) ?_
    (.go (ρ1 := [some s.ins, some (.int (s.dn y m d)), some (.int (ms + (d - 1))), some (.int i), some (.int y), some (iL (starts (s.mon y))), none]) (st1 := st) ?_ (.go (ρ1 := [some s.ins, some (.int (s.dn y m d)), some (.int (ms + (d - 1))), some (.int i), some (.int y), some (iL (starts (s.mon y))), some (.int (m - 1))]) (st1 := st) ?_ (.ret ?_)))))))
  · simp [uSeq, uIfS, uTst, uRel, uOp, uUn, uVar, uC, gv, bI2, dBool, uRet, uNext, uSet, uSetL, uDrop, dI2, dAdd, uTgt, uPar, uCall, uCallL, uMeth, aNil, aCons, aConsL, aSrc, uTup, uLst, uOfL, uLOf, uLVar, uUnL, uUnN, uIxL, uAnd, uOr, uNot, uIf, uTru, uTruL, bTru, bName, bTup, bNames, uItems, dIx, bEq, bNe, dInt, uAndV, uOrV, uNotV, uRetL, uRetN, dFld, dLen, lLen, dList, dTup, dNeg, at0, at1, at2, at3, at4, at5, at6, at7, sEO, sEN, sON, sNE, sNO, sOE, Sg.ins, l1, e1]
  · simp [uSeq, uIfS, uTst, uRel, uOp, uUn, uVar, uC, gv, bI2, dBool, uRet, uNext, uSet, uSetL, uDrop, dI2, dAdd, uTgt, uPar, uCall, uCallL, uMeth, aNil, aCons, aConsL, aSrc, uTup, uLst, uOfL, uLOf, uLVar, uUnL, uUnN, uIxL, uAnd, uOr, uNot, uIf, uTru, uTruL, bTru, bName, bTup, bNames, uItems, dIx, bEq, bNe, dInt, uAndV, uOrV, uNotV, uRetL, uRetN, dFld, dLen, lLen, dList, dTup, dNeg, at0, at1, at2, at3, at4, at5, at6, at7, sEO, sEN, sON, sNE, sNO, sOE, Sg.ins, l2, e3]
  · simp [uSeq, uIfS, uTst, uRel, uOp, uUn, uVar, uC, gv, bI2, dBool, uRet, uNext, uSet, uSetL, uDrop, dI2, dAdd, uTgt, uPar, uCall, uCallL, uMeth, aNil, aCons, aConsL, aSrc, uTup, uLst, uOfL, uLOf, uLVar, uUnL, uUnN, uIxL, uAnd, uOr, uNot, uIf, uTru, uTruL, bTru, bName, bTup, bNames, uItems, dIx, bEq, bNe, dInt, uAndV, uOrV, uNotV, uRetL, uRetN, dFld, dLen, lLen, dList, dTup, dNeg, at0, at1, at2, at3, at4, at5, at6, at7, sEO, sEN, sON, sNE, sNO, sOE, Sg.ins, l1, l3, e2, e4, ey]
  · simp [uSeq, uIfS, uTst, uRel, uOp, uUn, uVar, uC, gv, bI2, dBool, uRet, uNext, uSet, uSetL, uDrop, dI2, dAdd, uTgt, uPar, uCall, uCallL, uMeth, aNil, aCons, aConsL, aSrc, uTup, uLst, uOfL, uLOf, uLVar, uUnL, uUnN, uIxL, uAnd, uOr, uNot, uIf, uTru, uTruL, bTru, bName, bTup, bNames, uItems, dIx, bEq, bNe, dInt, uAndV, uOrV, uNotV, uRetL, uRetN, dFld, dLen, lLen, dList, dTup, dNeg, at0, at1, at2, at3, at4, at5, at6, at7, sEO, sEN, sON, sNE, sNO, sOE, Sg.ins, l2]
    simp [iL, e5]
    omega
  · simp [uSeq, uIfS, uTst, uRel, uOp, uUn, uVar, uC, gv, bI2, dBool, uRet, uNext, uSet, uSetL, uDrop, dI2, dAdd, uTgt, uPar, uCall, uCallL, uMeth, aNil, aCons, aConsL, aSrc, uTup, uLst, uOfL, uLOf, uLVar, uUnL, uUnN, uIxL, uAnd, uOr, uNot, uIf, uTru, uTruL, bTru, bName, bTup, bNames, uItems, dIx, bEq, bNe, dInt, uAndV, uOrV, uNotV, uRetL, uRetN, dFld, dLen, lLen, dList, dTup, dNeg, at0, at1, at2, at3, at4, at5, at6, at7, sEO, sEN, sON, sNE, sNO, sOE, Sg.ins, l4, e6]
  · simp [uSeq, uIfS, uTst, uRel, uOp, uUn, uVar, uC, gv, bI2, dBool, uRet, uNext, uSet, uSetL, uDrop, dI2, dAdd, uTgt, uPar, uCall, uCallL, uMeth, aNil, aCons, aConsL, aSrc, uTup, uLst, uOfL, uLOf, uLVar, uUnL, uUnN, uIxL, uAnd, uOr, uNot, uIf, uTru, uTruL, bTru, bName, bTup, bNames, uItems, dIx, bEq, bNe, dInt, uAndV, uOrV, uNotV, uRetL, uRetN, dFld, dLen, lLen, dList, dTup, dNeg, at0, at1, at2, at3, at4, at5, at6, at7, sEO, sEN, sON, sNE, sNO, sOE, Sg.ins, e7]
  · simp [uSeq, uIfS, uTst, uRel, uOp, uUn, uVar, uC, gv, bI2, dBool, uRet, uNext, uSet, uSetL, uDrop, dI2, dAdd, uTgt, uPar, uCall, uCallL, uMeth, aNil, aCons, aConsL, aSrc, uTup, uLst, uOfL, uLOf, uLVar, uUnL, uUnN, uIxL, uAnd, uOr, uNot, uIf, uTru, uTruL, bTru, bName, bTup, bNames, uItems, dIx, bEq, bNe, dInt, uAndV, uOrV, uNotV, uRetL, uRetN, dFld, dLen, lLen, dList, dTup, dNeg, at0, at1, at2, at3, at4, at5, at6, at7, sEO, sEN, sON, sNE, sNO, sOE, Sg.ins]
    simp [iL, e8, dt]
    omega
end Fw
set_option Elab.async false
set_option linter.all false
set_option maxRecDepth 100000
set_option maxHeartbeats 4000000
namespace Fw
open PySem PySem.Spec L2
/-! ### draws -/
theorem pk (many : Int) (h1 : 1 < many) (h2 : many < 2 ^ 200) (st : St4) : ∃ r st', f_law_pick [.src, .int many] st = some (.int r, st') ∧ 0 ≤ r ∧ r < many := by
  obtain ⟨r, st', e, a, b, _⟩ := f_law_pick_ok many h2 st
  exact ⟨r, st', e, a, b h1⟩
theorem pk0 (many : Int) (h2 : many < 2 ^ 200) (st : St4) : ∃ r st', f_law_pick [.src, .int many] st = some (.int r, st') ∧ 0 ≤ r ∧ (1 ≤ many → r < many) ∧ (many ≤ 1 → r = 0) := by
  obtain ⟨r, st', e, a, b, c⟩ := f_law_pick_ok many h2 st
  exact ⟨r, st', e, a, fun h => by
    by_cases q : 1 < many
    · exact b q
    · have := c (by omega)
      omega, c⟩
inductive All2 (P : D → D → Prop) : List D → List D → Prop
  | nil : All2 P [] []
  | cons {d y : D} {ds ys : List D} : P d y → All2 P ds ys → All2 P (d :: ds) (y :: ys)
theorem All2.len {P : D → D → Prop} : ∀ {ds ys : List D}, All2 P ds ys → ys.length = ds.length
  | _, _, .nil => rfl
  | _, _, .cons _ r => congrArg Nat.succ r.len
/-- a comprehension of draws -/
theorem lc_draw {bd : D → En → Option En} {e : UE} {ρ0 : En} {P : D → D → Prop} : ∀ (ds : List D), (∀ d ∈ ds, ∀ st, ∃ ρ1 y st', bd d ρ0 = some ρ1 ∧ e ρ1 st = some (y, st') ∧ P d y) → ∀ st, ∃ ys st', uLcGo bd tYesU e ρ0 ds st = some (ys, st') ∧ All2 P ds ys
  | [], _, st => ⟨[], st, rfl, .nil⟩
  | d :: ds, h, st => by
    obtain ⟨ρ1, y, st1, e1, e2, p⟩ := h d List.mem_cons_self st
    obtain ⟨ys, st', r, a⟩ := lc_draw ds (fun d hd => h d (List.mem_cons_of_mem _ hd)) st1
    refine ⟨y :: ys, st', ?_, .cons p a⟩
    show ((bd d ρ0).bind fun ρ => ((some (true, st) : Option (Bool × St4)).bind fun b => if b.1 = true then (e ρ b.2).bind fun y => (uLcGo bd tYesU e ρ0 ds y.2).map fun r => (y.1 :: r.1, r.2) else uLcGo bd tYesU e ρ0 ds b.2)) = _
    rw [e1, Option.bind_some, Option.bind_some]
    show ((e ρ1 st).bind fun y => (uLcGo bd tYesU e ρ0 ds y.2).map fun r => (y.1 :: r.1, r.2)) = _
    rw [e2, Option.bind_some, r] <;> rfl
theorem rng_len0 (n : Int) : (rng 0 n).length = n.toNat := by
  unfold rng
  rw [List.length_map, List.length_range, Int.sub_zero]
theorem mem_rng {n : Int} {d : D} (h : d ∈ rng 0 n) : ∃ k : Nat, d = .int k ∧ (k : Int) < n := by
  unfold rng at h
  obtain ⟨k, hk, rfl⟩ := List.mem_map.mp h
  rw [List.mem_range, Int.sub_zero] at hk
  exact ⟨k, by simp, by omega⟩
theorem uLc_eq {vs : List Nat} {it : UL} {bd : D → En → Option En} {t : UT} {e : UE} {ρ : En} {st st1 : St4} {ds : List D} {r : Option (List D × St4)} (h : it ρ st = some (ds, st1)) (hl : ds.length ≤ 100000) (h2 : uLcGo bd t e (wipeD ρ vs) ds st1 = r) : uLc vs it bd t e ρ st = r := by
  unfold uLc
  rw [h, Option.bind_some]
  exact (if_pos hl).trans h2
/-! ### names -/
theorem cutS_len (z : Str) (lo hi : Option Int) : (cutS z lo hi).length ≤ z.length := by
  unfold cutS Str.length
  simp
  omega
theorem f_law_one_str {z : Str} (h1 : 1 < z.length) (h2 : z.length ≤ 1000) (st : St4) : ∃ w st', f_law_one [.src, .str z] st = some (.str w, st') ∧ w.length = 1 ∧ ∀ c ∈ w.cps.toList, c ∈ z.cps.toList := by
  obtain ⟨r, st', e, a, b⟩ := pk z.length (by omega) (by omega) st
  obtain ⟨c, e2⟩ : ∃ c, atI z.cps.toList r = some c := ⟨_, atI_of a (List.getElem?_eq_getElem (by simp; unfold Str.length at b; omega))⟩
  have h4 : z.length ≤ 100000 := by omega
  have hc : c ∈ z.cps.toList := by
    unfold atI at e2
    obtain ⟨j, _, hj⟩ := Option.bind_eq_some_iff.mp e2
    exact List.mem_of_getElem? hj
  refine ⟨⟨#[c]⟩, st', Rt.fin (.ret ?_), rfl, fun c' h' => by
    have : c' = c := by simpa using h'
    rw [this]
    exact hc⟩
  simp only [uSeq, uIfS, uTst, uRel, uOp, uUn, uVar, uC, gv, bI2, dBool, uRet, uNext, uSet, uSetL, uDrop, dI2, dAdd, uTgt, uPar, uCall, uCallL, uMeth, aNil, aCons, aConsL, aSrc, uTup, uLst, uOfL, uLOf, uLVar, uUnL, uUnN, uIxL, uAnd, uOr, uNot, uIf, uTru, uTruL, bTru, bName, bTup, bNames, uItems, dIx, bEq, bNe, dInt, uAndV, uOrV, uNotV, uRetL, uRetN, dFld, dLen, lLen, dList, dTup, dNeg, at0, at1, at2, at3, at4, at5, at6, at7, sEO, sEN, sON, sNE, sNO, sOE, List.map, List.length, List.replicate]
  simp [e, h2, h4, e2]
theorem str_app {a b c : Str} (h : a ++ b = a ++ c) : b = c := by
  have h1 : (a ++ b).cps.toList = (a ++ c).cps.toList := by rw [h]
  have h2 : ∀ x y : Str, (x ++ y).cps.toList = x.cps.toList ++ y.cps.toList := fun x y => by
    show (x.cps ++ y.cps).toList = _
    simp
  rw [h2, h2] at h1
  have h3 := List.append_cancel_left h1
  cases b
  cases c
  simp at h3
  rw [h3]
theorem str_len_app (a b : Str) : (a ++ b).length = a.length + b.length := Str.length_append a b
/-- small signs -/
def Cb (x : Str) : Prop := ∀ c ∈ x.cps.toList, c < 200
instance (x : Str) : Decidable (Cb x) := inferInstanceAs (Decidable (∀ c ∈ x.cps.toList, c < 200))
theorem Cb.app {a b : Str} (ha : Cb a) (hb : Cb b) : Cb (a ++ b) := fun c h => by
  have h' : c ∈ (a.cps ++ b.cps).toList := h
  rw [Array.toList_append] at h'
  exact (List.mem_append.mp h').elim (ha c) (hb c)
theorem Cb.cut {a : Str} (ha : Cb a) (lo hi : Option Int) : Cb (cutS a lo hi) := fun c h => by
  unfold cutS at h
  exact ha c (List.mem_of_mem_drop (List.mem_of_mem_take (by simpa using h)))
theorem Cb.join : ∀ {ws : List Str}, (∀ w ∈ ws, Cb w) → Cb (Str.join "" ws)
  | [], _ => fun c h => by
    have h' : c ∈ (Str.empty).cps.toList := h
    simp [Str.empty] at h'
  | [w], h => h w List.mem_cons_self
  | w :: v :: r, h => ((h w List.mem_cons_self).app (fun c z => by
    have z' : c ∈ (Str.ofString "").cps.toList := z
    have e : (Str.ofString "").cps.toList = [] := by decide
    rw [e] at z'
    cases z')).app (Cb.join fun u hu => h u (List.mem_cons_of_mem _ hu))
structure Nm (w : Str) : Prop where
  l : w.length ≤ 200
  c : Cb w
/-- the first of the names that is not taken -/
theorem filt_go {ts : List Str} (st : St4) {ρ0 : En} (h : ρ0[1]? = some (some (.lst (ts.map .str)))) (hl : ρ0.length = 10) : ∀ fs : List Str, uLcGo (bName 9) (uTst dBool (uInL true (uVar 9) (uLVar 1))) (uVar 9) ρ0 (fs.map .str) st = some ((fs.filter fun f => !decide (f ∈ ts)).map .str, st)
  | [] => rfl
  | f :: fs => by
    have ih := filt_go st h hl fs
    have g9 : gv (ρ0.set 9 (some (.str f))) 9 = some (.str f) := by
      unfold gv
      rw [List.getElem?_set_self (by omega)] <;> rfl
    have g1 : gv (ρ0.set 9 (some (.str f))) 1 = some (.lst (ts.map .str)) := by
      unfold gv
      rw [List.getElem?_set_ne (by decide), h] <;> rfl
    show ((some (ρ0.set 9 (some (D.str f))) : Option En).bind fun ρ => ((uTst dBool (uInL true (uVar 9) (uLVar 1))) ρ st).bind fun b => if b.1 = true then ((uVar 9) ρ b.2).bind fun y => (uLcGo (bName 9) (uTst dBool (uInL true (uVar 9) (uLVar 1))) (uVar 9) ρ0 (fs.map .str) y.2).map fun r => (y.1 :: r.1, r.2) else uLcGo (bName 9) (uTst dBool (uInL true (uVar 9) (uLVar 1))) (uVar 9) ρ0 (fs.map .str) b.2) = _
    rw [Option.bind_some]
    have t : (uTst dBool (uInL true (uVar 9) (uLVar 1))) (ρ0.set 9 (some (.str f))) st = some (!decide (f ∈ ts), st) := by
      unfold uTst uInL uVar uLVar
      simp [g9, g1, bInL, asS_map, dBool]
    rw [t, Option.bind_some]
    by_cases c : f ∈ ts
    · have c1 : (!decide (f ∈ ts)) = false := by simp [c]
      rw [c1, List.filter_cons_of_neg (by simp [c])]
      exact ih
    · have c1 : (!decide (f ∈ ts)) = true := by simp [c]
      rw [c1, List.filter_cons_of_pos (by simp [c])]
      have v : uVar 9 (ρ0.set 9 (some (.str f))) st = some (.str f, st) := by
        unfold uVar
        rw [g9] <;> rfl
      show ((uVar 9 (ρ0.set 9 (some (.str f))) st).bind fun y => _) = _
      rw [v, Option.bind_some]
      show ((uLcGo _ _ _ ρ0 (fs.map .str) st).map fun r => _) = _
      rw [ih] <;> rfl
theorem str100 : ((toString (0 + 100 : Int) : String) : Str) ≠ ((toString (1 + 100 : Int) : String) : Str) := by decide
theorem first_free {ts : List Str} (ht : ts.length ≤ 1) {x : Str} {y z : Str} (hyz : y ≠ z) (r : List Str) (hy : y ∈ r) (hz : z ∈ r) : ∃ w ws, (x :: r).filter (fun f => !decide (f ∈ ts)) = w :: ws ∧ w ∉ ts ∧ w ∈ x :: r := by
  have ex : ∃ a ∈ r, a ∉ ts := by
    match ts, ht with
    | [], _ => exact ⟨y, hy, by simp⟩
    | [t], _ =>
      by_cases c : y = t
      · exact ⟨z, hz, by simp; exact fun q => hyz (c.trans q.symm)⟩
      · exact ⟨y, hy, by simp; exact c⟩
  obtain ⟨a, ha, hn⟩ := ex
  have hm : a ∈ (x :: r).filter (fun f => !decide (f ∈ ts)) := List.mem_filter.mpr ⟨List.mem_cons_of_mem _ ha, by simp [hn]⟩
  cases e : (x :: r).filter (fun f => !decide (f ∈ ts)) with
  | nil =>
    rw [e] at hm
    cases hm
  | cons w ws =>
    have hw : w ∈ (x :: r).filter (fun f => !decide (f ∈ ts)) := by
      rw [e]
      exact List.mem_cons_self
    obtain ⟨h1, h2⟩ := List.mem_filter.mp hw
    exact ⟨w, ws, rfl, by simpa using h2, h1⟩
/-- the texts behind a first part -/
def numd (p : Str) (k : Nat) : Str := p ++ ((toString ((k : Int) + 100) : String) : Str)
def fEn (ts : List Str) (sz : Int) (nm : Str) (pl : Int) (o : Option D) : En := [some .src, some (.lst (ts.map .str)), some (.str "abcdefghijlmnopqrstuvwxyz"), some (.str "0123456789"), some (.int sz), some (.str nm), some (.int pl), o, none, none]
theorem numd_go (st : St4) {ts : List Str} {sz pl : Int} {nm : Str} (hn : nm.length ≤ 200) : ∀ (c i : Nat), i + c ≤ 1000 → uLcGo (bName 8) tYesU (uOp dAdd (uSl (uVar 5) none (some (uC (.int 9)))) (uUn dStr (uOp dAdd (uVar 8) (uC (.int 100))))) (fEn ts sz nm pl none) ((List.range' i c).map fun j => D.int (j : Nat)) st = some (((List.range' i c).map fun k => D.str (numd (cutS nm none (some 9)) k)), st)
  | 0, _, _ => rfl
  | c + 1, i, h => by
    have ih := numd_go st (ts := ts) (sz := sz) (pl := pl) hn c (i + 1) (by omega)
    rw [List.range'_succ, List.map_cons, List.map_cons]
    have l1 := cutS_len nm none (some 9)
    have l2 : (((i : Int) + 100).natAbs).log2 < 1920 := by
      have := log2_le (n := ((i : Int) + 100).natAbs) (k := 1000) (by
        have : ((i : Int) + 100).natAbs < 2 ^ 11 := by omega
        exact Nat.lt_of_lt_of_le this (Nat.pow_le_pow_right (by decide) (by decide)))
      omega
    obtain ⟨S, hS⟩ : ∃ S, ((toString ((i : Int) + 100) : String) : Str) = S := ⟨_, rfl⟩
    have l3 : S.length ≤ 100 := by
      rw [← hS, ofString_length]
      have := int_text_length_le10 (a := (i : Int) + 100) (k := 4) (by decide) (by omega)
      omega
    have e1 : (uUn dStr (uOp dAdd (uVar 8) (uC (.int 100)))) ((fEn ts sz nm pl none).set 8 (some (.int (i : Nat)))) st = some (.str S, st) := by
      show (dStr (.int ((i : Int) + 100))).map (fun z => (z, st)) = _
      unfold dStr
      show (if ((i : Int) + 100).natAbs.log2 < 1920 then some (D.str (toString ((i : Int) + 100) : String)) else none).map (fun z => (z, st)) = _
      rw [if_pos l2, hS] <;> rfl
    have e0 : (uSl (uVar 5) none (some (uC (.int 9)))) ((fEn ts sz nm pl none).set 8 (some (.int (i : Nat)))) st = some (.str (cutS nm none (some 9)), st) := by
      have hn2 : nm.length ≤ 1000 := by omega
      simp [uSeq, uIfS, uTst, uRel, uOp, uUn, uVar, uC, gv, bI2, dBool, uRet, uNext, uSet, uSetL, uDrop, dI2, dAdd, uTgt, uPar, uCall, uCallL, uMeth, aNil, aCons, aConsL, aSrc, uTup, uLst, uOfL, uLOf, uLVar, uUnL, uUnN, uIxL, uAnd, uOr, uNot, uIf, uTru, uTruL, bTru, bName, bTup, bNames, uItems, dIx, bEq, bNe, dInt, uAndV, uOrV, uNotV, uRetL, uRetN, dFld, dLen, lLen, dList, dTup, dNeg, at0, at1, at2, at3, at4, at5, at6, at7, sEO, sEN, sON, sNE, sNO, sOE, fEn, uSl, uPart, dSl, hn2]
    have e : (uOp dAdd (uSl (uVar 5) none (some (uC (.int 9)))) (uUn dStr (uOp dAdd (uVar 8) (uC (.int 100))))) ((fEn ts sz nm pl none).set 8 (some (.int (i : Nat)))) st = some (.str (numd (cutS nm none (some 9)) i), st) := by
      unfold uOp
      rw [e0, Option.bind_some, show (uUn dStr fun ρ st => (uVar 8 ρ st).bind fun x => (uC (.int 100) ρ x.2).bind fun y => (dAdd x.1 y.1).map fun z => (z, y.2)) _ _ = _ from e1, Option.bind_some]
      show (dAdd (.str (cutS nm none (some 9))) (.str S)).map _ = _
      unfold dAdd
      show (if (cutS nm none (some 9)).length + S.length ≤ 100000 then some (D.str (cutS nm none (some 9) ++ S)) else none).map (fun z => (z, st)) = _
      rw [if_pos (by omega)]
      unfold numd
      rw [hS] <;> rfl
    show ((some ((fEn ts sz nm pl none).set 8 (some (D.int (i : Nat)))) : Option En).bind fun ρ => ((some (true, st) : Option (Bool × St4)).bind fun b => if b.1 = true then (_ : Option (D × St4)).bind fun y => (_ : Option (List D × St4)).map fun r => (y.1 :: r.1, r.2) else _)) = _
    rw [Option.bind_some, Option.bind_some]
    show ((_ : Option (D × St4)).bind fun y => (_ : Option (List D × St4)).map fun r => (y.1 :: r.1, r.2)) = _
    rw [e, Option.bind_some, ih] <;> rfl
end Fw
set_option Elab.async false
set_option linter.all false
set_option maxRecDepth 100000
set_option maxHeartbeats 4000000
namespace Fw
open PySem PySem.Spec L2
abbrev letS : Str := "abcdefghijlmnopqrstuvwxyz"
abbrev figS : Str := "0123456789"
theorem letS_len : letS.length = 25 := by decide
theorem figS_len : figS.length = 10 := by decide
theorem Cb_let : Cb letS := by decide
theorem Cb_fig : Cb figS := by decide
theorem Cb_num : ∀ k ∈ List.range' 0 200, Cb ((toString ((k : Int) + 100) : String) : Str) ∧ ((toString ((k : Int) + 100) : String) : Str).length ≤ 10 := by decide +kernel
theorem all2_strs {n : Nat} : ∀ {ds ys : List D}, All2 (fun _ y => ∃ w : Str, y = .str w ∧ w.length ≤ n ∧ Cb w) ds ys → ∃ ws : List Str, ys = ws.map .str ∧ ws.length = ds.length ∧ (ws.map (·.length)).sum ≤ n * ds.length ∧ ∀ w ∈ ws, Cb w
  | _, _, .nil => ⟨[], rfl, rfl, by simp, fun _ h => by cases h⟩
  | _, _, .cons ⟨w, h1, h2, hc⟩ r => by
    obtain ⟨ws, h3, h4, h5, h6⟩ := all2_strs r
    refine ⟨w :: ws, by rw [h1, h3] <;> rfl, by rw [List.length_cons, h4, List.length_cons], ?_, fun v hv => (List.mem_cons.mp hv).elim (fun e => e ▸ hc) (h6 v)⟩
    rw [List.map_cons, List.sum_cons, List.length_cons, Nat.mul_succ]
    omega
def nEn (ts : List Str) (a b : Option D) (c d e : Option D) : En := [some .src, some (.lst (ts.map .str)), a, b, c, d, e, none, none, none]
theorem f_law_name_ok {ts : List Str} (ht : ts.length ≤ 1) (st : St4) : ∃ w st', f_law_name [.src, .lst (ts.map .str)] st = some (.str w, st') ∧ w ∉ ts ∧ Nm w := by
  -- size
  obtain ⟨sz, st2, hs, z0, z1⟩ : ∃ sz st2, (uIf (uTst dBool (uRel bEq (uCall f_law_pick [] (aSrc 0 (aCons (uC (.int 4)) aNil))) (uC (.int 0)))) (uCall f_law_pick [] (aSrc 0 (aCons (uC (.int 12)) aNil))) (uCall f_law_pick [] (aSrc 0 (aCons (uC (.int 3)) aNil)))) (nEn ts (some (.str letS)) (some (.str figS)) none none none) st = some (.int sz, st2) ∧ 0 ≤ sz ∧ sz < 12 := by
    obtain ⟨p, s1, e1, _, _⟩ := pk 4 (by decide) (by decide) st
    by_cases c : p = 0
    · obtain ⟨q, s2, e2, b1, b2⟩ := pk 12 (by decide) (by decide) s1
      exact ⟨q, s2, (by simp [uSeq, uIfS, uTst, uRel, uOp, uUn, uVar, uC, gv, bI2, dBool, uRet, uNext, uSet, uSetL, uDrop, dI2, dAdd, uTgt, uPar, uCall, uCallL, uMeth, aNil, aCons, aConsL, aSrc, uTup, uLst, uOfL, uLOf, uLVar, uUnL, uUnN, uIxL, uAnd, uOr, uNot, uIf, uTru, uTruL, bTru, bName, bTup, bNames, uItems, dIx, bEq, bNe, dInt, uAndV, uOrV, uNotV, uRetL, uRetN, dFld, dLen, lLen, dList, dTup, dNeg, at0, at1, at2, at3, at4, at5, at6, at7, sEO, sEN, sON, sNE, sNO, sOE, nEn, e1, e2, c]), b1, b2⟩
    · obtain ⟨q, s2, e2, b1, b2⟩ := pk 3 (by decide) (by decide) s1
      exact ⟨q, s2, (by simp [uSeq, uIfS, uTst, uRel, uOp, uUn, uVar, uC, gv, bI2, dBool, uRet, uNext, uSet, uSetL, uDrop, dI2, dAdd, uTgt, uPar, uCall, uCallL, uMeth, aNil, aCons, aConsL, aSrc, uTup, uLst, uOfL, uLOf, uLVar, uUnL, uUnN, uIxL, uAnd, uOr, uNot, uIf, uTru, uTruL, bTru, bName, bTup, bNames, uItems, dIx, bEq, bNe, dInt, uAndV, uOrV, uNotV, uRetL, uRetN, dFld, dLen, lLen, dList, dTup, dNeg, at0, at1, at2, at3, at4, at5, at6, at7, sEO, sEN, sON, sNE, sNO, sOE, nEn, e1, e2, c]), b1, by omega⟩
  -- the name
  obtain ⟨nm, st3, hn, n1, nc1⟩ : ∃ nm st3, (uOp dAdd (uCall f_law_one [] (aSrc 0 (aCons (uVar 2) aNil))) (uJoin ("" : PySem.Str) (uLc [8] (uRng1 (uVar 4)) (bName 8) tYesU (uCall f_law_one [] (aSrc 0 (aCons (uOp dAdd (uVar 2) (uVar 3)) aNil)))))) (nEn ts (some (.str letS)) (some (.str figS)) (some (.int sz)) none none) st2 = some (.str nm, st3) ∧ nm.length ≤ 50 ∧ Cb nm := by
    obtain ⟨w0, s1, e1, l1, c1⟩ := f_law_one_str (z := letS) (by decide) (by decide) st2
    obtain ⟨ys, s2, e2, a2⟩ := lc_draw (bd := bName 8) (e := uCall f_law_one [] (aSrc 0 (aCons (uOp dAdd (uVar 2) (uVar 3)) aNil))) (ρ0 := nEn ts (some (.str letS)) (some (.str figS)) (some (.int sz)) none none) (P := fun _ y => ∃ w : Str, y = .str w ∧ w.length ≤ 1 ∧ Cb w) (rng 0 sz) (fun d hd st => by
      obtain ⟨w, s, e, l, wc⟩ := f_law_one_str (z := letS ++ figS) (by decide) (by decide) st
      refine ⟨_, .str w, s, rfl, ?_, w, rfl, by omega, fun c hc => (Cb_let.app Cb_fig) c (wc c hc)⟩
      have hl : letS.length + figS.length ≤ 100000 := by decide
      simp [uSeq, uIfS, uTst, uRel, uOp, uUn, uVar, uC, gv, bI2, dBool, uRet, uNext, uSet, uSetL, uDrop, dI2, dAdd, uTgt, uPar, uCall, uCallL, uMeth, aNil, aCons, aConsL, aSrc, uTup, uLst, uOfL, uLOf, uLVar, uUnL, uUnN, uIxL, uAnd, uOr, uNot, uIf, uTru, uTruL, bTru, bName, bTup, bNames, uItems, dIx, bEq, bNe, dInt, uAndV, uOrV, uNotV, uRetL, uRetN, dFld, dLen, lLen, dList, dTup, dNeg, at0, at1, at2, at3, at4, at5, at6, at7, sEO, sEN, sON, sNE, sNO, sOE, nEn, hl, e]) s1
    obtain ⟨ws, rfl, w2, w3, wcs⟩ := all2_strs a2
    rw [rng_len0] at w2 w3
    have e3 : uLc [8] (uRng1 (uVar 4)) (bName 8) tYesU (uCall f_law_one [] (aSrc 0 (aCons (uOp dAdd (uVar 2) (uVar 3)) aNil))) (nEn ts (some (.str letS)) (some (.str figS)) (some (.int sz)) none none) s1 = some (ws.map .str, s2) :=
      uLc_eq (uRng1_eq (n := sz) (by simp [uSeq, uIfS, uTst, uRel, uOp, uUn, uVar, uC, gv, bI2, dBool, uRet, uNext, uSet, uSetL, uDrop, dI2, dAdd, uTgt, uPar, uCall, uCallL, uMeth, aNil, aCons, aConsL, aSrc, uTup, uLst, uOfL, uLOf, uLVar, uUnL, uUnN, uIxL, uAnd, uOr, uNot, uIf, uTru, uTruL, bTru, bName, bTup, bNames, uItems, dIx, bEq, bNe, dInt, uAndV, uOrV, uNotV, uRetL, uRetN, dFld, dLen, lLen, dList, dTup, dNeg, at0, at1, at2, at3, at4, at5, at6, at7, sEO, sEN, sON, sNE, sNO, sOE, nEn]) (by omega) (by omega)) (by rw [rng_len0]; omega) e2
    have e4 : uJoin ("" : PySem.Str) (uLc [8] (uRng1 (uVar 4)) (bName 8) tYesU (uCall f_law_one [] (aSrc 0 (aCons (uOp dAdd (uVar 2) (uVar 3)) aNil)))) (nEn ts (some (.str letS)) (some (.str figS)) (some (.int sz)) none none) s1 = some (.str (Txt.join "" ws), s2) := by
      unfold uJoin
      rw [e3, Option.bind_some]
      show ((asS (ws.map D.str)).bind fun ys => _) = _
      rw [asS_map, Option.bind_some, if_pos]
      have : ("" : Str).length = 0 := by decide
      rw [this]
      omega
    have jl : (Txt.join "" ws).length ≤ 30 := by
      unfold Txt.join
      rw [StrLaws.glued_eq_join]
      have := StrLaws.join_length_le "" ws
      have h0 : ("" : Str).length = 0 := by decide
      rw [h0] at this
      omega
    have jc : Cb (Txt.join "" ws) := by
      unfold Txt.join
      rw [StrLaws.glued_eq_join]
      exact Cb.join wcs
    refine ⟨w0 ++ Txt.join "" ws, s2, ?_, by rw [str_len_app]; omega, Cb.app (fun c hc => Cb_let c (c1 c hc)) jc⟩
    have e5 : uCall f_law_one [] (aSrc 0 (aCons (uVar 2) aNil)) (nEn ts (some (.str letS)) (some (.str figS)) (some (.int sz)) none none) st2 = some (.str w0, s1) := by simp [uSeq, uIfS, uTst, uRel, uOp, uUn, uVar, uC, gv, bI2, dBool, uRet, uNext, uSet, uSetL, uDrop, dI2, dAdd, uTgt, uPar, uCall, uCallL, uMeth, aNil, aCons, aConsL, aSrc, uTup, uLst, uOfL, uLOf, uLVar, uUnL, uUnN, uIxL, uAnd, uOr, uNot, uIf, uTru, uTruL, bTru, bName, bTup, bNames, uItems, dIx, bEq, bNe, dInt, uAndV, uOrV, uNotV, uRetL, uRetN, dFld, dLen, lLen, dList, dTup, dNeg, at0, at1, at2, at3, at4, at5, at6, at7, sEO, sEN, sON, sNE, sNO, sOE, nEn, e1]
    exact uOp_eq e5 e4 (dAdd_str (by omega))
  -- the place
  obtain ⟨pl, st4, hp, _, _, _⟩ := pk0 sz (by omega) st3
  -- a figure in it
  obtain ⟨nm2, st5, hf, n2, nc2⟩ : ∃ nm2 st5, (uIfS (uTru (uVar 4))
      (uSet 5 (uOp dAdd (uOp dAdd (uSl (uVar 5) none (some (uVar 6))) (uCall f_law_one [] (aSrc 0 (aCons (uVar 3) aNil)))) (uSl (uVar 5) (some (uOp dAdd (uVar 6) (uC (.int 1)))) none)))
      uNext) (nEn ts (some (.str letS)) (some (.str figS)) (some (.int sz)) (some (.str nm)) (some (.int (1 + pl)))) st4 = some (.nx, nEn ts (some (.str letS)) (some (.str figS)) (some (.int sz)) (some (.str nm2)) (some (.int (1 + pl))), st5) ∧ nm2.length ≤ 101 ∧ Cb nm2 := by
    by_cases c : sz = 0
    · exact ⟨nm, st4, by simp [uSeq, uIfS, uTst, uRel, uOp, uUn, uVar, uC, gv, bI2, dBool, uRet, uNext, uSet, uSetL, uDrop, dI2, dAdd, uTgt, uPar, uCall, uCallL, uMeth, aNil, aCons, aConsL, aSrc, uTup, uLst, uOfL, uLOf, uLVar, uUnL, uUnN, uIxL, uAnd, uOr, uNot, uIf, uTru, uTruL, bTru, bName, bTup, bNames, uItems, dIx, bEq, bNe, dInt, uAndV, uOrV, uNotV, uRetL, uRetN, dFld, dLen, lLen, dList, dTup, dNeg, at0, at1, at2, at3, at4, at5, at6, at7, sEO, sEN, sON, sNE, sNO, sOE, nEn, c], by omega, nc1⟩
    · obtain ⟨w, s1, e1, l1, wc⟩ := f_law_one_str (z := figS) (by decide) (by decide) st4
      have hn0 : nm.length ≤ 1000 := by omega
      have k1 := cutS_len nm none (some (1 + pl))
      have k2 := cutS_len nm (some (1 + pl + 1)) none
      have k3 := str_len_app (cutS nm none (some (1 + pl))) w
      have k5 : (cutS nm none (some (1 + pl))).length + w.length ≤ 100000 := by omega
      have k6 : (cutS nm none (some (1 + pl)) ++ w).length + (cutS nm (some (1 + pl + 1)) none).length ≤ 100000 := by omega
      refine ⟨cutS nm none (some (1 + pl)) ++ w ++ cutS nm (some (1 + pl + 1)) none, s1, ?_, by rw [str_len_app]; omega, ((nc1.cut _ _).app (fun c hc => Cb_fig c (wc c hc))).app (nc1.cut _ _)⟩
      simp [uSeq, uIfS, uTst, uRel, uOp, uUn, uVar, uC, gv, bI2, dBool, uRet, uNext, uSet, uSetL, uDrop, dI2, dAdd, uTgt, uPar, uCall, uCallL, uMeth, aNil, aCons, aConsL, aSrc, uTup, uLst, uOfL, uLOf, uLVar, uUnL, uUnN, uIxL, uAnd, uOr, uNot, uIf, uTru, uTruL, bTru, bName, bTup, bNames, uItems, dIx, bEq, bNe, dInt, uAndV, uOrV, uNotV, uRetL, uRetN, dFld, dLen, lLen, dList, dTup, dNeg, at0, at1, at2, at3, at4, at5, at6, at7, sEO, sEN, sON, sNE, sNO, sOE, nEn, c, uSl, uPart, dSl, hn0, e1, k5, k6]
  -- the other names
  have hfree : (uOp dAdd (uOfL (uLst (aCons (uVar 5) aNil))) (uOfL (uLc [8] (uRng1 (uC (.int 200))) (bName 8) tYesU (uOp dAdd (uSl (uVar 5) none (some (uC (.int 9)))) (uUn dStr (uOp dAdd (uVar 8) (uC (.int 100)))))))) (nEn ts (some (.str letS)) (some (.str figS)) (some (.int sz)) (some (.str nm2)) (some (.int (1 + pl)))) st5 = some (.lst ((nm2 :: (List.range' 0 200).map (numd (cutS nm2 none (some 9)))).map .str), st5) := by
    refine uOp_eq (x := .lst [.str nm2]) (s1 := st5) (y := .lst ((List.range' 0 200).map fun k => D.str (numd (cutS nm2 none (some 9)) k))) (by simp [uSeq, uIfS, uTst, uRel, uOp, uUn, uVar, uC, gv, bI2, dBool, uRet, uNext, uSet, uSetL, uDrop, dI2, dAdd, uTgt, uPar, uCall, uCallL, uMeth, aNil, aCons, aConsL, aSrc, uTup, uLst, uOfL, uLOf, uLVar, uUnL, uUnN, uIxL, uAnd, uOr, uNot, uIf, uTru, uTruL, bTru, bName, bTup, bNames, uItems, dIx, bEq, bNe, dInt, uAndV, uOrV, uNotV, uRetL, uRetN, dFld, dLen, lLen, dList, dTup, dNeg, at0, at1, at2, at3, at4, at5, at6, at7, sEO, sEN, sON, sNE, sNO, sOE, nEn]) ?_ ?_
    · have q := numd_go st5 (ts := ts) (sz := sz) (pl := 1 + pl) (nm := nm2) (by omega) 200 0 (by decide)
      have q2 : uLc [8] (uRng1 (uC (.int 200))) (bName 8) tYesU (uOp dAdd (uSl (uVar 5) none (some (uC (.int 9)))) (uUn dStr (uOp dAdd (uVar 8) (uC (.int 100))))) (nEn ts (some (.str letS)) (some (.str figS)) (some (.int sz)) (some (.str nm2)) (some (.int (1 + pl)))) st5 = some (((List.range' 0 200).map fun k => D.str (numd (cutS nm2 none (some 9)) k)), st5) := by
        refine uLc_eq (ds := (List.range' 0 200).map fun j => D.int (j : Nat)) ?_ (by simp) q
        refine (uRng1_eq (n := 200) rfl (by decide) (by decide)).trans ?_
        unfold rng
        rw [List.range_eq_range'] 
        simp
      unfold uOfL
      rw [q2] <;> rfl
    · refine (dAdd_lst (by simp)).trans ?_
      simp
  -- the first that is free
  obtain ⟨w, ws, hw, hn1, hin⟩ := first_free ht (x := nm2) (y := numd (cutS nm2 none (some 9)) 0) (z := numd (cutS nm2 none (some 9)) 1) (fun q => str100 (str_app q)) ((List.range' 0 200).map (numd (cutS nm2 none (some 9)))) (List.mem_map.mpr ⟨0, by simp, rfl⟩) (List.mem_map.mpr ⟨1, by simp, rfl⟩)
  refine ⟨w, st5, Rt.fin (.go (ρ1 := nEn ts (some (.str letS)) (some (.str figS)) none none none) (st1 := st) ?_ (.go (ρ1 := nEn ts (some (.str letS)) (some (.str figS)) (some (.int sz)) none none) (st1 := st2) ?_ (.go (ρ1 := nEn ts (some (.str letS)) (some (.str figS)) (some (.int sz)) (some (.str nm)) none) (st1 := st3) ?_
    (.go (ρ1 := nEn ts (some (.str letS)) (some (.str figS)) (some (.int sz)) (some (.str nm)) (some (.int (1 + pl)))) (st1 := st4) ?_ (.go hf (.go (ρ1 := fEn ts sz nm2 (1 + pl) (some (.lst ((nm2 :: (List.range' 0 200).map (numd (cutS nm2 none (some 9)))).map .str)))) (st1 := st5) ?_ (.ret ?_))))))), hn1, ?_⟩
  · simp [uSeq, uIfS, uTst, uRel, uOp, uUn, uVar, uC, gv, bI2, dBool, uRet, uNext, uSet, uSetL, uDrop, dI2, dAdd, uTgt, uPar, uCall, uCallL, uMeth, aNil, aCons, aConsL, aSrc, uTup, uLst, uOfL, uLOf, uLVar, uUnL, uUnN, uIxL, uAnd, uOr, uNot, uIf, uTru, uTruL, bTru, bName, bTup, bNames, uItems, dIx, bEq, bNe, dInt, uAndV, uOrV, uNotV, uRetL, uRetN, dFld, dLen, lLen, dList, dTup, dNeg, at0, at1, at2, at3, at4, at5, at6, at7, sEO, sEN, sON, sNE, sNO, sOE, nEn]
  · unfold uSet
    rw [hs] <;> rfl
  · unfold uSet
    rw [hn] <;> rfl
  · simp [uSeq, uIfS, uTst, uRel, uOp, uUn, uVar, uC, gv, bI2, dBool, uRet, uNext, uSet, uSetL, uDrop, dI2, dAdd, uTgt, uPar, uCall, uCallL, uMeth, aNil, aCons, aConsL, aSrc, uTup, uLst, uOfL, uLOf, uLVar, uUnL, uUnN, uIxL, uAnd, uOr, uNot, uIf, uTru, uTruL, bTru, bName, bTup, bNames, uItems, dIx, bEq, bNe, dInt, uAndV, uOrV, uNotV, uRetL, uRetN, dFld, dLen, lLen, dList, dTup, dNeg, at0, at1, at2, at3, at4, at5, at6, at7, sEO, sEN, sON, sNE, sNO, sOE, nEn, hp]
  · unfold uSet
    rw [hfree] <;> rfl
  · refine uOp_eq (x := .lst ((w :: ws).map .str)) (s1 := st5) (y := .int 0) ?_ rfl (by simp [dIx, at0])
    have q := filt_go (ts := ts) st5 (ρ0 := (fEn ts sz nm2 (1 + pl) (some (.lst ((nm2 :: (List.range' 0 200).map (numd (cutS nm2 none (some 9)))).map .str)))).set 9 none) rfl rfl (nm2 :: (List.range' 0 200).map (numd (cutS nm2 none (some 9))))
    rw [hw] at q
    have q2 : uLc [9] (uItems (uVar 7)) (bName 9) (uTst dBool (uInL true (uVar 9) (uLVar 1))) (uVar 9) (fEn ts sz nm2 (1 + pl) (some (.lst ((nm2 :: (List.range' 0 200).map (numd (cutS nm2 none (some 9)))).map .str)))) st5 = some ((w :: ws).map .str, st5) :=
      uLc_eq (ds := (nm2 :: (List.range' 0 200).map (numd (cutS nm2 none (some 9)))).map .str) rfl (by simp) q
    unfold uOfL
    rw [q2] <;> rfl
  · rcases List.mem_cons.mp hin with rfl | hin
    · exact ⟨by omega, nc2⟩
    · obtain ⟨k, hk, rfl⟩ := List.mem_map.mp hin
      have q := Cb_num k hk
      have k1 := cutS_len nm2 none (some 9)
      exact ⟨by unfold numd; rw [str_len_app]; omega, (nc2.cut _ _).app q.1⟩
end Fw
set_option Elab.async false
set_option linter.all false
set_option maxRecDepth 100000
set_option maxHeartbeats 4000000
namespace Fw
open PySem PySem.Spec L2
theorem at_last {α : Type} {xs : List α} {x : α} : atI (xs ++ [x]) (-1) = some x := by
  unfold atI ixN
  have h1 : ¬ (0 : Int) ≤ -1 := by omega
  have h2 : -(((xs ++ [x]).length : Nat) : Int) ≤ -1 := by simp; omega
  rw [if_neg h1, if_pos h2]
  have h3 : (-1 + (((xs ++ [x]).length : Nat) : Int)).toNat = xs.length := by simp; omega
  simp only [Option.bind_some]
  rw [h3]
  simp
/-! ### the names -/
def nmBody : US := (uSeq (uApp 3 (uCall f_law_name [] (aSrc 0 (aConsL (uLVar 2) aNil)))) (uApp 2 (uIxL (uLVar 3) (uUn dNeg (uC (.int 1))))))
theorem names_go {m : Option D} : ∀ (ds : List D) (ts : List Str) (k : Option D) (st : St4), ts.length + ds.length ≤ 2 → ts.Nodup → (∀ z ∈ ts, Nm z) → ∃ (ts' : List Str) (k' : Option D) (st' : St4), uForGo (bName 4) nmBody ds [some .src, m, some (.lst (ts.map .str)), some (.lst (ts.map .str)), k] st = some (.nx, [some .src, m, some (.lst (ts'.map .str)), some (.lst (ts'.map .str)), k'], st') ∧ ts'.Nodup ∧ ts'.length = ts.length + ds.length ∧ ∀ z ∈ ts', Nm z
  | [], ts, k, st, _, h, hz => ⟨ts, k, st, rfl, h, rfl, hz⟩
  | d :: ds, ts, k, st, hl, h, hz => by
    have hl' : ts.length + (ds.length + 1) ≤ 2 := by simpa using hl
    obtain ⟨w, s1, e1, n1, nw⟩ := f_law_name_ok (ts := ts) (by omega) st
    have nd : (ts ++ [w]).Nodup := by
      rw [List.nodup_append]
      exact ⟨h, by simp, fun a ha b hb => by
        have : b = w := by simpa using hb
        subst this
        exact fun q => n1 (q ▸ ha)⟩
    obtain ⟨ts', k', st', r, nd', l', hz'⟩ := names_go (m := m) ds (ts ++ [w]) (some d) s1 (by simp; omega) nd (fun z h => (List.mem_append.mp h).elim (hz z) fun h => by rw [List.mem_singleton.mp h]; exact nw)
    refine ⟨ts', k', st', ?_, nd', by rw [l']; simp; omega, hz'⟩
    have b : nmBody [some .src, m, some (.lst (ts.map .str)), some (.lst (ts.map .str)), some d] st = some (.nx, [some .src, m, some (.lst ((ts ++ [w]).map .str)), some (.lst ((ts ++ [w]).map .str)), some d], s1) := by
      have q : (ts.map D.str).length < 100000 := by simp; omega
      have q2 : atI (ts.map D.str ++ [D.str w]) (-1) = some (.str w) := at_last
      have q3 : ts.length < 100000 := by omega
      unfold nmBody
      simp [uSeq, uIfS, uTst, uRel, uOp, uUn, uVar, uC, gv, bI2, dBool, uRet, uNext, uSet, uSetL, uDrop, dI2, dAdd, uTgt, uPar, uCall, uCallL, uMeth, aNil, aCons, aConsL, aSrc, uTup, uLst, uOfL, uLOf, uLVar, uUnL, uUnN, uIxL, uAnd, uOr, uNot, uIf, uTru, uTruL, bTru, bName, bTup, bNames, uItems, dIx, bEq, bNe, dInt, uAndV, uOrV, uNotV, uRetL, uRetN, dFld, dLen, lLen, dList, dTup, dNeg, at0, at1, at2, at3, at4, at5, at6, at7, sEO, sEN, sON, sNE, sNO, sOE, uApp, e1, q3, q2]
    show ((bName 4 d _).bind fun ρ1 => (nmBody ρ1 st).bind fun r => _) = _
    show ((some [some .src, m, some (.lst (ts.map .str)), some (.lst (ts.map .str)), some d] : Option En).bind fun ρ1 => (nmBody ρ1 st).bind fun r => _) = _
    rw [Option.bind_some, b]
    exact r
theorem f_law_names_ok {many : Int} (h0 : 0 ≤ many) (h1 : many ≤ 2) (st : St4) : ∃ (ts : List Str) (st' : St4), f_law_names [.src, .int many, .lst []] st = some (.lst (ts.map .str), st') ∧ ts.Nodup ∧ ts.length = many.toNat ∧ ∀ z ∈ ts, Nm z := by
  obtain ⟨ts, k', st', r, nd, l, hz⟩ := names_go (m := some (.int many)) (rng 0 many) [] none st (by rw [rng_len0]; simp; omega) List.nodup_nil (fun _ h => by cases h)
  refine ⟨ts, st', Rt.fin (.go (ρ1 := [some .src, some (.int many), some (.lst []), some (.lst []), none]) (st1 := st) ?_ (.go (ρ1 := [some .src, some (.int many), some (.lst (ts.map .str)), some (.lst (ts.map .str)), k']) (st1 := st') ?_ (.retL ?_))), nd, ?_, hz⟩
  · simp [uSeq, uIfS, uTst, uRel, uOp, uUn, uVar, uC, gv, bI2, dBool, uRet, uNext, uSet, uSetL, uDrop, dI2, dAdd, uTgt, uPar, uCall, uCallL, uMeth, aNil, aCons, aConsL, aSrc, uTup, uLst, uOfL, uLOf, uLVar, uUnL, uUnN, uIxL, uAnd, uOr, uNot, uIf, uTru, uTruL, bTru, bName, bTup, bNames, uItems, dIx, bEq, bNe, dInt, uAndV, uOrV, uNotV, uRetL, uRetN, dFld, dLen, lLen, dList, dTup, dNeg, at0, at1, at2, at3, at4, at5, at6, at7, sEO, sEN, sON, sNE, sNO, sOE]
  · exact (uFor_eq (uRng1_eq (n := many) (by simp [uSeq, uIfS, uTst, uRel, uOp, uUn, uVar, uC, gv, bI2, dBool, uRet, uNext, uSet, uSetL, uDrop, dI2, dAdd, uTgt, uPar, uCall, uCallL, uMeth, aNil, aCons, aConsL, aSrc, uTup, uLst, uOfL, uLOf, uLVar, uUnL, uUnN, uIxL, uAnd, uOr, uNot, uIf, uTru, uTruL, bTru, bName, bTup, bNames, uItems, dIx, bEq, bNe, dInt, uAndV, uOrV, uNotV, uRetL, uRetN, dFld, dLen, lLen, dList, dTup, dNeg, at0, at1, at2, at3, at4, at5, at6, at7, sEO, sEN, sON, sNE, sNO, sOE]) (by omega) (by omega))).trans r
  · simp [uSeq, uIfS, uTst, uRel, uOp, uUn, uVar, uC, gv, bI2, dBool, uRet, uNext, uSet, uSetL, uDrop, dI2, dAdd, uTgt, uPar, uCall, uCallL, uMeth, aNil, aCons, aConsL, aSrc, uTup, uLst, uOfL, uLOf, uLVar, uUnL, uUnN, uIxL, uAnd, uOr, uNot, uIf, uTru, uTruL, bTru, bName, bTup, bNames, uItems, dIx, bEq, bNe, dInt, uAndV, uOrV, uNotV, uRetL, uRetN, dFld, dLen, lLen, dList, dTup, dNeg, at0, at1, at2, at3, at4, at5, at6, at7, sEO, sEN, sON, sNE, sNO, sOE]
  · rw [l, rng_len0]
    simp
/-! ### lengths -/
theorem all2_ints {lo hi : Int} : ∀ {ds ys : List D}, All2 (fun _ y => ∃ i : Int, y = .int i ∧ lo ≤ i ∧ i ≤ hi) ds ys → ∃ l : List Int, ys = l.map .int ∧ l.length = ds.length ∧ ∀ x ∈ l, lo ≤ x ∧ x ≤ hi
  | _, _, .nil => ⟨[], rfl, rfl, by simp⟩
  | _, _, .cons ⟨w, h1, h2⟩ r => by
    obtain ⟨ws, h3, h4, h5⟩ := all2_ints r
    refine ⟨w :: ws, by rw [h1, h3] <;> rfl, by rw [List.length_cons, h4, List.length_cons], fun x hx => ?_⟩
    rcases List.mem_cons.mp hx with rfl | hx
    · exact h2
    · exact h5 x hx
theorem f_law_lengths_ok (st : St4) : ∃ (l : List Int) (st' : St4), f_law_lengths [.src] st = some (iL l, st') ∧ l ≠ [] ∧ l.length ≤ 3 ∧ ∀ x ∈ l, 1 ≤ x ∧ x ≤ 3 := by
  obtain ⟨p, s1, e1, b1, b2⟩ := pk 3 (by decide) (by decide) st
  obtain ⟨ys, s2, e2, a2⟩ := lc_draw (bd := bName 1) (e := uOp dAdd (uC (.int 1)) (uCall f_law_pick [] (aSrc 0 (aCons (uC (.int 3)) aNil)))) (ρ0 := [some .src, none]) (P := fun _ y => ∃ i : Int, y = .int i ∧ 1 ≤ i ∧ i ≤ 3) (rng 0 (1 + p)) (fun d hd st => by
    obtain ⟨q, s, e, c1, c2⟩ := pk 3 (by decide) (by decide) st
    exact ⟨[some .src, some d], .int (1 + q), s, rfl, by simp [uSeq, uIfS, uTst, uRel, uOp, uUn, uVar, uC, gv, bI2, dBool, uRet, uNext, uSet, uSetL, uDrop, dI2, dAdd, uTgt, uPar, uCall, uCallL, uMeth, aNil, aCons, aConsL, aSrc, uTup, uLst, uOfL, uLOf, uLVar, uUnL, uUnN, uIxL, uAnd, uOr, uNot, uIf, uTru, uTruL, bTru, bName, bTup, bNames, uItems, dIx, bEq, bNe, dInt, uAndV, uOrV, uNotV, uRetL, uRetN, dFld, dLen, lLen, dList, dTup, dNeg, at0, at1, at2, at3, at4, at5, at6, at7, sEO, sEN, sON, sNE, sNO, sOE, e], 1 + q, rfl, by omega, by omega⟩) s1
  obtain ⟨l, rfl, l1, l2⟩ := all2_ints a2
  rw [rng_len0] at l1
  refine ⟨l, s2, Rt.fin (.ret ?_), fun q => ?_, by omega, l2⟩
  · have q : uLc [1] (uRng1 (uOp dAdd (uC (.int 1)) (uCall f_law_pick [] (aSrc 0 (aCons (uC (.int 3)) aNil))))) (bName 1) tYesU (uOp dAdd (uC (.int 1)) (uCall f_law_pick [] (aSrc 0 (aCons (uC (.int 3)) aNil)))) [some .src, none] st = some (l.map .int, s2) :=
      uLc_eq (uRng1_eq (n := 1 + p) (st' := s1) (by simp [uSeq, uIfS, uTst, uRel, uOp, uUn, uVar, uC, gv, bI2, dBool, uRet, uNext, uSet, uSetL, uDrop, dI2, dAdd, uTgt, uPar, uCall, uCallL, uMeth, aNil, aCons, aConsL, aSrc, uTup, uLst, uOfL, uLOf, uLVar, uUnL, uUnN, uIxL, uAnd, uOr, uNot, uIf, uTru, uTruL, bTru, bName, bTup, bNames, uItems, dIx, bEq, bNe, dInt, uAndV, uOrV, uNotV, uRetL, uRetN, dFld, dLen, lLen, dList, dTup, dNeg, at0, at1, at2, at3, at4, at5, at6, at7, sEO, sEN, sON, sNE, sNO, sOE, e1]) (by omega) (by omega)) (by rw [rng_len0]; omega) e2
    show uOfL (uLc [1] _ _ _ _) [some .src, none] st = _
    unfold uOfL
    rw [q] <;> rfl
  · rw [q] at l1
    simp at l1
    omega
/-! ### shuffled -/
theorem perm_erase {xs : List Int} {k : Nat} {z : Int} (h : xs[k]? = some z) : (z :: xs.eraseIdx k).Perm xs := by
  induction xs generalizing k with
  | nil => simp at h
  | cons x xs ih =>
    cases k with
    | zero =>
      simp at h
      subst h
      exact .refl _
    | succ k =>
      rw [List.eraseIdx_cons_succ]
      exact (List.Perm.swap _ _ _).trans ((ih (by simpa using h)).cons x)
theorem map_erase {α β : Type} (f : α → β) : ∀ (xs : List α) (k : Nat), (xs.map f).eraseIdx k = (xs.eraseIdx k).map f
  | [], _ => rfl
  | _ :: _, 0 => rfl
  | x :: xs, k + 1 => by
    rw [List.map_cons, List.eraseIdx_cons_succ, List.eraseIdx_cons_succ, List.map_cons, map_erase f xs k]
def shBody : US := (uAppPop 3 2 (uCall f_law_pick [] (aSrc 0 (aCons (uUnL lLen (uLVar 2)) aNil))))
theorem shuf_go {t : Option D} {xs : List Int} : ∀ (ds : List D) (left out : List Int) (k : Option D) (st : St4), left.length = ds.length → out.length + ds.length ≤ 500 → (out ++ left).Perm xs → ∃ (out' : List Int) (k' : Option D) (st' : St4), uForGo (bName 4) shBody ds [some .src, t, some (iL left), some (iL out), k] st = some (.nx, [some .src, t, some (iL []), some (iL out'), k'], st') ∧ out'.Perm xs
  | [], left, out, k, st, h, _, p => by
    have : left = [] := List.length_eq_zero_iff.mp h
    subst this
    exact ⟨out, k, st, rfl, by simpa using p⟩
  | d :: ds, left, out, k, st, h, hl, p => by
    have h' : left.length = ds.length + 1 := by simpa using h
    have hl' : out.length + (ds.length + 1) ≤ 500 := by simpa using hl
    obtain ⟨r, s1, e1, b1, b2, _⟩ := pk0 left.length (by omega) st
    have hr : r.toNat < left.length := by omega
    obtain ⟨z, hz⟩ : ∃ z, left[r.toNat]? = some z := ⟨_, List.getElem?_eq_getElem hr⟩
    obtain ⟨out', k', st', q, p'⟩ := shuf_go (t := t) (xs := xs) ds (left.eraseIdx r.toNat) (out ++ [z]) (some d) s1 (by rw [List.length_eraseIdx_of_lt hr]; omega) (by simp; omega) (by
      have := (perm_erase hz)
      have p2 : ((out ++ [z]) ++ left.eraseIdx r.toNat).Perm (out ++ left) := by
        rw [List.append_assoc]
        exact this.append_left out
      exact p2.trans p)
    refine ⟨out', k', st', ?_, p'⟩
    have b : shBody [some .src, t, some (iL left), some (iL out), some d] st = some (.nx, [some .src, t, some (iL (left.eraseIdx r.toNat)), some (iL (out ++ [z])), some d], s1) := by
      have q1 : (uCall f_law_pick [] (aSrc 0 (aCons (uUnL lLen (uLVar 2)) aNil))) [some .src, t, some (iL left), some (iL out), some d] st = some (.int r, s1) := by simp [uSeq, uIfS, uTst, uRel, uOp, uUn, uVar, uC, gv, bI2, dBool, uRet, uNext, uSet, uSetL, uDrop, dI2, dAdd, uTgt, uPar, uCall, uCallL, uMeth, aNil, aCons, aConsL, aSrc, uTup, uLst, uOfL, uLOf, uLVar, uUnL, uUnN, uIxL, uAnd, uOr, uNot, uIf, uTru, uTruL, bTru, bName, bTup, bNames, uItems, dIx, bEq, bNe, dInt, uAndV, uOrV, uNotV, uRetL, uRetN, dFld, dLen, lLen, dList, dTup, dNeg, at0, at1, at2, at3, at4, at5, at6, at7, sEO, sEN, sON, sNE, sNO, sOE, iL, e1]
      unfold shBody uAppPop
      rw [q1, Option.bind_some]
      show (if (out.map D.int).length < 100000 ∧ 0 ≤ r ∧ r < ((left.map D.int).length : Int) ∧ r < 2 ^ 63 then ((left.map D.int)[r.toNat]?).map fun z => (Fl.nx, (([some .src, t, some (iL left), some (iL out), some d] : En).set 2 (some (.lst ((left.map D.int).eraseIdx r.toNat)))).set 3 (some (.lst (out.map D.int ++ [z]))), s1) else none) = _
      rw [if_pos ⟨by simp; omega, b1, by simp; omega, by omega⟩, List.getElem?_map, hz]
      rw [map_erase]
      simp [iL]
    show ((bName 4 d _).bind fun ρ1 => (shBody ρ1 st).bind fun r => _) = _
    show ((some [some .src, t, some (iL left), some (iL out), some d] : Option En).bind fun ρ1 => (shBody ρ1 st).bind fun r => _) = _
    rw [Option.bind_some, b]
    exact q
theorem f_law_shuffled_ok {xs : List Int} (h : xs.length ≤ 400) (st : St4) : ∃ (ys : List Int) (st' : St4), f_law_shuffled [.src, iL xs] st = some (iL ys, st') ∧ ys.Perm xs := by
  obtain ⟨out', k', st', q, p⟩ := shuf_go (t := some (iL xs)) (xs := xs) (rng 0 xs.length) xs [] none st (by rw [rng_len0]; simp) (by rw [rng_len0]; simp; omega) (by simp)
  refine ⟨out', st', Rt.fin (.go (ρ1 := [some .src, some (iL xs), some (iL xs), none, none]) (st1 := st) ?_ (.go (ρ1 := [some .src, some (iL xs), some (iL xs), some (iL []), none]) (st1 := st) ?_ (.go (ρ1 := [some .src, some (iL xs), some (iL []), some (iL out'), k']) (st1 := st') ?_ (.retL ?_)))), p⟩
  · simp [uSeq, uIfS, uTst, uRel, uOp, uUn, uVar, uC, gv, bI2, dBool, uRet, uNext, uSet, uSetL, uDrop, dI2, dAdd, uTgt, uPar, uCall, uCallL, uMeth, aNil, aCons, aConsL, aSrc, uTup, uLst, uOfL, uLOf, uLVar, uUnL, uUnN, uIxL, uAnd, uOr, uNot, uIf, uTru, uTruL, bTru, bName, bTup, bNames, uItems, dIx, bEq, bNe, dInt, uAndV, uOrV, uNotV, uRetL, uRetN, dFld, dLen, lLen, dList, dTup, dNeg, at0, at1, at2, at3, at4, at5, at6, at7, sEO, sEN, sON, sNE, sNO, sOE, iL]
  · simp [uSeq, uIfS, uTst, uRel, uOp, uUn, uVar, uC, gv, bI2, dBool, uRet, uNext, uSet, uSetL, uDrop, dI2, dAdd, uTgt, uPar, uCall, uCallL, uMeth, aNil, aCons, aConsL, aSrc, uTup, uLst, uOfL, uLOf, uLVar, uUnL, uUnN, uIxL, uAnd, uOr, uNot, uIf, uTru, uTruL, bTru, bName, bTup, bNames, uItems, dIx, bEq, bNe, dInt, uAndV, uOrV, uNotV, uRetL, uRetN, dFld, dLen, lLen, dList, dTup, dNeg, at0, at1, at2, at3, at4, at5, at6, at7, sEO, sEN, sON, sNE, sNO, sOE, iL]
  · exact (uFor_eq (uRng1_eq (n := xs.length) (st' := st) (by simp [uSeq, uIfS, uTst, uRel, uOp, uUn, uVar, uC, gv, bI2, dBool, uRet, uNext, uSet, uSetL, uDrop, dI2, dAdd, uTgt, uPar, uCall, uCallL, uMeth, aNil, aCons, aConsL, aSrc, uTup, uLst, uOfL, uLOf, uLVar, uUnL, uUnN, uIxL, uAnd, uOr, uNot, uIf, uTru, uTruL, bTru, bName, bTup, bNames, uItems, dIx, bEq, bNe, dInt, uAndV, uOrV, uNotV, uRetL, uRetN, dFld, dLen, lLen, dList, dTup, dNeg, at0, at1, at2, at3, at4, at5, at6, at7, sEO, sEN, sON, sNE, sNO, sOE, iL]) (by omega) (by omega))).trans q
  · simp [uSeq, uIfS, uTst, uRel, uOp, uUn, uVar, uC, gv, bI2, dBool, uRet, uNext, uSet, uSetL, uDrop, dI2, dAdd, uTgt, uPar, uCall, uCallL, uMeth, aNil, aCons, aConsL, aSrc, uTup, uLst, uOfL, uLOf, uLVar, uUnL, uUnN, uIxL, uAnd, uOr, uNot, uIf, uTru, uTruL, bTru, bName, bTup, bNames, uItems, dIx, bEq, bNe, dInt, uAndV, uOrV, uNotV, uRetL, uRetN, dFld, dLen, lLen, dList, dTup, dNeg, at0, at1, at2, at3, at4, at5, at6, at7, sEO, sEN, sON, sNE, sNO, sOE, iL]
/-- the first of them, in order -/
theorem sort_ok {a : Int} {n : Nat} {ys : List Int} {xs : List Int} (hx : xs.Nodup) (hb : ∀ x ∈ xs, 0 ≤ x ∧ x < a) (p : ys.Perm xs) (hn : 1 ≤ n) (h1 : 1 ≤ xs.length) (h2 : xs.length ≤ 400) (ha : 1 ≤ a ∧ a ≤ 400) : (Leap.of a (sortI (ys.take n))).Ok := by
  have nd : (ys.take n).Nodup := (List.take_sublist n ys).nodup (p.symm.nodup hx)
  have pm : (sortI (ys.take n)).Perm (ys.take n) := List.mergeSort_perm _ _
  have le : (sortI (ys.take n)).Pairwise (· ≤ ·) := by
    have q := List.pairwise_mergeSort (le := fun a b : Int => decide (a ≤ b)) (fun a b c h1 h2 => by simp at *; omega) (fun a b => by simp; omega) (ys.take n)
    exact q.imp fun h => by simpa using h
  have nd2 : (sortI (ys.take n)).Nodup := pm.symm.nodup nd
  have len : (sortI (ys.take n)).length = min n xs.length := by rw [pm.length_eq, List.length_take, p.length_eq]
  refine ⟨ha.1, ha.2, fun q => ?_, ?_, fun r hr => ?_, by omega⟩
  · rw [q] at len
    simp at len
    omega
  · exact (le.and nd2).imp fun ⟨h1, h2⟩ => by omega
  · exact hb r (p.mem_iff.mp (List.mem_of_mem_take (pm.mem_iff.mp hr)))
/-! ### a leap -/
def upto (n : Nat) : List Int := (List.range n).map fun k : Nat => (k : Int)
theorem rng_iL (n : Int) (h : 0 ≤ n) : rng 0 n = (upto n.toNat).map D.int := by
  unfold rng upto
  rw [Int.sub_zero, List.map_map]
  apply List.map_congr_left
  intro k _
  simp
theorem upto_ok (n : Nat) : (upto n).Nodup ∧ (∀ x ∈ upto n, 0 ≤ x ∧ x < n) ∧ (upto n).length = n := by
  refine ⟨?_, fun x hx => ?_, by simp [upto]⟩
  · unfold upto List.Nodup
    exact List.Pairwise.map _ (fun a b h => by omega) (List.nodup_range (n := n))
  · unfold upto at hx
    obtain ⟨k, hk, rfl⟩ := List.mem_map.mp hx
    rw [List.mem_range] at hk
    omega
theorem cutD_pre (xs : List Int) (n : Int) (h : 0 ≤ n) : cutD (xs.map D.int) none (some n) = (xs.take n.toNat).map D.int := by
  unfold cutD HT.sIx
  have h1 : ¬ n < 0 := by omega
  simp only [List.drop_zero, Nat.sub_zero, if_neg h1, List.length_map]
  rw [← List.map_take, ← List.take_eq_take_min] 
/-- sorted(_law_shuffled(s, list(range(m)))[:1 + _law_pick(s, j)]) -/
theorem sorted_ok {ρ : En} {um uj : UE} {m j a : Int} (h0 : gv ρ 0 = some .src) (st : St4) (hm : um ρ st = some (.int m, st)) (hj : ∀ st, uj ρ st = some (.int j, st)) (b : 1 ≤ m ∧ m ≤ 400 ∧ m ≤ a ∧ a ≤ 400) (hjb : j < 2 ^ 100) : ∃ rs st', (uOfL (uUnN lSort (uLOf (uSl (uOfL (uCallL f_law_shuffled [] (aSrc 0 (aCons (uOfL (uListRg um)) aNil)))) none (some (uOp dAdd (uC (.int 1)) (uCall f_law_pick [] (aSrc 0 (aCons uj aNil))))))))) ρ st = some (iL rs, st') ∧ (Leap.of a rs).Ok := by
  obtain ⟨u1, u2, u3⟩ := upto_ok m.toNat
  obtain ⟨ys, s1, e1, p⟩ := f_law_shuffled_ok (xs := upto m.toNat) (by omega) st
  obtain ⟨r, s2, e2, b1, _⟩ := f_law_pick_ok j (by omega) s1
  refine ⟨sortI (ys.take (1 + r).toNat), s2, ?_, sort_ok u1 (fun x hx => by have := u2 x hx; omega) p (by omega) (by omega) (by omega) (by omega)⟩
  have e0 : uListRg um ρ st = some ((upto m.toNat).map .int, st) := by
    unfold uListRg
    rw [hm, Option.bind_some]
    show (if 0 ≤ m ∧ m ≤ 16777216 then some (rng 0 m, st) else none) = _
    rw [if_pos (by omega), rng_iL m (by omega)]
  have e3 : (uOfL (uCallL f_law_shuffled [] (aSrc 0 (aCons (uOfL (uListRg um)) aNil)))) ρ st = some (iL ys, s1) :=
    uOfL_eq (uCallL_eq (aSrc_eq h0 (aCons_eq (uOfL_eq e0) rfl)) e1)
  have e4 : (uOp dAdd (uC (.int 1)) (uCall f_law_pick [] (aSrc 0 (aCons uj aNil)))) ρ s1 = some (.int (1 + r), s2) :=
    uOp_eq rfl (uCall_eq (aSrc_eq h0 (aCons_eq (hj s1) rfl)) e2) rfl
  exact uOfL_eq (uUnN_eq (uLOf_eq (ys := (ys.take (1 + r).toNat).map .int) (uSl_eq e3 rfl (uPart_eq e4) (by
    show some (D.lst (cutD (ys.map D.int) none (some (1 + r)))) = _
    rw [cutD_pre _ _ (by omega)]))) (by unfold lSort; rw [asI_map] <;> rfl))
theorem f_law_leap_ok (st : St4) : ∃ (l : Leap) (st' : St4), f_law_leap [.src] st = some (l.d, st') ∧ l.Ok := by
  obtain ⟨kd, s1, e1, a1, a2⟩ := pk 5 (by decide) (by decide) st
  obtain ⟨p, s2, e2, b1, b2⟩ := pk 3 (by decide) (by decide) s1
  obtain ⟨q, s3, e3, c1, c2⟩ := pk 2 (by decide) (by decide) s2
  have m1 : iMul (2 + p) (2 + q) = some ((2 + p) * (2 + q)) := iMul_eqR (by omega) (by omega)
  have bb : 4 ≤ (2 + p) * (2 + q) ∧ (2 + p) * (2 + q) ≤ 12 ∧ (2 + p) * (2 + q) % (2 + p) = 0 := by
    refine ⟨?_, ?_, by simp⟩
    · have : (2 + p) * 2 ≤ (2 + p) * (2 + q) := Int.mul_le_mul_of_nonneg_left (by omega) (by omega)
      omega
    · have : (2 + p) * (2 + q) ≤ (2 + p) * 3 := Int.mul_le_mul_of_nonneg_left (by omega) (by omega)
      omega
  obtain ⟨b, hb⟩ : ∃ b, (2 + p) * (2 + q) = b := ⟨_, rfl⟩
  rw [hb] at m1 bb
  have m2 : iMul b 2 = some (b * 2) := iMul_eqR (by omega) (by omega)
  let rules : List D := [Leap.never.d, (Leap.e1 (2 + p)).d, (Leap.e2 (2 + p) b).d, (Leap.e3 (2 + p) b (b * 2)).d]
  have g1 : uPar [1, 2] (aCons (uCall f_law_pick [] (aSrc 0 (aCons (uC (.int 5)) aNil))) (aCons (uOp dAdd (uC (.int 2)) (uCall f_law_pick [] (aSrc 0 (aCons (uC (.int 3)) aNil)))) aNil)) [some .src, none, none, none, none] st = some (.nx, [some .src, some (.int kd), some (.int (2 + p)), none, none], s2) := by simp [uSeq, uIfS, uTst, uRel, uOp, uUn, uVar, uC, gv, bI2, dBool, uRet, uNext, uSet, uSetL, uDrop, dI2, dAdd, uTgt, uPar, uCall, uCallL, uMeth, aNil, aCons, aConsL, aSrc, uTup, uLst, uOfL, uLOf, uLVar, uUnL, uUnN, uIxL, uAnd, uOr, uNot, uIf, uTru, uTruL, bTru, bName, bTup, bNames, uItems, dIx, bEq, bNe, dInt, uAndV, uOrV, uNotV, uRetL, uRetN, dFld, dLen, lLen, dList, dTup, dNeg, at0, at1, at2, at3, at4, at5, at6, at7, sEO, sEN, sON, sNE, sNO, sOE, e1, e2]
  have g2 : uSet 3 (uOp (dI2 iMul) (uVar 2) (uOp dAdd (uC (.int 2)) (uCall f_law_pick [] (aSrc 0 (aCons (uC (.int 2)) aNil))))) [some .src, some (.int kd), some (.int (2 + p)), none, none] s2 = some (.nx, [some .src, some (.int kd), some (.int (2 + p)), some (.int b), none], s3) := by simp [uSeq, uIfS, uTst, uRel, uOp, uUn, uVar, uC, gv, bI2, dBool, uRet, uNext, uSet, uSetL, uDrop, dI2, dAdd, uTgt, uPar, uCall, uCallL, uMeth, aNil, aCons, aConsL, aSrc, uTup, uLst, uOfL, uLOf, uLVar, uUnL, uUnN, uIxL, uAnd, uOr, uNot, uIf, uTru, uTruL, bTru, bName, bTup, bNames, uItems, dIx, bEq, bNe, dInt, uAndV, uOrV, uNotV, uRetL, uRetN, dFld, dLen, lLen, dList, dTup, dNeg, at0, at1, at2, at3, at4, at5, at6, at7, sEO, sEN, sON, sNE, sNO, sOE, e3, m1]
  have g3 : uSet 4 (uOfL (uLst (aCons (uTup (aCons (uC (.str ("never" : PySem.Str))) aNil)) (aCons (uTup (aCons (uC (.str ("every" : PySem.Str))) (aCons (uVar 2) aNil))) (aCons (uTup (aCons (uC (.str ("every" : PySem.Str))) (aCons (uVar 2) (aCons (uVar 3) aNil)))) (aCons (uTup (aCons (uC (.str ("every" : PySem.Str))) (aCons (uVar 2) (aCons (uVar 3) (aCons (uOp (dI2 iMul) (uVar 3) (uC (.int 2))) aNil))))) aNil)))))) [some .src, some (.int kd), some (.int (2 + p)), some (.int b), none] s3 = some (.nx, [some .src, some (.int kd), some (.int (2 + p)), some (.int b), some (.lst rules)], s3) := by
    simp [uSeq, uIfS, uTst, uRel, uOp, uUn, uVar, uC, gv, bI2, dBool, uRet, uNext, uSet, uSetL, uDrop, dI2, dAdd, uTgt, uPar, uCall, uCallL, uMeth, aNil, aCons, aConsL, aSrc, uTup, uLst, uOfL, uLOf, uLVar, uUnL, uUnN, uIxL, uAnd, uOr, uNot, uIf, uTru, uTruL, bTru, bName, bTup, bNames, uItems, dIx, bEq, bNe, dInt, uAndV, uOrV, uNotV, uRetL, uRetN, dFld, dLen, lLen, dList, dTup, dNeg, at0, at1, at2, at3, at4, at5, at6, at7, sEO, sEN, sON, sNE, sNO, sOE, m2, rules, Leap.d]
  by_cases c : kd < 4
  · obtain ⟨l, hl, ok⟩ : ∃ l : Leap, atI rules kd = some l.d ∧ l.Ok := by
      have : kd = 0 ∨ kd = 1 ∨ kd = 2 ∨ kd = 3 := by omega
      rcases this with rfl | rfl | rfl | rfl
      · exact ⟨.never, at0, trivial⟩
      · exact ⟨.e1 (2 + p), at1, by omega, by omega⟩
      · exact ⟨.e2 (2 + p) b, at2, by omega, by omega, by omega, by omega, bb.2.2⟩
      · exact ⟨.e3 (2 + p) b (b * 2), at3, by omega, by omega, by omega, by omega, bb.2.2, by omega, by omega, by simp⟩
    exact ⟨l, s3, Rt.fin (.go g1 (.go g2 (.go g3 (.ret (by simp [uSeq, uIfS, uTst, uRel, uOp, uUn, uVar, uC, gv, bI2, dBool, uRet, uNext, uSet, uSetL, uDrop, dI2, dAdd, uTgt, uPar, uCall, uCallL, uMeth, aNil, aCons, aConsL, aSrc, uTup, uLst, uOfL, uLOf, uLVar, uUnL, uUnN, uIxL, uAnd, uOr, uNot, uIf, uTru, uTruL, bTru, bName, bTup, bNames, uItems, dIx, bEq, bNe, dInt, uAndV, uOrV, uNotV, uRetL, uRetN, dFld, dLen, lLen, dList, dTup, dNeg, at0, at1, at2, at3, at4, at5, at6, at7, sEO, sEN, sON, sNE, sNO, sOE, c]; exact hl ▸ rfl))))), ok⟩
  · obtain ⟨rs, s4, e4, ok⟩ := sorted_ok (ρ := [some .src, some (.int kd), some (.int (2 + p)), some (.int b), some (.lst rules)]) (um := uVar 2) (uj := uOp (dI2 fun i j => some (i - j)) (uVar 2) (uC (.int 1))) (m := 2 + p) (j := 2 + p - 1) (a := 2 + p) rfl s3 (by simp [uSeq, uIfS, uTst, uRel, uOp, uUn, uVar, uC, gv, bI2, dBool, uRet, uNext, uSet, uSetL, uDrop, dI2, dAdd, uTgt, uPar, uCall, uCallL, uMeth, aNil, aCons, aConsL, aSrc, uTup, uLst, uOfL, uLOf, uLVar, uUnL, uUnN, uIxL, uAnd, uOr, uNot, uIf, uTru, uTruL, bTru, bName, bTup, bNames, uItems, dIx, bEq, bNe, dInt, uAndV, uOrV, uNotV, uRetL, uRetN, dFld, dLen, lLen, dList, dTup, dNeg, at0, at1, at2, at3, at4, at5, at6, at7, sEO, sEN, sON, sNE, sNO, sOE]) (fun st => by simp [uSeq, uIfS, uTst, uRel, uOp, uUn, uVar, uC, gv, bI2, dBool, uRet, uNext, uSet, uSetL, uDrop, dI2, dAdd, uTgt, uPar, uCall, uCallL, uMeth, aNil, aCons, aConsL, aSrc, uTup, uLst, uOfL, uLOf, uLVar, uUnL, uUnN, uIxL, uAnd, uOr, uNot, uIf, uTru, uTruL, bTru, bName, bTup, bNames, uItems, dIx, bEq, bNe, dInt, uAndV, uOrV, uNotV, uRetL, uRetN, dFld, dLen, lLen, dList, dTup, dNeg, at0, at1, at2, at3, at4, at5, at6, at7, sEO, sEN, sON, sNE, sNO, sOE]) (by omega) (by omega)
    refine ⟨.of (2 + p) rs, s4, Rt.fin (.go g1 (.go g2 (.go g3 (.ret ?_)))), ok⟩
    have t : (uTst dBool (uRel (bI2 fun i j => decide (i < j)) (uVar 1) (uC (.int 4)))) [some .src, some (.int kd), some (.int (2 + p)), some (.int b), some (.lst rules)] s3 = some (false, s3) := by simp [uSeq, uIfS, uTst, uRel, uOp, uUn, uVar, uC, gv, bI2, dBool, uRet, uNext, uSet, uSetL, uDrop, dI2, dAdd, uTgt, uPar, uCall, uCallL, uMeth, aNil, aCons, aConsL, aSrc, uTup, uLst, uOfL, uLOf, uLVar, uUnL, uUnN, uIxL, uAnd, uOr, uNot, uIf, uTru, uTruL, bTru, bName, bTup, bNames, uItems, dIx, bEq, bNe, dInt, uAndV, uOrV, uNotV, uRetL, uRetN, dFld, dLen, lLen, dList, dTup, dNeg, at0, at1, at2, at3, at4, at5, at6, at7, sEO, sEN, sON, sNE, sNO, sOE, c]
    exact uIf_f t (uTup_eq (aCons_eq rfl (aCons_eq rfl (aCons_eq e4 rfl))) (by simp))
end Fw
set_option Elab.async false
set_option linter.all false
set_option maxRecDepth 100000
set_option maxHeartbeats 4000000
namespace Fw
open PySem PySem.Spec L2
/-! ### a segment drawn -/
theorem cutD_init {α : Type} (f : α → D) (xs : List α) (h : 1 ≤ xs.length) : cutD (xs.map f) none (some (-1)) = (xs.take (xs.length - 1)).map f := by
  unfold cutD HT.sIx
  have h1 : (-1 : Int) < 0 := by omega
  simp only [List.drop_zero, Nat.sub_zero, if_pos h1, List.length_map]
  rw [← List.map_take]
  congr 2
  omega
theorem atI_end {xs : List Int} (h : 1 ≤ xs.length) : atI (xs.map D.int) (-1) = some (.int (xs.getD (xs.length - 1) 0)) := by
  unfold atI ixN
  have h1 : ¬ (0 : Int) ≤ -1 := by omega
  have h2 : -(((xs.map D.int).length : Nat) : Int) ≤ -1 := by simp; omega
  rw [if_neg h1, if_pos h2]
  have h3 : (-1 + (((xs.map D.int).length : Nat) : Int)).toNat = xs.length - 1 := by simp; omega
  simp only [Option.bind_some]
  rw [h3, List.getElem?_map, List.getElem?_eq_getElem (by omega), List.getD_eq_getElem?_getD, List.getElem?_eq_getElem (by omega)] <;> rfl
/-- the state of the drawing def -/
def aEn (tk : Int) (dte cyc : D) (gr : Bool) (w c l lp kd i sg ms mn k : Option D) : En := [some .src, some (.int tk), some dte, some cyc, some (.bl gr), w, c, l, lp, kd, i, sg, ms, mn, k]
/-- a small segment -/
structure Sm (s : Sg) : Prop where
  w : s.width ≤ 3
  c : s.common.length ≤ 3 ∧ ∀ x ∈ s.common, x ≤ 4
  l : s.longer.length ≤ 3 ∧ ∀ x ∈ s.longer, x ≤ 4
theorem f_law_a_segment_ok {tick y m d : Int} (hm : 1 ≤ m) (hd : 1 ≤ d) (cs : List (Str × Int × Int)) (great : Bool) (st : St4) : ∃ (s : Sg) (st' : St4), f_law_a_segment [.src, .int tick, dt y m d, .lst (cs.map cycD), .bl great] st = some (s.d, st') ∧ s.Ok ∧ s.V ∧ s.tick = tick ∧ s.y = y ∧ s.cycles = cs ∧ (great = false → Sm s) := by
  let C : D := .lst (cs.map cycD)
  let Dt : D := dt y m d
  -- 1: width, two lists
  obtain ⟨w1, a1, e1, b1, b2⟩ := pk 3 (by decide) (by decide) st
  obtain ⟨c1, a2, e2, c2, c3, c4⟩ := f_law_lengths_ok a1
  obtain ⟨l1, a3, e3, l2, l3, l4⟩ := f_law_lengths_ok a2
  have g1 : uPar [5, 6, 7] (aCons (uOp dAdd (uC (.int 1)) (uCall f_law_pick [] (aSrc 0 (aCons (uC (.int 3)) aNil)))) (aCons (uCall f_law_lengths [] (aSrc 0 aNil)) (aCons (uCall f_law_lengths [] (aSrc 0 aNil)) aNil))) (aEn tick Dt C great none none none none none none none none none none) st = some (.nx, aEn tick Dt C great (some (.int (1 + w1))) (some (iL c1)) (some (iL l1)) none none none none none none none, a3) := by
    simp [uSeq, uIfS, uTst, uRel, uOp, uUn, uVar, uC, gv, bI2, dBool, uRet, uNext, uSet, uSetL, uDrop, dI2, dAdd, uTgt, uPar, uCall, uCallL, uMeth, aNil, aCons, aConsL, aSrc, uTup, uLst, uOfL, uLOf, uLVar, uUnL, uUnN, uIxL, uAnd, uOr, uNot, uIf, uTru, uTruL, bTru, bName, bTup, bNames, uItems, dIx, bEq, bNe, dInt, uAndV, uOrV, uNotV, uRetL, uRetN, dFld, dLen, lLen, dList, dTup, dNeg, at0, at1, at2, at3, at4, at5, at6, at7, sEO, sEN, sON, sNE, sNO, sOE, aEn, e1, e2, e3]
  have cl : LsOk c1 := ⟨c2, by omega, fun x hx => by have := c4 x hx; omega⟩
  have c1len : 1 ≤ c1.length := List.length_pos_iff.mpr c2
  -- 2: the longer list
  obtain ⟨lg, a4, g2, lgk, lgl, lg4⟩ : ∃ (lg : List Int) (a4 : St4), (uIfS (uTru (uCall f_law_pick [] (aSrc 0 (aCons (uC (.int 2)) aNil))))
      (uSet 7 (uOp dAdd (uSl (uVar 6) none (some (uUn dNeg (uC (.int 1))))) (uOfL (uLst (aCons (uOp dAdd (uOp dIx (uVar 6) (uUn dNeg (uC (.int 1)))) (uC (.int 1))) aNil)))))
      uNext) (aEn tick Dt C great (some (.int (1 + w1))) (some (iL c1)) (some (iL l1)) none none none none none none none) a3 = some (.nx, aEn tick Dt C great (some (.int (1 + w1))) (some (iL c1)) (some (iL lg)) none none none none none none none, a4) ∧ LsOk lg ∧ lg.length ≤ 3 ∧ ∀ x ∈ lg, x ≤ 4 := by
    obtain ⟨q, s1, f1, _, _⟩ := pk 2 (by decide) (by decide) a3
    by_cases z : q = 0
    · exact ⟨l1, s1, by simp [uSeq, uIfS, uTst, uRel, uOp, uUn, uVar, uC, gv, bI2, dBool, uRet, uNext, uSet, uSetL, uDrop, dI2, dAdd, uTgt, uPar, uCall, uCallL, uMeth, aNil, aCons, aConsL, aSrc, uTup, uLst, uOfL, uLOf, uLVar, uUnL, uUnN, uIxL, uAnd, uOr, uNot, uIf, uTru, uTruL, bTru, bName, bTup, bNames, uItems, dIx, bEq, bNe, dInt, uAndV, uOrV, uNotV, uRetL, uRetN, dFld, dLen, lLen, dList, dTup, dNeg, at0, at1, at2, at3, at4, at5, at6, at7, sEO, sEN, sON, sNE, sNO, sOE, aEn, f1, z], ⟨l2, by omega, fun x hx => by have := l4 x hx; omega⟩, l3, fun x hx => by have := l4 x hx; omega⟩
    · have k1 := cutD_init D.int c1 c1len
      have k2 := atI_end c1len
      have k3 : 1 ≤ c1.getD (c1.length - 1) 0 ∧ c1.getD (c1.length - 1) 0 ≤ 3 := by
        rw [List.getD_eq_getElem?_getD, List.getElem?_eq_getElem (by omega)]
        exact c4 _ (List.getElem_mem _)
      obtain ⟨la, hla⟩ : ∃ la, c1.getD (c1.length - 1) 0 = la := ⟨_, rfl⟩
      rw [hla] at k2 k3
      have each : ∀ x ∈ c1.take (c1.length - 1) ++ [la + 1], 1 ≤ x ∧ x ≤ 4 := fun x hx => by
        rcases List.mem_append.mp hx with hx | hx
        · have := c4 x (List.mem_of_mem_take hx)
          omega
        · have : x = la + 1 := by simpa using hx
          omega
      refine ⟨c1.take (c1.length - 1) ++ [la + 1], s1, ?_, ⟨by simp, by simp; omega, fun x hx => by have := each x hx; omega⟩, by simp; omega, fun x hx => (each x hx).2⟩
      · refine uIfS_t (uTst_eq (uCall_eq (aSrc_eq rfl (aCons_eq rfl rfl)) f1) (by simp [bTru, z])) ?_
        refine uSet_eq (uOp_eq (uSl_eq (x := iL c1) (i := none) (j := some (-1)) (z := .lst ((c1.take (c1.length - 1)).map .int)) rfl rfl (uPart_eq rfl) (by show some (D.lst (cutD (c1.map D.int) none (some (-1)))) = _; rw [k1])) (uOfL_eq (uLst_eq (aCons_eq (uOp_eq (uOp_eq (x := iL c1) (y := .int (-1)) rfl rfl k2) rfl rfl) rfl) (by simp))) ?_)
        refine (dAdd_lst (by simp; omega)).trans ?_
        simp [iL]
  -- 3: the leap, the kind
  obtain ⟨lp0, a5, e5, lpk0⟩ := f_law_leap_ok a4
  obtain ⟨kd, a6, g3, kd9⟩ : ∃ (kd : Int) (a6 : St4), uPar [8, 9] (aCons (uCall f_law_leap [] (aSrc 0 aNil)) (aCons (uIf (uTru (uVar 4)) (uCall f_law_pick [] (aSrc 0 (aCons (uC (.int 6)) aNil))) (uC (.int 9))) aNil)) (aEn tick Dt C great (some (.int (1 + w1))) (some (iL c1)) (some (iL lg)) none none none none none none none) a4 = some (.nx, aEn tick Dt C great (some (.int (1 + w1))) (some (iL c1)) (some (iL lg)) (some lp0.d) (some (.int kd)) none none none none none, a6) ∧ (great = false → kd = 9) := by
    cases great with
    | true =>
      obtain ⟨q, s1, f1, _, _⟩ := pk 6 (by decide) (by decide) a5
      exact ⟨q, s1, uPar_eq (aCons_eq (uCall_eq (aSrc_eq rfl rfl) e5) (aCons_eq (uIf_t rfl (uCall_eq (aSrc_eq rfl (aCons_eq rfl rfl)) f1)) rfl)) rfl, fun h => by cases h⟩
    | false => exact ⟨9, a5, uPar_eq (aCons_eq (uCall_eq (aSrc_eq rfl rfl) e5) (aCons_eq (uIf_f rfl rfl) rfl)) rfl, fun _ => rfl⟩
  -- 4: another width
  obtain ⟨w, a7, g4, wk, w9⟩ : ∃ (w : Int) (a7 : St4), (uIfS (uTst dBool (uRel bEq (uVar 9) (uC (.int 0))))
      (uSet 5 (uIf (uTru (uCall f_law_pick [] (aSrc 0 (aCons (uC (.int 2)) aNil)))) (uOp (dI2 fun i j => some (i - j)) (uC (.int 60)) (uCall f_law_pick [] (aSrc 0 (aCons (uC (.int 2)) aNil)))) (uOp dAdd (uC (.int 1)) (uCall f_law_pick [] (aSrc 0 (aCons (uC (.int 60)) aNil))))))
      uNext) (aEn tick Dt C great (some (.int (1 + w1))) (some (iL c1)) (some (iL lg)) (some lp0.d) (some (.int kd)) none none none none none) a6 = some (.nx, aEn tick Dt C great (some (.int w)) (some (iL c1)) (some (iL lg)) (some lp0.d) (some (.int kd)) none none none none none, a7) ∧ (1 ≤ w ∧ w ≤ 60) ∧ (kd = 9 → w ≤ 3) := by
    by_cases z : kd = 0
    · obtain ⟨q, s1, f1, _, _⟩ := pk 2 (by decide) (by decide) a6
      by_cases z2 : q = 0
      · obtain ⟨r, s2, f2, _, _⟩ := pk 60 (by decide) (by decide) s1
        exact ⟨1 + r, s2, by simp [uSeq, uIfS, uTst, uRel, uOp, uUn, uVar, uC, gv, bI2, dBool, uRet, uNext, uSet, uSetL, uDrop, dI2, dAdd, uTgt, uPar, uCall, uCallL, uMeth, aNil, aCons, aConsL, aSrc, uTup, uLst, uOfL, uLOf, uLVar, uUnL, uUnN, uIxL, uAnd, uOr, uNot, uIf, uTru, uTruL, bTru, bName, bTup, bNames, uItems, dIx, bEq, bNe, dInt, uAndV, uOrV, uNotV, uRetL, uRetN, dFld, dLen, lLen, dList, dTup, dNeg, at0, at1, at2, at3, at4, at5, at6, at7, sEO, sEN, sON, sNE, sNO, sOE, aEn, z, z2, f1, f2], ⟨by omega, by omega⟩, by omega⟩
      · obtain ⟨r, s2, f2, _, _⟩ := pk 2 (by decide) (by decide) s1
        exact ⟨60 - r, s2, by simp [uSeq, uIfS, uTst, uRel, uOp, uUn, uVar, uC, gv, bI2, dBool, uRet, uNext, uSet, uSetL, uDrop, dI2, dAdd, uTgt, uPar, uCall, uCallL, uMeth, aNil, aCons, aConsL, aSrc, uTup, uLst, uOfL, uLOf, uLVar, uUnL, uUnN, uIxL, uAnd, uOr, uNot, uIf, uTru, uTruL, bTru, bName, bTup, bNames, uItems, dIx, bEq, bNe, dInt, uAndV, uOrV, uNotV, uRetL, uRetN, dFld, dLen, lLen, dList, dTup, dNeg, at0, at1, at2, at3, at4, at5, at6, at7, sEO, sEN, sON, sNE, sNO, sOE, aEn, z, z2, f1, f2], ⟨by omega, by omega⟩, by omega⟩
    · exact ⟨1 + w1, a6, by simp [uSeq, uIfS, uTst, uRel, uOp, uUn, uVar, uC, gv, bI2, dBool, uRet, uNext, uSet, uSetL, uDrop, dI2, dAdd, uTgt, uPar, uCall, uCallL, uMeth, aNil, aCons, aConsL, aSrc, uTup, uLst, uOfL, uLOf, uLVar, uUnL, uUnN, uIxL, uAnd, uOr, uNot, uIf, uTru, uTruL, bTru, bName, bTup, bNames, uItems, dIx, bEq, bNe, dInt, uAndV, uOrV, uNotV, uRetL, uRetN, dFld, dLen, lLen, dList, dTup, dNeg, at0, at1, at2, at3, at4, at5, at6, at7, sEO, sEN, sON, sNE, sNO, sOE, aEn, z], ⟨by omega, by omega⟩, by omega⟩
  -- 5: other months
  obtain ⟨cm, a8, g5, cmk, cm9⟩ : ∃ (cm : List Int) (a8 : St4), (uIfS (uTst dBool (uRel bEq (uVar 9) (uC (.int 1))))
      (uSet 6 (uOfL (uLc [14] (uRng1 (uIf (uTru (uCall f_law_pick [] (aSrc 0 (aCons (uC (.int 2)) aNil)))) (uOp (dI2 fun i j => some (i - j)) (uC (.int 24)) (uCall f_law_pick [] (aSrc 0 (aCons (uC (.int 2)) aNil)))) (uOp dAdd (uC (.int 1)) (uCall f_law_pick [] (aSrc 0 (aCons (uC (.int 24)) aNil)))))) (bName 14) tYesU (uOp dAdd (uC (.int 1)) (uCall f_law_pick [] (aSrc 0 (aCons (uC (.int 60)) aNil)))))))
      uNext) (aEn tick Dt C great (some (.int w)) (some (iL c1)) (some (iL lg)) (some lp0.d) (some (.int kd)) none none none none none) a7 = some (.nx, aEn tick Dt C great (some (.int w)) (some (iL cm)) (some (iL lg)) (some lp0.d) (some (.int kd)) none none none none none, a8) ∧ LsOk cm ∧ (kd = 9 → cm = c1) := by
    by_cases z : kd = 1
    · obtain ⟨n, s1, f1, n1, n2⟩ : ∃ (n : Int) (s1 : St4), (uIf (uTru (uCall f_law_pick [] (aSrc 0 (aCons (uC (.int 2)) aNil)))) (uOp (dI2 fun i j => some (i - j)) (uC (.int 24)) (uCall f_law_pick [] (aSrc 0 (aCons (uC (.int 2)) aNil)))) (uOp dAdd (uC (.int 1)) (uCall f_law_pick [] (aSrc 0 (aCons (uC (.int 24)) aNil))))) (aEn tick Dt C great (some (.int w)) (some (iL c1)) (some (iL lg)) (some lp0.d) (some (.int kd)) none none none none none) a7 = some (.int n, s1) ∧ 1 ≤ n ∧ n ≤ 24 := by
        obtain ⟨q, s1, f1, _, _⟩ := pk 2 (by decide) (by decide) a7
        by_cases z2 : q = 0
        · obtain ⟨r, s2, f2, _, _⟩ := pk 24 (by decide) (by decide) s1
          exact ⟨1 + r, s2, by simp [uSeq, uIfS, uTst, uRel, uOp, uUn, uVar, uC, gv, bI2, dBool, uRet, uNext, uSet, uSetL, uDrop, dI2, dAdd, uTgt, uPar, uCall, uCallL, uMeth, aNil, aCons, aConsL, aSrc, uTup, uLst, uOfL, uLOf, uLVar, uUnL, uUnN, uIxL, uAnd, uOr, uNot, uIf, uTru, uTruL, bTru, bName, bTup, bNames, uItems, dIx, bEq, bNe, dInt, uAndV, uOrV, uNotV, uRetL, uRetN, dFld, dLen, lLen, dList, dTup, dNeg, at0, at1, at2, at3, at4, at5, at6, at7, sEO, sEN, sON, sNE, sNO, sOE, aEn, z2, f1, f2], by omega, by omega⟩
        · obtain ⟨r, s2, f2, _, _⟩ := pk 2 (by decide) (by decide) s1
          exact ⟨24 - r, s2, by simp [uSeq, uIfS, uTst, uRel, uOp, uUn, uVar, uC, gv, bI2, dBool, uRet, uNext, uSet, uSetL, uDrop, dI2, dAdd, uTgt, uPar, uCall, uCallL, uMeth, aNil, aCons, aConsL, aSrc, uTup, uLst, uOfL, uLOf, uLVar, uUnL, uUnN, uIxL, uAnd, uOr, uNot, uIf, uTru, uTruL, bTru, bName, bTup, bNames, uItems, dIx, bEq, bNe, dInt, uAndV, uOrV, uNotV, uRetL, uRetN, dFld, dLen, lLen, dList, dTup, dNeg, at0, at1, at2, at3, at4, at5, at6, at7, sEO, sEN, sON, sNE, sNO, sOE, aEn, z2, f1, f2], by omega, by omega⟩
      obtain ⟨ys, s2, f2, q2⟩ := lc_draw (bd := bName 14) (e := uOp dAdd (uC (.int 1)) (uCall f_law_pick [] (aSrc 0 (aCons (uC (.int 60)) aNil)))) (ρ0 := aEn tick Dt C great (some (.int w)) (some (iL c1)) (some (iL lg)) (some lp0.d) (some (.int kd)) none none none none none) (P := fun _ y => ∃ i : Int, y = .int i ∧ 1 ≤ i ∧ i ≤ 60) (rng 0 n) (fun d hd st => by
        obtain ⟨q, s, e, c1, c2⟩ := pk 60 (by decide) (by decide) st
        exact ⟨_, .int (1 + q), s, rfl, uOp_eq rfl (uCall_eq (aSrc_eq rfl (aCons_eq rfl rfl)) e) rfl, 1 + q, rfl, by omega, by omega⟩) s1
      obtain ⟨cm, rfl, k1, k2⟩ := all2_ints q2
      rw [rng_len0] at k1
      refine ⟨cm, s2, uIfS_t (uRelT_eq (x := .int kd) (y := .int 1) rfl rfl (by simp [bEq, z])) (uSet_eq (uOfL_eq (uLc_eq (uRng1_eq f1 (by omega) (by omega)) (by rw [rng_len0]; omega) f2))), ⟨fun q => ?_, by omega, k2⟩, by omega⟩
      rw [q] at k1
      simp at k1
      omega
    · exact ⟨c1, a7, by simp [uSeq, uIfS, uTst, uRel, uOp, uUn, uVar, uC, gv, bI2, dBool, uRet, uNext, uSet, uSetL, uDrop, dI2, dAdd, uTgt, uPar, uCall, uCallL, uMeth, aNil, aCons, aConsL, aSrc, uTup, uLst, uOfL, uLOf, uLVar, uUnL, uUnN, uIxL, uAnd, uOr, uNot, uIf, uTru, uTruL, bTru, bName, bTup, bNames, uItems, dIx, bEq, bNe, dInt, uAndV, uOrV, uNotV, uRetL, uRetN, dFld, dLen, lLen, dList, dTup, dNeg, at0, at1, at2, at3, at4, at5, at6, at7, sEO, sEN, sON, sNE, sNO, sOE, aEn, z], cl, fun _ => rfl⟩
  -- 6: the wide leap
  obtain ⟨lp1, a9, g6, lpk1⟩ : ∃ (lp1 : Leap) (a9 : St4), (uIfS (uTst dBool (uRel bEq (uVar 9) (uC (.int 2))))
      (uSet 8 (uTup (aCons (uC (.str ("of" : PySem.Str))) (aCons (uOp (dI2 fun i j => some (i - j)) (uC (.int 400)) (uCall f_law_pick [] (aSrc 0 (aCons (uC (.int 2)) aNil)))) (aCons (uOfL (uUnN lSort (uLOf (uSl (uOfL (uCallL f_law_shuffled [] (aSrc 0 (aCons (uOfL (uListRg (uC (.int 9)))) aNil)))) none (some (uOp dAdd (uC (.int 1)) (uCall f_law_pick [] (aSrc 0 (aCons (uC (.int 4)) aNil))))))))) aNil)))))
      uNext) (aEn tick Dt C great (some (.int w)) (some (iL cm)) (some (iL lg)) (some lp0.d) (some (.int kd)) none none none none none) a8 = some (.nx, aEn tick Dt C great (some (.int w)) (some (iL cm)) (some (iL lg)) (some lp1.d) (some (.int kd)) none none none none none, a9) ∧ lp1.Ok := by
    by_cases z : kd = 2
    · obtain ⟨q, s1, f1, q1, q2⟩ := pk 2 (by decide) (by decide) a8
      obtain ⟨rs, s2, f2, ok⟩ := sorted_ok (ρ := aEn tick Dt C great (some (.int w)) (some (iL cm)) (some (iL lg)) (some lp0.d) (some (.int kd)) none none none none none) (um := uC (.int 9)) (uj := uC (.int 4)) (m := 9) (j := 4) (a := 400 - q) rfl s1 rfl (fun _ => rfl) (by omega) (by decide)
      exact ⟨.of (400 - q) rs, s2, uIfS_t (uRelT_eq (x := .int kd) (y := .int 2) rfl rfl (by simp [bEq, z])) (uSet_eq (uTup_eq (aCons_eq rfl (aCons_eq (uOp_eq rfl (uCall_eq (aSrc_eq rfl (aCons_eq rfl rfl)) f1) rfl) (aCons_eq f2 rfl))) (by simp))), ok⟩
    · exact ⟨lp0, a8, by simp [uSeq, uIfS, uTst, uRel, uOp, uUn, uVar, uC, gv, bI2, dBool, uRet, uNext, uSet, uSetL, uDrop, dI2, dAdd, uTgt, uPar, uCall, uCallL, uMeth, aNil, aCons, aConsL, aSrc, uTup, uLst, uOfL, uLOf, uLVar, uUnL, uUnN, uIxL, uAnd, uOr, uNot, uIf, uTru, uTruL, bTru, bName, bTup, bNames, uItems, dIx, bEq, bNe, dInt, uAndV, uOrV, uNotV, uRetL, uRetN, dFld, dLen, lLen, dList, dTup, dNeg, at0, at1, at2, at3, at4, at5, at6, at7, sEO, sEN, sON, sNE, sNO, sOE, aEn, z], lpk0⟩
  -- 7: the old leap
  obtain ⟨lp, g7, lpk⟩ : ∃ (lp : Leap), (uIfS (uTst dBool (uRel bEq (uVar 9) (uC (.int 3))))
      (uSet 8 (uTup (aCons (uC (.str ("every" : PySem.Str))) (aCons (uC (.int 4)) (aCons (uC (.int 100)) (aCons (uC (.int 400)) aNil))))))
      uNext) (aEn tick Dt C great (some (.int w)) (some (iL cm)) (some (iL lg)) (some lp1.d) (some (.int kd)) none none none none none) a9 = some (.nx, aEn tick Dt C great (some (.int w)) (some (iL cm)) (some (iL lg)) (some lp.d) (some (.int kd)) none none none none none, a9) ∧ lp.Ok := by
    by_cases z : kd = 3
    · exact ⟨.e3 4 100 400, by simp [uSeq, uIfS, uTst, uRel, uOp, uUn, uVar, uC, gv, bI2, dBool, uRet, uNext, uSet, uSetL, uDrop, dI2, dAdd, uTgt, uPar, uCall, uCallL, uMeth, aNil, aCons, aConsL, aSrc, uTup, uLst, uOfL, uLOf, uLVar, uUnL, uUnN, uIxL, uAnd, uOr, uNot, uIf, uTru, uTruL, bTru, bName, bTup, bNames, uItems, dIx, bEq, bNe, dInt, uAndV, uOrV, uNotV, uRetL, uRetN, dFld, dLen, lLen, dList, dTup, dNeg, at0, at1, at2, at3, at4, at5, at6, at7, sEO, sEN, sON, sNE, sNO, sOE, aEn, z, Leap.d], by unfold Leap.Ok; omega⟩
    · exact ⟨lp1, by simp [uSeq, uIfS, uTst, uRel, uOp, uUn, uVar, uC, gv, bI2, dBool, uRet, uNext, uSet, uSetL, uDrop, dI2, dAdd, uTgt, uPar, uCall, uCallL, uMeth, aNil, aCons, aConsL, aSrc, uTup, uLst, uOfL, uLOf, uLVar, uUnL, uUnN, uIxL, uAnd, uOr, uNot, uIf, uTru, uTruL, bTru, bName, bTup, bNames, uItems, dIx, bEq, bNe, dInt, uAndV, uOrV, uNotV, uRetL, uRetN, dFld, dLen, lLen, dList, dTup, dNeg, at0, at1, at2, at3, at4, at5, at6, at7, sEO, sEN, sON, sNE, sNO, sOE, aEn, z], lpk1⟩
  -- 8: into
  obtain ⟨it, a10, g8, itk⟩ : ∃ (it : Int) (a10 : St4), (uSet 10 (uIf (uTru (uCall f_law_pick [] (aSrc 0 (aCons (uC (.int 3)) aNil)))) (uCall f_law_pick [] (aSrc 0 (aCons (uVar 5) aNil))) (uOp (dI2 fun i j => some (i - j)) (uVar 5) (uC (.int 1))))) (aEn tick Dt C great (some (.int w)) (some (iL cm)) (some (iL lg)) (some lp.d) (some (.int kd)) none none none none none) a9 = some (.nx, aEn tick Dt C great (some (.int w)) (some (iL cm)) (some (iL lg)) (some lp.d) (some (.int kd)) (some (.int it)) none none none none, a10) ∧ 0 ≤ it ∧ it < w := by
    obtain ⟨q, s1, f1, _, _⟩ := pk 3 (by decide) (by decide) a9
    by_cases z : q = 0
    · exact ⟨w - 1, s1, by simp [uSeq, uIfS, uTst, uRel, uOp, uUn, uVar, uC, gv, bI2, dBool, uRet, uNext, uSet, uSetL, uDrop, dI2, dAdd, uTgt, uPar, uCall, uCallL, uMeth, aNil, aCons, aConsL, aSrc, uTup, uLst, uOfL, uLOf, uLVar, uUnL, uUnN, uIxL, uAnd, uOr, uNot, uIf, uTru, uTruL, bTru, bName, bTup, bNames, uItems, dIx, bEq, bNe, dInt, uAndV, uOrV, uNotV, uRetL, uRetN, dFld, dLen, lLen, dList, dTup, dNeg, at0, at1, at2, at3, at4, at5, at6, at7, sEO, sEN, sON, sNE, sNO, sOE, aEn, z, f1], by omega, by omega⟩
    · obtain ⟨r, s2, f2, r1, r2, _⟩ := pk0 w (by omega) s1
      exact ⟨r, s2, by simp [uSeq, uIfS, uTst, uRel, uOp, uUn, uVar, uC, gv, bI2, dBool, uRet, uNext, uSet, uSetL, uDrop, dI2, dAdd, uTgt, uPar, uCall, uCallL, uMeth, aNil, aCons, aConsL, aSrc, uTup, uLst, uOfL, uLOf, uLVar, uUnL, uUnN, uIxL, uAnd, uOr, uNot, uIf, uTru, uTruL, bTru, bName, bTup, bNames, uItems, dIx, bEq, bNe, dInt, uAndV, uOrV, uNotV, uRetL, uRetN, dFld, dLen, lLen, dList, dTup, dNeg, at0, at1, at2, at3, at4, at5, at6, at7, sEO, sEN, sON, sNE, sNO, sOE, aEn, z, f1, f2], r1, r2 (by omega)⟩
  -- the segment, its date made to fit
  let s0 : Sg := ⟨tick, w, it, y, m, d, cm, lg, lp, cs⟩
  have ok0 : s0.Ok := ⟨wk, itk, cmk, lgk, lpk⟩
  have hml := Sg.len_pos ok0 y
  have e12 := f_law_months_eq ok0 y a10
  obtain ⟨mn, hmn⟩ : ∃ mn, (if ((s0.mon y).length : Int) < m then ((s0.mon y).length : Int) else m) = mn := ⟨_, rfl⟩
  have mnk : 1 ≤ mn ∧ mn ≤ (s0.mon y).length := by
    rw [← hmn]
    split <;> omega
  have mdk := Sg.md_pos ok0 (y := y) mnk.1 mnk.2
  have eix := ix_md (s := s0) (y := y) mnk.1 mnk.2
  obtain ⟨dn, hdn⟩ : ∃ dn, (if s0.md y mn < d then s0.md y mn else d) = dn := ⟨_, rfl⟩
  have dnk : 1 ≤ dn ∧ dn ≤ s0.md y mn := by
    rw [← hdn]
    split <;> omega
  let s1 : Sg := ⟨tick, w, it, y, mn, dn, cm, lg, lp, cs⟩
  refine ⟨s1, a10, Rt.fin (.go g1 (.go g2 (.go g3 (.go g4 (.go g5 (.go g6 (.go g7 (.go g8 (.go (ρ1 := aEn tick Dt C great (some (.int w)) (some (iL cm)) (some (iL lg)) (some lp.d) (some (.int kd)) (some (.int it)) (some s0.d) none none none) (st1 := a10) ?_
    (.go (ρ1 := aEn tick Dt C great (some (.int w)) (some (iL cm)) (some (iL lg)) (some lp.d) (some (.int kd)) (some (.int it)) (some s0.d) (some (iL (s0.mon y))) none none) (st1 := a10) ?_ (.go (ρ1 := aEn tick Dt C great (some (.int w)) (some (iL cm)) (some (iL lg)) (some lp.d) (some (.int kd)) (some (.int it)) (some s0.d) (some (iL (s0.mon y))) (some (.int mn)) none) (st1 := a10) ?_ (.ret ?_)))))))))))),
    ⟨wk, itk, cmk, lgk, lpk⟩, ⟨mnk.1, mnk.2, dnk.1, dnk.2⟩, rfl, rfl, rfl, fun h => ⟨w9 (kd9 h), by rw [show s1.common = c1 from cm9 (kd9 h)]; exact ⟨c3, fun x hx => by have := c4 x hx; omega⟩, ⟨lgl, lg4⟩⟩⟩
  · exact uSet_eq (uTup_eq (aCons_eq rfl (aCons_eq rfl (aCons_eq rfl (aCons_eq rfl (aCons_eq rfl (aCons_eq rfl (aCons_eq rfl (aCons_eq rfl rfl)))))))) (by simp))
  · exact uSet_eq (uCall_eq (aCons_eq rfl (aCons_eq (uOp_eq (x := Dt) (y := .int 0) rfl rfl at0) rfl)) e12)
  · refine uSet_eq (uOp_eq (uOp_eq (x := Dt) (y := .int 1) rfl rfl at1) (uUn_eq (x := iL (s0.mon y)) rfl rfl) ?_)
    show (some (if (((s0.mon y).map D.int).length : Int) < m then (((s0.mon y).map D.int).length : Int) else m)).map D.int = _
    rw [List.length_map, hmn] <;> rfl
  · have t1 : (uTup (aCons (uOp dIx (uVar 2) (uC (.int 0))) (aCons (uVar 13) (aCons (uOp (dI2 fun i j => some (if j < i then j else i)) (uOp dIx (uVar 2) (uC (.int 2))) (uOp dIx (uVar 12) (uOp (dI2 fun i j => some (i - j)) (uVar 13) (uC (.int 1))))) aNil)))) (aEn tick Dt C great (some (.int w)) (some (iL cm)) (some (iL lg)) (some lp.d) (some (.int kd)) (some (.int it)) (some s0.d) (some (iL (s0.mon y))) (some (.int mn)) none) a10 = some (dt y mn dn, a10) := by
      refine uTup_eq (aCons_eq (uOp_eq (x := Dt) (y := .int 0) rfl rfl at0) (aCons_eq rfl (aCons_eq (uOp_eq (x := .int d) (y := .int (s0.md y mn)) (z := .int dn) (uOp_eq (x := Dt) (y := .int 2) rfl rfl at2) (uOp_eq (x := iL (s0.mon y)) (y := .int (mn - 1)) rfl rfl eix) ?_) rfl))) (by simp)
      show (some (if s0.md y mn < d then s0.md y mn else d)).map D.int = _
      rw [hdn] <;> rfl
    refine uOp_eq (uOp_eq (x := .tup [.int tick, .int w, .int it]) (y := .tup [dt y mn dn]) (uSl_eq (x := s0.d) (i := none) (j := some 3) rfl rfl (uPart_eq rfl) rfl) (uTup_eq (aCons_eq t1 rfl) (by simp)) rfl) (uSl_eq (x := s0.d) (i := some 4) (j := none) (z := .tup [iL cm, iL lg, lp.d, C]) rfl (uPart_eq rfl) rfl rfl) rfl
end Fw
set_option Elab.async false
set_option linter.all false
set_option maxRecDepth 100000
set_option maxHeartbeats 4000000
namespace Fw
open PySem PySem.Spec L2
theorem f_law_a_days_eq {s : Sg} (h : s.Ok) (t : Int) (st : St4) : f_law_a_days [s.d, .int t] st = some (.int ((t - s.tick + s.into) / s.width), st) := by
  have e : iDiv (t - s.tick + s.into) s.width = some ((t - s.tick + s.into) / s.width) := iDiv_eq (by have := h.w; omega) (by have := h.w; omega)
  exact Rt.fin (.ret (by simp [uSeq, uIfS, uTst, uRel, uOp, uUn, uVar, uC, gv, bI2, dBool, uRet, uNext, uSet, uSetL, uDrop, dI2, dAdd, uTgt, uPar, uCall, uCallL, uMeth, aNil, aCons, aConsL, aSrc, uTup, uLst, uOfL, uLOf, uLVar, uUnL, uUnN, uIxL, uAnd, uOr, uNot, uIf, uTru, uTruL, bTru, bName, bTup, bNames, uItems, dIx, bEq, bNe, dInt, uAndV, uOrV, uNotV, uRetL, uRetN, dFld, dLen, lLen, dList, dTup, dNeg, at0, at1, at2, at3, at4, at5, at6, at7, sEO, sEN, sON, sNE, sNO, sOE, Sg.d, e]))
theorem f_law_far_ok (st : St4) : ∃ (r : Int) (st' : St4), f_law_far [.src] st = some (.int r, st') ∧ -(2 * 10 ^ 29) ≤ r ∧ r ≤ 2 * 10 ^ 29 := by
  obtain ⟨p, s1, e1, a1, a2⟩ := pk 999999999 (by decide) (by decide) st
  obtain ⟨q, s2, e2, b1, b2⟩ := pk (10 ^ 18) (by decide) (by decide) s1
  obtain ⟨r, s3, e3, c1, c2⟩ := pk 2 (by decide) (by decide) s2
  have m1 : iMul (1 + p) (10 ^ 20) = some ((1 + p) * 10 ^ 20) := iMul_eqL (by omega) (by omega)
  have p1 : iPow 10 20 = some (10 ^ 20) := by decide
  have p2 : iPow 10 18 = some (10 ^ 18) := by decide
  have g1 : uSet 1 (uOp dAdd (uOp (dI2 iMul) (uOp dAdd (uC (.int 1)) (uCall f_law_pick [] (aSrc 0 (aCons (uC (.int 999999999)) aNil)))) (uOp (dI2 iPow) (uC (.int 10)) (uC (.int 20)))) (uCall f_law_pick [] (aSrc 0 (aCons (uOp (dI2 iPow) (uC (.int 10)) (uC (.int 18))) aNil)))) [some .src, none] st = some (.nx, [some .src, some (.int ((1 + p) * 10 ^ 20 + q))], s2) := by
    refine uSet_eq (uOp_eq (x := .int ((1 + p) * 10 ^ 20)) (y := .int q) (uOp_eq (x := .int (1 + p)) (y := .int (10 ^ 20)) (uOp_eq rfl (uCall_eq (aSrc_eq rfl (aCons_eq rfl rfl)) e1) rfl) (uOp_eq rfl rfl (by show (iPow 10 20).map D.int = _; rw [p1] <;> rfl)) (by show (iMul (1 + p) (10 ^ 20)).map D.int = _; rw [m1] <;> rfl)) (uCall_eq (aSrc_eq rfl (aCons_eq (uOp_eq rfl rfl (by show (iPow 10 18).map D.int = _; rw [p2] <;> rfl)) rfl)) e2) rfl)
  by_cases z : r = 0
  · exact ⟨0 - ((1 + p) * 10 ^ 20 + q), s3, Rt.fin (.go g1 (.ret (by simp [uSeq, uIfS, uTst, uRel, uOp, uUn, uVar, uC, gv, bI2, dBool, uRet, uNext, uSet, uSetL, uDrop, dI2, dAdd, uTgt, uPar, uCall, uCallL, uMeth, aNil, aCons, aConsL, aSrc, uTup, uLst, uOfL, uLOf, uLVar, uUnL, uUnN, uIxL, uAnd, uOr, uNot, uIf, uTru, uTruL, bTru, bName, bTup, bNames, uItems, dIx, bEq, bNe, dInt, uAndV, uOrV, uNotV, uRetL, uRetN, dFld, dLen, lLen, dList, dTup, dNeg, at0, at1, at2, at3, at4, at5, at6, at7, sEO, sEN, sON, sNE, sNO, sOE, e3, z]))), by omega, by omega⟩
  · exact ⟨(1 + p) * 10 ^ 20 + q, s3, Rt.fin (.go g1 (.ret (by simp [uSeq, uIfS, uTst, uRel, uOp, uUn, uVar, uC, gv, bI2, dBool, uRet, uNext, uSet, uSetL, uDrop, dI2, dAdd, uTgt, uPar, uCall, uCallL, uMeth, aNil, aCons, aConsL, aSrc, uTup, uLst, uOfL, uLOf, uLVar, uUnL, uUnN, uIxL, uAnd, uOr, uNot, uIf, uTru, uTruL, bTru, bName, bTup, bNames, uItems, dIx, bEq, bNe, dInt, uAndV, uOrV, uNotV, uRetL, uRetN, dFld, dLen, lLen, dList, dTup, dNeg, at0, at1, at2, at3, at4, at5, at6, at7, sEO, sEN, sON, sNE, sNO, sOE, e3, z]))), by omega, by omega⟩
/-! ### the segment at a time -/
theorem lc_all {bd : D → En → Option En} {t : UT} {e : UE} {ρ0 : En} : ∀ (ds : List D), (∀ d ∈ ds, ∀ st, ∃ ρ1, bd d ρ0 = some ρ1 ∧ t ρ1 st = some (true, st) ∧ e ρ1 st = some (d, st)) → ∀ st, uLcGo bd t e ρ0 ds st = some (ds, st)
  | [], _, _ => rfl
  | d :: ds, h, st => by
    obtain ⟨ρ1, e1, e2, e3⟩ := h d List.mem_cons_self st
    have ih := lc_all ds (fun d hd => h d (List.mem_cons_of_mem _ hd)) st
    show ((bd d ρ0).bind fun ρ => (t ρ st).bind fun b => if b.1 = true then (e ρ b.2).bind fun y => (uLcGo bd t e ρ0 ds y.2).map fun r => (y.1 :: r.1, r.2) else uLcGo bd t e ρ0 ds b.2) = _
    rw [e1, Option.bind_some, e2, Option.bind_some]
    show ((e ρ1 st).bind fun y => (uLcGo bd t e ρ0 ds y.2).map fun r => (y.1 :: r.1, r.2)) = _
    rw [e3, Option.bind_some, ih] <;> rfl
theorem f_law_seg_at_last {l : List Sg} {a : Sg} {t : Int} (h : ∀ s ∈ l ++ [a], s.tick ≤ t) (hl : l.length ≤ 1000) (st : St4) : f_law_seg_at [.lst ((l ++ [a]).map Sg.d), .int t] st = some (a.d, st) := by
  have q := lc_all (bd := bName 3) (t := uTst dBool (uRel (bI2 fun i j => decide (i ≤ j)) (uOp dIx (uVar 3) (uC (.int 0))) (uVar 1))) (e := uVar 3) (ρ0 := [some (.lst ((l ++ [a]).map Sg.d)), some (.int t), none, none]) ((l ++ [a]).map Sg.d) (fun d hd st => by
    obtain ⟨s, hs, rfl⟩ := List.mem_map.mp hd
    refine ⟨_, rfl, uRelT_eq (x := .int s.tick) (y := .int t) (uOp_eq (x := s.d) (y := .int 0) rfl rfl at0) rfl ?_, rfl⟩
    show some (decide (s.tick ≤ t)) = _
    rw [decide_eq_true (h s hs)]) st
  have q2 : (uOfL (uLc [3] (uLVar 0) (bName 3) (uTst dBool (uRel (bI2 fun i j => decide (i ≤ j)) (uOp dIx (uVar 3) (uC (.int 0))) (uVar 1))) (uVar 3))) [some (.lst ((l ++ [a]).map Sg.d)), some (.int t), none, none] st = some (.lst ((l ++ [a]).map Sg.d), st) := uOfL_eq (uLc_eq rfl (by simp; omega) q)
  have q3 : atI ((l ++ [a]).map Sg.d) (-1) = some a.d := by
    rw [List.map_append]
    exact at_last
  refine Rt.fin (.go (uSet_eq q2) (.ret (uIf_t (uTst_eq (x := .lst ((l ++ [a]).map Sg.d)) rfl ?_) (uOp_eq (x := .lst ((l ++ [a]).map Sg.d)) (y := .int (-1)) rfl rfl q3))))
  simp [bTru]
/-- the date of a time behind the last segment's start -/
theorem f_law_date_last {l : List Sg} {a : Sg} {t : Int} (h : ∀ s ∈ l ++ [a], s.tick ≤ t) (hl : l.length ≤ 1000) (ok : a.Ok) (v : a.V) (ht : a.tick ≤ t) (ht2 : t ≤ a.tick + 100) (st : St4) : ∃ y m d r, f_law_date [.lst ((l ++ [a]).map Sg.d), .int t] st = some (.tup [.int y, .int m, .int d, .int r], st) ∧ a.Vd y m d ∧ a.y - 300 ≤ y ∧ y ≤ a.y + 300 ∧ a.dn y m d = a.dn a.y a.m a.dd + (t - a.tick + a.into) / a.width := by
  have hw := ok.w
  have hi := ok.i
  have e0 := f_law_seg_at_last h hl st
  have e1 : iDiv (t - a.tick + a.into) a.width = some ((t - a.tick + a.into) / a.width) := iDiv_eq (by omega) (by omega)
  have e2 : iMod (t - a.tick + a.into) a.width = some ((t - a.tick + a.into) % a.width) := iMod_eq (by omega)
  have b0 : 0 ≤ (t - a.tick + a.into) / a.width := Int.ediv_nonneg (by omega) (by omega)
  have b1 : (t - a.tick + a.into) / a.width ≤ t - a.tick + a.into := Int.ediv_le_self _ (by omega)
  obtain ⟨y, m, d, e3, v3, dn3, c1, c2⟩ := f_law_walk_days_ok ok v (days := (t - a.tick + a.into) / a.width) (by omega) st
  refine ⟨y, m, d, (t - a.tick + a.into) % a.width, Rt.fin (.go (uSet_eq (uCall_eq (aConsL_eq rfl (aCons_eq rfl rfl)) e0)) (.go (uSet_eq (x := .int (t - a.tick + a.into)) (s1 := st) ?_) (.ret ?_))), v3, by omega, by omega, dn3⟩
  · exact uOp_eq (x := .int (t - a.tick)) (y := .int a.into) (uOp_eq (x := .int t) (y := .int a.tick) rfl (uOp_eq (x := a.d) (y := .int 0) rfl rfl at0) rfl) (uOp_eq (x := a.d) (y := .int 2) rfl rfl at2) rfl
  · refine uOp_eq (x := dt y m d) (y := .tup [.int ((t - a.tick + a.into) % a.width)]) (uCall_eq (aCons_eq rfl (aCons_eq (uOp_eq (x := .int (t - a.tick + a.into)) (y := .int a.width) rfl (uOp_eq (x := a.d) (y := .int 1) rfl rfl at1) (by show (iDiv _ _).map D.int = _; rw [e1] <;> rfl)) rfl)) e3) (uTup_eq (aCons_eq (uOp_eq (x := .int (t - a.tick + a.into)) (y := .int a.width) (uUn_eq (x := .int (t - a.tick + a.into)) rfl rfl) (uOp_eq (x := a.d) (y := .int 1) rfl rfl at1) (by show (iMod _ _).map D.int = _; rw [e2] <;> rfl)) rfl) (by simp)) rfl
/-! ### cycles -/
inductive Cyc3 : List Str → List Int → List (Str × Int × Int) → Prop
  | nil : Cyc3 [] [] []
  | cons {t : Str} {ts : List Str} {n v : Int} {ns : List Int} {cs : List (Str × Int × Int)} : 0 ≤ v → v < n → Cyc3 ts ns cs → Cyc3 (t :: ts) (n :: ns) ((t, n, v) :: cs)
theorem Cyc3.len : ∀ {ts : List Str} {ns : List Int} {cs : List (Str × Int × Int)}, Cyc3 ts ns cs → cs.length = ts.length
  | _, _, _, .nil => rfl
  | _, _, _, .cons _ _ r => congrArg Nat.succ r.len
def cyE : UE := (uTup (aCons (uOp dIx (uVar 4) (uVar 13)) (aCons (uOp dIx (uVar 6) (uVar 13)) (aCons (uCall f_law_pick [] (aSrc 0 (aCons (uOp dIx (uVar 6) (uVar 13)) aNil))) aNil))))
theorem cyc_draw {ρ0 : En} {ts : List Str} {ns : List Int} (hl : ρ0.length = 14) (g0 : ρ0[0]? = some (some .src)) (g4 : ρ0[4]? = some (some (.lst (ts.map .str)))) (g6 : ρ0[6]? = some (some (iL ns))) (hn : ts.length = ns.length) (hb : ∀ n ∈ ns, 2 ≤ n ∧ n ≤ 400) :
    ∀ (c i : Nat), i + c = ts.length → ∀ st, ∃ (cs : List (Str × Int × Int)) (st' : St4), uLcGo (bName 13) tYesU cyE ρ0 ((List.range' i c).map fun j => D.int (j : Nat)) st = some (cs.map cycD, st') ∧ Cyc3 (ts.drop i) (ns.drop i) cs
  | 0, i, h, st => ⟨[], st, rfl, by
    rw [List.drop_of_length_le (by omega), List.drop_of_length_le (by omega)]
    exact .nil⟩
  | c + 1, i, h, st => by
    obtain ⟨t, ht⟩ : ∃ t, ts[i]? = some t := ⟨_, List.getElem?_eq_getElem (by omega)⟩
    obtain ⟨n, hn2⟩ : ∃ n, ns[i]? = some n := ⟨_, List.getElem?_eq_getElem (by omega)⟩
    have hnb := hb n (List.mem_of_getElem? hn2)
    obtain ⟨v, s1, e1, v1, v2⟩ := pk n (by omega) (by omega) st
    obtain ⟨cs, st', r, q⟩ := cyc_draw hl g0 g4 g6 hn hb c (i + 1) (by omega) s1
    refine ⟨(t, n, v) :: cs, st', ?_, ?_⟩
    · rw [List.range'_succ, List.map_cons]
      have k0 : gv (ρ0.set 13 (some (.int (i : Nat)))) 0 = some .src := by
        unfold gv
        rw [List.getElem?_set_ne (by decide), g0] <;> rfl
      have k4 : uVar 4 (ρ0.set 13 (some (.int (i : Nat)))) st = some (.lst (ts.map .str), st) := by
        unfold uVar gv
        rw [List.getElem?_set_ne (by decide), g4] <;> rfl
      have k6 : uVar 6 (ρ0.set 13 (some (.int (i : Nat)))) st = some (iL ns, st) := by
        unfold uVar gv
        rw [List.getElem?_set_ne (by decide), g6] <;> rfl
      have k13 : uVar 13 (ρ0.set 13 (some (.int (i : Nat)))) st = some (.int (i : Nat), st) := by
        unfold uVar gv
        rw [List.getElem?_set_self (by omega)] <;> rfl
      have a4 : atI (ts.map D.str) (i : Int) = some (.str t) := atK (by rw [List.getElem?_map, ht] <;> rfl)
      have a6 : atI (ns.map D.int) (i : Int) = some (.int n) := atK (by rw [List.getElem?_map, hn2] <;> rfl)
      have e2 : cyE (ρ0.set 13 (some (.int (i : Nat)))) st = some (cycD (t, n, v), s1) :=
        uTup_eq (aCons_eq (uOp_eq k4 k13 a4) (aCons_eq (uOp_eq k6 k13 a6) (aCons_eq (uCall_eq (aSrc_eq k0 (aCons_eq (uOp_eq k6 k13 a6) rfl)) e1) rfl))) (by simp)
      show ((some (ρ0.set 13 (some (D.int (i : Nat)))) : Option En).bind fun ρ => ((some (true, st) : Option (Bool × St4)).bind fun b => if b.1 = true then (cyE ρ b.2).bind fun y => (uLcGo (bName 13) tYesU cyE ρ0 ((List.range' (i + 1) c).map fun j => D.int (j : Nat)) y.2).map fun r => (y.1 :: r.1, r.2) else uLcGo (bName 13) tYesU cyE ρ0 ((List.range' (i + 1) c).map fun j => D.int (j : Nat)) b.2)) = _
      rw [Option.bind_some, Option.bind_some]
      show ((cyE (ρ0.set 13 (some (D.int (i : Nat)))) st).bind fun y => (uLcGo (bName 13) tYesU cyE ρ0 ((List.range' (i + 1) c).map fun j => D.int (j : Nat)) y.2).map fun r => (y.1 :: r.1, r.2)) = _
      rw [e2, Option.bind_some, r] <;> rfl
    · have d1 : ts.drop i = t :: ts.drop (i + 1) := by
        obtain ⟨h1, h2⟩ := List.getElem?_eq_some_iff.mp ht
        rw [← h2]
        exact List.drop_eq_getElem_cons h1
      have d2 : ns.drop i = n :: ns.drop (i + 1) := by
        obtain ⟨h1, h2⟩ := List.getElem?_eq_some_iff.mp hn2
        rw [← h2]
        exact List.drop_eq_getElem_cons h1
      rw [d1, d2]
      exact .cons v1 v2 q
/-! ### the row of segments -/
def Gaps : List Sg → Prop
  | [] => True
  | [_] => True
  | a :: b :: r => a.tick < b.tick ∧ b.tick ≤ a.tick + 9 ∧ Gaps (b :: r)
theorem Gaps.snoc {a b : Sg} (h1 : a.tick < b.tick) (h2 : b.tick ≤ a.tick + 9) : ∀ {l : List Sg}, Gaps (l ++ [a]) → Gaps ((l ++ [a]) ++ [b])
  | [], _ => ⟨h1, h2, trivial⟩
  | [x], h => ⟨h.1, h.2.1, h1, h2, trivial⟩
  | x :: y :: l, h => ⟨h.1, h.2.1, Gaps.snoc h1 h2 (l := y :: l) h.2.2⟩
theorem Gaps.le {a : Sg} : ∀ {l : List Sg}, Gaps (l ++ [a]) → ∀ s ∈ l ++ [a], s.tick ≤ a.tick
  | [], _, s, hs => by
    have : s = a := by simpa using hs
    rw [this]
    exact Int.le_refl _
  | [x], h, s, hs => by
    have h1 : x.tick < a.tick := h.1
    have : s = x ∨ s = a := by simpa using hs
    rcases this with rfl | rfl <;> omega
  | x :: y :: l, h, s, hs => by
    have ih := Gaps.le (l := y :: l) h.2.2
    rcases List.mem_cons.mp hs with rfl | hs
    · have h1 : s.tick < y.tick := h.1
      have := ih y List.mem_cons_self
      omega
    · exact ih s hs
structure SgB (ts : List Str) (ns : List Int) (B : Int) (s : Sg) : Prop where
  ok : s.Ok
  v : s.V
  cyc : Cyc3 ts ns s.cycles
  y1 : -B ≤ s.y
  y2 : s.y ≤ B
  t1 : -B ≤ s.tick
  t2 : s.tick ≤ B
theorem SgB.mono {ts : List Str} {ns : List Int} {B B' : Int} {s : Sg} (h : SgB ts ns B s) (hb : B ≤ B') : SgB ts ns B' s := ⟨h.ok, h.v, h.cyc, by have := h.y1; omega, by have := h.y2; omega, by have := h.t1; omega, by have := h.t2; omega⟩
end Fw
set_option Elab.async false
set_option linter.all false
set_option maxRecDepth 100000
set_option maxHeartbeats 4000000
namespace Fw
open PySem PySem.Spec L2
/-! ### the row of segments drawn -/
def segBody : US := (uSeq (uSet 9 (uOfL (uLc [13] (uRng1 (uUn dLen (uVar 4))) (bName 13) tYesU (uTup (aCons (uOp dIx (uVar 4) (uVar 13)) (aCons (uOp dIx (uVar 6) (uVar 13)) (aCons (uCall f_law_pick [] (aSrc 0 (aCons (uOp dIx (uVar 6) (uVar 13)) aNil))) aNil)))))))
  (uSeq (uIfS (uTst dBool (uRel bEq (uVar 8) (uC (.int 0))))
  (uSeq (uApp 5 (uCall f_law_a_segment [] (aSrc 0 (aCons (uVar 3) (aCons (uVar 7) (aCons (uVar 9) (aCons (uVar 2) aNil)))))))
  uCont)
  uNext)
  (uSeq (uPar [3, 10] (aCons (uOp dAdd (uOp dAdd (uVar 3) (uC (.int 1))) (uCall f_law_pick [] (aSrc 0 (aCons (uC (.int 9)) aNil)))) (aCons (uCall f_law_pick [] (aSrc 0 (aCons (uC (.int 6)) aNil))) aNil)))
  (uSeq (uPar [7, 11] (aCons (uSl (uCall f_law_date [] (aConsL (uLVar 5) (aCons (uVar 3) aNil))) none (some (uC (.int 3)))) (aCons (uIxL (uLVar 5) (uUn dNeg (uC (.int 1)))) aNil)))
  (uIfS (uTst dBool (uRel (bI2 fun i j => decide (i < j)) (uVar 10) (uC (.int 2))))
  (uApp 5 (uOp dAdd (uOp dAdd (uTup (aCons (uVar 3) (aCons (uOp dIx (uVar 11) (uC (.int 1))) (aCons (uCall f_law_pick [] (aSrc 0 (aCons (uOp dIx (uVar 11) (uC (.int 1))) aNil))) (aCons (uVar 7) aNil))))) (uSl (uVar 11) (some (uC (.int 4))) (some (uC (.int 7))))) (uTup (aCons (uVar 9) aNil))))
  (uIfS (uTst dBool (uRel bEq (uVar 10) (uC (.int 2))))
  (uApp 5 (uOp dAdd (uOp dAdd (uTup (aCons (uVar 3) (aCons (uOp dIx (uVar 11) (uC (.int 1))) (aCons (uCall f_law_pick [] (aSrc 0 (aCons (uOp dIx (uVar 11) (uC (.int 1))) aNil))) (aCons (uCall f_law_walk_days [] (aCons (uVar 11) (aCons (uOp (dI2 fun i j => some (i - j)) (uCall f_law_a_days [] (aCons (uVar 11) (aCons (uVar 3) aNil))) (uC (.int 1))) aNil))) aNil))))) (uSl (uVar 11) (some (uC (.int 4))) (some (uC (.int 7))))) (uTup (aCons (uVar 9) aNil))))
  (uApp 5 (uCall f_law_a_segment [] (aSrc 0 (aCons (uVar 3) (aCons (uTup (aCons (uOp (dI2 fun i j => some (i - j)) (uOp dAdd (uOp dIx (uVar 7) (uC (.int 0))) (uVar 10)) (uC (.int 4))) (aCons (uOp dAdd (uC (.int 1)) (uCall f_law_pick [] (aSrc 0 (aCons (uC (.int 3)) aNil)))) (aCons (uOp dAdd (uC (.int 1)) (uCall f_law_pick [] (aSrc 0 (aCons (uC (.int 3)) aNil)))) aNil)))) (aCons (uVar 9) (aCons (uVar 2) aNil)))))))))))))
def rEn (mo : D) (gr : Bool) (base : Int) (ts : List Str) (out : List Sg) (ns : List Int) (dte : D) (k cy kd old : Option D) : En := [some .src, some mo, some (.bl gr), some (.int base), some (.lst (ts.map .str)), some (.lst (out.map Sg.d)), some (iL ns), some dte, k, cy, kd, old, none, none]
theorem cyc_stmt {mo : D} {gr : Bool} {base : Int} {ts : List Str} {out : List Sg} {ns : List Int} {dte : D} {k cy kd old : Option D} (hn : ts.length = ns.length) (hb : ∀ n ∈ ns, 2 ≤ n ∧ n ≤ 400) (hl : ts.length ≤ 10) (st : St4) :
    ∃ (cs : List (Str × Int × Int)) (st' : St4), uSet 9 (uOfL (uLc [13] (uRng1 (uUn dLen (uVar 4))) (bName 13) tYesU (uTup (aCons (uOp dIx (uVar 4) (uVar 13)) (aCons (uOp dIx (uVar 6) (uVar 13)) (aCons (uCall f_law_pick [] (aSrc 0 (aCons (uOp dIx (uVar 6) (uVar 13)) aNil))) aNil)))))) (rEn mo gr base ts out ns dte k cy kd old) st = some (.nx, rEn mo gr base ts out ns dte k (some (.lst (cs.map cycD))) kd old, st') ∧ Cyc3 ts ns cs := by
  obtain ⟨cs, st', r, q⟩ := cyc_draw (ρ0 := rEn mo gr base ts out ns dte k cy kd old) (ts := ts) (ns := ns) rfl rfl rfl rfl hn hb ts.length 0 (by omega) st
  refine ⟨cs, st', uSet_eq (uOfL_eq (uLc_eq (ds := (List.range' 0 ts.length).map fun j => D.int (j : Nat)) (st1 := st) ?_ (by simp; omega) r)), by simpa using q⟩
  refine (uRng1_eq (n := ts.length) (uUn_eq (x := .lst (ts.map .str)) rfl (by simp [dLen])) (by omega) (by omega)).trans ?_
  unfold rng
  rw [List.range_eq_range']
  simp
theorem new_sg {a : Sg} {ts : List Str} {ns : List Int} {B : Int} (h : SgB ts ns B a) {base into y m d : Int} {cs : List (Str × Int × Int)} (hi : 0 ≤ into ∧ into < a.width) (v : a.Vd y m d) (hc : Cyc3 ts ns cs) (hy : a.y - 400 ≤ y ∧ y ≤ a.y + 400) (ht : a.tick < base ∧ base ≤ a.tick + 9) : SgB ts ns (B + 1000) ⟨base, a.width, into, y, m, d, a.common, a.longer, a.leap, cs⟩ := by
  have y1 := h.y1
  have y2 := h.y2
  have t1 := h.t1
  have t2 := h.t2
  exact ⟨⟨h.ok.w, hi, h.ok.c, h.ok.l, h.ok.leap⟩, ⟨v.m1, v.m2, v.d1, v.d2⟩, hc, by show -(B + 1000) ≤ y; omega, by show y ≤ B + 1000; omega, by show -(B + 1000) ≤ base; omega, by show base ≤ B + 1000; omega⟩
/-- how the year goes on over a reform -/
def Drift (a b : Sg) : Prop := ∃ y m d : Int, a.Vd y m d ∧ a.dn y m d = a.dn a.y a.m a.dd + (b.tick - a.tick + a.into) / a.width ∧ (y ≤ b.y + 1 ∨ ∃ m' d' : Int, a.Vd b.y m' d' ∧ a.dn b.y m' d' = a.dn y m d - 1)
theorem seg_turn {mo : D} {gr : Bool} {ts : List Str} {l : List Sg} {a : Sg} {ns : List Int} {dte : D} {k : Int} {cy kd old : Option D} {B : Int} (hk : 1 ≤ k) (hn : ts.length = ns.length) (hb : ∀ n ∈ ns, 2 ≤ n ∧ n ≤ 400) (hl : ts.length ≤ 10) (hll : l.length ≤ 100) (hB : ∀ s ∈ l ++ [a], SgB ts ns B s) (hg : Gaps (l ++ [a])) (st : St4) :
    ∃ (b : Sg) (dte' : D) (cy' kd' old' : Option D) (st' : St4), segBody (rEn mo gr a.tick ts (l ++ [a]) ns dte (some (.int k)) cy kd old) st = some (.nx, rEn mo gr b.tick ts ((l ++ [a]) ++ [b]) ns dte' (some (.int k)) cy' kd' old', st') ∧ SgB ts ns (B + 1000) b ∧ a.tick < b.tick ∧ b.tick ≤ a.tick + 9 ∧ ((gr = false → Sm a) → gr = false → Sm b) ∧ Drift a b := by
  have hA := hB a (List.mem_append_right _ List.mem_cons_self)
  obtain ⟨cs, s1, g1, cc⟩ := cyc_stmt (mo := mo) (gr := gr) (base := a.tick) (out := l ++ [a]) (dte := dte) (k := some (.int k)) (cy := cy) (kd := kd) (old := old) hn hb hl st
  have g2 : (uIfS (uTst dBool (uRel bEq (uVar 8) (uC (.int 0))))
      (uSeq (uApp 5 (uCall f_law_a_segment [] (aSrc 0 (aCons (uVar 3) (aCons (uVar 7) (aCons (uVar 9) (aCons (uVar 2) aNil)))))))
      uCont)
      uNext) (rEn mo gr a.tick ts (l ++ [a]) ns dte (some (.int k)) (some (.lst (cs.map cycD))) kd old) s1 = some (.nx, rEn mo gr a.tick ts (l ++ [a]) ns dte (some (.int k)) (some (.lst (cs.map cycD))) kd old, s1) :=
    uIfS_f (uRelT_eq (x := .int k) (y := .int 0) rfl rfl (by show some (decide (k = 0)) = _; rw [decide_eq_false (by omega)])) rfl
  obtain ⟨p, s2, e2, p1, p2⟩ := pk 9 (by decide) (by decide) s1
  obtain ⟨q, s3, e3, q1, q2⟩ := pk 6 (by decide) (by decide) s2
  let base : Int := a.tick + 1 + p
  have g3 : uPar [3, 10] (aCons (uOp dAdd (uOp dAdd (uVar 3) (uC (.int 1))) (uCall f_law_pick [] (aSrc 0 (aCons (uC (.int 9)) aNil)))) (aCons (uCall f_law_pick [] (aSrc 0 (aCons (uC (.int 6)) aNil))) aNil)) (rEn mo gr a.tick ts (l ++ [a]) ns dte (some (.int k)) (some (.lst (cs.map cycD))) kd old) s1 = some (.nx, rEn mo gr base ts (l ++ [a]) ns dte (some (.int k)) (some (.lst (cs.map cycD))) (some (.int q)) old, s3) :=
    uPar_eq (aCons_eq (uOp_eq (uOp_eq rfl rfl rfl) (uCall_eq (aSrc_eq rfl (aCons_eq rfl rfl)) e2) rfl) (aCons_eq (uCall_eq (aSrc_eq rfl (aCons_eq rfl rfl)) e3) rfl)) rfl
  obtain ⟨y, m, d, r, e4, v4, y1, y2, dn4⟩ := f_law_date_last (l := l) (a := a) (t := base) (fun s hs => by have := Gaps.le hg s hs; show s.tick ≤ a.tick + 1 + p; omega) (by omega) hA.ok hA.v (by show a.tick ≤ a.tick + 1 + p; omega) (by show a.tick + 1 + p ≤ a.tick + 100; omega) s3
  have e5 : atI ((l ++ [a]).map Sg.d) (-1) = some a.d := by
    rw [List.map_append]
    exact at_last
  have g4 : uPar [7, 11] (aCons (uSl (uCall f_law_date [] (aConsL (uLVar 5) (aCons (uVar 3) aNil))) none (some (uC (.int 3)))) (aCons (uIxL (uLVar 5) (uUn dNeg (uC (.int 1)))) aNil)) (rEn mo gr base ts (l ++ [a]) ns dte (some (.int k)) (some (.lst (cs.map cycD))) (some (.int q)) old) s3 = some (.nx, rEn mo gr base ts (l ++ [a]) ns (dt y m d) (some (.int k)) (some (.lst (cs.map cycD))) (some (.int q)) (some a.d), s3) := by
    refine uPar_eq (aCons_eq (x := dt y m d) (s1 := s3) (uSl_eq (x := .tup [.int y, .int m, .int d, .int r]) (i := none) (j := some 3) (uCall_eq (aConsL_eq rfl (aCons_eq rfl rfl)) e4) rfl (uPart_eq rfl) rfl) (aCons_eq (x := a.d) (s1 := s3) ?_ rfl)) rfl
    show ((some ((l ++ [a]).map Sg.d, s3) : Option (List D × St4)).bind fun x => (uUn dNeg (uC (.int 1)) _ x.2).bind fun y => _) = _
    rw [Option.bind_some]
    show ((some (D.int (-1), s3) : Option (D × St4)).bind fun y => _) = _
    rw [Option.bind_some]
    show (atI ((l ++ [a]).map Sg.d) (-1)).map _ = _
    rw [e5] <;> rfl
  have bt : a.tick < base ∧ base ≤ a.tick + 9 := ⟨by show a.tick < a.tick + 1 + p; omega, by show a.tick + 1 + p ≤ a.tick + 9; omega⟩
  have hlen : ((l ++ [a]).map Sg.d).length < 100000 := by simp; omega
  have hmp : ∀ b : Sg, (l ++ [a]).map Sg.d ++ [b.d] = ((l ++ [a]) ++ [b]).map Sg.d := fun b => by simp
  by_cases c1 : q < 2
  · obtain ⟨it, s4, e6, i1, i2, _⟩ := pk0 a.width (by have := hA.ok.w; omega) s3
    let b : Sg := ⟨base, a.width, it, y, m, d, a.common, a.longer, a.leap, cs⟩
    refine ⟨b, dt y m d, some (.lst (cs.map cycD)), some (.int q), some a.d, s4, uSeq_go g1 (uSeq_go g2 (uSeq_go g3 (uSeq_go g4 (uIfS_t (uRelT_eq (x := .int q) (y := .int 2) rfl rfl (by show some (decide (q < 2)) = _; rw [decide_eq_true c1])) ?_)))), new_sg hA ⟨i1, i2 (by have := hA.ok.w; omega)⟩ v4 cc ⟨by omega, by omega⟩ bt, bt.1, bt.2, fun z h => ⟨(z h).w, (z h).c, (z h).l⟩, y, m, d, v4, dn4, .inl (by show y ≤ y + 1; omega)⟩
    refine (uApp_eq (x := b.d) (s1 := s4) (ys := (l ++ [a]).map Sg.d) ?_ rfl hlen).trans (by rw [hmp] <;> rfl)
    exact uOp_eq (x := .tup [.int base, .int a.width, .int it, dt y m d, iL a.common, iL a.longer, a.leap.d]) (y := .tup [.lst (cs.map cycD)]) (s1 := s4) (uOp_eq (x := .tup [.int base, .int a.width, .int it, dt y m d]) (y := .tup [iL a.common, iL a.longer, a.leap.d]) (s1 := s4) (uTup_eq (aCons_eq rfl (aCons_eq (uOp_eq (x := a.d) (y := .int 1) rfl rfl at1) (aCons_eq (uCall_eq (aSrc_eq rfl (aCons_eq (uOp_eq (x := a.d) (y := .int 1) rfl rfl at1) rfl)) e6) (aCons_eq rfl rfl)))) (by simp)) (uSl_eq (x := a.d) (i := some 4) (j := some 7) rfl (uPart_eq rfl) (uPart_eq rfl) rfl) rfl) (uTup_eq (aCons_eq rfl rfl) (by simp)) rfl
  · by_cases c2 : q = 2
    · obtain ⟨it, s4, e6, i1, i2, _⟩ := pk0 a.width (by have := hA.ok.w; omega) s3
      have e7 := f_law_a_days_eq hA.ok base s4
      have hw := hA.ok.w
      have hi := hA.ok.i
      have b0 : 0 ≤ (base - a.tick + a.into) / a.width := Int.ediv_nonneg (by omega) (by omega)
      have b1 : (base - a.tick + a.into) / a.width ≤ base - a.tick + a.into := Int.ediv_le_self _ (by omega)
      obtain ⟨y', m', d', e8, v8, dn8, z1, z2⟩ := f_law_walk_days_ok hA.ok hA.v (days := (base - a.tick + a.into) / a.width - 1) (by omega) s4
      let b : Sg := ⟨base, a.width, it, y', m', d', a.common, a.longer, a.leap, cs⟩
      refine ⟨b, dt y m d, some (.lst (cs.map cycD)), some (.int q), some a.d, s4, uSeq_go g1 (uSeq_go g2 (uSeq_go g3 (uSeq_go g4 (uIfS_f (uRelT_eq (x := .int q) (y := .int 2) rfl rfl (by show some (decide (q < 2)) = _; rw [decide_eq_false c1])) (uIfS_t (uRelT_eq (x := .int q) (y := .int 2) rfl rfl (by show some (decide (q = 2)) = _; rw [decide_eq_true c2])) ?_))))), new_sg hA ⟨i1, i2 (by omega)⟩ v8 cc ⟨by omega, by omega⟩ bt, bt.1, bt.2, fun z h => ⟨(z h).w, (z h).c, (z h).l⟩, y, m, d, v4, dn4, .inr ⟨m', d', v8, by show a.dn y' m' d' = _; omega⟩⟩
      refine (uApp_eq (x := b.d) (s1 := s4) (ys := (l ++ [a]).map Sg.d) ?_ rfl hlen).trans (by rw [hmp] <;> rfl)
      exact uOp_eq (x := .tup [.int base, .int a.width, .int it, dt y' m' d', iL a.common, iL a.longer, a.leap.d]) (y := .tup [.lst (cs.map cycD)]) (s1 := s4) (uOp_eq (x := .tup [.int base, .int a.width, .int it, dt y' m' d']) (y := .tup [iL a.common, iL a.longer, a.leap.d]) (s1 := s4) (uTup_eq (aCons_eq rfl (aCons_eq (uOp_eq (x := a.d) (y := .int 1) rfl rfl at1) (aCons_eq (uCall_eq (aSrc_eq rfl (aCons_eq (uOp_eq (x := a.d) (y := .int 1) rfl rfl at1) rfl)) e6) (aCons_eq (uCall_eq (aCons_eq rfl (aCons_eq (uOp_eq (uCall_eq (aCons_eq rfl (aCons_eq rfl rfl)) e7) rfl rfl) rfl)) e8) rfl)))) (by simp)) (uSl_eq (x := a.d) (i := some 4) (j := some 7) rfl (uPart_eq rfl) (uPart_eq rfl) rfl) rfl) (uTup_eq (aCons_eq rfl rfl) (by simp)) rfl
    · obtain ⟨r1, s4, e6, i1, i2⟩ := pk 3 (by decide) (by decide) s3
      obtain ⟨r2, s5, e7, j1, j2⟩ := pk 3 (by decide) (by decide) s4
      obtain ⟨b, s6, e8, ok, v, tk, yy, cyq, sm⟩ := f_law_a_segment_ok (tick := base) (y := y + q - 4) (m := 1 + r1) (d := 1 + r2) (by omega) (by omega) cs gr s5
      have B1 := hA.y1
      have B2 := hA.y2
      have B3 := hA.t1
      have B4 := hA.t2
      refine ⟨b, dt y m d, some (.lst (cs.map cycD)), some (.int q), some a.d, s6, uSeq_go g1 (uSeq_go g2 (uSeq_go g3 (uSeq_go g4 (uIfS_f (uRelT_eq (x := .int q) (y := .int 2) rfl rfl (by show some (decide (q < 2)) = _; rw [decide_eq_false c1])) (uIfS_f (uRelT_eq (x := .int q) (y := .int 2) rfl rfl (by show some (decide (q = 2)) = _; rw [decide_eq_false c2])) ?_))))), ⟨ok, v, cyq ▸ cc, by omega, by omega, by omega, by omega⟩, by omega, by omega, fun _ => sm, y, m, d, v4, by rw [tk]; exact dn4, .inl (by omega)⟩
      refine (uApp_eq (x := b.d) (s1 := s6) (ys := (l ++ [a]).map Sg.d) ?_ rfl hlen).trans (by rw [hmp, tk] <;> rfl)
      exact uCall_eq (aSrc_eq rfl (aCons_eq rfl (aCons_eq (uTup_eq (aCons_eq (uOp_eq (uOp_eq (uOp_eq (x := dt y m d) (y := .int 0) rfl rfl at0) rfl rfl) rfl rfl) (aCons_eq (uOp_eq rfl (uCall_eq (aSrc_eq rfl (aCons_eq rfl rfl)) e6) rfl) (aCons_eq (uOp_eq rfl (uCall_eq (aSrc_eq rfl (aCons_eq rfl rfl)) e7) rfl) rfl))) (by simp)) (aCons_eq rfl (aCons_eq rfl rfl))))) e8
end Fw
set_option Elab.async false
set_option linter.all false
set_option maxRecDepth 100000
set_option maxHeartbeats 4000000
namespace Fw
open PySem PySem.Spec L2
theorem uSeq_ct {a b : US} {ρ ρ1 : En} {st st1 : St4} (h1 : a ρ st = some (.ct, ρ1, st1)) : uSeq a b ρ st = some (.ct, ρ1, st1) := by
  unfold uSeq
  rw [h1] <;> rfl
/-- each reform -/
def Drs (l : List Sg) : Prop := ∀ (i : Nat) (a b : Sg), l[i]? = some a → l[i + 1]? = some b → Drift a b
theorem Drs.snoc {l : List Sg} {a b : Sg} (h : Drs (l ++ [a])) (d : Drift a b) : Drs ((l ++ [a]) ++ [b]) := fun i x y hx hy => by
  have li := (List.getElem?_eq_some_iff.mp hy).1
  rw [List.length_append, List.length_append, List.length_singleton, List.length_singleton] at li
  by_cases c : i + 1 < (l ++ [a]).length
  · rw [List.getElem?_append_left (by omega)] at hx hy
    exact h i x y hx hy
  · rw [List.length_append, List.length_singleton] at c
    have : i = l.length := by omega
    subst this
    rw [List.getElem?_append_left (by simp), List.getElem?_append_right (Nat.le_refl _), Nat.sub_self] at hx
    rw [List.getElem?_append_right (by simp)] at hy
    simp at hx hy
    rw [← hx, ← hy]
    exact d
theorem Drs.one (a : Sg) : Drs ([] ++ [a]) := fun i x y _ hy => by
  have := (List.getElem?_eq_some_iff.mp hy).1
  simp at this
theorem seg_go {mo : D} {gr : Bool} {ts : List Str} {ns : List Int} (hn : ts.length = ns.length) (hb : ∀ n ∈ ns, 2 ≤ n ∧ n ≤ 400) (hl : ts.length ≤ 10) : ∀ (c i : Nat) (l : List Sg) (a : Sg) (dte : D) (k cy kd old : Option D) (B : Int) (st : St4), 1 ≤ i → l.length + c ≤ 100 → (∀ s ∈ l ++ [a], SgB ts ns B s) → Gaps (l ++ [a]) → Drs (l ++ [a]) →
    ∃ (l' : List Sg) (a' : Sg) (dte' : D) (k' cy' kd' old' : Option D) (st' : St4), uForGo (bName 8) segBody ((List.range' i c).map fun j => D.int (j : Nat)) (rEn mo gr a.tick ts (l ++ [a]) ns dte k cy kd old) st = some (.nx, rEn mo gr a'.tick ts (l' ++ [a']) ns dte' k' cy' kd' old', st') ∧ (∀ s ∈ l' ++ [a'], SgB ts ns (B + 1000 * c) s) ∧ Gaps (l' ++ [a']) ∧ l'.length = l.length + c ∧ ((∀ s ∈ l ++ [a], gr = false → Sm s) → ∀ s ∈ l' ++ [a'], gr = false → Sm s) ∧ Drs (l' ++ [a'])
  | 0, i, l, a, dte, k, cy, kd, old, B, st, _, _, hB, hg, hdr => ⟨l, a, dte, k, cy, kd, old, st, rfl, fun s hs => (hB s hs).mono (by simp), hg, rfl, fun z => z, hdr⟩
  | c + 1, i, l, a, dte, k, cy, kd, old, B, st, hi, hlc, hB, hg, hdr => by
    obtain ⟨b, dte1, cy1, kd1, old1, s1, g, hb1, t1, t2, smb, drb⟩ := seg_turn (mo := mo) (gr := gr) (dte := dte) (k := (i : Int)) (cy := cy) (kd := kd) (old := old) (by omega) hn hb hl (by omega) hB hg st
    obtain ⟨l', a', dte', k', cy', kd', old', st', r, hB', hg', hl', sm', dr'⟩ := seg_go hn hb hl c (i + 1) (l ++ [a]) b dte1 (some (.int (i : Int))) cy1 kd1 old1 (B + 1000) s1 (by omega) (by simp; omega) (fun s hs => by
      rcases List.mem_append.mp hs with hs | hs
      · exact (hB s hs).mono (by omega)
      · have : s = b := by simpa using hs
        rw [this]
        exact hb1) (Gaps.snoc t1 t2 hg) (hdr.snoc drb)
    refine ⟨l', a', dte', k', cy', kd', old', st', ?_, fun s hs => (hB' s hs).mono (by push_cast; omega), hg', by rw [hl']; simp; omega, fun z => sm' fun s hs => by
      rcases List.mem_append.mp hs with hs | hs
      · exact z s hs
      · rw [List.mem_singleton.mp hs]
        exact smb (z a (List.mem_append_right _ List.mem_cons_self)), dr'⟩
    rw [List.range'_succ, List.map_cons]
    exact uForGo_cons (ρ1 := rEn mo gr a.tick ts (l ++ [a]) ns dte (some (.int (i : Int))) cy kd old) rfl g r
/-- the first turn -/
theorem seg_first {mo : D} {gr : Bool} {ts : List Str} {ns : List Int} {base y m d : Int} (hn : ts.length = ns.length) (hb : ∀ n ∈ ns, 2 ≤ n ∧ n ≤ 400) (hl : ts.length ≤ 10) (hm : 1 ≤ m) (hd : 1 ≤ d) (hbb : -(2 * 10 ^ 29) ≤ base ∧ base ≤ 2 * 10 ^ 29) (hyb : -(2 * 10 ^ 29) ≤ y ∧ y ≤ 2 * 10 ^ 29) (st : St4) :
    ∃ (a : Sg) (cy : Option D) (st' : St4), segBody (rEn mo gr base ts [] ns (dt y m d) (some (.int 0)) none none none) st = some (.ct, rEn mo gr a.tick ts ([] ++ [a]) ns (dt y m d) (some (.int 0)) cy none none, st') ∧ SgB ts ns (2 * 10 ^ 29) a ∧ (gr = false → Sm a) := by
  obtain ⟨cs, s1, g1, cc⟩ := cyc_stmt (mo := mo) (gr := gr) (base := base) (out := []) (dte := dt y m d) (k := some (.int 0)) (cy := none) (kd := none) (old := none) hn hb hl st
  obtain ⟨a, s2, e, ok, v, tk, yy, cyq, sm⟩ := f_law_a_segment_ok (tick := base) (y := y) hm hd cs gr s1
  refine ⟨a, some (.lst (cs.map cycD)), s2, uSeq_go g1 ?_, ⟨ok, v, cyq ▸ cc, by omega, by omega, by omega, by omega⟩, sm⟩
  have g2 : (uIfS (uTst dBool (uRel bEq (uVar 8) (uC (.int 0))))
      (uSeq (uApp 5 (uCall f_law_a_segment [] (aSrc 0 (aCons (uVar 3) (aCons (uVar 7) (aCons (uVar 9) (aCons (uVar 2) aNil)))))))
      uCont)
      uNext) (rEn mo gr base ts [] ns (dt y m d) (some (.int 0)) (some (.lst (cs.map cycD))) none none) s1 = some (.ct, rEn mo gr a.tick ts ([] ++ [a]) ns (dt y m d) (some (.int 0)) (some (.lst (cs.map cycD))) none none, s2) := by
    refine uIfS_t (uRelT_eq (x := .int 0) (y := .int 0) rfl rfl rfl) (uSeq_go (uApp_eq (ys := []) (uCall_eq (aSrc_eq rfl (aCons_eq rfl (aCons_eq rfl (aCons_eq rfl (aCons_eq rfl rfl))))) e) rfl (by simp)) ?_)
    rw [tk] <;> rfl
  exact uSeq_ct g2
theorem all2_lens : ∀ {ds ys : List D}, All2 (fun _ y => ∃ i : Int, y = .int i ∧ 2 ≤ i ∧ i ≤ 400) ds ys → ∃ l : List Int, ys = l.map .int ∧ l.length = ds.length ∧ ∀ x ∈ l, 2 ≤ x ∧ x ≤ 400 := fun h => all2_ints h
/-- what a row of segments is -/
structure Row (segs : List Sg) : Prop where
  ex : ∃ (ts : List Str) (ns : List Int), ts.Nodup ∧ ts.length ≤ 2 ∧ ts.length = ns.length ∧ (∀ n ∈ ns, 2 ≤ n ∧ n ≤ 400) ∧ ∀ s ∈ segs, SgB ts ns (3 * 10 ^ 29) s
  ne : segs ≠ []
  len : segs.length ≤ 4
  gaps : Gaps segs
  nm : ∀ s ∈ segs, ∀ c ∈ s.cycles, Nm c.1
theorem Cyc3.mem : ∀ {ts : List Str} {ns : List Int} {cs : List (Str × Int × Int)}, Cyc3 ts ns cs → ∀ c ∈ cs, c.1 ∈ ts := fun h => by
  induction h with
  | nil => exact fun _ h => by cases h
  | cons h1 h2 _ ih =>
    intro c hc
    rcases List.mem_cons.mp hc with rfl | hc
    · exact List.mem_cons_self
    · exact List.mem_cons_of_mem _ (ih c hc)
theorem f_law_a_segs_okY {mo : Int} (hmo : 1 < mo ∧ mo ≤ 4) (gr : Bool) (st : St4) : ∃ (segs : List Sg) (st' : St4), f_law_a_segs [.src, .int mo, .bl gr] st = some (.lst (segs.map Sg.d), st') ∧ Row segs ∧ (gr = false → ∀ s ∈ segs, Sm s) ∧ Drs segs := by
  -- base
  obtain ⟨base, a1, g1, b1, b2⟩ : ∃ (base : Int) (a1 : St4), uSet 3 (uIf (uTst dBool (uRel bEq (uCall f_law_pick [] (aSrc 0 (aCons (uC (.int 3)) aNil))) (uC (.int 0)))) (uCall f_law_far [] (aSrc 0 aNil)) (uOp (dI2 fun i j => some (i - j)) (uCall f_law_pick [] (aSrc 0 (aCons (uC (.int 40)) aNil))) (uC (.int 20)))) [some .src, some (.int mo), some (.bl gr), none, none, none, none, none, none, none, none, none, none, none] st = some (.nx, [some .src, some (.int mo), some (.bl gr), some (.int base), none, none, none, none, none, none, none, none, none, none], a1) ∧ -(2 * 10 ^ 29) ≤ base ∧ base ≤ 2 * 10 ^ 29 := by
    obtain ⟨p, s1, e1, _, _⟩ := pk 3 (by decide) (by decide) st
    by_cases z : p = 0
    · obtain ⟨r, s2, e2, k1, k2⟩ := f_law_far_ok s1
      exact ⟨r, s2, by simp [uSeq, uIfS, uTst, uRel, uOp, uUn, uVar, uC, gv, bI2, dBool, uRet, uNext, uSet, uSetL, uDrop, dI2, dAdd, uTgt, uPar, uCall, uCallL, uMeth, aNil, aCons, aConsL, aSrc, uTup, uLst, uOfL, uLOf, uLVar, uUnL, uUnN, uIxL, uAnd, uOr, uNot, uIf, uTru, uTruL, bTru, bName, bTup, bNames, uItems, dIx, bEq, bNe, dInt, uAndV, uOrV, uNotV, uRetL, uRetN, dFld, dLen, lLen, dList, dTup, dNeg, at0, at1, at2, at3, at4, at5, at6, at7, sEO, sEN, sON, sNE, sNO, sOE, e1, z, e2], k1, k2⟩
    · obtain ⟨r, s2, e2, k1, k2⟩ := pk 40 (by decide) (by decide) s1
      exact ⟨r - 20, s2, by simp [uSeq, uIfS, uTst, uRel, uOp, uUn, uVar, uC, gv, bI2, dBool, uRet, uNext, uSet, uSetL, uDrop, dI2, dAdd, uTgt, uPar, uCall, uCallL, uMeth, aNil, aCons, aConsL, aSrc, uTup, uLst, uOfL, uLOf, uLVar, uUnL, uUnN, uIxL, uAnd, uOr, uNot, uIf, uTru, uTruL, bTru, bName, bTup, bNames, uItems, dIx, bEq, bNe, dInt, uAndV, uOrV, uNotV, uRetL, uRetN, dFld, dLen, lLen, dList, dTup, dNeg, at0, at1, at2, at3, at4, at5, at6, at7, sEO, sEN, sON, sNE, sNO, sOE, e1, z, e2], by omega, by omega⟩
  -- names
  obtain ⟨p, s1, e1, p1, p2⟩ := pk 3 (by decide) (by decide) a1
  obtain ⟨ts, a2, e2, nd, tl, hz⟩ := f_law_names_ok (many := p) p1 (by omega) s1
  have g2 : uPar [4, 5] (aCons (uOfL (uCallL f_law_names [] (aSrc 0 (aCons (uCall f_law_pick [] (aSrc 0 (aCons (uC (.int 3)) aNil))) (aConsL (uLst aNil) aNil))))) (aConsL (uLst aNil) aNil)) [some .src, some (.int mo), some (.bl gr), some (.int base), none, none, none, none, none, none, none, none, none, none] a1 = some (.nx, [some .src, some (.int mo), some (.bl gr), some (.int base), some (.lst (ts.map .str)), some (.lst []), none, none, none, none, none, none, none, none], a2) :=
    uPar_eq (aCons_eq (uOfL_eq (uCallL_eq (aSrc_eq rfl (aCons_eq (uCall_eq (aSrc_eq rfl (aCons_eq rfl rfl)) e1) (aConsL_eq rfl rfl))) e2)) (aConsL_eq rfl rfl)) rfl
  -- lengths
  obtain ⟨ys, a3, e3, q3⟩ := lc_draw (bd := bName 12) (e := uIf (uTru (uCall f_law_pick [] (aSrc 0 (aCons (uC (.int 3)) aNil)))) (uOp dAdd (uC (.int 2)) (uCall f_law_pick [] (aSrc 0 (aCons (uC (.int 5)) aNil)))) (uOp (dI2 fun i j => some (i - j)) (uC (.int 400)) (uCall f_law_pick [] (aSrc 0 (aCons (uC (.int 2)) aNil))))) (ρ0 := [some .src, some (.int mo), some (.bl gr), some (.int base), some (.lst (ts.map .str)), some (.lst []), none, none, none, none, none, none, none, none]) (P := fun _ y => ∃ i : Int, y = .int i ∧ 2 ≤ i ∧ i ≤ 400) (ts.map .str) (fun d hd st => by
    obtain ⟨q, s, e, _, _⟩ := pk 3 (by decide) (by decide) st
    by_cases z : q = 0
    · obtain ⟨r, s2, e', c1, c2⟩ := pk 2 (by decide) (by decide) s
      exact ⟨_, .int (400 - r), s2, rfl, by simp [uSeq, uIfS, uTst, uRel, uOp, uUn, uVar, uC, gv, bI2, dBool, uRet, uNext, uSet, uSetL, uDrop, dI2, dAdd, uTgt, uPar, uCall, uCallL, uMeth, aNil, aCons, aConsL, aSrc, uTup, uLst, uOfL, uLOf, uLVar, uUnL, uUnN, uIxL, uAnd, uOr, uNot, uIf, uTru, uTruL, bTru, bName, bTup, bNames, uItems, dIx, bEq, bNe, dInt, uAndV, uOrV, uNotV, uRetL, uRetN, dFld, dLen, lLen, dList, dTup, dNeg, at0, at1, at2, at3, at4, at5, at6, at7, sEO, sEN, sON, sNE, sNO, sOE, e, e', z], 400 - r, rfl, by omega, by omega⟩
    · obtain ⟨r, s2, e', c1, c2⟩ := pk 5 (by decide) (by decide) s
      exact ⟨_, .int (2 + r), s2, rfl, by simp [uSeq, uIfS, uTst, uRel, uOp, uUn, uVar, uC, gv, bI2, dBool, uRet, uNext, uSet, uSetL, uDrop, dI2, dAdd, uTgt, uPar, uCall, uCallL, uMeth, aNil, aCons, aConsL, aSrc, uTup, uLst, uOfL, uLOf, uLVar, uUnL, uUnN, uIxL, uAnd, uOr, uNot, uIf, uTru, uTruL, bTru, bName, bTup, bNames, uItems, dIx, bEq, bNe, dInt, uAndV, uOrV, uNotV, uRetL, uRetN, dFld, dLen, lLen, dList, dTup, dNeg, at0, at1, at2, at3, at4, at5, at6, at7, sEO, sEN, sON, sNE, sNO, sOE, e, e', z], 2 + r, rfl, by omega, by omega⟩) a2
  obtain ⟨ns, rfl, nl, nb⟩ := all2_lens q3
  rw [List.length_map] at nl
  have g3 : uSet 6 (uOfL (uLc [12] (uItems (uVar 4)) (bName 12) tYesU (uIf (uTru (uCall f_law_pick [] (aSrc 0 (aCons (uC (.int 3)) aNil)))) (uOp dAdd (uC (.int 2)) (uCall f_law_pick [] (aSrc 0 (aCons (uC (.int 5)) aNil)))) (uOp (dI2 fun i j => some (i - j)) (uC (.int 400)) (uCall f_law_pick [] (aSrc 0 (aCons (uC (.int 2)) aNil))))))) [some .src, some (.int mo), some (.bl gr), some (.int base), some (.lst (ts.map .str)), some (.lst []), none, none, none, none, none, none, none, none] a2 = some (.nx, [some .src, some (.int mo), some (.bl gr), some (.int base), some (.lst (ts.map .str)), some (.lst []), some (iL ns), none, none, none, none, none, none, none], a3) :=
    uSet_eq (uOfL_eq (uLc_eq (uItems_lst rfl) (by simp; omega) e3))
  -- the date
  obtain ⟨y, a4, e4, y1, y2⟩ : ∃ (y : Int) (a4 : St4), uIf (uTru (uCall f_law_pick [] (aSrc 0 (aCons (uC (.int 3)) aNil)))) (uOp (dI2 fun i j => some (i - j)) (uCall f_law_pick [] (aSrc 0 (aCons (uC (.int 9)) aNil))) (uC (.int 4))) (uCall f_law_far [] (aSrc 0 aNil)) [some .src, some (.int mo), some (.bl gr), some (.int base), some (.lst (ts.map .str)), some (.lst []), some (iL ns), none, none, none, none, none, none, none] a3 = some (.int y, a4) ∧ -(2 * 10 ^ 29) ≤ y ∧ y ≤ 2 * 10 ^ 29 := by
    obtain ⟨p, s1, e1, _, _⟩ := pk 3 (by decide) (by decide) a3
    by_cases z : p = 0
    · obtain ⟨r, s2, e2, k1, k2⟩ := f_law_far_ok s1
      exact ⟨r, s2, by simp [uSeq, uIfS, uTst, uRel, uOp, uUn, uVar, uC, gv, bI2, dBool, uRet, uNext, uSet, uSetL, uDrop, dI2, dAdd, uTgt, uPar, uCall, uCallL, uMeth, aNil, aCons, aConsL, aSrc, uTup, uLst, uOfL, uLOf, uLVar, uUnL, uUnN, uIxL, uAnd, uOr, uNot, uIf, uTru, uTruL, bTru, bName, bTup, bNames, uItems, dIx, bEq, bNe, dInt, uAndV, uOrV, uNotV, uRetL, uRetN, dFld, dLen, lLen, dList, dTup, dNeg, at0, at1, at2, at3, at4, at5, at6, at7, sEO, sEN, sON, sNE, sNO, sOE, e1, z, e2], k1, k2⟩
    · obtain ⟨r, s2, e2, k1, k2⟩ := pk 9 (by decide) (by decide) s1
      exact ⟨r - 4, s2, by simp [uSeq, uIfS, uTst, uRel, uOp, uUn, uVar, uC, gv, bI2, dBool, uRet, uNext, uSet, uSetL, uDrop, dI2, dAdd, uTgt, uPar, uCall, uCallL, uMeth, aNil, aCons, aConsL, aSrc, uTup, uLst, uOfL, uLOf, uLVar, uUnL, uUnN, uIxL, uAnd, uOr, uNot, uIf, uTru, uTruL, bTru, bName, bTup, bNames, uItems, dIx, bEq, bNe, dInt, uAndV, uOrV, uNotV, uRetL, uRetN, dFld, dLen, lLen, dList, dTup, dNeg, at0, at1, at2, at3, at4, at5, at6, at7, sEO, sEN, sON, sNE, sNO, sOE, e1, z, e2], by omega, by omega⟩
  obtain ⟨m, a5, e5, m1, m2⟩ := pk 3 (by decide) (by decide) a4
  obtain ⟨d, a6, e6, d1, d2⟩ := pk 3 (by decide) (by decide) a5
  have g4 : uSet 7 (uTup (aCons (uIf (uTru (uCall f_law_pick [] (aSrc 0 (aCons (uC (.int 3)) aNil)))) (uOp (dI2 fun i j => some (i - j)) (uCall f_law_pick [] (aSrc 0 (aCons (uC (.int 9)) aNil))) (uC (.int 4))) (uCall f_law_far [] (aSrc 0 aNil))) (aCons (uOp dAdd (uC (.int 1)) (uCall f_law_pick [] (aSrc 0 (aCons (uC (.int 3)) aNil)))) (aCons (uOp dAdd (uC (.int 1)) (uCall f_law_pick [] (aSrc 0 (aCons (uC (.int 3)) aNil)))) aNil)))) [some .src, some (.int mo), some (.bl gr), some (.int base), some (.lst (ts.map .str)), some (.lst []), some (iL ns), none, none, none, none, none, none, none] a3 = some (.nx, rEn (.int mo) gr base ts [] ns (dt y (1 + m) (1 + d)) none none none none, a6) :=
    uSet_eq (uTup_eq (aCons_eq e4 (aCons_eq (uOp_eq rfl (uCall_eq (aSrc_eq rfl (aCons_eq rfl rfl)) e5) rfl) (aCons_eq (uOp_eq rfl (uCall_eq (aSrc_eq rfl (aCons_eq rfl rfl)) e6) rfl) rfl))) (by simp))
  -- the loop
  obtain ⟨n, a7, e7, n1, n2⟩ := pk mo hmo.1 (by omega) a6
  obtain ⟨a, cy, a8, g5, hA, smA⟩ := seg_first (mo := .int mo) (gr := gr) (ts := ts) (ns := ns) (base := base) (y := y) (m := 1 + m) (d := 1 + d) nl.symm nb (by omega) (by omega) (by omega) ⟨b1, b2⟩ ⟨y1, y2⟩ a7
  obtain ⟨l', a', dte', k', cy', kd', old', a9, g6, hB, hg, hl, smG, drG⟩ := seg_go (mo := .int mo) (gr := gr) (ts := ts) (ns := ns) nl.symm nb (by omega) n.toNat 1 [] a (dt y (1 + m) (1 + d)) (some (.int 0)) cy none none (2 * 10 ^ 29) a8 (by decide) (by simp; omega) (fun s hs => by
    have : s = a := by simpa using hs
    rw [this]
    exact hA) trivial (Drs.one a)
  refine ⟨l' ++ [a'], a9, Rt.fin (.go g1 (.go g2 (.go g3 (.go g4 (.go (ρ1 := rEn (.int mo) gr a'.tick ts (l' ++ [a']) ns dte' k' cy' kd' old') (st1 := a9) ?_ (.retL rfl)))))), ⟨⟨ts, ns, nd, by omega, nl.symm, nb, fun s hs => (hB s hs).mono (by omega)⟩, by simp, by rw [List.length_append, hl]; simp; omega, hg, fun s hs c hc => hz _ ((hB s hs).cyc.mem c hc)⟩, fun h s hs => smG (fun s hs => by
    have : s = a := by simpa using hs
    rw [this]
    exact smA) s hs h, drG⟩
  have it : uRng1 (uOp dAdd (uC (.int 1)) (uCall f_law_pick [] (aSrc 0 (aCons (uVar 1) aNil)))) (rEn (.int mo) gr base ts [] ns (dt y (1 + m) (1 + d)) none none none none) a6 = some (D.int 0 :: (List.range' 1 n.toNat).map fun j => D.int (j : Nat), a7) := by
    refine (uRng1_eq (n := 1 + n) (uOp_eq rfl (uCall_eq (aSrc_eq rfl (aCons_eq rfl rfl)) e7) rfl) (by omega) (by omega)).trans ?_
    unfold rng
    rw [List.range_eq_range', Int.sub_zero, show (1 + n).toNat = n.toNat + 1 by omega, List.range'_succ]
    simp
  refine (uFor_eq it).trans ?_
  show ((bName 8 (D.int 0) _).bind fun ρ1 => (segBody ρ1 a7).bind fun r => _) = _
  have bn : bName 8 (D.int 0) (rEn (.int mo) gr base ts [] ns (dt y (1 + m) (1 + d)) none none none none) = some (rEn (.int mo) gr base ts [] ns (dt y (1 + m) (1 + d)) (some (.int 0)) none none none) := rfl
  rw [bn, Option.bind_some, g5]
  exact g6
theorem f_law_a_segs_okS {mo : Int} (hmo : 1 < mo ∧ mo ≤ 4) (gr : Bool) (st : St4) : ∃ (segs : List Sg) (st' : St4), f_law_a_segs [.src, .int mo, .bl gr] st = some (.lst (segs.map Sg.d), st') ∧ Row segs ∧ (gr = false → ∀ s ∈ segs, Sm s) := by
  obtain ⟨segs, st', e, R, s, _⟩ := f_law_a_segs_okY hmo gr st
  exact ⟨segs, st', e, R, s⟩
theorem f_law_a_segs_okM {mo : Int} (hmo : 1 < mo ∧ mo ≤ 4) (gr : Bool) (st : St4) : ∃ (segs : List Sg) (st' : St4), f_law_a_segs [.src, .int mo, .bl gr] st = some (.lst (segs.map Sg.d), st') ∧ Row segs := by
  obtain ⟨segs, st', e, R, _⟩ := f_law_a_segs_okS hmo gr st
  exact ⟨segs, st', e, R⟩
theorem f_law_a_segs_ok (gr : Bool) (st : St4) : ∃ (segs : List Sg) (st' : St4), f_law_a_segs [.src, .int 4, .bl gr] st = some (.lst (segs.map Sg.d), st') ∧ Row segs := f_law_a_segs_okM (by decide) gr st
end Fw
set_option Elab.async false
set_option linter.all false
set_option maxRecDepth 100000
set_option maxHeartbeats 4000000
namespace Fw
open PySem PySem.Spec L2
/-! ### the constructor's checks -/
/-- a loop that changes nothing but its own name -/
theorem for_same {i : Nat} {body : US} {ρ : En} {st : St4} : ∀ (ds : List D) (x : Option D), (∀ d ∈ ds, body (ρ.set i (some d)) st = some (.nx, ρ.set i (some d), st)) → ∃ x', uForGo (bName i) body ds (ρ.set i x) st = some (.nx, ρ.set i x', st)
  | [], x, _ => ⟨x, rfl⟩
  | d :: ds, x, h => by
    obtain ⟨x', r⟩ := for_same ds (some d) (fun d hd => h d (List.mem_cons_of_mem _ hd))
    refine ⟨x', uForGo_cons (ρ1 := ρ.set i (some d)) (s1 := st) ?_ (h d List.mem_cons_self) r⟩
    show some ((ρ.set i x).set i (some d)) = _
    rw [List.set_set]
def Leap.nums : Leap → List Int
  | .never => []
  | .e1 a => [a]
  | .e2 a b => [a, b]
  | .e3 a b c => [a, b, c]
  | .of a rs => a :: rs
theorem Leap.nums_ok {l : Leap} (h : l.Ok) : l.nums.length ≤ 401 ∧ ∀ x ∈ l.nums, 0 ≤ x ∧ x ≤ 400 := by
  cases l with
  | never => simp [nums]
  | e1 a => simp only [Ok, nums] at h ⊢; refine ⟨by simp, fun x hx => ?_⟩; simp at hx; omega
  | e2 a b => simp only [Ok, nums] at h ⊢; refine ⟨by simp, fun x hx => ?_⟩; simp at hx; omega
  | e3 a b c => simp only [Ok, nums] at h ⊢; refine ⟨by simp, fun x hx => ?_⟩; simp at hx; omega
  | of a rs =>
    obtain ⟨h1, h2, h3, h4, h5, h6⟩ := h
    refine ⟨by simp [nums]; omega, fun x hx => ?_⟩
    rcases List.mem_cons.mp hx with rfl | hx
    · omega
    · have := h5 x hx
      omega
theorem f_leap_numbers_eq {l : Leap} (h : l.Ok) (st : St4) : f_leap_numbers [l.d] st = some (iL l.nums, st) := by
  cases l with
  | never => exact Rt.fin (.go (by simp [uSeq, uIfS, uTst, uRel, uOp, uUn, uVar, uC, gv, bI2, dBool, uRet, uNext, uSet, uSetL, uDrop, dI2, dAdd, uTgt, uPar, uCall, uCallL, uMeth, aNil, aCons, aConsL, aSrc, uTup, uLst, uOfL, uLOf, uLVar, uUnL, uUnN, uIxL, uAnd, uOr, uNot, uIf, uTru, uTruL, bTru, bName, bTup, bNames, uItems, dIx, bEq, bNe, dInt, uAndV, uOrV, uNotV, uRetL, uRetN, dFld, dLen, lLen, dList, dTup, dNeg, at0, at1, at2, at3, at4, at5, at6, at7, sEO, sEN, sON, sNE, sNO, sOE, Leap.d] <;> first | exact ⟨rfl, rfl⟩ | rfl) (.ret (by simp [uSeq, uIfS, uTst, uRel, uOp, uUn, uVar, uC, gv, bI2, dBool, uRet, uNext, uSet, uSetL, uDrop, dI2, dAdd, uTgt, uPar, uCall, uCallL, uMeth, aNil, aCons, aConsL, aSrc, uTup, uLst, uOfL, uLOf, uLVar, uUnL, uUnN, uIxL, uAnd, uOr, uNot, uIf, uTru, uTruL, bTru, bName, bTup, bNames, uItems, dIx, bEq, bNe, dInt, uAndV, uOrV, uNotV, uRetL, uRetN, dFld, dLen, lLen, dList, dTup, dNeg, at0, at1, at2, at3, at4, at5, at6, at7, sEO, sEN, sON, sNE, sNO, sOE, Leap.d, Leap.nums, uSl, uPart, dSl, cut1, iL])))
  | e1 a => exact Rt.fin (.go (by simp [uSeq, uIfS, uTst, uRel, uOp, uUn, uVar, uC, gv, bI2, dBool, uRet, uNext, uSet, uSetL, uDrop, dI2, dAdd, uTgt, uPar, uCall, uCallL, uMeth, aNil, aCons, aConsL, aSrc, uTup, uLst, uOfL, uLOf, uLVar, uUnL, uUnN, uIxL, uAnd, uOr, uNot, uIf, uTru, uTruL, bTru, bName, bTup, bNames, uItems, dIx, bEq, bNe, dInt, uAndV, uOrV, uNotV, uRetL, uRetN, dFld, dLen, lLen, dList, dTup, dNeg, at0, at1, at2, at3, at4, at5, at6, at7, sEO, sEN, sON, sNE, sNO, sOE, Leap.d] <;> first | exact ⟨rfl, rfl⟩ | rfl) (.ret (by simp [uSeq, uIfS, uTst, uRel, uOp, uUn, uVar, uC, gv, bI2, dBool, uRet, uNext, uSet, uSetL, uDrop, dI2, dAdd, uTgt, uPar, uCall, uCallL, uMeth, aNil, aCons, aConsL, aSrc, uTup, uLst, uOfL, uLOf, uLVar, uUnL, uUnN, uIxL, uAnd, uOr, uNot, uIf, uTru, uTruL, bTru, bName, bTup, bNames, uItems, dIx, bEq, bNe, dInt, uAndV, uOrV, uNotV, uRetL, uRetN, dFld, dLen, lLen, dList, dTup, dNeg, at0, at1, at2, at3, at4, at5, at6, at7, sEO, sEN, sON, sNE, sNO, sOE, Leap.d, Leap.nums, uSl, uPart, dSl, cut1, iL])))
  | e2 a b => exact Rt.fin (.go (by simp [uSeq, uIfS, uTst, uRel, uOp, uUn, uVar, uC, gv, bI2, dBool, uRet, uNext, uSet, uSetL, uDrop, dI2, dAdd, uTgt, uPar, uCall, uCallL, uMeth, aNil, aCons, aConsL, aSrc, uTup, uLst, uOfL, uLOf, uLVar, uUnL, uUnN, uIxL, uAnd, uOr, uNot, uIf, uTru, uTruL, bTru, bName, bTup, bNames, uItems, dIx, bEq, bNe, dInt, uAndV, uOrV, uNotV, uRetL, uRetN, dFld, dLen, lLen, dList, dTup, dNeg, at0, at1, at2, at3, at4, at5, at6, at7, sEO, sEN, sON, sNE, sNO, sOE, Leap.d] <;> first | exact ⟨rfl, rfl⟩ | rfl) (.ret (by simp [uSeq, uIfS, uTst, uRel, uOp, uUn, uVar, uC, gv, bI2, dBool, uRet, uNext, uSet, uSetL, uDrop, dI2, dAdd, uTgt, uPar, uCall, uCallL, uMeth, aNil, aCons, aConsL, aSrc, uTup, uLst, uOfL, uLOf, uLVar, uUnL, uUnN, uIxL, uAnd, uOr, uNot, uIf, uTru, uTruL, bTru, bName, bTup, bNames, uItems, dIx, bEq, bNe, dInt, uAndV, uOrV, uNotV, uRetL, uRetN, dFld, dLen, lLen, dList, dTup, dNeg, at0, at1, at2, at3, at4, at5, at6, at7, sEO, sEN, sON, sNE, sNO, sOE, Leap.d, Leap.nums, uSl, uPart, dSl, cut1, iL])))
  | e3 a b c => exact Rt.fin (.go (by simp [uSeq, uIfS, uTst, uRel, uOp, uUn, uVar, uC, gv, bI2, dBool, uRet, uNext, uSet, uSetL, uDrop, dI2, dAdd, uTgt, uPar, uCall, uCallL, uMeth, aNil, aCons, aConsL, aSrc, uTup, uLst, uOfL, uLOf, uLVar, uUnL, uUnN, uIxL, uAnd, uOr, uNot, uIf, uTru, uTruL, bTru, bName, bTup, bNames, uItems, dIx, bEq, bNe, dInt, uAndV, uOrV, uNotV, uRetL, uRetN, dFld, dLen, lLen, dList, dTup, dNeg, at0, at1, at2, at3, at4, at5, at6, at7, sEO, sEN, sON, sNE, sNO, sOE, Leap.d] <;> first | exact ⟨rfl, rfl⟩ | rfl) (.ret (by simp [uSeq, uIfS, uTst, uRel, uOp, uUn, uVar, uC, gv, bI2, dBool, uRet, uNext, uSet, uSetL, uDrop, dI2, dAdd, uTgt, uPar, uCall, uCallL, uMeth, aNil, aCons, aConsL, aSrc, uTup, uLst, uOfL, uLOf, uLVar, uUnL, uUnN, uIxL, uAnd, uOr, uNot, uIf, uTru, uTruL, bTru, bName, bTup, bNames, uItems, dIx, bEq, bNe, dInt, uAndV, uOrV, uNotV, uRetL, uRetN, dFld, dLen, lLen, dList, dTup, dNeg, at0, at1, at2, at3, at4, at5, at6, at7, sEO, sEN, sON, sNE, sNO, sOE, Leap.d, Leap.nums, uSl, uPart, dSl, cut1, iL])))
  | of a rs =>
    obtain ⟨_, _, _, _, _, h6⟩ := h
    exact Rt.fin (.now (.ifT (uRelT_eq (x := .str "of") (y := .str "of") (uOp_eq (x := (Leap.of a rs).d) (y := .int 0) rfl rfl at0) rfl (by simp [bEq])) (.ret (uOp_eq (x := .lst [.int a]) (y := iL rs) (s1 := st) (s2 := st) (uOfL_eq (uLst_eq (aCons_eq (uOp_eq (x := (Leap.of a rs).d) (y := .int 1) rfl rfl at1) rfl) (by simp))) (uUn_eq (uOp_eq (x := (Leap.of a rs).d) (y := .int 2) rfl rfl at2) rfl) ((dAdd_lst (by simp; omega)).trans rfl)))))
theorem f_too_many_eq {w k : Str} {n b : Int} (h : tab_MOST.lookup k = some b) (hn : n ≤ b) (st : St4) : f_too_many [.str w, .str k, .int n] st = some (.non, st) := by
  refine uDef_nx (uIfS_f (uRelT_eq (x := .int n) (y := .int b) rfl (uUn_eq (x := .str k) rfl (by show (tab_MOST.lookup k).map D.int = _; rw [h] <;> rfl)) (by show some (decide (b < n)) = _; rw [decide_eq_false (by omega)])) rfl)
theorem most_number : tab_MOST.lookup ("number" : Str) = some (10 ^ 30) := by decide
theorem most_segments : tab_MOST.lookup ("segments" : Str) = some 12 := by decide
theorem most_months : tab_MOST.lookup ("months" : Str) = some 24 := by decide
theorem most_monthdays : tab_MOST.lookup ("monthdays" : Str) = some 60 := by decide
theorem most_dayticks : tab_MOST.lookup ("dayticks" : Str) = some 60 := by decide
theorem most_numbers : tab_MOST.lookup ("numbers" : Str) = some 400 := by decide
theorem f_number_check_eq {l : List Int} (h : ∀ x ∈ l, -(10 ^ 30) ≤ x ∧ x ≤ 10 ^ 30) (st : St4) : f_number_check [iL l] st = some (.non, st) := by
  obtain ⟨x', r⟩ := for_same (i := 1) (ρ := [some (iL l), none]) (st := st) (body := (uIfS (uTst dBool (uRel (bI2 fun i j => decide (j < i)) (uUn dAbs (uVar 1)) (uUn (dTab tab_MOST) (uC (.str ("number" : PySem.Str)))))) uNever uNext)) (l.map .int) none (fun d hd => by
    obtain ⟨x, hx, rfl⟩ := List.mem_map.mp hd
    have := h x hx
    exact uIfS_f (uRelT_eq (x := .int (if x < 0 then -x else x)) (y := .int (10 ^ 30)) (uUn_eq (x := .int x) rfl rfl) (uUn_eq (x := .str "number") rfl (by show (tab_MOST.lookup ("number" : Str)).map D.int = _; rw [most_number] <;> rfl)) (by
      show some (decide ((10 ^ 30 : Int) < (if x < 0 then -x else x))) = _
      rw [decide_eq_false (by split <;> omega)])) rfl)
  exact uDef_nx ((uFor_eq (uItems_lst rfl)).trans r)
theorem f_lengths_fit_eq {d : D} {l : List Int} (h : LsOk l) (hd : d = iL l ∨ d = .tup (l.map .int)) (st : St4) : f_lengths_fit [d] st = some (.bl true, st) := by
  have h1 : 1 ≤ l.length := List.length_pos_iff.mpr h.1
  have e1 : dLen d = some (.int l.length) := by rcases hd with rfl | rfl <;> simp [dLen, iL]
  obtain ⟨mn, e2, hmn⟩ : ∃ mn, dMinA d = some (.int mn) ∧ 1 ≤ mn := by
    have e : dMinA d = lMin (l.map .int) := by rcases hd with rfl | rfl <;> rfl
    match l, h1, h, e with
    | n :: r, _, h, e =>
      refine ⟨r.foldl min n, ?_, ?_⟩
      · rw [e]
        unfold lMin
        rw [asI_map] <;> rfl
      · rcases (foldl_min_le r n).2.2 with q | q
        · rw [q]
          exact (h.2.2 n List.mem_cons_self).1
        · exact (h.2.2 _ (List.mem_cons_of_mem _ q)).1
  exact Rt.fin (.go (uIfS_f (uRelT_eq (x := .int l.length) (y := .int 0) (uUn_eq rfl e1) rfl (by show some (decide ((l.length : Int) = 0)) = _; rw [decide_eq_false (by omega)])) rfl) (.ret (uOp_eq (x := .int mn) (y := .int 1) (uUn_eq rfl e2) rfl (by show (some (decide (1 ≤ mn))).map D.bl = _; rw [decide_eq_true hmn] <;> rfl))))
/-! ### leap_fits -/
theorem of_go {rs : List Int} {a : Int} (st : St4) {l3 : Option D} : ∀ (r : List Int) (ab : Int) (x : Option D), r.Pairwise (· < ·) → (∀ y ∈ r, ab < y ∧ y < a) → ∃ ab' x', uForGo (bName 2) (uSeq (uIfS (uOr (uTst dBool (uRel (bI2 fun i j => decide (i ≤ j)) (uVar 2) (uVar 1))) (uTst dBool (uRel (bI2 fun i j => decide (j ≤ i)) (uVar 2) (uOp dIx (uVar 0) (uC (.int 1))))))
      (uRet (uC (.bl false)))
      uNext)
      (uSet 1 (uVar 2))) (r.map .int) [some (Leap.of a rs).d, some (.int ab), x, l3, none] st = some (.nx, [some (Leap.of a rs).d, some (.int ab'), x', l3, none], st)
  | [], ab, x, _, _ => ⟨ab, x, rfl⟩
  | y :: r, ab, x, hp, hb => by
    obtain ⟨hp1, hp2⟩ := List.pairwise_cons.mp hp
    have hy := hb y List.mem_cons_self
    obtain ⟨ab', x', q⟩ := of_go (rs := rs) (a := a) st (l3 := l3) r y (some (.int y)) hp2 (fun z hz => ⟨hp1 z hz, (hb z (List.mem_cons_of_mem _ hz)).2⟩)
    refine ⟨ab', x', ?_⟩
    rw [List.map_cons]
    refine uForGo_cons (ρ1 := [some (Leap.of a rs).d, some (.int ab), some (.int y), l3, none]) (ρ2 := [some (Leap.of a rs).d, some (.int y), some (.int y), l3, none]) (s1 := st) rfl ?_ q
    have h1 : ¬ y ≤ ab := by omega
    have h2 : ¬ a ≤ y := by omega
    simp [uSeq, uIfS, uTst, uRel, uOp, uUn, uVar, uC, gv, bI2, dBool, uRet, uNext, uSet, uSetL, uDrop, dI2, dAdd, uTgt, uPar, uCall, uCallL, uMeth, aNil, aCons, aConsL, aSrc, uTup, uLst, uOfL, uLOf, uLVar, uUnL, uUnN, uIxL, uAnd, uOr, uNot, uIf, uTru, uTruL, bTru, bName, bTup, bNames, uItems, dIx, bEq, bNe, dInt, uAndV, uOrV, uNotV, uRetL, uRetN, dFld, dLen, lLen, dList, dTup, dNeg, at0, at1, at2, at3, at4, at5, at6, at7, sEO, sEN, sON, sNE, sNO, sOE, Leap.d, h1, h2]
theorem every_go {l0 : D} {xs : List Int} (st : St4) (h1 : ∀ k : Nat, k < xs.length → 1 ≤ xs.getD k 0) (h2 : ∀ k : Nat, k + 1 < xs.length → xs.getD (k + 1) 0 % xs.getD k 0 = 0) : ∃ x', uFor (uRng1 (uUn dLen (uVar 3))) (bName 4)
    (uIfS (uOr (uTst dBool (uRel (bI2 fun i j => decide (i < j)) (uOp dIx (uVar 3) (uVar 4)) (uC (.int 1)))) (uAnd (uTst dBool (uRel (bI2 fun i j => decide (j < i)) (uVar 4) (uC (.int 0)))) (uTst dBool (uRel bNe (uOp (dI2 iMod) (uOp dIx (uVar 3) (uVar 4)) (uOp dIx (uVar 3) (uOp (dI2 fun i j => some (i - j)) (uVar 4) (uC (.int 1))))) (uC (.int 0))))))
    (uRet (uC (.bl false)))
    uNext) [some l0, none, none, some (iL xs), none] st = some (.nx, [some l0, none, none, some (iL xs), x'], st) ∨ ¬ xs.length ≤ 1000 := by
  by_cases hl : xs.length ≤ 1000
  · obtain ⟨x', r⟩ := for_same (i := 4) (ρ := [some l0, none, none, some (iL xs), none]) (st := st) (body := (uIfS (uOr (uTst dBool (uRel (bI2 fun i j => decide (i < j)) (uOp dIx (uVar 3) (uVar 4)) (uC (.int 1)))) (uAnd (uTst dBool (uRel (bI2 fun i j => decide (j < i)) (uVar 4) (uC (.int 0)))) (uTst dBool (uRel bNe (uOp (dI2 iMod) (uOp dIx (uVar 3) (uVar 4)) (uOp dIx (uVar 3) (uOp (dI2 fun i j => some (i - j)) (uVar 4) (uC (.int 1))))) (uC (.int 0))))))
      (uRet (uC (.bl false)))
      uNext)) (rng 0 xs.length) none (fun d hd => by
      obtain ⟨k, rfl, hk⟩ := mem_rng hd
      have hk' : k < xs.length := by omega
      have a1 := atI_map (xs := xs) (i := (k : Int)) (by omega) (by omega)
      rw [Int.toNat_natCast] at a1
      have b1 := h1 k hk'
      have t1 : (uTst dBool (uRel (bI2 fun i j => decide (i < j)) (uOp dIx (uVar 3) (uVar 4)) (uC (.int 1)))) ([some l0, none, none, some (iL xs), some (.int (k : Int))]) st = some (false, st) :=
        uRelT_eq (x := .int (xs.getD k 0)) (y := .int 1) (uOp_eq (x := iL xs) (y := .int (k : Int)) rfl rfl a1) rfl (by show some (decide (xs.getD k 0 < 1)) = _; rw [decide_eq_false (by omega)])
      have t2 : (uAnd (uTst dBool (uRel (bI2 fun i j => decide (j < i)) (uVar 4) (uC (.int 0)))) (uTst dBool (uRel bNe (uOp (dI2 iMod) (uOp dIx (uVar 3) (uVar 4)) (uOp dIx (uVar 3) (uOp (dI2 fun i j => some (i - j)) (uVar 4) (uC (.int 1))))) (uC (.int 0))))) ([some l0, none, none, some (iL xs), some (.int (k : Int))]) st = some (false, st) := by
        cases k with
        | zero => simp [uSeq, uIfS, uTst, uRel, uOp, uUn, uVar, uC, gv, bI2, dBool, uRet, uNext, uSet, uSetL, uDrop, dI2, dAdd, uTgt, uPar, uCall, uCallL, uMeth, aNil, aCons, aConsL, aSrc, uTup, uLst, uOfL, uLOf, uLVar, uUnL, uUnN, uIxL, uAnd, uOr, uNot, uIf, uTru, uTruL, bTru, bName, bTup, bNames, uItems, dIx, bEq, bNe, dInt, uAndV, uOrV, uNotV, uRetL, uRetN, dFld, dLen, lLen, dList, dTup, dNeg, at0, at1, at2, at3, at4, at5, at6, at7, sEO, sEN, sON, sNE, sNO, sOE]
        | succ k =>
          have q1 : (uTst dBool (uRel (bI2 fun i j => decide (j < i)) (uVar 4) (uC (.int 0)))) ([some l0, none, none, some (iL xs), some (.int ((k + 1 : Nat) : Int))]) st = some (true, st) :=
            uRelT_eq (x := .int ((k + 1 : Nat) : Int)) (y := .int 0) rfl rfl (by show some (decide ((0 : Int) < ((k + 1 : Nat) : Int))) = _; rw [decide_eq_true (by omega)])
          have a2 := atI_map (xs := xs) (i := (k : Int)) (by omega) (by omega)
          rw [Int.toNat_natCast] at a2
          have b2 := h1 k (by omega)
          have m : iMod (xs.getD (k + 1) 0) (xs.getD k 0) = some 0 := by rw [iMod_eq (by omega), h2 k hk']
          have q2 : (uTst dBool (uRel bNe (uOp (dI2 iMod) (uOp dIx (uVar 3) (uVar 4)) (uOp dIx (uVar 3) (uOp (dI2 fun i j => some (i - j)) (uVar 4) (uC (.int 1))))) (uC (.int 0)))) ([some l0, none, none, some (iL xs), some (.int ((k + 1 : Nat) : Int))]) st = some (false, st) :=
            uRelT_eq (x := .int 0) (y := .int 0) (uOp_eq (x := .int (xs.getD (k + 1) 0)) (y := .int (xs.getD k 0)) (uOp_eq (x := iL xs) (y := .int ((k + 1 : Nat) : Int)) rfl rfl a1) (uOp_eq (x := iL xs) (y := .int (k : Int)) rfl (uOp_eq (x := .int ((k + 1 : Nat) : Int)) (y := .int 1) rfl rfl (by show (some (((k + 1 : Nat) : Int) - 1)).map D.int = _; rw [show ((k + 1 : Nat) : Int) - 1 = (k : Int) by omega] <;> rfl)) a2) (by show (iMod _ _).map D.int = _; rw [m] <;> rfl)) rfl rfl
          unfold uAnd
          rw [q1, Option.bind_some]
          exact q2
      refine uIfS_f (s1 := st) ?_ rfl
      show (uOr _ _) [some l0, none, none, some (iL xs), some (.int (k : Int))] st = _
      unfold uOr
      rw [t1, Option.bind_some]
      exact t2)
    exact ⟨x', .inl ((uFor_eq (uRng1_eq (n := xs.length) (uUn_eq (x := iL xs) rfl (by simp [dLen, iL])) (by omega) (by omega))).trans r)⟩
  · exact ⟨none, .inr hl⟩
theorem every_fin {l0 : D} {xs : List Int} (st : St4) (hl : xs.length ≤ 1000) (h0 : uIfS (uTst dBool (uRel bEq (uOp dIx (uVar 0) (uC (.int 0))) (uC (.str ("of" : PySem.Str)))))
    (uSeq (uIfS (uOr (uTst dBool (uRel (bI2 fun i j => decide (i < j)) (uOp dIx (uVar 0) (uC (.int 1))) (uC (.int 1)))) (uTst dBool (uRel bEq (uUn dLen (uOp dIx (uVar 0) (uC (.int 2)))) (uC (.int 0)))))
    (uRet (uC (.bl false)))
    uNext)
    (uSeq (uSet 1 (uUn dNeg (uC (.int 1))))
    (uSeq (uFor (uItems (uOp dIx (uVar 0) (uC (.int 2)))) (bName 2)
    (uSeq (uIfS (uOr (uTst dBool (uRel (bI2 fun i j => decide (i ≤ j)) (uVar 2) (uVar 1))) (uTst dBool (uRel (bI2 fun i j => decide (j ≤ i)) (uVar 2) (uOp dIx (uVar 0) (uC (.int 1))))))
    (uRet (uC (.bl false)))
    uNext)
    (uSet 1 (uVar 2))))
    (uRet (uC (.bl true))))))
    uNext [some l0, none, none, none, none] st = some (.nx, [some l0, none, none, none, none], st)) (h3 : uSet 3 (uUn dList (uSl (uVar 0) (some (uC (.int 1))) none)) [some l0, none, none, none, none] st = some (.nx, [some l0, none, none, some (iL xs), none], st))
    (h1 : ∀ k : Nat, k < xs.length → 1 ≤ xs.getD k 0) (h2 : ∀ k : Nat, k + 1 < xs.length → xs.getD (k + 1) 0 % xs.getD k 0 = 0) : f_leap_fits [l0] st = some (.bl true, st) := by
  obtain ⟨x', r⟩ := every_go (l0 := l0) st h1 h2
  rcases r with r | r
  · exact Rt.fin (.go h0 (.go h3 (.go r (.ret rfl))))
  · exact absurd hl r
theorem f_leap_fits_eq {l : Leap} (h : l.Ok) (st : St4) : f_leap_fits [l.d] st = some (.bl true, st) := by
  cases l with
  | never => exact every_fin (xs := []) st (by simp) (by simp [uSeq, uIfS, uTst, uRel, uOp, uUn, uVar, uC, gv, bI2, dBool, uRet, uNext, uSet, uSetL, uDrop, dI2, dAdd, uTgt, uPar, uCall, uCallL, uMeth, aNil, aCons, aConsL, aSrc, uTup, uLst, uOfL, uLOf, uLVar, uUnL, uUnN, uIxL, uAnd, uOr, uNot, uIf, uTru, uTruL, bTru, bName, bTup, bNames, uItems, dIx, bEq, bNe, dInt, uAndV, uOrV, uNotV, uRetL, uRetN, dFld, dLen, lLen, dList, dTup, dNeg, at0, at1, at2, at3, at4, at5, at6, at7, sEO, sEN, sON, sNE, sNO, sOE, Leap.d]) (by simp [uSeq, uIfS, uTst, uRel, uOp, uUn, uVar, uC, gv, bI2, dBool, uRet, uNext, uSet, uSetL, uDrop, dI2, dAdd, uTgt, uPar, uCall, uCallL, uMeth, aNil, aCons, aConsL, aSrc, uTup, uLst, uOfL, uLOf, uLVar, uUnL, uUnN, uIxL, uAnd, uOr, uNot, uIf, uTru, uTruL, bTru, bName, bTup, bNames, uItems, dIx, bEq, bNe, dInt, uAndV, uOrV, uNotV, uRetL, uRetN, dFld, dLen, lLen, dList, dTup, dNeg, at0, at1, at2, at3, at4, at5, at6, at7, sEO, sEN, sON, sNE, sNO, sOE, Leap.d, uSl, uPart, dSl, cut1, iL]) (fun k hk => by simp at hk) (fun k hk => by simp at hk)
  | e1 a =>
    obtain ⟨h1, h2⟩ := h
    refine every_fin (xs := [a]) st (by simp) (by simp [uSeq, uIfS, uTst, uRel, uOp, uUn, uVar, uC, gv, bI2, dBool, uRet, uNext, uSet, uSetL, uDrop, dI2, dAdd, uTgt, uPar, uCall, uCallL, uMeth, aNil, aCons, aConsL, aSrc, uTup, uLst, uOfL, uLOf, uLVar, uUnL, uUnN, uIxL, uAnd, uOr, uNot, uIf, uTru, uTruL, bTru, bName, bTup, bNames, uItems, dIx, bEq, bNe, dInt, uAndV, uOrV, uNotV, uRetL, uRetN, dFld, dLen, lLen, dList, dTup, dNeg, at0, at1, at2, at3, at4, at5, at6, at7, sEO, sEN, sON, sNE, sNO, sOE, Leap.d]) (by simp [uSeq, uIfS, uTst, uRel, uOp, uUn, uVar, uC, gv, bI2, dBool, uRet, uNext, uSet, uSetL, uDrop, dI2, dAdd, uTgt, uPar, uCall, uCallL, uMeth, aNil, aCons, aConsL, aSrc, uTup, uLst, uOfL, uLOf, uLVar, uUnL, uUnN, uIxL, uAnd, uOr, uNot, uIf, uTru, uTruL, bTru, bName, bTup, bNames, uItems, dIx, bEq, bNe, dInt, uAndV, uOrV, uNotV, uRetL, uRetN, dFld, dLen, lLen, dList, dTup, dNeg, at0, at1, at2, at3, at4, at5, at6, at7, sEO, sEN, sON, sNE, sNO, sOE, Leap.d, uSl, uPart, dSl, cut1, iL]) (fun k hk => ?_) (fun k hk => by simp at hk)
    match k, hk with
    | 0, _ => exact h1
  | e2 a b =>
    obtain ⟨h1, h2, h3, h4, h5⟩ := h
    refine every_fin (xs := [a, b]) st (by simp) (by simp [uSeq, uIfS, uTst, uRel, uOp, uUn, uVar, uC, gv, bI2, dBool, uRet, uNext, uSet, uSetL, uDrop, dI2, dAdd, uTgt, uPar, uCall, uCallL, uMeth, aNil, aCons, aConsL, aSrc, uTup, uLst, uOfL, uLOf, uLVar, uUnL, uUnN, uIxL, uAnd, uOr, uNot, uIf, uTru, uTruL, bTru, bName, bTup, bNames, uItems, dIx, bEq, bNe, dInt, uAndV, uOrV, uNotV, uRetL, uRetN, dFld, dLen, lLen, dList, dTup, dNeg, at0, at1, at2, at3, at4, at5, at6, at7, sEO, sEN, sON, sNE, sNO, sOE, Leap.d]) (by simp [uSeq, uIfS, uTst, uRel, uOp, uUn, uVar, uC, gv, bI2, dBool, uRet, uNext, uSet, uSetL, uDrop, dI2, dAdd, uTgt, uPar, uCall, uCallL, uMeth, aNil, aCons, aConsL, aSrc, uTup, uLst, uOfL, uLOf, uLVar, uUnL, uUnN, uIxL, uAnd, uOr, uNot, uIf, uTru, uTruL, bTru, bName, bTup, bNames, uItems, dIx, bEq, bNe, dInt, uAndV, uOrV, uNotV, uRetL, uRetN, dFld, dLen, lLen, dList, dTup, dNeg, at0, at1, at2, at3, at4, at5, at6, at7, sEO, sEN, sON, sNE, sNO, sOE, Leap.d, uSl, uPart, dSl, cut1, iL]) (fun k hk => ?_) (fun k hk => ?_)
    · match k, hk with
      | 0, _ => exact h1
      | 1, _ => exact h3
    · match k, hk with
      | 0, _ => exact h5
      | k + 1, hk => exact absurd hk (by simp)
  | e3 a b c =>
    obtain ⟨h1, h2, h3, h4, h5, h6, h7, h8⟩ := h
    refine every_fin (xs := [a, b, c]) st (by simp) (by simp [uSeq, uIfS, uTst, uRel, uOp, uUn, uVar, uC, gv, bI2, dBool, uRet, uNext, uSet, uSetL, uDrop, dI2, dAdd, uTgt, uPar, uCall, uCallL, uMeth, aNil, aCons, aConsL, aSrc, uTup, uLst, uOfL, uLOf, uLVar, uUnL, uUnN, uIxL, uAnd, uOr, uNot, uIf, uTru, uTruL, bTru, bName, bTup, bNames, uItems, dIx, bEq, bNe, dInt, uAndV, uOrV, uNotV, uRetL, uRetN, dFld, dLen, lLen, dList, dTup, dNeg, at0, at1, at2, at3, at4, at5, at6, at7, sEO, sEN, sON, sNE, sNO, sOE, Leap.d]) (by simp [uSeq, uIfS, uTst, uRel, uOp, uUn, uVar, uC, gv, bI2, dBool, uRet, uNext, uSet, uSetL, uDrop, dI2, dAdd, uTgt, uPar, uCall, uCallL, uMeth, aNil, aCons, aConsL, aSrc, uTup, uLst, uOfL, uLOf, uLVar, uUnL, uUnN, uIxL, uAnd, uOr, uNot, uIf, uTru, uTruL, bTru, bName, bTup, bNames, uItems, dIx, bEq, bNe, dInt, uAndV, uOrV, uNotV, uRetL, uRetN, dFld, dLen, lLen, dList, dTup, dNeg, at0, at1, at2, at3, at4, at5, at6, at7, sEO, sEN, sON, sNE, sNO, sOE, Leap.d, uSl, uPart, dSl, cut1, iL]) (fun k hk => ?_) (fun k hk => ?_)
    · match k, hk with
      | 0, _ => exact h1
      | 1, _ => exact h3
      | 2, _ => exact h6
    · match k, hk with
      | 0, _ => exact h5
      | 1, _ => exact h8
      | k + 2, hk => exact absurd hk (by simp)
  | of a rs =>
    obtain ⟨h1, h2, h3, h4, h5, h6⟩ := h
    have hl : 1 ≤ rs.length := List.length_pos_iff.mpr h3
    obtain ⟨ab', x', q⟩ := of_go (rs := rs) (a := a) st (l3 := none) rs (-1) none h4 (fun y hy => by have := h5 y hy; omega)
    have k1 : ¬ a < 1 := by omega
    have k2 : ¬ (rs.length : Int) = 0 := by omega
    refine Rt.fin (.now (.ifT (uRelT_eq (x := .str "of") (y := .str "of") (uOp_eq (x := (Leap.of a rs).d) (y := .int 0) rfl rfl at0) rfl (by simp [bEq])) (.go (ρ1 := [some (Leap.of a rs).d, none, none, none, none]) (st1 := st) ?_ (.go (ρ1 := [some (Leap.of a rs).d, some (.int (-1)), none, none, none]) (st1 := st) (by simp [uSeq, uIfS, uTst, uRel, uOp, uUn, uVar, uC, gv, bI2, dBool, uRet, uNext, uSet, uSetL, uDrop, dI2, dAdd, uTgt, uPar, uCall, uCallL, uMeth, aNil, aCons, aConsL, aSrc, uTup, uLst, uOfL, uLOf, uLVar, uUnL, uUnN, uIxL, uAnd, uOr, uNot, uIf, uTru, uTruL, bTru, bName, bTup, bNames, uItems, dIx, bEq, bNe, dInt, uAndV, uOrV, uNotV, uRetL, uRetN, dFld, dLen, lLen, dList, dTup, dNeg, at0, at1, at2, at3, at4, at5, at6, at7, sEO, sEN, sON, sNE, sNO, sOE]) (.go (ρ1 := [some (Leap.of a rs).d, some (.int ab'), x', none, none]) (st1 := st) ((uFor_eq (uItems_lst (uOp_eq (x := (Leap.of a rs).d) (y := .int 2) rfl rfl at2))).trans q) (.ret rfl))))))
    simp [uSeq, uIfS, uTst, uRel, uOp, uUn, uVar, uC, gv, bI2, dBool, uRet, uNext, uSet, uSetL, uDrop, dI2, dAdd, uTgt, uPar, uCall, uCallL, uMeth, aNil, aCons, aConsL, aSrc, uTup, uLst, uOfL, uLOf, uLVar, uUnL, uUnN, uIxL, uAnd, uOr, uNot, uIf, uTru, uTruL, bTru, bName, bTup, bNames, uItems, dIx, bEq, bNe, dInt, uAndV, uOrV, uNotV, uRetL, uRetN, dFld, dLen, lLen, dList, dTup, dNeg, at0, at1, at2, at3, at4, at5, at6, at7, sEO, sEN, sON, sNE, sNO, sOE, Leap.d, iL, k1]
    exact h3
end Fw
set_option Elab.async false
set_option linter.all false
set_option maxRecDepth 100000
set_option maxHeartbeats 4000000
namespace Fw
open PySem PySem.Spec L2
/-! ### limits -/
theorem lim_list {what kind : Str} {b : Int} (hk : tab_MOST.lookup kind = some b) {i j : Nat} {body : US} {ρ : En} (st : St4) (l : List Int) (hl : ∀ x ∈ l, x ≤ b) (x0 : Option D) (hi : i < ρ.length) (hb : body = uDrop (uCall f_too_many [] (aCons (uC (.str what)) (aCons (uC (.str kind)) (aCons (uVar i) aNil))))) :
    ∃ x', uForGo (bName i) body (l.map .int) (ρ.set i x0) st = some (.nx, ρ.set i x', st) := by
  subst hb
  refine for_same (l.map .int) x0 fun d hd => ?_
  obtain ⟨x, hx, rfl⟩ := List.mem_map.mp hd
  have v : uVar i (ρ.set i (some (.int x))) st = some (.int x, st) := by
    unfold uVar gv
    rw [List.getElem?_set_self hi] <;> rfl
  exact uDrop_eq (uCall_eq (aCons_eq rfl (aCons_eq rfl (aCons_eq v rfl))) (f_too_many_eq hk (hl x hx) st))
theorem row_at0 (s : Sg) : dIx s.row (.int 0) = some (.int s.tick) := at0
theorem row_at1 (s : Sg) : dIx s.row (.int 1) = some (.int s.width) := at1
theorem row_at2 (s : Sg) : dIx s.row (.int 2) = some (.int s.into) := at2
theorem row_at3 (s : Sg) : dIx s.row (.int 3) = some (dt s.y s.m s.dd) := at3
theorem row_at4 (s : Sg) : dIx s.row (.int 4) = some (iL s.common) := at4
theorem row_at5 (s : Sg) : dIx s.row (.int 5) = some (.tup (s.longer.map .int)) := at5
theorem row_at6 (s : Sg) : dIx s.row (.int 6) = some s.leap.d := at6
theorem row_at7 (s : Sg) : dIx s.row (.int 7) = some (.lst (s.cycles.map cycD)) := at7
def CyOk (cs : List (Str × Int × Int)) : Prop := ∀ c ∈ cs, 0 ≤ c.2.2 ∧ c.2.2 < c.2.1 ∧ c.2.1 ≤ 400
def limBody : US := (uSeq (uDrop (uCall f_too_many [] (aCons (uC (.str ("calendar" : PySem.Str))) (aCons (uC (.str ("months" : PySem.Str))) (aCons (uUn dLen (uVar 1)) aNil)))))
  (uFor (uItems (uVar 1)) (bName 2)
  (uDrop (uCall f_too_many [] (aCons (uC (.str ("calendar" : PySem.Str))) (aCons (uC (.str ("monthdays" : PySem.Str))) (aCons (uVar 2) aNil)))))))
theorem lim_one {r d : D} {l : List Int} (h : LsOk l) (hd : d = iL l ∨ d = .tup (l.map .int)) (x : Option D) (st : St4) : ∃ x', limBody [some r, some d, x, none, none] st = some (.nx, [some r, some d, x', none, none], st) := by
  obtain ⟨x', q⟩ := lim_list (what := "calendar") (kind := "monthdays") most_monthdays (i := 2) (j := 0) (ρ := [some r, some d, x, none, none]) st l (fun y hy => (h.2.2 y hy).2) x (by simp) rfl
  have e1 : dLen d = some (.int l.length) := by rcases hd with rfl | rfl <;> simp [dLen, iL]
  refine ⟨x', uSeq_go (uDrop_eq (uCall_eq (aCons_eq rfl (aCons_eq rfl (aCons_eq (uUn_eq rfl e1) rfl))) (f_too_many_eq most_months (by have := h.2.1; omega) st))) ((uFor_eq (ds := l.map .int) (st' := st) ?_).trans q)⟩
  rcases hd with rfl | rfl
  · exact uItems_lst rfl
  · exact uItems_tup rfl
theorem f_segment_limits_eq {s : Sg} (h : s.Ok) (hc : CyOk s.cycles) (st : St4) : f_segment_limits [s.row] st = some (.non, st) := by
  obtain ⟨x1, q1⟩ := lim_one (r := s.row) (d := iL s.common) h.c (.inl rfl) none st
  obtain ⟨x2, q2⟩ := lim_one (r := s.row) (d := .tup (s.longer.map .int)) h.l (.inr rfl) x1 st
  obtain ⟨n1, n2⟩ := Leap.nums_ok h.leap
  obtain ⟨x3, q3⟩ := lim_list (what := "calendar") (kind := "numbers") most_numbers (i := 3) (j := 0) (ρ := [some s.row, some (.tup (s.longer.map .int)), x2, none, none]) st s.leap.nums (fun y hy => (n2 y hy).2) none (by simp) rfl
  obtain ⟨x4, q4⟩ := for_same (i := 4) (ρ := [some s.row, some (.tup (s.longer.map .int)), x2, x3, none]) (st := st) (body := (uDrop (uCall f_too_many [] (aCons (uC (.str ("calendar" : PySem.Str))) (aCons (uC (.str ("numbers" : PySem.Str))) (aCons (uOp dIx (uVar 4) (uC (.int 1))) aNil)))))) (s.cycles.map cycD) none (fun d hd => by
    obtain ⟨c, hc', rfl⟩ := List.mem_map.mp hd
    exact uDrop_eq (uCall_eq (aCons_eq rfl (aCons_eq rfl (aCons_eq (uOp_eq (x := cycD c) (y := .int 1) rfl rfl at1) rfl))) (f_too_many_eq most_numbers (hc c hc').2.2 st)))
  refine uDef_nx (uSeq_go (ρ1 := [some s.row, some (.tup (s.longer.map .int)), x2, none, none]) (st1 := st) ?_ (uSeq_go (uDrop_eq (uCall_eq (aCons_eq rfl (aCons_eq rfl (aCons_eq (uOp_eq rfl rfl (row_at1 s)) rfl))) (f_too_many_eq most_dayticks h.w.2 st))) (uSeq_go (ρ1 := [some s.row, some (.tup (s.longer.map .int)), x2, x3, none]) (st1 := st) ((uFor_eq (uItems_lst (uCall_eq (aCons_eq (uOp_eq rfl rfl (row_at6 s)) rfl) (f_leap_numbers_eq h.leap st)))).trans q3) ((uFor_eq (uItems_lst (uOp_eq rfl rfl (row_at7 s)))).trans q4))))
  refine (uFor_eq (uItems_tup (uTup_eq (aCons_eq (uOp_eq rfl rfl (row_at4 s)) (aCons_eq (uOp_eq rfl rfl (row_at5 s)) rfl)) (by simp)))).trans ?_
  exact uForGo_cons (ρ1 := [some s.row, some (iL s.common), none, none, none]) rfl q1 (uForGo_cons (ρ1 := [some s.row, some (.tup (s.longer.map .int)), x1, none, none]) rfl q2 rfl)
/-! ### the numbers of a row -/
theorem rn_go {r : D} {b : Int} (st : St4) : ∀ (cs : List (Str × Int × Int)) (ns : List Int) (x : Option D), CyOk cs → ns.length + 2 * cs.length ≤ 5000 → (∀ y ∈ ns, -(10 ^ 30) ≤ y ∧ y ≤ 10 ^ 30) → ∃ (ns' : List Int) (x' : Option D), uForGo (bName 2) (uSet 1 (uOp dAdd (uVar 1) (uOfL (uLst (aCons (uOp dIx (uVar 2) (uC (.int 1))) (aCons (uOp dIx (uVar 2) (uC (.int 2))) aNil)))))) (cs.map cycD) [some r, some (iL ns), x] st = some (.nx, [some r, some (iL ns'), x'], st) ∧ ∀ y ∈ ns', -(10 ^ 30) ≤ y ∧ y ≤ 10 ^ 30
  | [], ns, x, _, _, h => ⟨ns, x, rfl, h⟩
  | c :: cs, ns, x, hc, hl, h => by
    have hc1 := hc c List.mem_cons_self
    have hl' : ns.length + 2 * (cs.length + 1) ≤ 5000 := by simpa using hl
    obtain ⟨ns', x', q, h'⟩ := rn_go (r := r) (b := b) st cs (ns ++ [c.2.1, c.2.2]) (some (cycD c)) (fun z hz => hc z (List.mem_cons_of_mem _ hz)) (by simp; omega) (fun y hy => by
      rcases List.mem_append.mp hy with hy | hy
      · exact h y hy
      · have : y = c.2.1 ∨ y = c.2.2 := by simpa using hy
        rcases this with rfl | rfl <;> omega)
    refine ⟨ns', x', ?_, h'⟩
    rw [List.map_cons]
    refine uForGo_cons (ρ1 := [some r, some (iL ns), some (cycD c)]) rfl (uSet_eq (x := iL (ns ++ [c.2.1, c.2.2])) (s1 := st) (uOp_eq (x := iL ns) (y := iL [c.2.1, c.2.2]) rfl (uOfL_eq (uLst_eq (aCons_eq (uOp_eq (x := cycD c) (y := .int 1) rfl rfl at1) (aCons_eq (uOp_eq (x := cycD c) (y := .int 2) rfl rfl at2) rfl)) (by simp))) ?_)) q
    refine (dAdd_lst (by simp; omega)).trans ?_
    simp [iL]
theorem iL_add {a b : List Int} (h : a.length + b.length ≤ 5000) : dAdd (iL a) (iL b) = some (iL (a ++ b)) := by
  refine (dAdd_lst (by simp; omega)).trans ?_
  simp [iL]
structure Big (s : Sg) : Prop where
  t : -(10 ^ 30) ≤ s.tick ∧ s.tick ≤ 10 ^ 30
  y : -(10 ^ 30) ≤ s.y ∧ s.y ≤ 10 ^ 30
theorem f_row_numbers_ok {s : Sg} (h : s.Ok) (v : s.V) (hb : Big s) (hc : CyOk s.cycles) (hcl : s.cycles.length ≤ 100) (st : St4) : ∃ ns, f_row_numbers [s.row] st = some (iL ns, st) ∧ ∀ y ∈ ns, -(10 ^ 30) ≤ y ∧ y ≤ 10 ^ 30 := by
  obtain ⟨n1, n2⟩ := Leap.nums_ok h.leap
  have hcl2 := h.c.2.1
  have hll := h.l.2.1
  have hw := h.w
  have hi := h.i
  have hm := v.m2
  have hm1 := v.m1
  have hd1 := v.d1
  have hd2 := v.d2
  have hmd := Sg.md_pos h v.m1 v.m2
  have hml := (h.mon s.y).2.1
  obtain ⟨ns', x', q, h'⟩ := rn_go (r := s.row) (b := 0) st s.cycles (((([s.tick, s.width, s.into] ++ [s.y, s.m, s.dd]) ++ s.common) ++ s.longer) ++ s.leap.nums) none hc (by simp; omega) (fun y hy => by
    simp only [List.mem_append, List.mem_cons, List.not_mem_nil, or_false] at hy
    have tb := hb.t
    have yb := hb.y
    rcases hy with (((( rfl | rfl | rfl) | rfl | rfl | rfl) | hy) | hy) | hy
    · exact tb
    · omega
    · omega
    · exact yb
    · omega
    · omega
    · have := h.c.2.2 y hy; omega
    · have := h.l.2.2 y hy; omega
    · have := n2 y hy; omega)
  refine ⟨ns', Rt.fin (.go (ρ1 := [some s.row, some (iL (((([s.tick, s.width, s.into] ++ [s.y, s.m, s.dd]) ++ s.common) ++ s.longer) ++ s.leap.nums)), none]) (st1 := st) ?_ (.go (ρ1 := [some s.row, some (iL ns'), x']) (st1 := st) ((uFor_eq (uItems_lst (uOp_eq rfl rfl (row_at7 s)))).trans q) (.ret rfl))), h'⟩
  exact uSet_eq (uOp_eq (uOp_eq (uOp_eq (uOp_eq (x := iL [s.tick, s.width, s.into]) (y := iL [s.y, s.m, s.dd]) (uOfL_eq (uLst_eq (aCons_eq (uOp_eq rfl rfl (row_at0 s)) (aCons_eq (uOp_eq rfl rfl (row_at1 s)) (aCons_eq (uOp_eq rfl rfl (row_at2 s)) rfl))) (by simp))) (uUn_eq (uOp_eq rfl rfl (row_at3 s)) rfl) (iL_add (by simp)))
    (uUn_eq (x := iL s.common) (uOp_eq rfl rfl (row_at4 s)) rfl) (iL_add (by simp; omega))) (uUn_eq (x := .tup (s.longer.map .int)) (z := iL s.longer) (uOp_eq rfl rfl (row_at5 s)) rfl) (iL_add (by simp; omega))) (uCall_eq (aCons_eq (uOp_eq rfl rfl (row_at6 s)) rfl) (f_leap_numbers_eq h.leap st)) (iL_add (by simp; omega)))
theorem f_bounds_check_eq {segs : List Sg} (h : ∀ s ∈ segs, s.Ok ∧ s.V ∧ Big s ∧ CyOk s.cycles ∧ s.cycles.length ≤ 100) (hl : segs.length ≤ 12) (st : St4) : f_bounds_check [.lst (segs.map Sg.row)] st = some (.non, st) := by
  obtain ⟨x1, q1⟩ := for_same (i := 1) (ρ := [some (.lst (segs.map Sg.row)), none]) (st := st) (body := (uDrop (uCall f_number_check [] (aCons (uCall f_row_numbers [] (aCons (uVar 1) aNil)) aNil)))) (segs.map Sg.row) none (fun d hd => by
    obtain ⟨s, hs, rfl⟩ := List.mem_map.mp hd
    obtain ⟨a1, a2, a3, a4, a5⟩ := h s hs
    obtain ⟨ns, e, hn⟩ := f_row_numbers_ok a1 a2 a3 a4 a5 st
    exact uDrop_eq (uCall_eq (aCons_eq (uCall_eq (aCons_eq rfl rfl) e) rfl) (f_number_check_eq hn st)))
  obtain ⟨x2, q2⟩ := for_same (i := 1) (ρ := [some (.lst (segs.map Sg.row)), x1]) (st := st) (body := (uDrop (uCall f_segment_limits [] (aCons (uVar 1) aNil)))) (segs.map Sg.row) x1 (fun d hd => by
    obtain ⟨s, hs, rfl⟩ := List.mem_map.mp hd
    obtain ⟨a1, a2, a3, a4, a5⟩ := h s hs
    exact uDrop_eq (uCall_eq (aCons_eq rfl rfl) (f_segment_limits_eq a1 a4 st)))
  exact uDef_nx (uSeq_go ((uFor_eq (uItems_lst rfl)).trans q1) (uSeq_go (uDrop_eq (uCall_eq (aCons_eq rfl (aCons_eq rfl (aCons_eq (uUn_eq (x := .lst (segs.map Sg.row)) (z := .int segs.length) rfl (by simp [dLen])) rfl))) (f_too_many_eq most_segments (by omega) st))) ((uFor_eq (uItems_lst rfl)).trans q2)))
end Fw
set_option Elab.async false
set_option linter.all false
set_option maxRecDepth 100000
set_option maxHeartbeats 4000000
namespace Fw
open PySem PySem.Spec L2
/-! ### cycles_fit -/
def prs (cs : List (Str × Int × Int)) : List (Str × Int) := cs.map fun c => (c.1, c.2.1)
def prD (l : List (Str × Int)) : List D := l.map fun q => .tup [.str q.1, .int q.2]
theorem Cyc3.prs : ∀ {ts : List Str} {ns : List Int} {cs : List (Str × Int × Int)}, Cyc3 ts ns cs → Fw.prs cs = ts.zip ns
  | _, _, _, .nil => rfl
  | _, _, _, .cons _ _ r => by
    have := r.prs
    simp only [Fw.prs, List.map_cons, List.zip_cons_cons] at this ⊢
    rw [this]
theorem Cyc3.names : ∀ {ts : List Str} {ns : List Int} {cs : List (Str × Int × Int)}, Cyc3 ts ns cs → cs.map (·.1) = ts
  | _, _, _, .nil => rfl
  | _, _, _, .cons _ _ r => by
    have := r.names
    simp only [List.map_cons]
    rw [this]
theorem Cyc3.ok {ts : List Str} {ns : List Int} {cs : List (Str × Int × Int)} (h : Cyc3 ts ns cs) (hn : ∀ n ∈ ns, 2 ≤ n ∧ n ≤ 400) : CyOk cs := by
  induction h with
  | nil => exact fun c hc => by cases hc
  | cons h1 h2 r ih =>
    intro c hc
    rcases List.mem_cons.mp hc with rfl | hc
    · exact ⟨h1, h2, (hn _ List.mem_cons_self).2⟩
    · exact ih (fun n hn' => hn n (List.mem_cons_of_mem _ hn')) c hc
def pyP (l : List (Str × Int)) : List PyData := l.map fun q => .tuple [.str q.1, .int q.2]
theorem toPys_pr : ∀ l : List (Str × Int), toPys (prD l) = some (pyP l)
  | [] => rfl
  | q :: l => by
    have ih := toPys_pr l
    show (toPy (.tup [.str q.1, .int q.2])).bind (fun y => (toPys (prD l)).map (y :: ·)) = _
    rw [ih] <;> rfl
theorem eqv_pr : ∀ l : List (Str × Int), PyData.eqvAll (pyP l) (pyP l) = true
  | [] => rfl
  | q :: l => by
    have ih := eqv_pr l
    show (PyData.eqv (.tuple [.str q.1, .int q.2]) (.tuple [.str q.1, .int q.2]) && PyData.eqvAll (pyP l) (pyP l)) = true
    rw [ih]
    simp [PyData.eqv, PyData.eqvAll]
theorem depth_pr : ∀ l : List (Str × Int), PyData.depthAll (pyP l) ≤ 1
  | [] => by simp [pyP, PyData.depthAll]
  | q :: l => by
    have ih := depth_pr l
    show max (PyData.depth (.tuple [.str q.1, .int q.2])) (PyData.depthAll (pyP l)) ≤ 1
    have : PyData.depth (.tuple [.str q.1, .int q.2]) = 1 := by simp [PyData.depth, PyData.depthAll]
    omega
theorem bEqD_pr (l : List (Str × Int)) : bEqD (.lst (prD l)) (.lst (prD l)) = some true := by
  have e : toPy (.lst (prD l)) = some (.list (pyP l)) := by
    show (toPys (prD l)).map PyData.list = _
    rw [toPys_pr] <;> rfl
  unfold bEqD
  rw [e, Option.bind_some, Option.bind_some, if_pos]
  · show some (PyData.eqvAll (pyP l) (pyP l)) = _
    rw [eqv_pr]
  · have := depth_pr l
    show PyData.depthAll (pyP l) + 1 ≤ 60
    omega
theorem pr_go {ρ : En} (hl : ρ.length = 7) (st : St4) : ∀ cs : List (Str × Int × Int), uLcGo (bName 6) tYesU (uUn dTup (uSl (uVar 6) none (some (uC (.int 2))))) ρ (cs.map cycD) st = some (prD (prs cs), st)
  | [] => rfl
  | c :: cs => by
    have ih := pr_go hl st cs
    have v : uVar 6 (ρ.set 6 (some (cycD c))) st = some (cycD c, st) := by
      unfold uVar gv
      rw [List.getElem?_set_self (by omega)] <;> rfl
    have e : (uUn dTup (uSl (uVar 6) none (some (uC (.int 2))))) (ρ.set 6 (some (cycD c))) st = some (.tup [.str c.1, .int c.2.1], st) :=
      uUn_eq (x := .tup [.str c.1, .int c.2.1]) (uSl_eq v rfl (uPart_eq rfl) rfl) rfl
    show ((some (ρ.set 6 (some (cycD c))) : Option En).bind fun ρ1 => ((some (true, st) : Option (Bool × St4)).bind fun b => if b.1 = true then ((uUn dTup (uSl (uVar 6) none (some (uC (.int 2))))) ρ1 b.2).bind fun y => (uLcGo (bName 6) tYesU (uUn dTup (uSl (uVar 6) none (some (uC (.int 2))))) ρ (cs.map cycD) y.2).map fun r => (y.1 :: r.1, r.2) else uLcGo (bName 6) tYesU (uUn dTup (uSl (uVar 6) none (some (uC (.int 2))))) ρ (cs.map cycD) b.2)) = _
    rw [Option.bind_some, Option.bind_some]
    show (((uUn dTup (uSl (uVar 6) none (some (uC (.int 2))))) (ρ.set 6 (some (cycD c))) st).bind fun y => (uLcGo (bName 6) tYesU (uUn dTup (uSl (uVar 6) none (some (uC (.int 2))))) ρ (cs.map cycD) y.2).map fun r => (y.1 :: r.1, r.2)) = _
    rw [e, Option.bind_some, ih] <;> rfl
def cfBody : US := (uSeq (uIfS (uOr (uNot (uTst dBool (uChain (bI2 fun i j => decide (i ≤ j)) (bI2 fun i j => decide (i < j)) (uC (.int 0)) (uVar 5) (uVar 4)))) (uTst dBool (uInL false (uVar 3) (uLVar 2))))
  (uRet (uC (.bl false)))
  uNext)
  (uApp 2 (uVar 3)))
theorem cf_go {r f : D} (st : St4) : ∀ (cs : List (Str × Int × Int)) (ns : List Str) (a b c : Option D), CyOk cs → (ns ++ cs.map (·.1)).Nodup → ns.length + cs.length ≤ 1000 → ∃ (ns' : List Str) (a' b' c' : Option D), uForGo (bTup [3, 4, 5]) cfBody (cs.map cycD) [some r, some f, some (.lst (ns.map .str)), a, b, c, none] st = some (.nx, [some r, some f, some (.lst (ns'.map .str)), a', b', c', none], st)
  | [], ns, a, b, c, _, _, _ => ⟨ns, a, b, c, rfl⟩
  | x :: cs, ns, a, b, c, hc, hn, hl => by
    have hx := hc x List.mem_cons_self
    have hl' : ns.length + (cs.length + 1) ≤ 1000 := by simpa using hl
    have hnot : x.1 ∉ ns := by
      rw [List.nodup_append] at hn
      exact fun q => hn.2.2 x.1 q x.1 (by simp) rfl
    obtain ⟨ns', a', b', c', q⟩ := cf_go (r := r) (f := f) st cs (ns ++ [x.1]) (some (.str x.1)) (some (.int x.2.1)) (some (.int x.2.2)) (fun z hz => hc z (List.mem_cons_of_mem _ hz)) (by simpa using hn) (by simp; omega)
    refine ⟨ns', a', b', c', ?_⟩
    rw [List.map_cons]
    refine uForGo_cons (ρ1 := [some r, some f, some (.lst (ns.map .str)), some (.str x.1), some (.int x.2.1), some (.int x.2.2), none]) rfl (uSeq_go (ρ1 := [some r, some f, some (.lst (ns.map .str)), some (.str x.1), some (.int x.2.1), some (.int x.2.2), none]) (st1 := st) (uIfS_f (s1 := st) ?_ rfl) ((uApp_eq (x := .str x.1) (ys := ns.map .str) rfl rfl (by simp; omega)).trans (by simp))) q
    have k1 : 0 ≤ x.2.2 := hx.1
    have k2 : x.2.2 < x.2.1 := hx.2.1
    simp [uSeq, uIfS, uTst, uRel, uOp, uUn, uVar, uC, gv, bI2, dBool, uRet, uNext, uSet, uSetL, uDrop, dI2, dAdd, uTgt, uPar, uCall, uCallL, uMeth, aNil, aCons, aConsL, aSrc, uTup, uLst, uOfL, uLOf, uLVar, uUnL, uUnN, uIxL, uAnd, uOr, uNot, uIf, uTru, uTruL, bTru, bName, bTup, bNames, uItems, dIx, bEq, bNe, dInt, uAndV, uOrV, uNotV, uRetL, uRetN, dFld, dLen, lLen, dList, dTup, dNeg, at0, at1, at2, at3, at4, at5, at6, at7, sEO, sEN, sON, sNE, sNO, sOE, uChain, uInL, bInL, asS_map, k1, k2, hnot]
theorem f_cycles_fit_eq {s s0 : Sg} (hc : CyOk s.cycles) (hn : (s.cycles.map (·.1)).Nodup) (hl : s.cycles.length ≤ 100) (hp : prs s.cycles = prs s0.cycles) (st : St4) : f_cycles_fit [s.row, s0.row] st = some (.bl true, st) := by
  obtain ⟨ns', a', b', c', q⟩ := cf_go (r := s.row) (f := s0.row) st s.cycles [] none none none hc (by simpa using hn) (by simp; omega)
  have hl0 : s0.cycles.length ≤ 100 := by
    have := congrArg List.length hp
    simp [prs] at this
    omega
  refine Rt.fin (.go (ρ1 := [some s.row, some s0.row, some (.lst []), none, none, none, none]) (st1 := st) (by simp [uSeq, uIfS, uTst, uRel, uOp, uUn, uVar, uC, gv, bI2, dBool, uRet, uNext, uSet, uSetL, uDrop, dI2, dAdd, uTgt, uPar, uCall, uCallL, uMeth, aNil, aCons, aConsL, aSrc, uTup, uLst, uOfL, uLOf, uLVar, uUnL, uUnN, uIxL, uAnd, uOr, uNot, uIf, uTru, uTruL, bTru, bName, bTup, bNames, uItems, dIx, bEq, bNe, dInt, uAndV, uOrV, uNotV, uRetL, uRetN, dFld, dLen, lLen, dList, dTup, dNeg, at0, at1, at2, at3, at4, at5, at6, at7, sEO, sEN, sON, sNE, sNO, sOE]) (.go (ρ1 := [some s.row, some s0.row, some (.lst (ns'.map .str)), a', b', c', none]) (st1 := st) ((uFor_eq (uItems_lst (uOp_eq rfl rfl (row_at7 s)))).trans q) (.ret (uOp_eq (x := .lst (prD (prs s.cycles))) (y := .lst (prD (prs s.cycles))) (s1 := st) (s2 := st) (uOfL_eq (uLc_eq (ds := s.cycles.map cycD) (uItems_lst (uOp_eq rfl rfl (row_at7 s))) (by simp; omega) (pr_go rfl st _))) ?_ ?_))))
  · rw [hp]
    exact uOfL_eq (uLc_eq (ds := s0.cycles.map cycD) (uItems_lst (uOp_eq rfl rfl (row_at7 s0))) (by simp; omega) (pr_go rfl st _))
  · show (bEqD _ _).map D.bl = _
    rw [bEqD_pr] <;> rfl
/-! ### has_date -/
theorem f_Segment_has_date_eq {s : Sg} (h : s.Ok) {y m d : Int} (v : s.Vd y m d) (st : St4) : f_Segment_has_date [s.ins, dt y m d] st = some (.bl true, st) := by
  have e := f_Segment_starts_eq (s := s) (fs := s.fs) h rfl rfl rfl y st
  have hm1 := v.m1
  have hm2 := v.m2
  have l4 : s.fs.lookup ("starts" : Str) = none := rfl
  have a1 : atI ((starts (s.mon y)).map D.int) m = some (.int ((s.mon y).take m.toNat).sum) := by
    have := atI_map (xs := starts (s.mon y)) (i := m) (by omega) (by rw [starts_len]; omega)
    rwa [starts_get _ (by omega)] at this
  have a2 : atI ((starts (s.mon y)).map D.int) (m - 1) = some (.int ((s.mon y).take (m - 1).toNat).sum) := by
    have := atI_map (xs := starts (s.mon y)) (i := m - 1) (by omega) (by rw [starts_len]; omega)
    rwa [starts_get _ (by omega)] at this
  have a3 : ((s.mon y).take m.toNat).sum = ((s.mon y).take (m - 1).toNat).sum + s.md y m := by
    rw [show m.toNat = (m - 1).toNat + 1 by omega, Sg.sum_take (by omega)] <;> rfl
  obtain ⟨z, hz⟩ : ∃ z, ((s.mon y).take (m - 1).toNat).sum = z := ⟨_, rfl⟩
  rw [a3] at a1
  rw [hz] at a1 a2
  have d1 := v.d1
  have d2 := v.d2
  refine Rt.fin (.go (ρ1 := [some s.ins, some (dt y m d), some (iL (starts (s.mon y)))]) (st1 := st) ?_ (.go (ρ1 := [some s.ins, some (dt y m d), some (iL (starts (s.mon y)))]) (st1 := st) ?_ (.ret ?_)))
  · simp [uSeq, uIfS, uTst, uRel, uOp, uUn, uVar, uC, gv, bI2, dBool, uRet, uNext, uSet, uSetL, uDrop, dI2, dAdd, uTgt, uPar, uCall, uCallL, uMeth, aNil, aCons, aConsL, aSrc, uTup, uLst, uOfL, uLOf, uLVar, uUnL, uUnN, uIxL, uAnd, uOr, uNot, uIf, uTru, uTruL, bTru, bName, bTup, bNames, uItems, dIx, bEq, bNe, dInt, uAndV, uOrV, uNotV, uRetL, uRetN, dFld, dLen, lLen, dList, dTup, dNeg, at0, at1, at2, at3, at4, at5, at6, at7, sEO, sEN, sON, sNE, sNO, sOE, Sg.ins, dt, l4, e]
  · have k : m < ((starts (s.mon y)).length : Int) := by rw [starts_len]; omega
    simp [uSeq, uIfS, uTst, uRel, uOp, uUn, uVar, uC, gv, bI2, dBool, uRet, uNext, uSet, uSetL, uDrop, dI2, dAdd, uTgt, uPar, uCall, uCallL, uMeth, aNil, aCons, aConsL, aSrc, uTup, uLst, uOfL, uLOf, uLVar, uUnL, uUnN, uIxL, uAnd, uOr, uNot, uIf, uTru, uTruL, bTru, bName, bTup, bNames, uItems, dIx, bEq, bNe, dInt, uAndV, uOrV, uNotV, uRetL, uRetN, dFld, dLen, lLen, dList, dTup, dNeg, at0, at1, at2, at3, at4, at5, at6, at7, sEO, sEN, sON, sNE, sNO, sOE, uChain, dt, iL, hm1, k]
  · have k : d ≤ s.md y m := d2
    simp [uSeq, uIfS, uTst, uRel, uOp, uUn, uVar, uC, gv, bI2, dBool, uRet, uNext, uSet, uSetL, uDrop, dI2, dAdd, uTgt, uPar, uCall, uCallL, uMeth, aNil, aCons, aConsL, aSrc, uTup, uLst, uOfL, uLOf, uLVar, uUnL, uUnN, uIxL, uAnd, uOr, uNot, uIf, uTru, uTruL, bTru, bName, bTup, bNames, uItems, dIx, bEq, bNe, dInt, uAndV, uOrV, uNotV, uRetL, uRetN, dFld, dLen, lLen, dList, dTup, dNeg, at0, at1, at2, at3, at4, at5, at6, at7, sEO, sEN, sON, sNE, sNO, sOE, uChain, dt, iL, a1, a2, d1]
    omega
end Fw
set_option Elab.async false
set_option linter.all false
set_option maxRecDepth 100000
set_option maxHeartbeats 4000000
namespace Fw
open PySem PySem.Spec L2
/-! ### row_check -/
theorem uMake_eq {c : Str} {f : List D → St4 → Option (List (Str × D) × St4)} {ua : UA} {ρ : En} {st s1 s2 : St4} {ds : List D} {fs : List (Str × D)} (h : ua ρ st = some (ds, s1)) (h2 : f ds s1 = some (fs, s2)) : uMake c f [] ua ρ st = some (.ins c fs, s2) := by
  unfold uMake
  rw [h, Option.bind_some, List.append_nil, h2] <;> rfl
theorem uMeth_eq {c m : Str} {us : List D → St4 → Option (D × St4)} {a : UE} {ua : UA} {ρ : En} {st s1 s2 s3 : St4} {fs : List (Str × D)} {ds : List D} {y : D} (h : a ρ st = some (.ins c fs, s1)) (hm : fs.lookup m = none) (h2 : ua ρ s1 = some (ds, s2)) (h3 : us (.ins c fs :: ds) s2 = some (y, s3)) : uMeth c m us a ua ρ st = some (y, s3) := by
  unfold uMeth
  rw [h, Option.bind_some]
  show (if c = c ∧ fs.lookup m = none then (ua ρ s1).bind fun y => us (.ins c fs :: y.1) y.2 else none) = _
  rw [if_pos ⟨rfl, hm⟩, h2, Option.bind_some, h3]
theorem uTru_t {a : UE} {ρ : En} {st s1 : St4} (h : a ρ st = some (.bl true, s1)) : uTru a ρ st = some (true, s1) := uTst_eq h rfl
theorem uNot_eq {t : UT} {ρ : En} {st s1 : St4} {b : Bool} (h : t ρ st = some (b, s1)) : uNot t ρ st = some (!b, s1) := by
  unfold uNot
  rw [h] <;> rfl
theorem chain_le_lt {a b c : UE} {ρ : En} {st s1 s2 s3 : St4} {x y z : Int} (h1 : a ρ st = some (.int x, s1)) (h2 : b ρ s1 = some (.int y, s2)) (h3 : c ρ s2 = some (.int z, s3)) (k1 : x ≤ y) (k2 : y < z) : uTst dBool (uChain (bI2 fun i j => decide (i ≤ j)) (bI2 fun i j => decide (i < j)) a b c) ρ st = some (true, s3) := by
  refine uTst_eq (x := .bl true) ?_ rfl
  unfold uChain
  rw [h1, Option.bind_some, h2, Option.bind_some]
  show ((some (decide (x ≤ y)) : Option Bool).bind fun w => if w = true then (c ρ s2).bind fun q => (bI2 (fun i j => decide (i < j)) (.int y) q.1).map fun r => (D.bl r, q.2) else some (.bl false, s2)) = _
  rw [decide_eq_true k1, Option.bind_some, if_pos rfl, h3, Option.bind_some]
  show (some (decide (y < z))).map (fun r => (D.bl r, s3)) = _
  rw [decide_eq_true k2] <;> rfl
def Sg.base (s : Sg) : Sg := ⟨s.tick, s.width, s.into, 0, 1, 1, s.common, s.longer, s.leap, s.cycles⟩
structure Good (s : Sg) : Prop where
  ok : s.Ok
  v : s.V
  big : Big s
  cy : CyOk s.cycles
  cl : s.cycles.length ≤ 100
  cn : (s.cycles.map (·.1)).Nodup
def kEn (nm rows : D) (k : Int) (r s : Option D) : En := [some nm, some rows, some (.int k), r, s]
theorem f_row_check_eq {segs : List Sg} {nm : D} {k : Nat} {s s0 : Sg} (hk : segs[k]? = some s) (h0 : segs[0]? = some s0) (g : Good s) (hp : prs s.cycles = prs s0.cycles) (ht : ∀ j p, k = j + 1 → segs[j]? = some p → p.tick < s.tick) (st : St4) : f_row_check [nm, .lst (segs.map Sg.row), .int k] st = some (.non, st) := by
  let R : D := .lst (segs.map Sg.row)
  have ek : dIx R (.int k) = some s.row := atK (by rw [List.getElem?_map, hk] <;> rfl)
  have e0 : dIx R (.int 0) = some s0.row := atK (k := 0) (by rw [List.getElem?_map, h0] <;> rfl)
  have okb : s.base.Ok := ⟨g.ok.w, g.ok.i, g.ok.c, g.ok.l, g.ok.leap⟩
  have g1 : uSet 3 (uOp dIx (uVar 1) (uVar 2)) (kEn nm R k none none) st = some (.nx, kEn nm R k (some s.row) none, st) := uSet_eq (uOp_eq rfl rfl ek)
  have g2 : (uAnd (uTst dBool (uRel (bI2 fun i j => decide (j < i)) (uVar 2) (uC (.int 0)))) (uTst dBool (uRel (bI2 fun i j => decide (i ≤ j)) (uOp dIx (uVar 3) (uC (.int 0))) (uOp dIx (uOp dIx (uVar 1) (uOp (dI2 fun i j => some (i - j)) (uVar 2) (uC (.int 1)))) (uC (.int 0)))))) (kEn nm R k (some s.row) none) st = some (false, st) := by
    cases k with
    | zero =>
      have : (uTst dBool (uRel (bI2 fun i j => decide (j < i)) (uVar 2) (uC (.int 0)))) (kEn nm R ((0 : Nat) : Int) (some s.row) none) st = some (false, st) := uRelT_eq (x := .int 0) (y := .int 0) rfl rfl rfl
      unfold uAnd
      rw [this] <;> rfl
    | succ j =>
      have : (uTst dBool (uRel (bI2 fun i j => decide (j < i)) (uVar 2) (uC (.int 0)))) (kEn nm R ((j + 1 : Nat) : Int) (some s.row) none) st = some (true, st) := uRelT_eq (x := .int ((j + 1 : Nat) : Int)) (y := .int 0) rfl rfl (by show some (decide ((0 : Int) < ((j + 1 : Nat) : Int))) = _; rw [decide_eq_true (by omega)])
      obtain ⟨p, hpj⟩ : ∃ p, segs[j]? = some p := ⟨_, List.getElem?_eq_getElem (by have := (List.getElem?_eq_some_iff.mp hk).1; omega)⟩
      have ej : dIx R (.int (j : Int)) = some p.row := atK (by rw [List.getElem?_map, hpj] <;> rfl)
      have tt := ht j p rfl hpj
      unfold uAnd
      rw [this, Option.bind_some]
      exact uRelT_eq (x := .int s.tick) (y := .int p.tick) (uOp_eq rfl rfl (row_at0 s)) (uOp_eq (uOp_eq rfl (uOp_eq (x := .int ((j + 1 : Nat) : Int)) (y := .int 1) rfl rfl (by show (some (((j + 1 : Nat) : Int) - 1)).map D.int = _; rw [show ((j + 1 : Nat) : Int) - 1 = (j : Int) by omega] <;> rfl)) ej) rfl (row_at0 p)) (by show some (decide (s.tick ≤ p.tick)) = _; rw [decide_eq_false (by omega)])
  have g3 : (uNot (uTst dBool (uChain (bI2 fun i j => decide (i ≤ j)) (bI2 fun i j => decide (i < j)) (uC (.int 0)) (uOp dIx (uVar 3) (uC (.int 2))) (uOp dIx (uVar 3) (uC (.int 1)))))) (kEn nm R k (some s.row) none) st = some (false, st) :=
    uNot_eq (b := true) (chain_le_lt rfl (uOp_eq rfl rfl (row_at2 s)) (uOp_eq rfl rfl (row_at1 s)) g.ok.i.1 g.ok.i.2)
  have g4 : (uOr (uNot (uTru (uCall f_lengths_fit [] (aCons (uOp dIx (uVar 3) (uC (.int 4))) aNil)))) (uNot (uTru (uCall f_lengths_fit [] (aCons (uOp dIx (uVar 3) (uC (.int 5))) aNil))))) (kEn nm R k (some s.row) none) st = some (false, st) := by
    have t1 : (uNot (uTru (uCall f_lengths_fit [] (aCons (uOp dIx (uVar 3) (uC (.int 4))) aNil)))) (kEn nm R k (some s.row) none) st = some (false, st) := uNot_eq (b := true) (uTru_t (uCall_eq (aCons_eq (uOp_eq rfl rfl (row_at4 s)) rfl) (f_lengths_fit_eq g.ok.c (.inl rfl) st)))
    unfold uOr
    rw [t1, Option.bind_some]
    exact uNot_eq (b := true) (uTru_t (uCall_eq (aCons_eq (uOp_eq rfl rfl (row_at5 s)) rfl) (f_lengths_fit_eq g.ok.l (.inr rfl) st)))
  have g5 : (uNot (uTru (uCall f_leap_fits [] (aCons (uOp dIx (uVar 3) (uC (.int 6))) aNil)))) (kEn nm R k (some s.row) none) st = some (false, st) := uNot_eq (b := true) (uTru_t (uCall_eq (aCons_eq (uOp_eq rfl rfl (row_at6 s)) rfl) (f_leap_fits_eq g.ok.leap st)))
  have mk := f_Segment___init___eq (s := s.base) okb (by have := g.cl; show s.cycles.length ≤ 1000; omega) (Int.le_refl _) (by have := Sg.len_pos okb 0; show (1 : Int) ≤ ((s.base.mon 0).length : Int); omega) st
  have g6 : uSet 4 (uMake ("Segment" : PySem.Str) f_Segment___init__ [] (aCons (uOp dAdd (uOp dAdd (uUn dTup (uSl (uVar 3) none (some (uC (.int 3))))) (uTup (aCons (uTup (aCons (uC (.int 0)) (aCons (uC (.int 1)) (aCons (uC (.int 1)) aNil)))) aNil))) (uUn dTup (uSl (uVar 3) (some (uC (.int 4))) none))) aNil)) (kEn nm R k (some s.row) none) st = some (.nx, kEn nm R k (some s.row) (some s.base.ins), st) := by
    refine uSet_eq (uMake_eq (aCons_eq (x := s.base.row) (s1 := st) ?_ rfl) mk)
    exact uOp_eq (x := .tup [.int s.tick, .int s.width, .int s.into, dt 0 1 1]) (y := .tup [iL s.common, .tup (s.longer.map .int), s.leap.d, .lst (s.cycles.map cycD)]) (s1 := st) (uOp_eq (x := .tup [.int s.tick, .int s.width, .int s.into]) (y := .tup [dt 0 1 1]) (s1 := st) (uUn_eq (x := .tup [.int s.tick, .int s.width, .int s.into]) (uSl_eq (x := s.row) rfl rfl (uPart_eq rfl) rfl) rfl) (uTup_eq (aCons_eq (uTup_eq (aCons_eq rfl (aCons_eq rfl (aCons_eq rfl rfl))) (by simp)) rfl) (by simp)) rfl) (uUn_eq (x := .tup [iL s.common, .tup (s.longer.map .int), s.leap.d, .lst (s.cycles.map cycD)]) (uSl_eq (x := s.row) rfl (uPart_eq rfl) rfl rfl) rfl) rfl
  have st1 := f_Segment_starts_eq (s := s.base) (fs := s.base.fs) okb rfl rfl rfl s.y st
  have g7 : (uNot (uTst dBool (uChain (bI2 fun i j => decide (i ≤ j)) (bI2 fun i j => decide (i < j)) (uC (.int 1)) (uOp dIx (uOp dIx (uVar 3) (uC (.int 3))) (uC (.int 1))) (uUn dLen (uMeth ("Segment" : PySem.Str) ("starts" : PySem.Str) f_Segment_starts (uVar 4) (aCons (uOp dIx (uOp dIx (uVar 3) (uC (.int 3))) (uC (.int 0))) aNil)))))) (kEn nm R k (some s.row) (some s.base.ins)) st = some (false, st) :=
    uNot_eq (b := true) (chain_le_lt (x := 1) (y := s.m) (z := ((starts (s.base.mon s.y)).length : Int)) rfl (uOp_eq (x := dt s.y s.m s.dd) (y := .int 1) (uOp_eq rfl rfl (row_at3 s)) rfl at1) (uUn_eq (x := iL (starts (s.base.mon s.y))) (uMeth_eq (fs := s.base.fs) rfl rfl (aCons_eq (uOp_eq (x := dt s.y s.m s.dd) (y := .int 0) (uOp_eq rfl rfl (row_at3 s)) rfl at0) rfl) st1) (by simp [dLen, iL])) g.v.m1 (by rw [starts_len]; have := g.v.m2; show s.m < (((s.mon s.y).length + 1 : Nat) : Int); omega))
  have g8 : (uNot (uTru (uMeth ("Segment" : PySem.Str) ("has_date" : PySem.Str) f_Segment_has_date (uVar 4) (aCons (uOp dIx (uVar 3) (uC (.int 3))) aNil)))) (kEn nm R k (some s.row) (some s.base.ins)) st = some (false, st) :=
    uNot_eq (b := true) (uTru_t (uMeth_eq (fs := s.base.fs) rfl rfl (aCons_eq (uOp_eq rfl rfl (row_at3 s)) rfl) (f_Segment_has_date_eq (s := s.base) okb (y := s.y) (m := s.m) (d := s.dd) ⟨g.v.m1, g.v.m2, g.v.d1, g.v.d2⟩ st)))
  have g9 : (uNot (uTru (uCall f_cycles_fit [] (aCons (uVar 3) (aCons (uOp dIx (uVar 1) (uC (.int 0))) aNil))))) (kEn nm R k (some s.row) (some s.base.ins)) st = some (false, st) :=
    uNot_eq (b := true) (uTru_t (uCall_eq (aCons_eq rfl (aCons_eq (uOp_eq rfl rfl e0) rfl)) (f_cycles_fit_eq g.cy g.cn g.cl hp st)))
  exact uDef_nx (uSeq_go g1 (uSeq_go (uIfS_f g2 rfl) (uSeq_go (uIfS_f g3 rfl) (uSeq_go (uIfS_f g4 rfl) (uSeq_go (uIfS_f g5 rfl) (uSeq_go g6 (uSeq_go (uIfS_f g7 rfl) (uSeq_go (uIfS_f g8 rfl) (uIfS_f g9 rfl)))))))))
/-! ### the calendar made -/
theorem f_Calendar___init___eq {segs : List Sg} {nm : D} {s0 : Sg} (h0 : segs[0]? = some s0) (g : ∀ s ∈ segs, Good s ∧ prs s.cycles = prs s0.cycles) (ht : ∀ j p s, segs[j]? = some p → segs[j + 1]? = some s → p.tick < s.tick) (hl : segs.length ≤ 12) (st : St4) : f_Calendar___init__ [.lst (segs.map Sg.row), nm] st = some ([(("own_segments" : Str), D.lst (segs.map Sg.ins))], st) := by
  have b1 := f_bounds_check_eq (fun s hs => ⟨(g s hs).1.ok, (g s hs).1.v, (g s hs).1.big, (g s hs).1.cy, (g s hs).1.cl⟩) hl st
  obtain ⟨x', q⟩ := for_same (i := 3) (ρ := [some .src, some (.lst (segs.map Sg.row)), some nm, none, none]) (st := st) (body := (uDrop (uCall f_row_check [] (aCons (uVar 2) (aCons (uVar 1) (aCons (uVar 3) aNil)))))) (rng 0 segs.length) none (fun d hd => by
    obtain ⟨k, rfl, hk⟩ := mem_rng hd
    obtain ⟨s, hs⟩ : ∃ s, segs[k]? = some s := ⟨_, List.getElem?_eq_getElem (by omega)⟩
    have gs := g s (List.mem_of_getElem? hs)
    exact uDrop_eq (uCall_eq (aCons_eq rfl (aCons_eq rfl (aCons_eq rfl rfl))) (f_row_check_eq hs h0 gs.1 gs.2 (fun j p e hp => ht j p s hp (by rw [← e]; exact hs)) st)))
  have c1 : u_cal1 [some .src, some (.lst (segs.map Sg.row)), some nm, none, none] st = some (.nx, [some .src, some (.lst (segs.map Sg.row)), some nm, none, none], st) := uDrop_eq (uCall_eq (aCons_eq rfl rfl) b1)
  have c2 : u_cal2 [some .src, some (.lst (segs.map Sg.row)), some nm, none, none] st = some (.nx, [some .src, some (.lst (segs.map Sg.row)), some nm, x', none], st) := (uFor_eq (uRng1_eq (n := segs.length) (uUn_eq (x := .lst (segs.map Sg.row)) rfl (by simp [dLen])) (by omega) (by omega))).trans q
  have c3 : uSeq u_cal1 u_cal2 [some .src, some (.lst (segs.map Sg.row)), some nm, none, none] st = some (.nx, [some .src, some (.lst (segs.map Sg.row)), some nm, x', none], st) := uSeq_go c1 c2
  have own_go : ∀ l : List Sg, (∀ s ∈ l, Good s) → uLcGo (bName 4) tYesU (uMake ("Segment" : PySem.Str) f_Segment___init__ [] (aCons (uVar 4) aNil)) [some .src, some (.lst (segs.map Sg.row)), some nm, x', none] (l.map Sg.row) st = some (l.map Sg.ins, st) := by
    intro l
    induction l with
    | nil => intro _; rfl
    | cons s l ih =>
      intro hg
      have gs := hg s List.mem_cons_self
      have e1 := f_Segment___init___eq gs.ok (by have := gs.cl; omega) gs.v.m1 gs.v.m2 st
      have e2 : (uMake ("Segment" : PySem.Str) f_Segment___init__ [] (aCons (uVar 4) aNil)) [some .src, some (.lst (segs.map Sg.row)), some nm, x', some s.row] st = some (s.ins, st) := uMake_eq (aCons_eq rfl rfl) e1
      have ih' := ih fun z hz => hg z (List.mem_cons_of_mem _ hz)
      show ((uMake ("Segment" : PySem.Str) f_Segment___init__ [] (aCons (uVar 4) aNil) [some .src, some (.lst (segs.map Sg.row)), some nm, x', some s.row] st).bind fun y => (uLcGo (bName 4) tYesU (uMake ("Segment" : PySem.Str) f_Segment___init__ [] (aCons (uVar 4) aNil)) [some .src, some (.lst (segs.map Sg.row)), some nm, x', none] (l.map Sg.row) y.2).map fun r => (y.1 :: r.1, r.2)) = _
      rw [e2, Option.bind_some, ih'] <;> rfl
  have c4 : e_own [some .src, some (.lst (segs.map Sg.row)), some nm, x', none] st = some (.lst (segs.map Sg.ins), st) := uOfL_eq (uLc_eq (ds := segs.map Sg.row) (uItems_lst rfl) (by simp; omega) (own_go segs fun s hs => (g s hs).1))
  unfold f_Calendar___init__
  refine (bind_go c3 ?_)
  show ((gv [some .src, some (.lst (segs.map Sg.row)), some nm, x', none] 0).bind fun _ => (e_own [some .src, some (.lst (segs.map Sg.row)), some nm, x', none] st).map fun x => ([(("own_segments" : Str), x.1)], x.2)) = _
  rw [c4] <;> rfl
end Fw
set_option Elab.async false
set_option linter.all false
set_option maxRecDepth 100000
set_option maxHeartbeats 4000000
namespace Fw
open PySem PySem.Spec L2
/-! ### rows -/
theorem kSL : kitB "str" "list" = some false := by decide
theorem kIL : kitB "int" "list" = some false := by decide
theorem kLL : kitB "list" "list" = some true := by decide
theorem f_law_a_loose_eq (l : Leap) (st : St4) : f_law_a_loose [l.d] st = some (l.d, st) := by
  cases l <;> exact Rt.fin (.ret (by simp [uSeq, uIfS, uTst, uRel, uOp, uUn, uVar, uC, gv, bI2, dBool, uRet, uNext, uSet, uSetL, uDrop, dI2, dAdd, uTgt, uPar, uCall, uCallL, uMeth, aNil, aCons, aConsL, aSrc, uTup, uLst, uOfL, uLOf, uLVar, uUnL, uUnN, uIxL, uAnd, uOr, uNot, uIf, uTru, uTruL, bTru, bName, bTup, bNames, uItems, dIx, bEq, bNe, dInt, uAndV, uOrV, uNotV, uRetL, uRetN, dFld, dLen, lLen, dList, dTup, dNeg, at0, at1, at2, at3, at4, at5, at6, at7, sEO, sEN, sON, sNE, sNO, sOE, Leap.d, uLc, wipeD, uLcGo, tYesU, dIsi, tyD, kSL, kIL, kLL, iL]))
theorem f_law_a_rows_eq {segs : List Sg} (hl : segs.length ≤ 100) (st : St4) : f_law_a_rows [.lst (segs.map Sg.d)] st = some (.lst (segs.map Sg.row), st) := by
  have go : ∀ (l : List Sg), uLcGo (bName 1) tYesU (uTup (aCons (uOp dIx (uVar 1) (uC (.int 0))) (aCons (uOp dIx (uVar 1) (uC (.int 1))) (aCons (uOp dIx (uVar 1) (uC (.int 2))) (aCons (uUn dTup (uOp dIx (uVar 1) (uC (.int 3)))) (aCons (uUn dList (uOp dIx (uVar 1) (uC (.int 4)))) (aCons (uUn dTup (uOp dIx (uVar 1) (uC (.int 5)))) (aCons (uCall f_law_a_loose [] (aCons (uOp dIx (uVar 1) (uC (.int 6))) aNil)) (aCons (uUn dList (uOp dIx (uVar 1) (uC (.int 7)))) aNil))))))))) [some (.lst (segs.map Sg.d)), none] (l.map Sg.d) st = some (l.map Sg.row, st) := by
    intro l
    induction l with
    | nil => rfl
    | cons s l ih =>
      have e : (uTup (aCons (uOp dIx (uVar 1) (uC (.int 0))) (aCons (uOp dIx (uVar 1) (uC (.int 1))) (aCons (uOp dIx (uVar 1) (uC (.int 2))) (aCons (uUn dTup (uOp dIx (uVar 1) (uC (.int 3)))) (aCons (uUn dList (uOp dIx (uVar 1) (uC (.int 4)))) (aCons (uUn dTup (uOp dIx (uVar 1) (uC (.int 5)))) (aCons (uCall f_law_a_loose [] (aCons (uOp dIx (uVar 1) (uC (.int 6))) aNil)) (aCons (uUn dList (uOp dIx (uVar 1) (uC (.int 7)))) aNil))))))))) [some (.lst (segs.map Sg.d)), some s.d] st = some (s.row, st) :=
        uTup_eq (aCons_eq (uOp_eq (x := s.d) (y := .int 0) rfl rfl at0) (aCons_eq (uOp_eq (x := s.d) (y := .int 1) rfl rfl at1) (aCons_eq (uOp_eq (x := s.d) (y := .int 2) rfl rfl at2) (aCons_eq (uUn_eq (x := dt s.y s.m s.dd) (uOp_eq (x := s.d) (y := .int 3) rfl rfl at3) rfl) (aCons_eq (uUn_eq (x := iL s.common) (uOp_eq (x := s.d) (y := .int 4) rfl rfl at4) rfl) (aCons_eq (uUn_eq (x := iL s.longer) (uOp_eq (x := s.d) (y := .int 5) rfl rfl at5) rfl) (aCons_eq (uCall_eq (aCons_eq (uOp_eq (x := s.d) (y := .int 6) rfl rfl at6) rfl) (f_law_a_loose_eq s.leap st)) (aCons_eq (uUn_eq (x := .lst (s.cycles.map cycD)) (uOp_eq (x := s.d) (y := .int 7) rfl rfl at7) rfl) rfl)))))))) (by simp)
      show ((_ : Option (D × St4)).bind fun y => (_ : Option (List D × St4)).map fun r => (y.1 :: r.1, r.2)) = _
      refine (congrArg (fun z => Option.bind z _) e).trans ?_
      rw [Option.bind_some, ih] <;> rfl
  exact Rt.fin (.ret (uOfL_eq (uLc_eq rfl (by simp; omega) (go segs))))
/-! ### name_at -/
theorem Gaps.tl {x : Sg} {l : List Sg} (h : Gaps (x :: l)) : Gaps l := by
  cases l with
  | nil => trivial
  | cons y l => exact h.2.2
theorem Gaps.hd {x y : Sg} {l : List Sg} (h : Gaps (x :: l)) (hy : l[0]? = some y) : x.tick < y.tick ∧ y.tick ≤ x.tick + 9 := by
  cases l with
  | nil => cases hy
  | cons z l =>
    cases hy
    exact ⟨h.1, h.2.1⟩
theorem Gaps.next {l : List Sg} (h : Gaps l) : ∀ {i : Nat} {a b : Sg}, l[i]? = some a → l[i + 1]? = some b → a.tick < b.tick ∧ b.tick ≤ a.tick + 9 := by
  induction l with
  | nil => intro i a b ha _; cases ha
  | cons x l ih =>
    intro i a b ha hb
    cases i with
    | zero =>
      cases ha
      exact h.hd hb
    | succ i => exact ih h.tl ha hb
theorem Gaps.get {l : List Sg} (h : Gaps l) {i : Nat} {a : Sg} (ha : l[i]? = some a) : ∀ (k : Nat) {b : Sg}, l[i + 1 + k]? = some b → a.tick < b.tick
  | 0, b, hb => (h.next ha hb).1
  | k + 1, b, hb => by
    obtain ⟨c, hc⟩ : ∃ c, l[i + 1 + k]? = some c := ⟨_, List.getElem?_eq_getElem (by have := (List.getElem?_eq_some_iff.mp hb).1; omega)⟩
    have h1 := Gaps.get h ha k hc
    have h2 := (h.next hc hb).1
    omega
def saBody : US := (uIfS (uTst dBool (uRel (bI2 fun i j => decide (i ≤ j)) (uUn (dFld ("Segment" : PySem.Str) ("tick" : PySem.Str)) (uOp dIx (uVar 0) (uVar 3))) (uVar 1)))
  (uSet 2 (uVar 3))
  uNext)
theorem sa_go {segs : List Sg} {t : Int} {i : Nat} (h1 : ∀ j s, 1 ≤ j → j ≤ i → segs[j]? = some s → s.tick ≤ t) (h2 : ∀ j s, i < j → segs[j]? = some s → t < s.tick) (st : St4) : ∀ (c a : Nat) (p : Nat) (x : Option D), a + c = segs.length → 1 ≤ a → (p : Int) = (if a ≤ i then ((a - 1 : Nat) : Int) else (i : Int)) → ∃ x', uForGo (bName 3) saBody ((List.range' a c).map fun j => D.int (j : Nat)) [some (.lst (segs.map Sg.ins)), some (.int t), some (.int p), x] st = some (.nx, [some (.lst (segs.map Sg.ins)), some (.int t), some (.int (if a + c ≤ i then ((a + c - 1 : Nat) : Int) else (i : Int))), x'], st)
  | 0, a, p, x, _, _, hp => ⟨x, by rw [Nat.add_zero, ← hp] <;> rfl⟩
  | c + 1, a, p, x, hac, ha, hp => by
    obtain ⟨s, hs⟩ : ∃ s, segs[a]? = some s := ⟨_, List.getElem?_eq_getElem (by omega)⟩
    have ea : dIx (.lst (segs.map Sg.ins)) (.int (a : Int)) = some s.ins := atK (by rw [List.getElem?_map, hs] <;> rfl)
    have tk : (uUn (dFld ("Segment" : PySem.Str) ("tick" : PySem.Str)) (uOp dIx (uVar 0) (uVar 3))) [some (.lst (segs.map Sg.ins)), some (.int t), some (.int p), some (.int (a : Nat))] st = some (.int s.tick, st) := uUn_eq (x := s.ins) (uOp_eq rfl rfl ea) rfl
    rw [List.range'_succ, List.map_cons]
    by_cases q : s.tick ≤ t
    · have hai : a ≤ i := by
        by_cases w : a ≤ i
        · exact w
        · have := h2 a s (by omega) hs
          omega
      obtain ⟨x', r⟩ := sa_go h1 h2 st c (a + 1) a (some (.int (a : Nat))) (by omega) (by omega) (by split <;> omega)
      refine ⟨x', uForGo_cons (ρ1 := [some (.lst (segs.map Sg.ins)), some (.int t), some (.int p), some (.int (a : Nat))]) rfl (uIfS_t (uRelT_eq (x := .int s.tick) (y := .int t) tk rfl (by show some (decide (s.tick ≤ t)) = _; rw [decide_eq_true q])) (uSet_eq rfl)) ?_⟩
      rw [show a + (c + 1) = a + 1 + c by omega]
      exact r
    · have hai : i < a := by
        by_cases w : a ≤ i
        · exact absurd (h1 a s ha w hs) q
        · omega
      obtain ⟨x', r⟩ := sa_go h1 h2 st c (a + 1) p (some (.int (a : Nat))) (by omega) (by omega) (by rw [hp]; split <;> split <;> omega)
      refine ⟨x', uForGo_cons (ρ1 := [some (.lst (segs.map Sg.ins)), some (.int t), some (.int p), some (.int (a : Nat))]) rfl (uIfS_f (uRelT_eq (x := .int s.tick) (y := .int t) tk rfl (by show some (decide (s.tick ≤ t)) = _; rw [decide_eq_false q])) rfl) ?_⟩
      rw [show a + (c + 1) = a + 1 + c by omega]
      exact r
theorem f_segment_at_eq {segs : List Sg} {t : Int} {i : Nat} (hi : i < segs.length) (hl : segs.length ≤ 100) (h1 : ∀ j s, 1 ≤ j → j ≤ i → segs[j]? = some s → s.tick ≤ t) (h2 : ∀ j s, i < j → segs[j]? = some s → t < s.tick) (st : St4) : f_segment_at [.lst (segs.map Sg.ins), .int t] st = some (.int i, st) := by
  obtain ⟨x', r⟩ := sa_go h1 h2 st (segs.length - 1) 1 0 none (by omega) (Nat.le_refl _) (by split <;> omega)
  refine Rt.fin (.go (ρ1 := [some (.lst (segs.map Sg.ins)), some (.int t), some (.int 0), none]) (st1 := st) (by simp [uSeq, uIfS, uTst, uRel, uOp, uUn, uVar, uC, gv, bI2, dBool, uRet, uNext, uSet, uSetL, uDrop, dI2, dAdd, uTgt, uPar, uCall, uCallL, uMeth, aNil, aCons, aConsL, aSrc, uTup, uLst, uOfL, uLOf, uLVar, uUnL, uUnN, uIxL, uAnd, uOr, uNot, uIf, uTru, uTruL, bTru, bName, bTup, bNames, uItems, dIx, bEq, bNe, dInt, uAndV, uOrV, uNotV, uRetL, uRetN, dFld, dLen, lLen, dList, dTup, dNeg, at0, at1, at2, at3, at4, at5, at6, at7, sEO, sEN, sON, sNE, sNO, sOE]) (.go (ρ1 := [some (.lst (segs.map Sg.ins)), some (.int t), some (.int i), x']) (st1 := st) ?_ (.ret rfl)))
  refine (uFor_eq (ds := (List.range' 1 (segs.length - 1)).map fun j => D.int (j : Nat)) (st' := st) ?_).trans (r.trans ?_)
  · refine (uRng2_eq (n := 1) (m := segs.length) rfl (uUn_eq (x := .lst (segs.map Sg.ins)) rfl (by simp [dLen])) (by decide) (by decide) (by omega) (by omega)).trans ?_
    unfold rng
    rw [show ((segs.length : Int) - 1).toNat = segs.length - 1 by omega, List.range'_eq_map_range, List.map_map]
    congr 2
  · rw [show 1 + (segs.length - 1) = segs.length by omega, if_neg (by omega)]
end Fw
set_option Elab.async false
set_option linter.all false
set_option maxRecDepth 100000
set_option maxHeartbeats 4000000
namespace Fw
open PySem PySem.Spec L2
/-! ### name_at -/
theorem f_Segment_day_at_eq {s : Sg} (h : s.Ok) (t : Int) (st : St4) : f_Segment_day_at [s.ins, .int t] st = some (.int (s.dn s.y s.m s.dd + (t - s.tick + s.into) / s.width), st) := by
  have e : iDiv (t - s.tick + s.into) s.width = some ((t - s.tick + s.into) / s.width) := iDiv_eq (by have := h.w; omega) (by have := h.w; omega)
  exact Rt.fin (.ret (uOp_eq (x := .int (s.dn s.y s.m s.dd)) (y := .int ((t - s.tick + s.into) / s.width)) (uUn_eq (x := s.ins) rfl rfl) (uOp_eq (x := .int (t - s.tick + s.into)) (y := .int s.width) (uOp_eq (x := .int (t - s.tick)) (y := .int s.into) (uOp_eq (x := .int t) (y := .int s.tick) rfl (uUn_eq (x := s.ins) rfl rfl) rfl) (uUn_eq (x := s.ins) rfl rfl) rfl) (uUn_eq (x := s.ins) rfl rfl) (by show (iDiv _ _).map D.int = _; rw [e] <;> rfl)) rfl))
theorem sizes_day : tab_SIZES.lookup ("day" : Str) = some 3 := by decide
theorem sizes_month : tab_SIZES.lookup ("month" : Str) = some 2 := by decide
theorem sizes_year : tab_SIZES.lookup ("year" : Str) = some 1 := by decide
/-- the first fields of a date -/
def dtN (y m d : Int) : Nat → D
  | 1 => .tup [.int y]
  | 2 => .tup [.int y, .int m]
  | _ => dt y m d
structure Lev (l : Str) (n : Nat) : Prop where
  ex : (l = "day" ∧ n = 3) ∨ (l = "month" ∧ n = 2) ∨ (l = "year" ∧ n = 1)
theorem f_name_at_lev {segs : List Sg} {t : Int} {i : Nat} {s : Sg} {y m d : Int} (hs : segs[i]? = some s) (h : s.Ok) (hl : segs.length ≤ 100) (h1 : ∀ j s, 1 ≤ j → j ≤ i → segs[j]? = some s → s.tick ≤ t) (h2 : ∀ j s, i < j → segs[j]? = some s → t < s.tick) (v : s.Vd y m d) (hd : s.dn y m d = s.dn s.y s.m s.dd + (t - s.tick + s.into) / s.width) {l : Str} {n : Nat} (L : Lev l n) (st : St4) :
    f_name_at [.lst (segs.map Sg.ins), .str l, .int t] st = some (dtN y m d n, st) := by
  have e1 := f_segment_at_eq (by exact (List.getElem?_eq_some_iff.mp hs).1) hl h1 h2 st
  have e2 : dIx (.lst (segs.map Sg.ins)) (.int (i : Int)) = some s.ins := atK (by rw [List.getElem?_map, hs] <;> rfl)
  have e3 := f_Segment_day_at_eq h t st
  rw [← hd] at e3
  have e4 := f_Segment_date_of_eq h v st
  have go : ∀ n : Nat, tab_SIZES.lookup l = some (n : Int) → dSl (dt y m d) none (some (n : Int)) = some (dtN y m d n) → f_name_at [.lst (segs.map Sg.ins), .str l, .int t] st = some (dtN y m d n, st) := fun n e e' =>
    Rt.fin (.go (uSet_eq (uOp_eq (x := .lst (segs.map Sg.ins)) (y := .int (i : Int)) rfl (uCall_eq (aCons_eq rfl (aCons_eq rfl rfl)) e1) e2)) (.ret (uSl_eq (x := dt y m d) (i := none) (j := some (n : Int)) (uMeth_eq (fs := s.fs) rfl rfl (aCons_eq (uMeth_eq (fs := s.fs) rfl rfl (aCons_eq rfl rfl) e3) rfl) e4) rfl (uPart_eq (uUn_eq (x := .str l) rfl (by show (tab_SIZES.lookup l).map D.int = _; rw [e] <;> rfl))) e')))
  rcases L.ex with ⟨rfl, rfl⟩ | ⟨rfl, rfl⟩ | ⟨rfl, rfl⟩
  · exact go 3 sizes_day rfl
  · exact go 2 sizes_month rfl
  · exact go 1 sizes_year rfl
theorem f_name_at_eq {segs : List Sg} {t : Int} {i : Nat} {s : Sg} {y m d : Int} (hs : segs[i]? = some s) (h : s.Ok) (hl : segs.length ≤ 100) (h1 : ∀ j s, 1 ≤ j → j ≤ i → segs[j]? = some s → s.tick ≤ t) (h2 : ∀ j s, i < j → segs[j]? = some s → t < s.tick) (v : s.Vd y m d) (hd : s.dn y m d = s.dn s.y s.m s.dd + (t - s.tick + s.into) / s.width) (st : St4) :
    f_name_at [.lst (segs.map Sg.ins), .str "day", .int t] st = some (dt y m d, st) := f_name_at_lev hs h hl h1 h2 v hd ⟨.inl ⟨rfl, rfl⟩⟩ st
end Fw
set_option Elab.async false
set_option linter.all false
set_option maxRecDepth 100000
set_option maxHeartbeats 400000
namespace Fw
open PySem PySem.Spec L2
/-! ### what several laws use -/
theorem uIxL_eq {a : UL} {b : UE} {ρ : En} {st s1 s2 : St4} {xs : List D} {i : Int} {z : D} (h : a ρ st = some (xs, s1)) (h1 : b ρ s1 = some (.int i, s2)) (h2 : atI xs i = some z) : uIxL a b ρ st = some (z, s2) := by
  unfold uIxL
  rw [h, Option.bind_some, h1, Option.bind_some]
  show (atI xs i).map _ = _
  rw [h2] <;> rfl
theorem kb1 : kitB "int" "str" = some false := by decide
theorem kb2 : kitB "int" "int" = some true := by decide
theorem kb3 : kitB "int" "bool" = some false := by decide
theorem kb4 : kitB "tuple" "str" = some false := by decide
theorem kb5 : kitB "tuple" "int" = some false := by decide
theorem kb6 : kitB "tuple" "dict" = some false := by decide
theorem kb7 : kitB "tuple" "tuple" = some true := by decide
theorem kb8 : kitB "tuple" "list" = some false := by decide
theorem same_non (k : Nat) (st : St4) : f_law_same (k + 1) [.non, .non] st = some (.bl true, st) := by
  exact Rt.fin (.now (.ifT (uRelT_eq (x := .non) (y := .non) rfl rfl rfl) (.ret (uOp_eq (x := .non) (y := .non) rfl rfl rfl))))
theorem same_int (k : Nat) (i : Int) (st : St4) : f_law_same (k + 1) [.int i, .int i] st = some (.bl true, st) := by
  refine Rt.fin (.go (uIfS_f (uRelT_eq (x := .int i) (y := .non) rfl rfl rfl) rfl) (.go (uIfS_f (s1 := st) ?_ rfl) (.now (.ifT (s1 := st) ?_ (.ret ?_)))))
  · simp [uSeq, uIfS, uTst, uRel, uOp, uUn, uVar, uC, gv, bI2, dBool, uRet, uNext, uSet, uSetL, uDrop, dI2, dAdd, uTgt, uPar, uCall, uCallL, uMeth, aNil, aCons, aConsL, aSrc, uTup, uLst, uOfL, uLOf, uLVar, uUnL, uUnN, uIxL, uAnd, uOr, uNot, uIf, uTru, uTruL, bTru, bName, bTup, bNames, uItems, dIx, bEq, bNe, dInt, uAndV, uOrV, uNotV, uRetL, uRetN, dFld, dLen, lLen, dList, dTup, dNeg, at0, at1, at2, at3, at4, at5, at6, at7, sEO, sEN, sON, sNE, sNO, sOE, dIsi, tyD, kb1]
  · simp [uSeq, uIfS, uTst, uRel, uOp, uUn, uVar, uC, gv, bI2, dBool, uRet, uNext, uSet, uSetL, uDrop, dI2, dAdd, uTgt, uPar, uCall, uCallL, uMeth, aNil, aCons, aConsL, aSrc, uTup, uLst, uOfL, uLOf, uLVar, uUnL, uUnN, uIxL, uAnd, uOr, uNot, uIf, uTru, uTruL, bTru, bName, bTup, bNames, uItems, dIx, bEq, bNe, dInt, uAndV, uOrV, uNotV, uRetL, uRetN, dFld, dLen, lLen, dList, dTup, dNeg, at0, at1, at2, at3, at4, at5, at6, at7, sEO, sEN, sON, sNE, sNO, sOE, dIsi, tyD, kb2]
  · simp [uSeq, uIfS, uTst, uRel, uOp, uUn, uVar, uC, gv, bI2, dBool, uRet, uNext, uSet, uSetL, uDrop, dI2, dAdd, uTgt, uPar, uCall, uCallL, uMeth, aNil, aCons, aConsL, aSrc, uTup, uLst, uOfL, uLOf, uLVar, uUnL, uUnN, uIxL, uAnd, uOr, uNot, uIf, uTru, uTruL, bTru, bName, bTup, bNames, uItems, dIx, bEq, bNe, dInt, uAndV, uOrV, uNotV, uRetL, uRetN, dFld, dLen, lLen, dList, dTup, dNeg, at0, at1, at2, at3, at4, at5, at6, at7, sEO, sEN, sON, sNE, sNO, sOE, dIsi, tyD, kb2, kb3]
theorem asB_rep (n : Nat) : asB (List.replicate n (D.bl true)) = some (List.replicate n true) := by
  have := asB_map (List.replicate n true)
  rwa [List.map_replicate] at this
theorem same_go {f : List D → St4 → Option (D × St4)} {xs : List D} {ρ : En} (g0 : gv ρ 0 = some (.tup xs)) (g1 : gv ρ 1 = some (.tup xs)) (hl : ρ.length = 4) (h : ∀ x ∈ xs, ∀ st, f [x, x] st = some (.bl true, st)) (st : St4) : ∀ ds : List D, (∀ d ∈ ds, ∃ k : Nat, d = .int k ∧ k < xs.length) → uLcGo (bName 3) tYesU (uCall f [] (aCons (uOp dIx (uVar 0) (uVar 3)) (aCons (uOp dIx (uVar 1) (uVar 3)) aNil))) ρ ds st = some (List.replicate ds.length (.bl true), st)
  | [], _ => rfl
  | d :: ds, hd => by
    obtain ⟨k, rfl, hk⟩ := hd d List.mem_cons_self
    have ih := same_go g0 g1 hl h st ds fun d hd' => hd d (List.mem_cons_of_mem _ hd')
    obtain ⟨x, hx⟩ : ∃ x, xs[k]? = some x := ⟨_, List.getElem?_eq_getElem hk⟩
    have ex : dIx (.tup xs) (.int (k : Int)) = some x := atK hx
    have v0 : uVar 0 (ρ.set 3 (some (.int (k : Nat)))) st = some (.tup xs, st) := by
      unfold uVar gv
      rw [List.getElem?_set_ne (by decide)]
      exact congrArg (Option.map _) g0
    have v1 : uVar 1 (ρ.set 3 (some (.int (k : Nat)))) st = some (.tup xs, st) := by
      unfold uVar gv
      rw [List.getElem?_set_ne (by decide)]
      exact congrArg (Option.map _) g1
    have v3 : uVar 3 (ρ.set 3 (some (.int (k : Nat)))) st = some (.int (k : Nat), st) := by
      unfold uVar gv
      rw [List.getElem?_set_self (by omega)] <;> rfl
    have e : (uCall f [] (aCons (uOp dIx (uVar 0) (uVar 3)) (aCons (uOp dIx (uVar 1) (uVar 3)) aNil))) (ρ.set 3 (some (.int (k : Nat)))) st = some (.bl true, st) :=
      uCall_eq (aCons_eq (uOp_eq v0 v3 ex) (aCons_eq (uOp_eq v1 v3 ex) rfl)) (h x (List.mem_of_getElem? hx) st)
    show ((some (ρ.set 3 (some (D.int (k : Nat)))) : Option En).bind fun ρ1 => ((some (true, st) : Option (Bool × St4)).bind fun b => if b.1 = true then (_ : Option (D × St4)).bind fun y => (_ : Option (List D × St4)).map fun r => (y.1 :: r.1, r.2) else _)) = _
    rw [Option.bind_some, Option.bind_some]
    show ((_ : Option (D × St4)).bind fun y => (_ : Option (List D × St4)).map fun r => (y.1 :: r.1, r.2)) = _
    rw [e, Option.bind_some, ih] <;> rfl
theorem uAndV_t {a b : UE} {ρ : En} {st s1 : St4} {o : Option (D × St4)} (h : a ρ st = some (.bl true, s1)) (h2 : b ρ s1 = o) : uAndV a b ρ st = o := by
  unfold uAndV
  rw [h, Option.bind_some]
  show ((some true : Option Bool).bind fun z => if z = true then b ρ s1 else some (.bl false, s1)) = _
  rw [Option.bind_some, if_pos rfl]
  exact h2
theorem same_tup (k : Nat) {xs : List D} (hl : xs.length ≤ 1000) (h : ∀ x ∈ xs, ∀ st, f_law_same k [x, x] st = some (.bl true, st)) (st : St4) : f_law_same (k + 1) [.tup xs, .tup xs] st = some (.bl true, st) := by
  let ρ : En := [some (.tup xs), some (.tup xs), none, none]
  have i : ∀ (T : String) (j : Nat), j < 2 → (uUn (dIsi T) (uVar j)) ρ st = (dIsi T (.tup xs)).map fun z => (z, st) := fun T j hj => by
    match j, hj with
    | 0, _ => rfl
    | 1, _ => rfl
  have is : dIsi "str" (.tup xs) = some (.bl false) := by simp [dIsi, tyD, kb4]
  have ii : dIsi "int" (.tup xs) = some (.bl false) := by simp [dIsi, tyD, kb5]
  have id_ : dIsi "dict" (.tup xs) = some (.bl false) := by simp [dIsi, tyD, kb6]
  have it : dIsi "tuple" (.tup xs) = some (.bl true) := by simp [dIsi, tyD, kb7]
  have il : dIsi "list" (.tup xs) = some (.bl false) := by simp [dIsi, tyD, kb8]
  have q := same_go (f := f_law_same k) (xs := xs) (ρ := ρ) rfl rfl rfl h st (rng 0 xs.length) (fun d hd => by
    obtain ⟨k, e, hk⟩ := mem_rng hd
    exact ⟨k, e, by omega⟩)
  refine Rt.fin (.go (ρ1 := ρ) (st1 := st) (uIfS_f (uRelT_eq (x := .tup xs) (y := .non) rfl rfl rfl) rfl) (.go (ρ1 := ρ) (st1 := st) (uIfS_f (uTst_eq (x := .bl false) ((i "str" 1 (by decide)).trans (by rw [is] <;> rfl)) rfl) rfl) (.go (ρ1 := ρ) (st1 := st) (uIfS_f (uTst_eq (x := .bl false) ((i "int" 1 (by decide)).trans (by rw [ii] <;> rfl)) rfl) rfl) (.go (ρ1 := ρ) (st1 := st) (uIfS_f (uTst_eq (x := .bl false) ((i "dict" 1 (by decide)).trans (by rw [id_] <;> rfl)) rfl) rfl) (.go (ρ1 := ρ) (st1 := st) (uIfS_f (s1 := st) ?_ rfl) (.ret ?_))))))
  · have t1 : (uTst dBool (uRel bNe (uUn (dIsi "tuple") (uVar 1)) (uUn (dIsi "tuple") (uVar 0)))) ρ st = some (false, st) := uRelT_eq (x := .bl true) (y := .bl true) ((i "tuple" 1 (by decide)).trans (by rw [it] <;> rfl)) ((i "tuple" 0 (by decide)).trans (by rw [it] <;> rfl)) rfl
    have t2 : (uTst dBool (uRel bNe (uUn (dIsi "list") (uVar 1)) (uUn (dIsi "list") (uVar 0)))) ρ st = some (false, st) := uRelT_eq (x := .bl false) (y := .bl false) ((i "list" 1 (by decide)).trans (by rw [il] <;> rfl)) ((i "list" 0 (by decide)).trans (by rw [il] <;> rfl)) rfl
    unfold uOr
    rw [t1, Option.bind_some]
    exact t2
  · have t1 : (uRel bEq (uUn dLen (uVar 0)) (uUn dLen (uVar 1))) ρ st = some (.bl true, st) := uOp_eq (x := .int xs.length) (y := .int xs.length) rfl rfl (by show (some (decide ((xs.length : Int) = xs.length))).map D.bl = _; rw [decide_eq_true rfl] <;> rfl)
    have t2 : (uUnL lAll (uLc [3] (uRng1 (uUn dLen (uVar 1))) (bName 3) tYesU (uCall (f_law_same k) [] (aCons (uOp dIx (uVar 0) (uVar 3)) (aCons (uOp dIx (uVar 1) (uVar 3)) aNil))))) ρ st = some (.bl true, st) := by
      refine uUnL_eq (uLc_eq (uRng1_eq (n := xs.length) rfl (by omega) (by omega)) (by rw [rng_len0]; omega) q) ?_
      unfold lAll
      rw [asB_rep]
      simp
    exact uAndV_t t1 t2
structure Sound (segs : List Sg) : Prop where
  ex : ∃ (ts : List Str) (ns : List Int), ts.Nodup ∧ ts.length ≤ 2 ∧ ts.length = ns.length ∧ (∀ n ∈ ns, 2 ≤ n ∧ n ≤ 400) ∧ ∀ s ∈ segs, SgB ts ns (4 * 10 ^ 29) s
  ne : segs ≠ []
  len : segs.length ≤ 4
  gaps : Gaps segs
  nm : ∀ s ∈ segs, ∀ c ∈ s.cycles, Nm c.1
theorem Row.sound {segs : List Sg} (h : Row segs) : Sound segs := by
  obtain ⟨ts, ns, a, b, c, d, e⟩ := h.ex
  exact ⟨⟨ts, ns, a, b, c, d, fun s hs => (e s hs).mono (by omega)⟩, h.ne, h.len, h.gaps, h.nm⟩
theorem Gaps.of : ∀ {l : List Sg}, (∀ (i : Nat) (a b : Sg), l[i]? = some a → l[i + 1]? = some b → a.tick < b.tick ∧ b.tick ≤ a.tick + 9) → Gaps l
  | [], _ => trivial
  | [_], _ => trivial
  | a :: b :: r, h => by
    have h0 := h 0 a b rfl rfl
    exact ⟨h0.1, h0.2, Gaps.of fun i x y hx hy => h (i + 1) x y hx hy⟩
theorem Gaps.set {l : List Sg} {k : Nat} {b b' : Sg} (h : Gaps l) (hb : l[k]? = some b) (e : b'.tick = b.tick) : Gaps (l.set k b') := by
  have t : ∀ (i : Nat) (x : Sg), (l.set k b')[i]? = some x → ∃ z, l[i]? = some z ∧ z.tick = x.tick := fun i x hx => by
    by_cases c : k = i
    · subst c
      rw [List.getElem?_set_self (List.getElem?_eq_some_iff.mp hb).1] at hx
      cases hx
      exact ⟨b, hb, e.symm⟩
    · rw [List.getElem?_set_ne c] at hx
      exact ⟨x, hx, rfl⟩
  exact Gaps.of fun i x y hx hy => by
    obtain ⟨x', hx', ex⟩ := t i x hx
    obtain ⟨y', hy', ey⟩ := t (i + 1) y hy
    have := h.next hx' hy'
    omega
theorem uAnd_t {a b : UT} {ρ : En} {st s1 : St4} {o : Option (Bool × St4)} (h : a ρ st = some (true, s1)) (h1 : b ρ s1 = o) : uAnd a b ρ st = o := by
  unfold uAnd
  rw [h, Option.bind_some]
  exact h1
theorem uAnd_f {a b : UT} {ρ : En} {st s1 : St4} (h : a ρ st = some (false, s1)) : uAnd a b ρ st = some (false, s1) := by
  unfold uAnd
  rw [h, Option.bind_some] <;> rfl
theorem uSetIx_eq {i : Nat} {uk u : UE} {ρ : En} {st s1 s2 : St4} {x : D} {k : Nat} {ds : List D} (h : u ρ st = some (x, s1)) (h2 : uk ρ s1 = some (.int k, s2)) (g : gv ρ i = some (.lst ds)) (hk : k < ds.length) : uSetIx i uk u ρ st = some (.nx, ρ.set i (some (.lst (ds.set k x))), s2) := by
  unfold uSetIx
  rw [h, Option.bind_some, h2, Option.bind_some, g]
  have e : ixN ds.length (k : Int) = some k := by
    unfold ixN
    rw [if_pos (by omega), if_pos (by omega), Int.toNat_natCast]
  show (ixN ds.length (k : Int)).map _ = _
  rw [e] <;> rfl
theorem lc_map {i : Nat} {e : UE} {ρ0 : En} {g : D → D} {st : St4} : ∀ ds : List D, (∀ d ∈ ds, e (ρ0.set i (some d)) st = some (g d, st)) → uLcGo (bName i) tYesU e ρ0 ds st = some (ds.map g, st)
  | [], _ => rfl
  | d :: ds, h => by
    have h1 := h d List.mem_cons_self
    have ih := lc_map ds fun x hx => h x (List.mem_cons_of_mem _ hx)
    show ((e (ρ0.set i (some d)) st).bind fun y => (uLcGo (bName i) tYesU e ρ0 ds y.2).map fun r => (y.1 :: r.1, r.2)) = _
    rw [h1, Option.bind_some]
    show (uLcGo (bName i) tYesU e ρ0 ds st).map _ = _
    rw [ih] <;> rfl
theorem pre_sum (s : Sg) : ∀ n : Nat, ((List.range n).map fun k : Nat => s.L k).sum = s.pre n
  | 0 => rfl
  | n + 1 => by
    rw [List.range_succ, List.map_append, List.sum_append, pre_sum s n]
    show s.pre n + (s.L n + 0) = s.pre n + s.L n
    rw [Int.add_zero]
theorem f_law_a_years_eq {s : Sg} (st : St4) : f_law_a_years [s.d] st = some (.int s.N, st) := by
  have g1 : uSet 1 (uOp dIx (uVar 0) (uC (.int 6))) [some s.d, none] st = some (.nx, [some s.d, some s.leap.d], st) := uSet_eq (uOp_eq (x := s.d) rfl rfl at6)
  unfold Sg.N
  refine Rt.fin (.go g1 (.ret ?_))
  cases s.leap with
  | never => simp [uSeq, uIfS, uTst, uRel, uOp, uUn, uVar, uC, gv, bI2, dBool, uRet, uNext, uSet, uSetL, uDrop, dI2, dAdd, uTgt, uPar, uCall, uCallL, uMeth, aNil, aCons, aConsL, aSrc, uTup, uLst, uOfL, uLOf, uLVar, uUnL, uUnN, uIxL, uAnd, uOr, uNot, uIf, uTru, uTruL, bTru, bName, bTup, bNames, uItems, dIx, bEq, bNe, dInt, uAndV, uOrV, uNotV, uRetL, uRetN, dFld, dLen, lLen, dList, dTup, dNeg, at0, at1, at2, at3, at4, at5, at6, at7, sEO, sEN, sON, sNE, sNO, sOE, Leap.d, Leap.round]
  | e1 a => simp [uSeq, uIfS, uTst, uRel, uOp, uUn, uVar, uC, gv, bI2, dBool, uRet, uNext, uSet, uSetL, uDrop, dI2, dAdd, uTgt, uPar, uCall, uCallL, uMeth, aNil, aCons, aConsL, aSrc, uTup, uLst, uOfL, uLOf, uLVar, uUnL, uUnN, uIxL, uAnd, uOr, uNot, uIf, uTru, uTruL, bTru, bName, bTup, bNames, uItems, dIx, bEq, bNe, dInt, uAndV, uOrV, uNotV, uRetL, uRetN, dFld, dLen, lLen, dList, dTup, dNeg, at0, at1, at2, at3, at4, at5, at6, at7, sEO, sEN, sON, sNE, sNO, sOE, Leap.d, Leap.round]; rfl
  | e2 a b => simp [uSeq, uIfS, uTst, uRel, uOp, uUn, uVar, uC, gv, bI2, dBool, uRet, uNext, uSet, uSetL, uDrop, dI2, dAdd, uTgt, uPar, uCall, uCallL, uMeth, aNil, aCons, aConsL, aSrc, uTup, uLst, uOfL, uLOf, uLVar, uUnL, uUnN, uIxL, uAnd, uOr, uNot, uIf, uTru, uTruL, bTru, bName, bTup, bNames, uItems, dIx, bEq, bNe, dInt, uAndV, uOrV, uNotV, uRetL, uRetN, dFld, dLen, lLen, dList, dTup, dNeg, at0, at1, at2, at3, at4, at5, at6, at7, sEO, sEN, sON, sNE, sNO, sOE, Leap.d, Leap.round]; rfl
  | e3 a b c => simp [uSeq, uIfS, uTst, uRel, uOp, uUn, uVar, uC, gv, bI2, dBool, uRet, uNext, uSet, uSetL, uDrop, dI2, dAdd, uTgt, uPar, uCall, uCallL, uMeth, aNil, aCons, aConsL, aSrc, uTup, uLst, uOfL, uLOf, uLVar, uUnL, uUnN, uIxL, uAnd, uOr, uNot, uIf, uTru, uTruL, bTru, bName, bTup, bNames, uItems, dIx, bEq, bNe, dInt, uAndV, uOrV, uNotV, uRetL, uRetN, dFld, dLen, lLen, dList, dTup, dNeg, at0, at1, at2, at3, at4, at5, at6, at7, sEO, sEN, sON, sNE, sNO, sOE, Leap.d, Leap.round]; rfl
  | of a rs => simp [uSeq, uIfS, uTst, uRel, uOp, uUn, uVar, uC, gv, bI2, dBool, uRet, uNext, uSet, uSetL, uDrop, dI2, dAdd, uTgt, uPar, uCall, uCallL, uMeth, aNil, aCons, aConsL, aSrc, uTup, uLst, uOfL, uLOf, uLVar, uUnL, uUnN, uIxL, uAnd, uOr, uNot, uIf, uTru, uTruL, bTru, bName, bTup, bNames, uItems, dIx, bEq, bNe, dInt, uAndV, uOrV, uNotV, uRetL, uRetN, dFld, dLen, lLen, dList, dTup, dNeg, at0, at1, at2, at3, at4, at5, at6, at7, sEO, sEN, sON, sNE, sNO, sOE, Leap.d, Leap.round]
theorem cutD_map (ns : List Int) (lo hi : Option Int) : ∃ ms : List Int, cutD (ns.map .int) lo hi = ms.map D.int := by
  unfold cutD
  exact ⟨_, by rw [← List.map_drop, ← List.map_take]⟩
theorem dI2_eq {f : Int → Int → Option Int} {i j k : Int} (h : f i j = some k) : dI2 f (.int i) (.int j) = some (.int k) := by
  show (f i j).map D.int = _
  rw [h] <;> rfl
def srB : US := (uSet 2 (uOp (dI2 iMod) (uOp dAdd (uOp dAdd (uOp (dI2 iMul) (uVar 2) (uC (.int 1000033))) (uUn dInt (uVar 3))) (uC (.int 10007))) (uC (.int 2305843009213693951))))
theorem sr_go {s a : Option D} (st : St4) : ∀ (cs : List Int) (f : Int) (c : Option D), ∃ (f' : Int) (c' : Option D), uForGo (bName 3) srB (cs.map .int) [s, a, some (.int f), c, none, none, none] st = some (.nx, [s, a, some (.int f'), c', none, none, none], st)
  | [], f, c => ⟨f, c, rfl⟩
  | x :: cs, f, c => by
    obtain ⟨f', c', r⟩ := sr_go (s := s) (a := a) st cs ((f * 1000033 + x + 10007) % 2305843009213693951) (some (.int x))
    refine ⟨f', c', uForGo_cons (ρ1 := [s, a, some (.int f), some (.int x), none, none, none]) rfl ?_ r⟩
    exact uSet_eq (uOp_eq (x := .int (f * 1000033 + x + 10007)) (y := .int 2305843009213693951) (uOp_eq (x := .int (f * 1000033 + x)) (y := .int 10007) (uOp_eq (x := .int (f * 1000033)) (y := .int x) (uOp_eq (x := .int f) (y := .int 1000033) rfl rfl (dI2_eq (iMul_eqR (by decide) (by decide)))) (uUn_eq (x := .int x) rfl rfl) rfl) rfl rfl) rfl (dI2_eq (iMod_eq (by decide))))
theorem pow64 : iPow 10 64 = some (10 ^ 64) := by decide +kernel
theorem pow18 : iPow 10 18 = some (10 ^ 18) := by decide +kernel
theorem gg1 : iMul (10 ^ 64) (10 ^ 64) = some (10 ^ 128) := by decide +kernel
theorem gg2 : iMul (10 ^ 128) (10 ^ 64) = some (10 ^ 192) := by decide +kernel
theorem gg3 : iMul (10 ^ 192) (10 ^ 64) = some (10 ^ 256) := by decide +kernel
theorem gg4 : iMul (10 ^ 256) (10 ^ 64) = some (10 ^ 320) := by decide +kernel
theorem f_law_source_ok (ns : List Int) (st : St4) : ∃ a b c d : Int, f_law_source [iL ns, .int 0] st = some (.lst [.int a, .int b, .int c, .int d], st) := by
  obtain ⟨ms, hm⟩ := cutD_map ns none (some 63)
  obtain ⟨f, c', r⟩ := sr_go (s := some (iL ns)) (a := some (.int 0)) st ms 0 none
  have g2 : (uFor (uItems (uOfL (uSlL (uLVar 0) none (some (uC (.int 63)))))) (bName 3) srB) [some (iL ns), some (.int 0), some (.int 0), none, none, none, none] st = some (.nx, [some (iL ns), some (.int 0), some (.int f), c', none, none, none], st) := by
    refine (uFor_eq (ds := ms.map .int) (uItems_lst (uOfL_eq ?_))).trans r
    show (some (cutD (ns.map .int) none (some 63), st) : Option (List D × St4)) = _
    rw [hm]
  obtain ⟨o, g3⟩ : ∃ o : Int, (uIf (uTst dBool (uRel (bI2 fun i j => decide (i < j)) (uVar 1) (uUnL lLen (uLVar 0)))) (uUn dInt (uIxL (uLVar 0) (uVar 1))) (uC (.int 0))) [some (iL ns), some (.int 0), some (.int f), c', none, none, none] st = some (.int o, st) := by
    have t : (uTst dBool (uRel (bI2 fun i j => decide (i < j)) (uVar 1) (uUnL lLen (uLVar 0)))) [some (iL ns), some (.int 0), some (.int f), c', none, none, none] st = some (decide ((0 : Int) < ((ns.map D.int).length : Int)), st) := uRelT_eq (x := .int 0) (y := .int ((ns.map D.int).length : Int)) rfl (uUnL_eq (ys := ns.map .int) rfl rfl) rfl
    cases ns with
    | nil => exact ⟨0, uIf_f t rfl⟩
    | cons n ns =>
      rw [decide_eq_true (by rw [List.map_cons, List.length_cons]; omega)] at t
      exact ⟨n, uIf_t t (uUn_eq (x := .int n) (uIxL_eq (xs := (n :: ns).map .int) (i := 0) rfl rfl at0) rfl)⟩
  have g5 : (uOp (dI2 iMod) (uVar 4) (uOp (dI2 iMul) (uOp (dI2 iMul) (uOp (dI2 iMul) (uOp (dI2 iMul) (uVar 5) (uVar 5)) (uVar 5)) (uVar 5)) (uVar 5))) [some (iL ns), some (.int 0), some (.int f), c', some (.int o), some (.int (10 ^ 64)), none] st = some (.int (o % 10 ^ 320), st) := by
    have v5 : (uVar 5) [some (iL ns), some (.int 0), some (.int f), c', some (.int o), some (.int (10 ^ 64)), none] st = some (.int (10 ^ 64), st) := rfl
    exact uOp_eq (x := .int o) (y := .int (10 ^ 320)) rfl (uOp_eq (uOp_eq (uOp_eq (uOp_eq v5 v5 (dI2_eq gg1)) v5 (dI2_eq gg2)) v5 (dI2_eq gg3)) v5 (dI2_eq gg4)) (dI2_eq (iMod_eq (by omega)))
  obtain ⟨l, g6⟩ : ∃ l : Int, (uIf (uTst dBool (uRel (bI2 fun i j => decide (j ≤ i)) (uVar 4) (uOp (dI2 iPow) (uC (.int 10)) (uC (.int 18))))) (uVar 4) (uC (.int 0))) [some (iL ns), some (.int 0), some (.int f), c', some (.int (o % 10 ^ 320)), some (.int (10 ^ 64)), none] st = some (.int l, st) := by
    have t : (uTst dBool (uRel (bI2 fun i j => decide (j ≤ i)) (uVar 4) (uOp (dI2 iPow) (uC (.int 10)) (uC (.int 18))))) [some (iL ns), some (.int 0), some (.int f), c', some (.int (o % 10 ^ 320)), some (.int (10 ^ 64)), none] st = some (decide (10 ^ 18 ≤ o % 10 ^ 320), st) := uRelT_eq (x := .int (o % 10 ^ 320)) (y := .int (10 ^ 18)) rfl (uOp_eq (x := .int 10) (y := .int 18) rfl rfl (dI2_eq pow18)) rfl
    by_cases c : 10 ^ 18 ≤ o % 10 ^ 320
    · rw [decide_eq_true c] at t
      exact ⟨_, uIf_t t rfl⟩
    · rw [decide_eq_false c] at t
      exact ⟨_, uIf_f t rfl⟩
  refine ⟨l, (f + 919 * 0 + 13) % 2147483647, (f / 2147483647 + 5081 * 0 + 5) % 2147483629, 0, Rt.fin (.go (ρ1 := [some (iL ns), some (.int 0), some (.int 0), none, none, none, none]) (st1 := st) rfl (.go g2 (.go (uSet_eq g3) (.go (ρ1 := [some (iL ns), some (.int 0), some (.int f), c', some (.int o), some (.int (10 ^ 64)), none]) (uSet_eq (uOp_eq (x := .int 10) (y := .int 64) rfl rfl (dI2_eq pow64))) (.go (uSet_eq g5) (.go (uSet_eq g6) (.retL (uLst_eq (aCons_eq rfl (aCons_eq (s1 := st) ?_ (aCons_eq (s1 := st) ?_ (aCons_eq rfl rfl)))) (by simp)))))))))⟩
  · exact uOp_eq (x := .int (f + 919 * 0 + 13)) (y := .int 2147483647) (uOp_eq (x := .int (f + 919 * 0)) (y := .int 13) (uOp_eq (x := .int f) (y := .int (919 * 0)) rfl (uOp_eq (x := .int 919) (y := .int 0) rfl rfl (dI2_eq (iMul_eqR (by decide) (by decide)))) rfl) rfl rfl) rfl (dI2_eq (iMod_eq (by decide)))
  · exact uOp_eq (x := .int (f / 2147483647 + 5081 * 0 + 5)) (y := .int 2147483629) (uOp_eq (x := .int (f / 2147483647 + 5081 * 0)) (y := .int 5) (uOp_eq (x := .int (f / 2147483647)) (y := .int (5081 * 0)) (uOp_eq (x := .int f) (y := .int 2147483647) rfl rfl (dI2_eq (iDiv_eq (by decide) (by decide)))) (uOp_eq (x := .int 5081) (y := .int 0) rfl rfl (dI2_eq (iMul_eqR (by decide) (by decide)))) rfl) rfl rfl) rfl (dI2_eq (iMod_eq (by decide)))
theorem lawSrc_ok (ns : List Int) : ∃ st0 : St4, lawSrc (some (iL ns) :: List.replicate (lms.length - 1) none) (0, 0, 0, 0) = some ([.int st0.1, .int st0.2.1, .int st0.2.2.1, .int st0.2.2.2], (0, 0, 0, 0)) := by
  obtain ⟨a, b, c, d, e⟩ := f_law_source_ok ns (0, 0, 0, 0)
  exact ⟨(a, b, c, d), uCallL_eq (aConsL_eq (ys := ns.map .int) rfl (aCons_eq rfl rfl)) e⟩
theorem uMake_eqD {c : Str} {f : List D → St4 → Option (List (Str × D) × St4)} {dv : List D} {ua : UA} {ρ : En} {st s1 s2 : St4} {ds : List D} {fs : List (Str × D)} (h : ua ρ st = some (ds, s1)) (h2 : f (ds ++ dv) s1 = some (fs, s2)) : uMake c f dv ua ρ st = some (.ins c fs, s2) := by
  unfold uMake
  rw [h, Option.bind_some, h2] <;> rfl
theorem uTruL_eq {a : UL} {ρ : En} {st s1 : St4} {ys : List D} (h : a ρ st = some (ys, s1)) : uTruL a ρ st = some (!ys.isEmpty, s1) := by
  unfold uTruL
  rw [h] <;> rfl
theorem at_neg1 {α : Type} {xs : List α} {x : α} (h : xs[xs.length - 1]? = some x) : atI xs (-1) = some x := by
  have hl := (List.getElem?_eq_some_iff.mp h).1
  unfold atI ixN
  rw [if_neg (by omega), if_pos (by omega), Option.bind_some, show ((-1 : Int) + (xs.length : Int)).toNat = xs.length - 1 by omega]
  exact h
def calD (segs : List Sg) : D := .ins "Calendar" [("own_segments", .lst (segs.map Sg.ins))]
/-- segments in a row, each of them sound -/
structure Rw (segs : List Sg) : Prop where
  ok : ∀ s ∈ segs, s.Ok ∧ s.V
  gaps : Gaps segs
  len : segs.length ≤ 100
theorem wh_t {t : UT} {b : US} {n : Nat} {ρ ρ1 : En} {st s1 s2 : St4} {r : Option (Fl × En × St4)} (h : t ρ st = some (true, s1)) (h1 : b ρ s1 = some (.nx, ρ1, s2)) (h2 : uWh t b n ρ1 s2 = r) : uWh t b (n + 1) ρ st = r := by
  show ((t ρ st).bind fun x => _) = r
  rw [h, Option.bind_some]
  show ((b ρ s1).bind fun r => _) = r
  rw [h1, Option.bind_some]
  exact h2
theorem wh_f {t : UT} {b : US} {n : Nat} {ρ : En} {st s1 : St4} (h : t ρ st = some (false, s1)) : uWh t b (n + 1) ρ st = some (.nx, ρ, s1) := by
  show ((t ρ st).bind fun x => _) = _
  rw [h, Option.bind_some] <;> rfl
end Fw
set_option Elab.async false
set_option linter.all false
set_option maxRecDepth 100000
set_option maxHeartbeats 4000000
namespace Fw
open PySem PySem.Spec L2
/-! ### names that go back -/
/-- a date is told by its day -/
theorem dn_inj {s : Sg} (h : s.Ok) {y m d y' m' d' : Int} (v : s.Vd y m d) (v' : s.Vd y' m' d') (e : s.dn y m d = s.dn y' m' d') : dt y m d = dt y' m' d' := by
  have e1 := f_Segment_date_of_eq h v (0, 0, 0, 0)
  have e2 := f_Segment_date_of_eq h v' (0, 0, 0, 0)
  rw [e, e2] at e1
  have := Option.some.inj e1
  exact (congrArg Prod.fst this).symm
/-- the date ahead of the next segment's start -/
structure Old (p s : Sg) (y m d : Int) : Prop where
  v : p.Vd y m d
  e : p.dn y m d = p.dn p.y p.m p.dd + (s.tick - 1 - p.tick + p.into) / p.width
theorem old_ex {p s : Sg} (h : p.Ok) (v : p.V) (t1 : p.tick < s.tick) (t2 : s.tick ≤ p.tick + 9) : ∃ y m d, Old p s y m d ∧ ∀ st, f_law_walk_days [p.d, .int ((s.tick - 1 - p.tick + p.into) / p.width)] st = some (dt y m d, st) := by
  have hw := h.w
  have hi := h.i
  have b0 : 0 ≤ (s.tick - 1 - p.tick + p.into) / p.width := Int.ediv_nonneg (by omega) (by omega)
  have b1 : (s.tick - 1 - p.tick + p.into) / p.width ≤ s.tick - 1 - p.tick + p.into := Int.ediv_le_self _ (by omega)
  obtain ⟨y, m, d, _, v1, e1, _⟩ := f_law_walk_days_ok h v (days := (s.tick - 1 - p.tick + p.into) / p.width) (by omega) (0, 0, 0, 0)
  refine ⟨y, m, d, ⟨v1, e1⟩, fun st => ?_⟩
  obtain ⟨y', m', d', q, v2, e2, _⟩ := f_law_walk_days_ok h v (days := (s.tick - 1 - p.tick + p.into) / p.width) (by omega) st
  rw [q, dn_inj h v2 v1 (e2.trans e1.symm)]
end Fw
set_option Elab.async false
set_option linter.all false
set_option maxRecDepth 100000
set_option maxHeartbeats 4000000
namespace Fw
open PySem PySem.Spec L2
def oldD (p s : Sg) : D := match f_law_walk_days [p.d, .int ((s.tick - 1 - p.tick + p.into) / p.width)] (0, 0, 0, 0) with
  | some (d, _) => d
  | none => .non
def goesB (p s : Sg) : Bool := (bLtT (dt s.y s.m s.dd) (oldD p s)).getD false
def trip (j : Nat) (p s : Sg) : D := .tup [.int j, oldD p s, dt s.y s.m s.dd]
def bk (segs : List Sg) (j : Nat) : List D := match segs[j - 1]?, segs[j]? with
  | some p, some s => if goesB p s = true then [trip j p s] else []
  | _, _ => []
theorem old_of {p s : Sg} (h : p.Ok) (v : p.V) (t1 : p.tick < s.tick) (t2 : s.tick ≤ p.tick + 9) : ∃ y m d, Old p s y m d ∧ oldD p s = dt y m d ∧ (∀ st, f_law_walk_days [p.d, .int ((s.tick - 1 - p.tick + p.into) / p.width)] st = some (oldD p s, st)) ∧ bLtT (dt s.y s.m s.dd) (oldD p s) = some (goesB p s) := by
  obtain ⟨y, m, d, o, w⟩ := old_ex (s := s) h v t1 t2
  have e : oldD p s = dt y m d := by
    unfold oldD
    rw [w]
  refine ⟨y, m, d, o, e, fun st => by rw [w, e], ?_⟩
  unfold goesB
  rw [e]
  rfl
def gbBody : US := (uSeq (uSet 2 (uOp dIx (uUn (dFld ("Calendar" : PySem.Str) ("own_segments" : PySem.Str)) (uVar 0)) (uVar 1)))
  (uSeq (uSet 3 (uCall f_name_at [] (aCons (uUn (dFld ("Calendar" : PySem.Str) ("own_segments" : PySem.Str)) (uVar 0)) (aCons (uC (.str ("day" : PySem.Str))) (aCons (uOp (dI2 fun i j => some (i - j)) (uUn (dFld ("Segment" : PySem.Str) ("tick" : PySem.Str)) (uVar 2)) (uC (.int 1))) aNil)))))
  (uIfS (uTst dBool (uRel bLtT (uUn (dFld ("Segment" : PySem.Str) ("date" : PySem.Str)) (uVar 2)) (uVar 3)))
  (uRet (uTup (aCons (uVar 1) (aCons (uVar 3) (aCons (uUn (dFld ("Segment" : PySem.Str) ("date" : PySem.Str)) (uVar 2)) aNil)))))
  uNext)))
theorem gb_turn {segs : List Sg} (R : Rw segs) {j : Nat} (h1 : 1 ≤ j) (hj : j < segs.length) (x y : Option D) (st : St4) : ∃ (x' y' : Option D), gbBody [some (calD segs), some (.int (j : Nat)), x, y] st = (match bk segs j with
    | [] => some (.nx, [some (calD segs), some (.int (j : Nat)), x', y'], st)
    | t :: _ => some (.rt t, [some (calD segs), some (.int (j : Nat)), x', y'], st)) := by
  obtain ⟨s, hs⟩ : ∃ s, segs[j]? = some s := ⟨_, List.getElem?_eq_getElem hj⟩
  obtain ⟨p, hp⟩ : ∃ p, segs[j - 1]? = some p := ⟨_, List.getElem?_eq_getElem (by omega)⟩
  have hp' := R.ok p (List.mem_of_getElem? hp)
  have tt := R.gaps.next hp (by rw [show j - 1 + 1 = j by omega]; exact hs)
  obtain ⟨yy, m, d, o, e, w, lt⟩ := old_of (s := s) hp'.1 hp'.2 tt.1 tt.2
  have nm := f_name_at_eq (t := s.tick - 1) hp hp'.1 R.len (fun i q _ hi hq => by
    by_cases c : i = j - 1
    · subst c
      rw [hp] at hq
      cases hq
      omega
    · have := R.gaps.get hq (j - 1 - i - 1) (b := p) (by rw [show i + 1 + (j - 1 - i - 1) = j - 1 by omega]; exact hp)
      omega) (fun i q hi hq => by
    by_cases c : i = j
    · subst c
      rw [hs] at hq
      cases hq
      omega
    · have := R.gaps.get hs (i - j - 1) (b := q) (by rw [show j + 1 + (i - j - 1) = i by omega]; exact hq)
      omega) o.v o.e st
  rw [← e] at nm
  have ej : dIx (.lst (segs.map Sg.ins)) (.int (j : Int)) = some s.ins := atK (by rw [List.getElem?_map, hs] <;> rfl)
  have own : ∀ (a b : Option D) (jj : Option D), (uUn (dFld ("Calendar" : PySem.Str) ("own_segments" : PySem.Str)) (uVar 0)) [some (calD segs), jj, a, b] st = some (.lst (segs.map Sg.ins), st) := fun a b jj => uUn_eq (x := calD segs) rfl rfl
  have bkj : bk segs j = if goesB p s = true then [trip j p s] else [] := by
    unfold bk
    rw [hp, hs]
  have t3 : (uTst dBool (uRel bLtT (uUn (dFld ("Segment" : PySem.Str) ("date" : PySem.Str)) (uVar 2)) (uVar 3))) [some (calD segs), some (.int (j : Nat)), some s.ins, some (oldD p s)] st = some (goesB p s, st) :=
    uRelT_eq (x := dt s.y s.m s.dd) (y := oldD p s) (uUn_eq (x := s.ins) rfl rfl) rfl lt
  refine ⟨some s.ins, some (oldD p s), ?_⟩
  refine uSeq_go (ρ1 := [some (calD segs), some (.int (j : Nat)), some s.ins, y]) (st1 := st) (uSet_eq (uOp_eq (own x y (some (.int (j : Nat)))) rfl ej)) (uSeq_go (ρ1 := [some (calD segs), some (.int (j : Nat)), some s.ins, some (oldD p s)]) (st1 := st) (uSet_eq (uCall_eq (aCons_eq (own (some s.ins) y (some (.int (j : Nat)))) (aCons_eq rfl (aCons_eq (uOp_eq (x := .int s.tick) (y := .int 1) (uUn_eq (x := s.ins) rfl rfl) rfl rfl) rfl))) nm)) ?_)
  rw [bkj]
  cases c : goesB p s with
  | true =>
    rw [c] at t3
    refine uIfS_t t3 ?_
    unfold uRet
    rw [uTup_eq (ys := [.int (j : Nat), oldD p s, dt s.y s.m s.dd]) (s1 := st) (aCons_eq rfl (aCons_eq rfl (aCons_eq (uUn_eq (x := s.ins) rfl rfl) rfl))) (by simp)] <;> rfl
  | false =>
    rw [c] at t3
    exact uIfS_f t3 rfl
end Fw
set_option Elab.async false
set_option linter.all false
set_option maxRecDepth 100000
set_option maxHeartbeats 4000000
namespace Fw
open PySem PySem.Spec L2
def bks (segs : List Sg) (a c : Nat) : List D := (List.range' a c).flatMap (bk segs)
theorem bk_len (segs : List Sg) (j : Nat) : bk segs j = [] ∨ ∃ t, bk segs j = [t] := by
  unfold bk
  split
  · split
    · exact .inr ⟨_, rfl⟩
    · exact .inl rfl
  · exact .inl rfl
theorem gb_go {segs : List Sg} (R : Rw segs) (st : St4) : ∀ (c a : Nat) (k x y : Option D), 1 ≤ a → a + c = segs.length → ∃ ρ', uForGo (bName 1) gbBody ((List.range' a c).map fun j => D.int (j : Nat)) [some (calD segs), k, x, y] st = (match bks segs a c with
    | [] => some (.nx, ρ', st)
    | t :: _ => some (.rt t, ρ', st)) ∧ ρ'[0]? = some (some (calD segs))
  | 0, a, k, x, y, _, _ => ⟨[some (calD segs), k, x, y], rfl, rfl⟩
  | c + 1, a, k, x, y, h1, hac => by
    obtain ⟨x', y', e⟩ := gb_turn R (j := a) h1 (by omega) x y st
    have eb : bks segs a (c + 1) = bk segs a ++ bks segs (a + 1) c := by
      unfold bks
      rw [List.range'_succ, List.flatMap_cons]
    rw [List.range'_succ, List.map_cons, eb]
    rcases bk_len segs a with q | ⟨t, q⟩
    · rw [q] at e
      obtain ⟨ρ', r, r0⟩ := gb_go R st c (a + 1) (some (.int (a : Nat))) x' y' (by omega) (by omega)
      refine ⟨ρ', ?_, r0⟩
      rw [q, List.nil_append, ← r]
      exact uForGo_cons (ρ1 := [some (calD segs), some (.int (a : Nat)), x, y]) rfl e rfl
    · rw [q] at e
      refine ⟨[some (calD segs), some (.int (a : Nat)), x', y'], ?_, rfl⟩
      rw [q]
      show ((bName 1 (D.int (a : Nat)) _).bind fun ρ1 => (gbBody ρ1 st).bind fun r => _) = _
      show ((some [some (calD segs), some (D.int (a : Nat)), x, y] : Option En).bind fun ρ1 => (gbBody ρ1 st).bind fun r => _) = _
      rw [Option.bind_some, e] <;> rfl
theorem rng12 {n : Nat} (h : 1 ≤ n) : rng 1 n = (List.range' 1 (n - 1)).map fun j => D.int (j : Nat) := by
  unfold rng
  rw [show ((n : Int) - 1).toNat = n - 1 by omega, List.range'_eq_map_range, List.map_map]
  congr 2
def goesD (segs : List Sg) : D := match bks segs 1 (segs.length - 1) with
  | [] => .non
  | t :: _ => t
theorem f_Calendar_goes_back_eq {segs : List Sg} (R : Rw segs) (h : 1 ≤ segs.length) (st : St4) : f_Calendar_goes_back [calD segs] st = some (goesD segs, st) := by
  obtain ⟨ρ', r, _⟩ := gb_go R st (segs.length - 1) 1 none none none (Nat.le_refl _) (by omega)
  have hl := R.len
  have it : uRng2 (uC (.int 1)) (uUn dLen (uUn (dFld ("Calendar" : PySem.Str) ("own_segments" : PySem.Str)) (uVar 0))) [some (calD segs), none, none, none] st = some ((List.range' 1 (segs.length - 1)).map fun j => D.int (j : Nat), st) := by
    refine (uRng2_eq (n := 1) (m := segs.length) rfl (uUn_eq (x := .lst (segs.map Sg.ins)) (uUn_eq (x := calD segs) rfl rfl) (by simp [dLen])) (by decide) (by decide) (by omega) (by omega)).trans ?_
    rw [rng12 h]
  unfold goesD
  cases q : bks segs 1 (segs.length - 1) with
  | nil =>
    rw [q] at r
    exact Rt.fin (.go ((uFor_eq it).trans r) (.ret rfl))
  | cons t ts =>
    rw [q] at r
    exact Rt.fin (.now ⟨ρ', (uFor_eq it).trans r⟩)
end Fw
set_option Elab.async false
set_option linter.all false
set_option maxRecDepth 100000
set_option maxHeartbeats 4000000
namespace Fw
open PySem PySem.Spec L2
/-! ### the law's own list -/
def lwEn (at_ : D) (segs : List Sg) (k kd old dte : Option D) (back : List D) (j told days sg many cy y : Option D) : En := [none, some .src, some at_, some (.lst (segs.map Sg.d)), k, kd, old, dte, some (.lst back), j, told, days, sg, many, cy, y]
def lbBody : US := (uSeq (uSet 7 (uCall f_law_walk_days [] (aCons (uIxL (uLVar 3) (uOp (dI2 fun i j => some (i - j)) (uVar 9) (uC (.int 1)))) (aCons (uCall f_law_a_days [] (aCons (uIxL (uLVar 3) (uOp (dI2 fun i j => some (i - j)) (uVar 9) (uC (.int 1)))) (aCons (uOp (dI2 fun i j => some (i - j)) (uOp dIx (uIxL (uLVar 3) (uVar 9)) (uC (.int 0))) (uC (.int 1))) aNil))) aNil))))
  (uIfS (uTst dBool (uRel bLtT (uOp dIx (uIxL (uLVar 3) (uVar 9)) (uC (.int 3))) (uVar 7)))
  (uApp 8 (uTup (aCons (uVar 9) (aCons (uVar 7) (aCons (uUn dTup (uOp dIx (uIxL (uLVar 3) (uVar 9)) (uC (.int 3)))) aNil)))))
  uNext))
section
variable {at_ : D} {segs : List Sg} {k kd old told days sg many cy y : Option D}
theorem lb_turn (R : Rw segs) {j : Nat} (h1 : 1 ≤ j) (hj : j < segs.length) (dte : Option D) (back : List D) (hb : back.length < 1000) (st : St4) : ∃ dte', lbBody (lwEn at_ segs k kd old dte back (some (.int (j : Nat))) told days sg many cy y) st = some (.nx, lwEn at_ segs k kd old dte' (back ++ bk segs j) (some (.int (j : Nat))) told days sg many cy y, st) := by
  obtain ⟨s, hs⟩ : ∃ s, segs[j]? = some s := ⟨_, List.getElem?_eq_getElem hj⟩
  obtain ⟨p, hp⟩ : ∃ p, segs[j - 1]? = some p := ⟨_, List.getElem?_eq_getElem (by omega)⟩
  have hp' := R.ok p (List.mem_of_getElem? hp)
  have tt := R.gaps.next hp (by rw [show j - 1 + 1 = j by omega]; exact hs)
  obtain ⟨yy, m, d, o, e, w, lt⟩ := old_of (s := s) hp'.1 hp'.2 tt.1 tt.2
  have ad := f_law_a_days_eq hp'.1 (s.tick - 1) st
  have aj : atI (segs.map Sg.d) (j : Int) = some s.d := atK (by rw [List.getElem?_map, hs] <;> rfl)
  have ap : atI (segs.map Sg.d) ((j : Int) - 1) = some p.d := by
    rw [show (j : Int) - 1 = ((j - 1 : Nat) : Int) by omega]
    exact atK (by rw [List.getElem?_map, hp] <;> rfl)
  have xp : ∀ dd : Option D, uIxL (uLVar 3) (uOp (dI2 fun i j => some (i - j)) (uVar 9) (uC (.int 1))) (lwEn at_ segs k kd old dd back (some (.int (j : Nat))) told days sg many cy y) st = some (p.d, st) := fun dd => uIxL_eq (xs := segs.map Sg.d) (i := (j : Int) - 1) rfl rfl ap
  have xj : ∀ dd : Option D, uIxL (uLVar 3) (uVar 9) (lwEn at_ segs k kd old dd back (some (.int (j : Nat))) told days sg many cy y) st = some (s.d, st) := fun dd => uIxL_eq (xs := segs.map Sg.d) (i := (j : Int)) rfl rfl aj
  have bkj : bk segs j = if goesB p s = true then [trip j p s] else [] := by
    unfold bk
    rw [hp, hs]
  have t3 : (uTst dBool (uRel bLtT (uOp dIx (uIxL (uLVar 3) (uVar 9)) (uC (.int 3))) (uVar 7))) (lwEn at_ segs k kd old (some (oldD p s)) back (some (.int (j : Nat))) told days sg many cy y) st = some (goesB p s, st) :=
    uRelT_eq (x := dt s.y s.m s.dd) (y := oldD p s) (uOp_eq (xj _) rfl at3) rfl lt
  refine ⟨some (oldD p s), uSeq_go (ρ1 := lwEn at_ segs k kd old (some (oldD p s)) back (some (.int (j : Nat))) told days sg many cy y) (st1 := st) (uSet_eq (uCall_eq (aCons_eq (xp _) (aCons_eq (uCall_eq (aCons_eq (xp _) (aCons_eq (uOp_eq (x := .int s.tick) (y := .int 1) (uOp_eq (xj _) rfl at0) rfl rfl) rfl)) ad) rfl)) (w st))) ?_⟩
  rw [bkj]
  cases c : goesB p s with
  | true =>
    rw [c] at t3
    exact uIfS_t t3 (uApp_eq (x := trip j p s) (ys := back) (uTup_eq (aCons_eq rfl (aCons_eq rfl (aCons_eq (uUn_eq (x := dt s.y s.m s.dd) (uOp_eq (xj _) rfl at3) rfl) rfl))) (by simp)) rfl (by omega))
  | false =>
    rw [c] at t3
    refine uIfS_f t3 ?_
    rw [if_neg (by decide), List.append_nil] <;> rfl
theorem bk_le (segs : List Sg) (j : Nat) : (bk segs j).length ≤ 1 := by
  rcases bk_len segs j with h | ⟨t, h⟩ <;> rw [h] <;> simp
theorem lb_go (R : Rw segs) (st : St4) : ∀ (c a : Nat) (dte j : Option D) (back : List D), 1 ≤ a → a + c = segs.length → back.length + c < 900 → ∃ dte' j', uForGo (bName 9) lbBody ((List.range' a c).map fun j => D.int (j : Nat)) (lwEn at_ segs k kd old dte back j told days sg many cy y) st = some (.nx, lwEn at_ segs k kd old dte' (back ++ bks segs a c) j' told days sg many cy y, st)
  | 0, a, dte, j, back, _, _, _ => ⟨dte, j, by unfold bks; simp [uForGo]⟩
  | c + 1, a, dte, j, back, h1, hac, hb => by
    obtain ⟨dte1, e⟩ := lb_turn (at_ := at_) (k := k) (kd := kd) (old := old) (told := told) (days := days) (sg := sg) (many := many) (cy := cy) (y := y) R (j := a) h1 (by omega) dte back (by omega) st
    have b1 := bk_le segs a
    obtain ⟨dte', j', r⟩ := lb_go R st c (a + 1) dte1 (some (.int (a : Nat))) (back ++ bk segs a) (by omega) (by omega) (by simp; omega)
    refine ⟨dte', j', ?_⟩
    have eb : back ++ bks segs a (c + 1) = (back ++ bk segs a) ++ bks segs (a + 1) c := by
      unfold bks
      rw [List.range'_succ, List.flatMap_cons, List.append_assoc]
    rw [eb, List.range'_succ, List.map_cons]
    exact uForGo_cons (ρ1 := lwEn at_ segs k kd old dte back (some (.int (a : Nat))) told days sg many cy y) rfl e r
end
end Fw
set_option Elab.async false
set_option linter.all false
set_option maxRecDepth 100000
set_option maxHeartbeats 4000000
namespace Fw
open PySem PySem.Spec L2
/-! ### _law_same -/
theorem same_trip (j : Nat) {p s : Sg} {y m d : Int} (h : oldD p s = dt y m d) (st : St4) : f_law_same 4 [trip j p s, trip j p s] st = some (.bl true, st) := by
  have hd : ∀ (a b c : Int) (st : St4), f_law_same 3 [dt a b c, dt a b c] st = some (.bl true, st) := fun a b c st => same_tup 2 (xs := [.int a, .int b, .int c]) (by simp) (fun x hx st => by
    have : x = .int a ∨ x = .int b ∨ x = .int c := by simpa using hx
    rcases this with rfl | rfl | rfl <;> exact same_int 1 _ st) st
  unfold trip
  rw [h]
  refine same_tup 3 (xs := [.int j, dt y m d, dt s.y s.m s.dd]) (by simp) (fun x hx st => ?_) st
  have : x = .int j ∨ x = dt y m d ∨ x = dt s.y s.m s.dd := by simpa using hx
  rcases this with rfl | rfl | rfl
  · exact same_int 2 _ st
  · exact hd _ _ _ st
  · exact hd _ _ _ st
end Fw
set_option Elab.async false
set_option linter.all false
set_option maxRecDepth 100000
set_option maxHeartbeats 400000
namespace Fw
open PySem PySem.Spec L2
/-! ### the changed segment -/
def lwR (at_ : D) (segs : List Sg) (k kd old dte back j told days sg many cy y : Option D) : En := [none, some .src, some at_, some (.lst (segs.map Sg.d)), k, kd, old, dte, back, j, told, days, sg, many, cy, y]
def chgS : US := (uIfS (uAnd (uTst dBool (uRel (bI2 fun i j => decide (j < i)) (uVar 4) (uC (.int 0)))) (uTst dBool (uRel (bI2 fun i j => decide (i < j)) (uVar 5) (uC (.int 2)))))
  (uSeq (uSet 6 (uIxL (uLVar 3) (uOp (dI2 fun i j => some (i - j)) (uVar 4) (uC (.int 1)))))
  (uSeq (uSet 7 (uCall f_law_walk_days [] (aCons (uVar 6) (aCons (uOp (dI2 fun i j => some (i - j)) (uCall f_law_a_days [] (aCons (uVar 6) (aCons (uOp (dI2 fun i j => some (i - j)) (uOp dIx (uIxL (uLVar 3) (uVar 4)) (uC (.int 0))) (uC (.int 1))) aNil))) (uVar 5)) aNil))))
  (uSetIx 3 (uVar 4) (uOp dAdd (uOp dAdd (uTup (aCons (uOp dIx (uIxL (uLVar 3) (uVar 4)) (uC (.int 0))) (aCons (uOp dIx (uVar 6) (uC (.int 1))) (aCons (uIf (uTst dBool (uRel (bI2 fun i j => decide (i < j)) (uOp dIx (uIxL (uLVar 3) (uVar 4)) (uC (.int 2))) (uOp dIx (uVar 6) (uC (.int 1))))) (uOp dIx (uIxL (uLVar 3) (uVar 4)) (uC (.int 2))) (uC (.int 0))) (aCons (uVar 7) aNil))))) (uSl (uVar 6) (some (uC (.int 4))) (some (uC (.int 7))))) (uSl (uIxL (uLVar 3) (uVar 4)) (some (uC (.int 7))) none)))))
  uNext)
def chg (p s : Sg) (y m d : Int) : Sg := ⟨s.tick, p.width, if s.into < p.width then s.into else 0, y, m, d, p.common, p.longer, p.leap, s.cycles⟩
theorem chg_ok {segs : List Sg} (R : Row segs) {at_ : D} {k : Nat} (hk : k < segs.length) {q : Int} (q0 : 0 ≤ q) (old dte back j told days sg many cy y : Option D) (st : St4) : ∃ (segs' : List Sg) (old' dte' : Option D), chgS (lwR at_ segs (some (.int k)) (some (.int q)) old dte back j told days sg many cy y) st = some (.nx, lwR at_ segs' (some (.int k)) (some (.int q)) old' dte' back j told days sg many cy y, st) ∧ Sound segs' := by
  have t1 : (uTst dBool (uRel (bI2 fun i j => decide (j < i)) (uVar 4) (uC (.int 0)))) (lwR at_ segs (some (.int k)) (some (.int q)) old dte back j told days sg many cy y) st = some (decide (0 < (k : Int)), st) := uRelT_eq (x := .int k) (y := .int 0) rfl rfl rfl
  have t2 : (uTst dBool (uRel (bI2 fun i j => decide (i < j)) (uVar 5) (uC (.int 2)))) (lwR at_ segs (some (.int k)) (some (.int q)) old dte back j told days sg many cy y) st = some (decide (q < 2), st) := uRelT_eq (x := .int q) (y := .int 2) rfl rfl rfl
  by_cases c1 : 0 < k
  · rw [decide_eq_true (by omega)] at t1
    by_cases c2 : q < 2
    · rw [decide_eq_true c2] at t2
      obtain ⟨s, hs⟩ : ∃ s, segs[k]? = some s := ⟨_, List.getElem?_eq_getElem hk⟩
      obtain ⟨p, hp⟩ : ∃ p, segs[k - 1]? = some p := ⟨_, List.getElem?_eq_getElem (by omega)⟩
      obtain ⟨ts, ns, nd, l2, ll, nb, B⟩ := R.ex
      have bp := B p (List.mem_of_getElem? hp)
      have bs := B s (List.mem_of_getElem? hs)
      have tt := R.gaps.next hp (by rw [show k - 1 + 1 = k by omega]; exact hs)
      have hw := bp.ok.w
      have hi := bp.ok.i
      have ad := f_law_a_days_eq bp.ok (s.tick - 1) st
      let dd : Int := (s.tick - 1 - p.tick + p.into) / p.width
      have b0 : 0 ≤ dd := Int.ediv_nonneg (by omega) (by omega)
      have b1 : dd ≤ s.tick - 1 - p.tick + p.into := Int.ediv_le_self _ (by omega)
      obtain ⟨yy, m, d, wk, v, _, y1, y2⟩ := f_law_walk_days_ok bp.ok bp.v (days := dd - q) (by omega) st
      have aj : atI (segs.map Sg.d) (k : Int) = some s.d := atK (by rw [List.getElem?_map, hs] <;> rfl)
      have ap : atI (segs.map Sg.d) ((k : Int) - 1) = some p.d := by
        rw [show (k : Int) - 1 = ((k - 1 : Nat) : Int) by omega]
        exact atK (by rw [List.getElem?_map, hp] <;> rfl)
      have xj : ∀ o dd : Option D, uIxL (uLVar 3) (uVar 4) (lwR at_ segs (some (.int k)) (some (.int q)) o dd back j told days sg many cy y) st = some (s.d, st) := fun o dd => uIxL_eq (xs := segs.map Sg.d) (i := (k : Int)) rfl rfl aj
      have g1 : uSet 6 (uIxL (uLVar 3) (uOp (dI2 fun i j => some (i - j)) (uVar 4) (uC (.int 1)))) (lwR at_ segs (some (.int k)) (some (.int q)) old dte back j told days sg many cy y) st = some (.nx, lwR at_ segs (some (.int k)) (some (.int q)) (some p.d) dte back j told days sg many cy y, st) :=
        uSet_eq (uIxL_eq (xs := segs.map Sg.d) (i := (k : Int) - 1) rfl rfl ap)
      have g2 : uSet 7 (uCall f_law_walk_days [] (aCons (uVar 6) (aCons (uOp (dI2 fun i j => some (i - j)) (uCall f_law_a_days [] (aCons (uVar 6) (aCons (uOp (dI2 fun i j => some (i - j)) (uOp dIx (uIxL (uLVar 3) (uVar 4)) (uC (.int 0))) (uC (.int 1))) aNil))) (uVar 5)) aNil))) (lwR at_ segs (some (.int k)) (some (.int q)) (some p.d) dte back j told days sg many cy y) st = some (.nx, lwR at_ segs (some (.int k)) (some (.int q)) (some p.d) (some (dt yy m d)) back j told days sg many cy y, st) :=
        uSet_eq (uCall_eq (aCons_eq rfl (aCons_eq (uOp_eq (x := .int dd) (y := .int q) (uCall_eq (aCons_eq rfl (aCons_eq (uOp_eq (x := .int s.tick) (y := .int 1) (uOp_eq (xj _ _) rfl at0) rfl rfl) rfl)) ad) rfl rfl) rfl)) wk)
      have wid : (uOp dIx (uVar 6) (uC (.int 1))) (lwR at_ segs (some (.int k)) (some (.int q)) (some p.d) (some (dt yy m d)) back j told days sg many cy y) st = some (.int p.width, st) := uOp_eq (x := p.d) rfl rfl at1
      have int2 : (uOp dIx (uIxL (uLVar 3) (uVar 4)) (uC (.int 2))) (lwR at_ segs (some (.int k)) (some (.int q)) (some p.d) (some (dt yy m d)) back j told days sg many cy y) st = some (.int s.into, st) := uOp_eq (xj _ _) rfl at2
      have g3a : (uIf (uTst dBool (uRel (bI2 fun i j => decide (i < j)) (uOp dIx (uIxL (uLVar 3) (uVar 4)) (uC (.int 2))) (uOp dIx (uVar 6) (uC (.int 1))))) (uOp dIx (uIxL (uLVar 3) (uVar 4)) (uC (.int 2))) (uC (.int 0))) (lwR at_ segs (some (.int k)) (some (.int q)) (some p.d) (some (dt yy m d)) back j told days sg many cy y) st = some (.int (if s.into < p.width then s.into else 0), st) := by
        have t : (uTst dBool (uRel (bI2 fun i j => decide (i < j)) (uOp dIx (uIxL (uLVar 3) (uVar 4)) (uC (.int 2))) (uOp dIx (uVar 6) (uC (.int 1))))) (lwR at_ segs (some (.int k)) (some (.int q)) (some p.d) (some (dt yy m d)) back j told days sg many cy y) st = some (decide (s.into < p.width), st) := uRelT_eq (x := .int s.into) (y := .int p.width) int2 wid rfl
        by_cases c : s.into < p.width
        · rw [decide_eq_true c] at t
          rw [if_pos c]
          exact uIf_t t int2
        · rw [decide_eq_false c] at t
          rw [if_neg c]
          exact uIf_f t rfl
      have g3 : (uOp dAdd (uOp dAdd (uTup (aCons (uOp dIx (uIxL (uLVar 3) (uVar 4)) (uC (.int 0))) (aCons (uOp dIx (uVar 6) (uC (.int 1))) (aCons (uIf (uTst dBool (uRel (bI2 fun i j => decide (i < j)) (uOp dIx (uIxL (uLVar 3) (uVar 4)) (uC (.int 2))) (uOp dIx (uVar 6) (uC (.int 1))))) (uOp dIx (uIxL (uLVar 3) (uVar 4)) (uC (.int 2))) (uC (.int 0))) (aCons (uVar 7) aNil))))) (uSl (uVar 6) (some (uC (.int 4))) (some (uC (.int 7))))) (uSl (uIxL (uLVar 3) (uVar 4)) (some (uC (.int 7))) none)) (lwR at_ segs (some (.int k)) (some (.int q)) (some p.d) (some (dt yy m d)) back j told days sg many cy y) st = some ((chg p s yy m d).d, st) :=
        uOp_eq (x := .tup [.int s.tick, .int p.width, .int (if s.into < p.width then s.into else 0), dt yy m d, iL p.common, iL p.longer, p.leap.d]) (y := .tup [.lst (s.cycles.map cycD)]) (s1 := st) (uOp_eq (x := .tup [.int s.tick, .int p.width, .int (if s.into < p.width then s.into else 0), dt yy m d]) (y := .tup [iL p.common, iL p.longer, p.leap.d]) (s1 := st) (uTup_eq (aCons_eq (uOp_eq (xj _ _) rfl at0) (aCons_eq wid (aCons_eq g3a (aCons_eq rfl rfl)))) (by simp)) (uSl_eq (x := p.d) rfl (uPart_eq rfl) (uPart_eq rfl) rfl) rfl) (uSl_eq (x := s.d) (xj _ _) (uPart_eq rfl) rfl rfl) rfl
      refine ⟨segs.set k (chg p s yy m d), some p.d, some (dt yy m d), ?_, ?_⟩
      · refine uIfS_t (uAnd_t t1 t2) (uSeq_go g1 (uSeq_go g2 ((uSetIx_eq (k := k) g3 rfl rfl (by rw [List.length_map]; exact hk)).trans ?_)))
        rw [← List.map_set] <;> rfl
      · refine ⟨⟨ts, ns, nd, l2, ll, nb, fun z hz => ?_⟩, ?_, ?_, R.gaps.set hs rfl, fun z hz => (List.mem_or_eq_of_mem_set hz).elim (R.nm z) fun e => by rw [e]; exact R.nm s (List.mem_of_getElem? hs)⟩
        · rcases List.mem_or_eq_of_mem_set hz with hz | rfl
          · exact (B z hz).mono (by omega)
          · have q1 := bp.y1
            have q2 := bp.y2
            have q3 := bs.t1
            have q4 := bs.t2
            have is := bs.ok.i
            refine ⟨⟨bp.ok.w, ?_, bp.ok.c, bp.ok.l, bp.ok.leap⟩, ⟨v.m1, v.m2, v.d1, v.d2⟩, bs.cyc, ?_, ?_, ?_, ?_⟩
            · show 0 ≤ (if s.into < p.width then s.into else 0) ∧ (if s.into < p.width then s.into else 0) < p.width
              split <;> omega
            · show -(4 * 10 ^ 29) ≤ yy
              omega
            · show yy ≤ 4 * 10 ^ 29
              omega
            · show -(4 * 10 ^ 29) ≤ s.tick
              omega
            · show s.tick ≤ 4 * 10 ^ 29
              omega
        · intro e
          have := congrArg List.length e
          rw [List.length_set] at this
          have hk0 : segs.length = 0 := this
          omega
        · rw [List.length_set]
          exact R.len
    · rw [decide_eq_false c2] at t2
      exact ⟨segs, old, dte, uIfS_f ((uAnd_t t1 t2)) rfl, R.sound⟩
  · rw [decide_eq_false (by omega)] at t1
    exact ⟨segs, old, dte, uIfS_f (uAnd_f t1) rfl, R.sound⟩
end Fw
set_option Elab.async false
set_option linter.all false
set_option maxRecDepth 100000
set_option maxHeartbeats 400000
namespace Fw
open PySem PySem.Spec L2
/-! ### Euclid's turns -/
theorem half_mod {a b m : Nat} (hb : 0 < b) (h : b < 2 ^ (m + 1)) (hr : 0 < a % b) : b % (a % b) < 2 ^ m := by
  have h1 : a % b < b := Nat.mod_lt _ hb
  have h2 : b % (a % b) < a % b := Nat.mod_lt _ hr
  have h3 : b % (a % b) ≤ b - a % b := by
    have e : b % (a % b) = (b - a % b) % (a % b) := Nat.mod_eq_sub_mod (by omega)
    rw [e]
    exact Nat.mod_le _ _
  rw [Nat.pow_succ] at h
  omega
theorem gcd_step (a b : Nat) : Nat.gcd b (a % b) = Nat.gcd a b := by
  rw [Nat.gcd_comm b (a % b), ← Nat.gcd_rec, Nat.gcd_comm]
def cdT : UT := (uTst dBool (uRel (bI2 fun i j => decide (j < i)) (uVar 1) (uC (.int 0))))
def cdB : US := (uPar [0, 1] (aCons (uVar 1) (aCons (uOp (dI2 iMod) (uVar 0) (uVar 1)) aNil)))
def cdE (a b : Nat) : En := [some (.int (a : Nat)), some (.int (b : Nat))]
theorem nat_mod (a b : Nat) (h : 0 < b) : iMod (a : Int) (b : Int) = some ((a % b : Nat) : Int) := by
  rw [iMod_eq (by omega)] <;> rfl
theorem cdT_eq (a b : Nat) (st : St4) : cdT (cdE a b) st = some (decide ((0 : Int) < (b : Int)), st) := uRelT_eq (x := .int (b : Nat)) (y := .int 0) rfl rfl rfl
theorem cdB_eq (a b : Nat) (h : 0 < b) (st : St4) : cdB (cdE a b) st = some (.nx, cdE b (a % b), st) :=
  uPar_eq (aCons_eq rfl (aCons_eq (uOp_eq (x := .int (a : Nat)) (y := .int (b : Nat)) rfl rfl (by show (iMod (a : Int) (b : Int)).map D.int = _; rw [nat_mod a b h] <;> rfl)) rfl)) rfl
theorem cd_end (a f : Nat) (st : St4) : uWh cdT cdB (f + 1) (cdE a 0) st = some (.nx, cdE a 0, st) := wh_f ((cdT_eq a 0 st).trans (by rw [decide_eq_false (by omega)]))
theorem cd_go (st : St4) : ∀ (m a b f : Nat), b < 2 ^ m → uWh cdT cdB (f + 2 * m + 1) (cdE a b) st = some (.nx, cdE (Nat.gcd a b) 0, st)
  | 0, a, b, f, h => by
    have : b = 0 := by omega
    subst this
    rw [Nat.gcd_zero_right]
    exact cd_end a _ st
  | m + 1, a, b, f, h => by
    by_cases c : b = 0
    · subst c
      rw [Nat.gcd_zero_right]
      exact cd_end a _ st
    · have t1 := cdT_eq a b st
      rw [decide_eq_true (by omega)] at t1
      refine wh_t t1 (cdB_eq a b (by omega) st) ?_
      rw [← gcd_step a b]
      by_cases c2 : a % b = 0
      · rw [c2, Nat.gcd_zero_right]
        exact cd_end b _ st
      · have t2 := cdT_eq b (a % b) st
        rw [decide_eq_true (by omega)] at t2
        refine wh_t t2 (cdB_eq b (a % b) (by omega) st) ?_
        rw [← gcd_step b (a % b)]
        exact cd_go st m (a % b) (b % (a % b)) f (half_mod (by omega) h (by omega))
theorem cd_fuel {a b m : Nat} (n : Nat) (h : b < 2 ^ m) (hn : 2 * m + 1 ≤ n) (st : St4) : uWh cdT cdB n (cdE a b) st = some (.nx, cdE (Nat.gcd a b) 0, st) := by
  obtain ⟨f, rfl⟩ : ∃ f, n = f + 2 * m + 1 := ⟨n - (2 * m + 1), by omega⟩
  exact cd_go st m a b f h
theorem cd_text : u_common_divisor = uSeq (uWh cdT cdB 5000) (uRet (uVar 0)) := rfl
theorem f_common_divisor_eq {a b : Nat} (h : b < 2 ^ 64) (st : St4) : f_common_divisor [.int (a : Nat), .int (b : Nat)] st = some (.int (Nat.gcd a b : Nat), st) := by
  unfold f_common_divisor
  rw [cd_text]
  exact Rt.fin (.go (ρ1 := cdE (Nat.gcd a b) 0) (cd_fuel (m := 64) 5000 h (by decide) st) (.ret rfl))
/-- the program's multiple, and the law's -/
def lc (a b : Nat) : Nat := a / Nat.gcd a b * b
theorem lc_pos {a b : Nat} (ha : 0 < a) (hb : 0 < b) : 0 < lc a b := by
  have g := Nat.gcd_pos_of_pos_left b ha
  have : 0 < a / Nat.gcd a b := Nat.div_pos (Nat.le_of_dvd ha (Nat.gcd_dvd_left a b)) g
  exact Nat.mul_pos this hb
theorem lc_le (a b : Nat) : lc a b ≤ a * b := Nat.mul_le_mul_right b (Nat.div_le_self _ _)
theorem lc_one (b : Nat) : lc 1 b = b := by
  unfold lc
  rw [Nat.gcd_one_left, Nat.div_one, Nat.one_mul]
theorem lc_div {a b : Nat} (ha : 0 < a) (hb : 0 < b) (h : b < 2 ^ 64) : iDiv (a : Int) (Nat.gcd a b : Nat) = some ((a / Nat.gcd a b : Nat) : Int) := by
  have g := Nat.gcd_pos_of_pos_left b ha
  have g2 := Nat.gcd_le_right a hb
  rw [iDiv_eq (by omega) (by omega)] <;> rfl
theorem lc_mul {a b : Nat} (h : b < 2 ^ 64) : iMul ((a / Nat.gcd a b : Nat) : Int) (b : Int) = some ((lc a b : Nat) : Int) := by
  rw [iMul_eqR (by omega) (by omega)]
  unfold lc
  rw [Int.natCast_mul]
theorem f_least_multiple_eq {a b : Nat} (ha : 0 < a) (hb : 0 < b) (h : b < 2 ^ 64) (st : St4) : f_least_multiple [.int (a : Nat), .int (b : Nat)] st = some (.int (lc a b : Nat), st) :=
  Rt.fin (.ret (uOp_eq (x := .int (a / Nat.gcd a b : Nat)) (y := .int (b : Nat)) (uOp_eq (x := .int (a : Nat)) (y := .int (Nat.gcd a b : Nat)) rfl (uCall_eq (aCons_eq rfl (aCons_eq rfl rfl)) (f_common_divisor_eq h st)) (by show (iDiv (a : Int) (Nat.gcd a b : Nat)).map D.int = _; rw [lc_div ha hb h] <;> rfl)) rfl (by show (iMul ((a / Nat.gcd a b : Nat) : Int) (b : Int)).map D.int = _; rw [lc_mul h] <;> rfl)))
def llB : US := (uIfS (uTst dBool (uRel (bI2 fun i j => decide (j < i)) (uVar 3) (uC (.int 0))))
  (uPar [2, 3] (aCons (uVar 3) (aCons (uOp (dI2 iMod) (uUn dInt (uVar 2)) (uVar 3)) aNil)))
  uNext)
def llE (o1 o2 : Option D) (a b : Nat) (k : Option D) : En := [o1, o2, some (.int (a : Nat)), some (.int (b : Nat)), k]
theorem ll_stay {o1 o2 : Option D} (a : Nat) (k : Option D) (st : St4) : llB (llE o1 o2 a 0 k) st = some (.nx, llE o1 o2 a 0 k, st) :=
  uIfS_f (uRelT_eq (x := .int (0 : Nat)) (y := .int 0) rfl rfl rfl) rfl
theorem ll_turn {o1 o2 : Option D} (a b : Nat) (h : 0 < b) (k : Option D) (st : St4) : llB (llE o1 o2 a b k) st = some (.nx, llE o1 o2 b (a % b) k, st) :=
  uIfS_t (uRelT_eq (x := .int (b : Nat)) (y := .int 0) rfl rfl (by show some (decide ((0 : Int) < (b : Int))) = _; rw [decide_eq_true (by omega)])) (uPar_eq (aCons_eq rfl (aCons_eq (uOp_eq (x := .int (a : Nat)) (y := .int (b : Nat)) (uUn_eq (x := .int (a : Nat)) rfl rfl) rfl (by show (iMod (a : Int) (b : Int)).map D.int = _; rw [nat_mod a b h] <;> rfl)) rfl)) rfl)
theorem ll_end {o1 o2 : Option D} (a : Nat) (st : St4) : ∀ (ds : List D) (k : Option D), ∃ k', uForGo (bName 4) llB ds (llE o1 o2 a 0 k) st = some (.nx, llE o1 o2 a 0 k', st)
  | [], k => ⟨k, rfl⟩
  | d :: ds, k => by
    obtain ⟨k', r⟩ := ll_end a st ds (some d)
    exact ⟨k', uForGo_cons (ρ1 := llE o1 o2 a 0 (some d)) rfl (ll_stay a _ st) r⟩
theorem ll_go {o1 o2 : Option D} (st : St4) : ∀ (m a b : Nat) (ds : List D) (k : Option D), b < 2 ^ m → 2 * m ≤ ds.length → ∃ k', uForGo (bName 4) llB ds (llE o1 o2 a b k) st = some (.nx, llE o1 o2 (Nat.gcd a b) 0 k', st)
  | 0, a, b, ds, k, h, _ => by
    have : b = 0 := by omega
    subst this
    rw [Nat.gcd_zero_right]
    exact ll_end a st ds k
  | m + 1, a, b, ds, k, h, hl => by
    by_cases c : b = 0
    · subst c
      rw [Nat.gcd_zero_right]
      exact ll_end a st ds k
    · match ds, hl with
      | d1 :: d2 :: ds, hl =>
        rw [← gcd_step a b]
        have e1 := ll_turn (o1 := o1) (o2 := o2) a b (by omega) (some d1) st
        by_cases c2 : a % b = 0
        · rw [c2, Nat.gcd_zero_right]
          rw [c2] at e1
          obtain ⟨k', r⟩ := ll_end (o1 := o1) (o2 := o2) b st (d2 :: ds) (some d1)
          exact ⟨k', uForGo_cons (ρ1 := llE o1 o2 a b (some d1)) rfl e1 r⟩
        · rw [← gcd_step b (a % b)]
          have e2 := ll_turn (o1 := o1) (o2 := o2) b (a % b) (by omega) (some d2) st
          obtain ⟨k', r⟩ := ll_go (o1 := o1) (o2 := o2) st m (a % b) (b % (a % b)) ds (some d2) (half_mod (by omega) h (by omega)) (by rw [List.length_cons, List.length_cons] at hl; omega)
          exact ⟨k', uForGo_cons (ρ1 := llE o1 o2 a b (some d1)) rfl e1 (uForGo_cons (ρ1 := llE o1 o2 b (a % b) (some d2)) rfl e2 r)⟩
      | [_], hl => simp at hl; omega
      | [], hl => simp at hl
theorem f_law_lcm_eq {a b : Nat} (ha : 0 < a) (hb : 0 < b) (h : b < 2 ^ 64) (st : St4) : f_law_lcm [.int (a : Nat), .int (b : Nat)] st = some (.int (lc a b : Nat), st) := by
  obtain ⟨k', r⟩ := ll_go (o1 := some (.int (a : Nat))) (o2 := some (.int (b : Nat))) st 64 a b (rng 0 400) none h (by rw [rng_len0]; decide)
  exact Rt.fin (.go (ρ1 := llE (some (.int (a : Nat))) (some (.int (b : Nat))) a b none) (uPar_eq (aCons_eq rfl (aCons_eq rfl rfl)) rfl) (.go (ρ1 := llE (some (.int (a : Nat))) (some (.int (b : Nat))) (Nat.gcd a b) 0 k') ((uFor_eq (uRng1_eq (n := 400) rfl (by decide) (by decide))).trans r) (.ret (uOp_eq (x := .int (a / Nat.gcd a b : Nat)) (y := .int (b : Nat)) (uOp_eq (x := .int (a : Nat)) (y := .int (Nat.gcd a b : Nat)) rfl rfl (by show (iDiv (a : Int) (Nat.gcd a b : Nat)).map D.int = _; rw [lc_div ha hb h] <;> rfl)) rfl (by show (iMul ((a / Nat.gcd a b : Nat) : Int) (b : Int)).map D.int = _; rw [lc_mul h] <;> rfl)))))
end Fw
set_option Elab.async false
set_option linter.all false
set_option maxRecDepth 100000
set_option maxHeartbeats 400000
namespace Fw
open PySem PySem.Spec L2
/-! ### rounds -/
def cyN (c : Str × Int × Int) : Nat := c.2.1.toNat
def manyN (n : Nat) (cs : List (Str × Int × Int)) : Nat := cs.foldl (fun m c => lc m (cyN c)) n
theorem cyN_ok {cs : List (Str × Int × Int)} (h : CyOk cs) {c : Str × Int × Int} (hc : c ∈ cs) : c.2.1 = (cyN c : Int) ∧ 0 < cyN c ∧ cyN c ≤ 400 := by
  have := h c hc
  unfold cyN
  omega
theorem CyOk.tl {c : Str × Int × Int} {cs : List (Str × Int × Int)} (h : CyOk (c :: cs)) : CyOk cs := fun d hd => h d (List.mem_cons_of_mem _ hd)
theorem manyN_ok : ∀ {cs : List (Str × Int × Int)} {n : Nat}, CyOk cs → 0 < n → 0 < manyN n cs ∧ manyN n cs ≤ n * 400 ^ cs.length
  | [], n, _, hn => ⟨hn, by show n ≤ n * 400 ^ 0; omega⟩
  | c :: cs, n, h, hn => by
    have k := cyN_ok h List.mem_cons_self
    have p := lc_pos hn k.2.1
    have ih := manyN_ok (cs := cs) (n := lc n (cyN c)) h.tl p
    refine ⟨ih.1, Nat.le_trans ih.2 ?_⟩
    have b1 : lc n (cyN c) ≤ n * 400 := Nat.le_trans (lc_le n (cyN c)) (Nat.mul_le_mul_left n k.2.2)
    have b2 := Nat.mul_le_mul_right (400 ^ cs.length) b1
    rw [List.length_cons, Nat.pow_succ, Nat.mul_comm (400 ^ cs.length) 400, ← Nat.mul_assoc]
    exact b2
def rlB2 : US := (uSet 3 (uCall f_least_multiple [] (aCons (uVar 3) (aCons (uOp dIx (uVar 4) (uC (.int 1))) aNil))))
theorem rl_cyc {o0 o1 o2 : Option D} (st : St4) : ∀ (cs : List (Str × Int × Int)) (n : Nat) (k : Option D), CyOk cs → 0 < n → ∃ k', uForGo (bName 4) rlB2 (cs.map cycD) [o0, o1, o2, some (.int (n : Nat)), k] st = some (.nx, [o0, o1, o2, some (.int (manyN n cs : Nat)), k'], st)
  | [], n, k, _, _ => ⟨k, rfl⟩
  | c :: cs, n, k, h, hn => by
    have q := cyN_ok h List.mem_cons_self
    obtain ⟨k', r⟩ := rl_cyc (o0 := o0) (o1 := o1) (o2 := o2) st cs (lc n (cyN c)) (some (cycD c)) h.tl (lc_pos hn q.2.1)
    exact ⟨k', uForGo_cons (ρ1 := [o0, o1, o2, some (.int (n : Nat)), some (cycD c)]) rfl (uSet_eq (uCall_eq (aCons_eq rfl (aCons_eq (x := .int (cyN c : Nat)) (uOp_eq (x := cycD c) rfl rfl (by show atI [D.str c.1, .int c.2.1, .int c.2.2] 1 = _; rw [at1, q.1])) rfl)) (f_least_multiple_eq hn q.2.1 (by omega) st))) r⟩
def lwZ (at_ segs k kd old dte back j told : Option D) (days : List D) (sg many cy y : Option D) : En := [none, some .src, at_, segs, k, kd, old, dte, back, j, told, some (.lst days), sg, many, cy, y]
def dyB2 : US := (uSet 13 (uCall f_law_lcm [] (aCons (uVar 13) (aCons (uOp dIx (uVar 14) (uC (.int 1))) aNil))))
section
variable {at_ segs k kd old dte back j told : Option D} {days : List D} {sg y : Option D}
theorem dy_cyc (st : St4) : ∀ (cs : List (Str × Int × Int)) (n : Nat) (cy : Option D), CyOk cs → 0 < n → ∃ cy', uForGo (bName 14) dyB2 (cs.map cycD) (lwZ at_ segs k kd old dte back j told days sg (some (.int (n : Nat))) cy y) st = some (.nx, lwZ at_ segs k kd old dte back j told days sg (some (.int (manyN n cs : Nat))) cy' y, st)
  | [], n, k, _, _ => ⟨k, rfl⟩
  | c :: cs, n, cy, h, hn => by
    have q := cyN_ok h List.mem_cons_self
    obtain ⟨k', r⟩ := dy_cyc st cs (lc n (cyN c)) (some (cycD c)) h.tl (lc_pos hn q.2.1)
    exact ⟨k', uForGo_cons (ρ1 := lwZ at_ segs k kd old dte back j told days sg (some (.int (n : Nat))) (some (cycD c)) y) rfl (uSet_eq (uCall_eq (aCons_eq rfl (aCons_eq (x := .int (cyN c : Nat)) (uOp_eq (x := cycD c) rfl rfl (by show atI [D.str c.1, .int c.2.1, .int c.2.2] 1 = _; rw [at1, q.1])) rfl)) (f_law_lcm_eq hn q.2.1 (by omega) st))) r⟩
end
/-- a segment's round in days, then in ticks -/
def Sg.tN (s : Sg) : Nat := s.T.toNat
def Sg.rd (s : Sg) : Nat := manyN s.tN s.cycles * s.width.toNat
structure RdOk (s : Sg) : Prop where
  ok : s.Ok
  cy : CyOk s.cycles
  cl : s.cycles.length ≤ 2
theorem RdOk.t {s : Sg} (h : RdOk s) : s.T = (s.tN : Int) ∧ 0 < s.tN ∧ s.tN ≤ 576000 := by
  have := Sg.T_bd h.ok
  unfold Sg.tN
  omega
theorem RdOk.many {s : Sg} (h : RdOk s) : 0 < manyN s.tN s.cycles ∧ manyN s.tN s.cycles ≤ 576000 * 160000 := by
  have t := h.t
  have m := manyN_ok h.cy t.2.1
  refine ⟨m.1, Nat.le_trans m.2 (Nat.mul_le_mul t.2.2 (Nat.le_trans (Nat.pow_le_pow_right (by decide) h.cl) (by decide)))⟩
theorem RdOk.rd {s : Sg} (h : RdOk s) : 0 < s.rd ∧ s.rd ≤ 576000 * 160000 * 60 := by
  have m := h.many
  have w := h.ok.w
  exact ⟨Nat.mul_pos m.1 (by omega), Nat.mul_le_mul m.2 (by omega)⟩
theorem RdOk.mul {s : Sg} (h : RdOk s) : iMul (manyN s.tN s.cycles : Nat) s.width = some ((s.rd : Nat) : Int) := by
  have w := h.ok.w
  rw [iMul_eqR (by omega) (by omega)]
  unfold Sg.rd
  rw [Int.natCast_mul, Int.toNat_of_nonneg (by omega)]
def dyB : US := (uSeq (uSet 13 (uUnL lSum (uLc [15] (uRng1 (uCall f_law_a_years [] (aCons (uVar 12) aNil))) (bName 15) tYesU (uUnL lSum (uLOf (uCall f_law_months [] (aCons (uVar 12) (aCons (uVar 15) aNil))))))))
  (uSeq (uFor (uItems (uOp dIx (uVar 12) (uC (.int 7)))) (bName 14)
  dyB2)
  (uApp 11 (uOp (dI2 iMul) (uVar 13) (uOp dIx (uVar 12) (uC (.int 1)))))))
theorem dy_turn {at_ segs k kd old dte back j told : Option D} {days : List D} {y : Option D} {s : Sg} (h : RdOk s) (hd : days.length < 10) (many cy : Option D) (st : St4) : ∃ many' cy', dyB (lwZ at_ segs k kd old dte back j told days (some s.d) many cy y) st = some (.nx, lwZ at_ segs k kd old dte back j told (days ++ [.int (s.rd : Nat)]) (some s.d) many' cy' y, st) := by
  have hN := Sg.N_pos h.ok
  have t := h.t
  let ρ := lwZ at_ segs k kd old dte back j told days (some s.d) many cy none
  have q : uLcGo (bName 15) tYesU (uUnL lSum (uLOf (uCall f_law_months [] (aCons (uVar 12) (aCons (uVar 15) aNil))))) ρ ((List.range s.N.toNat).map fun i : Nat => D.int (0 + (i : Int))) st = some (((List.range s.N.toNat).map fun i : Nat => s.L i).map D.int, st) := by
    refine (lc_map (g := fun d => match d with | .int i => .int (s.L i) | _ => .non) _ fun d hd => ?_).trans ?_
    · obtain ⟨i, _, rfl⟩ := List.mem_map.mp hd
      have fm := f_law_months_eq h.ok (0 + (i : Int)) st
      exact uUnL_eq (ys := (s.mon (0 + (i : Int))).map D.int) (uLOf_eq (uCall_eq (aCons_eq (x := s.d) rfl (aCons_eq rfl rfl)) fm)) (by unfold lSum; rw [asI_iL] <;> rfl)
    · rw [List.map_map, List.map_map]
      congr 2
      refine List.map_congr_left fun i _ => ?_
      show D.int (s.L (0 + (i : Int))) = D.int (s.L i)
      rw [Int.zero_add]
  have g1 : uSet 13 (uUnL lSum (uLc [15] (uRng1 (uCall f_law_a_years [] (aCons (uVar 12) aNil))) (bName 15) tYesU (uUnL lSum (uLOf (uCall f_law_months [] (aCons (uVar 12) (aCons (uVar 15) aNil))))))) (lwZ at_ segs k kd old dte back j told days (some s.d) many cy y) st = some (.nx, lwZ at_ segs k kd old dte back j told days (some s.d) (some (.int (s.tN : Nat))) cy y, st) := by
    refine uSet_eq (x := .int (s.tN : Nat)) (uUnL_eq (uLc_eq (ds := rng 0 s.N) (uRng1_eq (n := s.N) (uCall_eq (aCons_eq (x := s.d) rfl rfl) (f_law_a_years_eq st)) (by omega) (by omega)) (by rw [rng_len0]; omega) (Eq.trans ?_ q)) ?_)
    · unfold rng
      rw [Int.sub_zero] <;> rfl
    · unfold lSum
      rw [asI_iL]
      show some (D.int ((List.range s.N.toNat).map fun i : Nat => s.L i).sum) = _
      rw [pre_sum]
      show some (D.int s.T) = _
      rw [t.1]
  obtain ⟨cy', r⟩ := dy_cyc (at_ := at_) (segs := segs) (k := k) (kd := kd) (old := old) (dte := dte) (back := back) (j := j) (told := told) (days := days) (sg := some s.d) (y := y) st s.cycles s.tN cy h.cy t.2.1
  refine ⟨some (.int (manyN s.tN s.cycles : Nat)), cy', uSeq_go g1 (uSeq_go ((uFor_eq (uItems_lst (uOp_eq (x := s.d) rfl rfl at7))).trans r) (uApp_eq (ys := days) (uOp_eq (x := .int (manyN s.tN s.cycles : Nat)) (y := .int s.width) rfl (uOp_eq (x := s.d) rfl rfl at1) (by show (iMul _ s.width).map D.int = _; rw [h.mul] <;> rfl)) rfl (by omega)))⟩
def rlB : US := (uSeq (uSet 3 (uUn (dFld ("Segment" : PySem.Str) ("days" : PySem.Str)) (uVar 2)))
  (uSeq (uFor (uItems (uUn (dFld ("Segment" : PySem.Str) ("cycles" : PySem.Str)) (uVar 2))) (bName 4)
  rlB2)
  (uSet 1 (uCall f_least_multiple [] (aCons (uVar 1) (aCons (uOp (dI2 iMul) (uVar 3) (uUn (dFld ("Segment" : PySem.Str) ("width" : PySem.Str)) (uVar 2))) aNil))))))
theorem rl_turn {o0 : Option D} {s : Sg} (h : RdOk s) {n : Nat} (hn : 0 < n) (dy cy : Option D) (st : St4) : ∃ dy' cy', rlB [o0, some (.int (n : Nat)), some s.ins, dy, cy] st = some (.nx, [o0, some (.int (lc n s.rd : Nat)), some s.ins, dy', cy'], st) := by
  have t := h.t
  have rd := h.rd
  obtain ⟨cy', r⟩ := rl_cyc (o0 := o0) (o1 := some (.int (n : Nat))) (o2 := some s.ins) st s.cycles s.tN cy h.cy t.2.1
  have g1 : uSet 3 (uUn (dFld ("Segment" : PySem.Str) ("days" : PySem.Str)) (uVar 2)) [o0, some (.int (n : Nat)), some s.ins, dy, cy] st = some (.nx, [o0, some (.int (n : Nat)), some s.ins, some (.int (s.tN : Nat)), cy], st) := by
    rw [← t.1]
    exact uSet_eq (uUn_eq (x := s.ins) rfl rfl)
  refine ⟨some (.int (manyN s.tN s.cycles : Nat)), cy', uSeq_go g1 (uSeq_go ((uFor_eq (uItems_lst (uUn_eq (x := s.ins) rfl rfl))).trans r) (uSet_eq (uCall_eq (aCons_eq rfl (aCons_eq (uOp_eq (x := .int (manyN s.tN s.cycles : Nat)) (y := .int s.width) rfl (uUn_eq (x := s.ins) rfl rfl) (by show (iMul _ s.width).map D.int = _; rw [h.mul] <;> rfl)) rfl)) (f_least_multiple_eq hn rd.1 (by omega) st))))⟩
theorem f_round_length_eq {segs : List Sg} {a b : Sg} (h0 : segs[0]? = some a) (h1 : segs[segs.length - 1]? = some b) (ha : RdOk a) (hb : RdOk b) (st : St4) : f_Calendar_round_length [calD segs] st = some (.int (lc a.rd b.rd : Nat), st) := by
  have hl : 0 < segs.length := (List.getElem?_eq_some_iff.mp h0).1
  have own : ∀ (a b c d : Option D), (uUn (dFld ("Calendar" : PySem.Str) ("own_segments" : PySem.Str)) (uVar 0)) [some (calD segs), a, b, c, d] st = some (.lst (segs.map Sg.ins), st) := fun a b c d => uUn_eq (x := calD segs) rfl rfl
  have e0 : dIx (.lst (segs.map Sg.ins)) (.int 0) = some a.ins := atK (k := 0) (by rw [List.getElem?_map, h0] <;> rfl)
  have e1 : dIx (.lst (segs.map Sg.ins)) (.int ((segs.length : Int) - 1)) = some b.ins := by
    rw [show (segs.length : Int) - 1 = ((segs.length - 1 : Nat) : Int) by omega]
    exact atK (by rw [List.getElem?_map, h1] <;> rfl)
  have ra := ha.rd
  obtain ⟨d1, c1, r1⟩ := rl_turn (o0 := some (calD segs)) ha (n := 1) (by decide) none none st
  rw [lc_one] at r1
  obtain ⟨d2, c2, r2⟩ := rl_turn (o0 := some (calD segs)) hb (n := a.rd) ra.1 d1 c1 st
  refine Rt.fin (.go (ρ1 := [some (calD segs), some (.int (1 : Nat)), none, none, none]) (st1 := st) rfl (.go (ρ1 := [some (calD segs), some (.int (lc a.rd b.rd : Nat)), some b.ins, d2, c2]) (st1 := st) ((uFor_eq (ds := [a.ins, b.ins]) (uItems_tup (uTup_eq (aCons_eq (uOp_eq (own _ _ _ _) rfl e0) (aCons_eq (uOp_eq (y := .int ((segs.length : Int) - 1)) (own _ _ _ _) (uOp_eq (x := .int (segs.length : Nat)) (y := .int 1) (uUn_eq (x := .lst (segs.map Sg.ins)) (own _ _ _ _) (by simp [dLen])) rfl rfl) e1) rfl)) (by simp)))).trans ?_) (.ret rfl)))
  exact uForGo_cons (ρ1 := [some (calD segs), some (.int (1 : Nat)), some a.ins, none, none]) rfl r1 (uForGo_cons (ρ1 := [some (calD segs), some (.int (a.rd : Nat)), some b.ins, d1, c1]) rfl r2 rfl)
end Fw
set_option Elab.async false
set_option linter.all false
set_option maxRecDepth 100000
set_option maxHeartbeats 400000
namespace Fw
open PySem PySem.Spec L2
/-! ### the law's turn -/
theorem SgB.good {ts : List Str} {ns : List Int} {s : Sg} (nd : ts.Nodup) (hl : ts.length ≤ 2) (nb : ∀ n ∈ ns, 2 ≤ n ∧ n ≤ 400) (h : SgB ts ns (4 * 10 ^ 29) s) : Good s ∧ prs s.cycles = ts.zip ns ∧ RdOk s := by
  have y1 := h.y1
  have y2 := h.y2
  have t1 := h.t1
  have t2 := h.t2
  have c := h.cyc.len
  exact ⟨⟨h.ok, h.v, ⟨⟨by omega, by omega⟩, ⟨by omega, by omega⟩⟩, h.cyc.ok nb, by omega, by rw [h.cyc.names]; exact nd⟩, h.cyc.prs, ⟨h.ok, h.cyc.ok nb, by omega⟩⟩
theorem bks_mem {segs : List Sg} {a c : Nat} {t : D} (h : t ∈ bks segs a c) : ∃ (j : Nat) (p s : Sg), a ≤ j ∧ segs[j - 1]? = some p ∧ segs[j]? = some s ∧ t = trip j p s := by
  unfold bks at h
  obtain ⟨j, hj, ht⟩ := List.mem_flatMap.mp h
  have hr := List.mem_range'.mp hj
  obtain ⟨i, _, rfl⟩ := hr
  unfold bk at ht
  split at ht
  · next p s hp hs =>
    split at ht
    · have : t = trip (a + 1 * i) p s := List.mem_singleton.mp ht
      exact ⟨a + 1 * i, p, s, by omega, hp, hs, this⟩
    · cases ht
  · cases ht
theorem goes_same {segs : List Sg} (R : Rw segs) (st : St4) : f_law_same 4 [goesD segs, goesD segs] st = some (.bl true, st) := by
  unfold goesD
  cases q : bks segs 1 (segs.length - 1) with
  | nil => exact same_non 3 st
  | cons t ts =>
    obtain ⟨j, p, s, hj, hp, hs, e⟩ := bks_mem (segs := segs) (a := 1) (c := segs.length - 1) (t := t) (by rw [q]; exact List.mem_cons_self)
    have hp' := R.ok p (List.mem_of_getElem? hp)
    have tt := R.gaps.next hp (by rw [show j - 1 + 1 = j by omega]; exact hs)
    obtain ⟨y, m, d, _, eo, _⟩ := old_of (s := s) hp'.1 hp'.2 tt.1 tt.2
    show f_law_same 4 [t, t] st = _
    rw [e]
    exact same_trip j eo st
def lawB1 : US := (uSetL 3 (uCallL f_law_a_segs [] (aSrc 1 (aCons (uC (.int 4)) (aCons (uRel bEq (uVar 2) (uC (.int 2))) aNil)))))
def lawB2 : US := (uPar [4, 5] (aCons (uCall f_law_pick [] (aSrc 1 (aCons (uUnL lLen (uLVar 3)) aNil))) (aCons (uCall f_law_pick [] (aSrc 1 (aCons (uC (.int 4)) aNil))) aNil)))
def lawB5 : US := (uFor (uRng2 (uC (.int 1)) (uUnL lLen (uLVar 3))) (bName 9) lbBody)
def lawB6 : US := (uSet 10 (uMake ("Calendar" : PySem.Str) f_Calendar___init__ [.str ("" : PySem.Str)] (aCons (uCall f_law_a_rows [] (aConsL (uLVar 3) aNil)) aNil)))
def lawB7 : US := (uIfS (uNot (uTru (uCall (f_law_same 4) [] (aCons (uMeth ("Calendar" : PySem.Str) ("goes_back" : PySem.Str) f_Calendar_goes_back (uVar 10) aNil) (aCons (uIf (uTruL (uLVar 8)) (uIxL (uLVar 8) (uC (.int 0))) (uC .non)) aNil)))))
  (uRet (uC (.bl false)))
  uNext)
def lawB9 : US := (uFor (uItems (uTup (aCons (uIxL (uLVar 3) (uC (.int 0))) (aCons (uIxL (uLVar 3) (uUn dNeg (uC (.int 1)))) aNil)))) (bName 12) dyB)
def lawB10 : US := (uIfS (uNot (uTru (uCall (f_law_same 4) [] (aCons (uMeth ("Calendar" : PySem.Str) ("round_length" : PySem.Str) f_Calendar_round_length (uVar 10) aNil) (aCons (uCall f_law_lcm [] (aCons (uIxL (uLVar 11) (uC (.int 0))) (aCons (uIxL (uLVar 11) (uC (.int 1))) aNil))) aNil)))))
  (uRet (uC (.bl false)))
  uNext)
def lawB : US := (uSeq lawB1 (uSeq lawB2 (uSeq chgS (uSeq (uSetL 8 (uLst aNil)) (uSeq lawB5 (uSeq lawB6 (uSeq lawB7 (uSeq (uSetL 11 (uLst aNil)) (uSeq lawB9 lawB10)))))))))
theorem law_rest_eq : u_law_rest = uSeq (uFor (uRng1 (uC (.int 3))) (bName 2) lawB) (uRet (uC (.bl true))) := rfl
structure LwOk (ρ : En) : Prop where
  ex : ∃ x2 x3 x4 x5 x6 x7 x8 x9 x10 x11 x12 x13 x14 x15 : Option D, ρ = [none, some .src, x2, x3, x4, x5, x6, x7, x8, x9, x10, x11, x12, x13, x14, x15]
def hdD : List D → D
  | [] => .non
  | t :: _ => t
theorem goesD_hd (segs : List Sg) : goesD segs = hdD (bks segs 1 (segs.length - 1)) := by
  unfold goesD
  cases bks segs 1 (segs.length - 1) <;> rfl
theorem due_eq (bs : List D) {ρ : En} (st : St4) (h : gv ρ 8 = some (.lst bs)) : (uIf (uTruL (uLVar 8)) (uIxL (uLVar 8) (uC (.int 0))) (uC .non)) ρ st = some (hdD bs, st) := by
  have v : uLVar 8 ρ st = some (bs, st) := by
    unfold uLVar
    rw [h]
  have t := uTruL_eq v
  cases bs with
  | nil => exact uIf_f t rfl
  | cons b bs => exact uIf_t t (uIxL_eq v rfl at0)
theorem lw_part2 {segs : List Sg} (S : Sound segs) {at_ : D} {k kd old dte x8 j told days sg many cy y : Option D} (st : St4) : ∃ ρ', LwOk ρ' ∧ (uSeq (uSetL 8 (uLst aNil)) (uSeq lawB5 (uSeq lawB6 (uSeq lawB7 (uSeq (uSetL 11 (uLst aNil)) (uSeq lawB9 lawB10)))))) (lwR at_ segs k kd old dte x8 j told days sg many cy y) st = some (.nx, ρ', st) := by
  obtain ⟨ts, ns, nd, l2, ll, nb, B⟩ := S.ex
  have hl4 := S.len
  have hl : 1 ≤ segs.length := List.length_pos_iff.mpr S.ne
  have R : Rw segs := ⟨fun s hs => ⟨(B s hs).ok, (B s hs).v⟩, S.gaps, by omega⟩
  obtain ⟨a, ha⟩ : ∃ a, segs[0]? = some a := ⟨_, List.getElem?_eq_getElem (by omega)⟩
  obtain ⟨b, hb⟩ : ∃ b, segs[segs.length - 1]? = some b := ⟨_, List.getElem?_eq_getElem (by omega)⟩
  have ga := (B a (List.mem_of_getElem? ha)).good nd l2 nb
  have gb := (B b (List.mem_of_getElem? hb)).good nd l2 nb
  have G : ∀ s ∈ segs, Good s ∧ prs s.cycles = prs a.cycles := fun s hs => by
    have g := (B s hs).good nd l2 nb
    exact ⟨g.1, g.2.1.trans ga.2.1.symm⟩
  have ht : ∀ (j : Nat) (p s : Sg), segs[j]? = some p → segs[j + 1]? = some s → p.tick < s.tick := fun j p s hp hs => (S.gaps.next hp hs).1
  have e1 : (uSetL 8 (uLst aNil)) (lwR at_ segs k kd old dte x8 j told days sg many cy y) st = some (.nx, lwEn at_ segs k kd old dte [] j told days sg many cy y, st) := uSetL_eq (uLst_eq rfl (by simp))
  obtain ⟨dte1, j1, r⟩ := lb_go (at_ := at_) (k := k) (kd := kd) (old := old) (told := told) (days := days) (sg := sg) (many := many) (cy := cy) (y := y) R st (segs.length - 1) 1 dte j [] (Nat.le_refl _) (by omega) (by simp; omega)
  have it : uRng2 (uC (.int 1)) (uUnL lLen (uLVar 3)) (lwEn at_ segs k kd old dte [] j told days sg many cy y) st = some ((List.range' 1 (segs.length - 1)).map fun j => D.int (j : Nat), st) := by
    refine (uRng2_eq (n := 1) (m := segs.length) rfl (uUnL_eq (ys := segs.map Sg.d) rfl (by simp [lLen])) (by decide) (by decide) (by omega) (by omega)).trans ?_
    rw [rng12 hl]
  have e2 : lawB5 (lwEn at_ segs k kd old dte [] j told days sg many cy y) st = some (.nx, lwEn at_ segs k kd old dte1 (bks segs 1 (segs.length - 1)) j1 told days sg many cy y, st) := by
    rw [List.nil_append] at r
    exact (uFor_eq it).trans r
  have e3 : lawB6 (lwEn at_ segs k kd old dte1 (bks segs 1 (segs.length - 1)) j1 told days sg many cy y) st = some (.nx, lwEn at_ segs k kd old dte1 (bks segs 1 (segs.length - 1)) j1 (some (calD segs)) days sg many cy y, st) :=
    uSet_eq (uMake_eqD (ds := [.lst (segs.map Sg.row)]) (aCons_eq (uCall_eq (aConsL_eq (ys := segs.map Sg.d) rfl rfl) (f_law_a_rows_eq (by omega) st)) rfl) (f_Calendar___init___eq ha G ht (by omega) st))
  have due := due_eq (bks segs 1 (segs.length - 1)) (ρ := lwEn at_ segs k kd old dte1 (bks segs 1 (segs.length - 1)) j1 (some (calD segs)) days sg many cy y) st rfl
  rw [← goesD_hd] at due
  have e4 : lawB7 (lwEn at_ segs k kd old dte1 (bks segs 1 (segs.length - 1)) j1 (some (calD segs)) days sg many cy y) st = some (.nx, lwEn at_ segs k kd old dte1 (bks segs 1 (segs.length - 1)) j1 (some (calD segs)) days sg many cy y, st) := by
    refine uIfS_f (uNot_eq (b := true) (uTru_t (uCall_eq (aCons_eq (x := goesD segs) (uMeth_eq (c := ("Calendar" : Str)) (fs := [("own_segments", .lst (segs.map Sg.ins))]) (ds := []) rfl rfl rfl (f_Calendar_goes_back_eq R hl st)) (aCons_eq (x := goesD segs) due rfl)) (goes_same R st)))) rfl
  have e5 : (uSetL 11 (uLst aNil)) (lwEn at_ segs k kd old dte1 (bks segs 1 (segs.length - 1)) j1 (some (calD segs)) days sg many cy y) st = some (.nx, lwZ (some at_) (some (.lst (segs.map Sg.d))) k kd old dte1 (some (.lst (bks segs 1 (segs.length - 1)))) j1 (some (calD segs)) [] sg many cy y, st) := uSetL_eq (uLst_eq rfl (by simp))
  obtain ⟨m1, c1, r1⟩ := dy_turn (at_ := some at_) (segs := some (.lst (segs.map Sg.d))) (k := k) (kd := kd) (old := old) (dte := dte1) (back := some (.lst (bks segs 1 (segs.length - 1)))) (j := j1) (told := some (calD segs)) (days := []) (y := y) ga.2.2 (by simp) many cy st
  obtain ⟨m2, c2, r2⟩ := dy_turn (at_ := some at_) (segs := some (.lst (segs.map Sg.d))) (k := k) (kd := kd) (old := old) (dte := dte1) (back := some (.lst (bks segs 1 (segs.length - 1)))) (j := j1) (told := some (calD segs)) (days := [.int (a.rd : Nat)]) (y := y) gb.2.2 (by simp) m1 c1 st
  have x0 : atI (segs.map Sg.d) 0 = some a.d := atK (k := 0) (by rw [List.getElem?_map, ha] <;> rfl)
  have x1 : atI (segs.map Sg.d) (-1) = some b.d := at_neg1 (by rw [List.getElem?_map, List.length_map, hb] <;> rfl)
  have e6 : lawB9 (lwZ (some at_) (some (.lst (segs.map Sg.d))) k kd old dte1 (some (.lst (bks segs 1 (segs.length - 1)))) j1 (some (calD segs)) [] sg many cy y) st = some (.nx, lwZ (some at_) (some (.lst (segs.map Sg.d))) k kd old dte1 (some (.lst (bks segs 1 (segs.length - 1)))) j1 (some (calD segs)) [.int (a.rd : Nat), .int (b.rd : Nat)] (some b.d) m2 c2 y, st) := by
    refine (uFor_eq (ds := [a.d, b.d]) (uItems_tup (uTup_eq (aCons_eq (uIxL_eq (xs := segs.map Sg.d) (i := 0) rfl rfl x0) (aCons_eq (uIxL_eq (xs := segs.map Sg.d) (i := -1) rfl rfl x1) rfl)) (by simp)))).trans ?_
    exact uForGo_cons (ρ1 := lwZ (some at_) (some (.lst (segs.map Sg.d))) k kd old dte1 (some (.lst (bks segs 1 (segs.length - 1)))) j1 (some (calD segs)) [] (some a.d) many cy y) rfl r1 (uForGo_cons (ρ1 := lwZ (some at_) (some (.lst (segs.map Sg.d))) k kd old dte1 (some (.lst (bks segs 1 (segs.length - 1)))) j1 (some (calD segs)) [.int (a.rd : Nat)] (some b.d) m1 c1 y) rfl r2 rfl)
  have ra := ga.2.2.rd
  have rb := gb.2.2.rd
  have e7 : lawB10 (lwZ (some at_) (some (.lst (segs.map Sg.d))) k kd old dte1 (some (.lst (bks segs 1 (segs.length - 1)))) j1 (some (calD segs)) [.int (a.rd : Nat), .int (b.rd : Nat)] (some b.d) m2 c2 y) st = some (.nx, lwZ (some at_) (some (.lst (segs.map Sg.d))) k kd old dte1 (some (.lst (bks segs 1 (segs.length - 1)))) j1 (some (calD segs)) [.int (a.rd : Nat), .int (b.rd : Nat)] (some b.d) m2 c2 y, st) :=
    uIfS_f (uNot_eq (b := true) (uTru_t (uCall_eq (aCons_eq (x := .int (lc a.rd b.rd : Nat)) (uMeth_eq (c := ("Calendar" : Str)) (fs := [("own_segments", .lst (segs.map Sg.ins))]) (ds := []) rfl rfl rfl (f_round_length_eq ha hb ga.2.2 gb.2.2 st)) (aCons_eq (x := .int (lc a.rd b.rd : Nat)) (uCall_eq (aCons_eq (uIxL_eq (xs := [.int (a.rd : Nat), .int (b.rd : Nat)]) (i := 0) rfl rfl at0) (aCons_eq (uIxL_eq (xs := [.int (a.rd : Nat), .int (b.rd : Nat)]) (i := 1) rfl rfl at1) rfl)) (f_law_lcm_eq ra.1 rb.1 (by omega) st)) rfl)) (same_int 3 _ st)))) rfl
  exact ⟨_, ⟨⟨_, _, _, _, _, _, _, _, _, _, _, _, _, _, rfl⟩⟩, uSeq_go e1 (uSeq_go e2 (uSeq_go e3 (uSeq_go e4 (uSeq_go e5 (uSeq_go e6 e7)))))⟩
theorem lw_turn {ρ : En} (h : LwOk ρ) (k : Nat) (st : St4) : ∃ ρ' st', LwOk ρ' ∧ lawB (ρ.set 2 (some (.int k))) st = some (.nx, ρ', st') := by
  obtain ⟨x2, x3, x4, x5, x6, x7, x8, x9, x10, x11, x12, x13, x14, x15, rfl⟩ := h.ex
  obtain ⟨segs, s1, e1, R⟩ := f_law_a_segs_ok (decide ((k : Int) = 2)) st
  have hl4 := R.len
  have hl : 1 ≤ segs.length := List.length_pos_iff.mpr R.ne
  have g1 : lawB1 [none, some .src, some (.int (k : Int)), x3, x4, x5, x6, x7, x8, x9, x10, x11, x12, x13, x14, x15] st = some (.nx, lwR (.int (k : Int)) segs x4 x5 x6 x7 x8 x9 x10 x11 x12 x13 x14 x15, s1) :=
    uSetL_eq (uCallL_eq (aSrc_eq rfl (aCons_eq rfl (aCons_eq (x := .bl (decide ((k : Int) = 2))) rfl rfl))) e1)
  obtain ⟨r, s2, e2, r0, r1, _⟩ := pk0 (segs.length : Int) (by omega) s1
  obtain ⟨q, s3, e3, q0, _⟩ := pk 4 (by decide) (by decide) s2
  have er : r = ((r.toNat : Nat) : Int) := by omega
  rw [er] at e2
  have g2 : lawB2 (lwR (.int (k : Int)) segs x4 x5 x6 x7 x8 x9 x10 x11 x12 x13 x14 x15) s1 = some (.nx, lwR (.int (k : Int)) segs (some (.int (r.toNat : Nat))) (some (.int q)) x6 x7 x8 x9 x10 x11 x12 x13 x14 x15, s3) :=
    uPar_eq (aCons_eq (uCall_eq (aSrc_eq rfl (aCons_eq (x := .int (segs.length : Int)) (uUnL_eq (ys := segs.map Sg.d) rfl (by simp [lLen])) rfl)) e2) (aCons_eq (uCall_eq (aSrc_eq rfl (aCons_eq rfl rfl)) e3) rfl)) rfl
  obtain ⟨segs', old', dte', g3, S⟩ := chg_ok R (at_ := .int (k : Int)) (k := r.toNat) (by have := r1 (by omega); omega) q0 x6 x7 x8 x9 x10 x11 x12 x13 x14 x15 s3
  obtain ⟨ρ', ok, g4⟩ := lw_part2 S (at_ := .int (k : Int)) (k := some (.int (r.toNat : Nat))) (kd := some (.int q)) (old := old') (dte := dte') (x8 := x8) (j := x9) (told := x10) (days := x11) (sg := x12) (many := x13) (cy := x14) (y := x15) s3
  exact ⟨ρ', s3, ok, uSeq_go g1 (uSeq_go g2 (uSeq_go g3 g4))⟩
theorem lw_go : ∀ (ks : List Nat) (ρ : En) (st : St4), LwOk ρ → ∃ ρ' st', LwOk ρ' ∧ uForGo (bName 2) lawB (ks.map fun k : Nat => D.int (k : Int)) ρ st = some (.nx, ρ', st')
  | [], ρ, st, h => ⟨ρ, st, h, rfl⟩
  | k :: ks, ρ, st, h => by
    obtain ⟨ρ1, s1, h1, e1⟩ := lw_turn h k st
    obtain ⟨ρ2, s2, h2, e2⟩ := lw_go ks ρ1 s1 h1
    exact ⟨ρ2, s2, h2, uForGo_cons (ρ1 := ρ.set 2 (some (.int k))) rfl e1 e2⟩
end Fw
set_option Elab.async false
set_option linter.all false
set_option maxRecDepth 100000
set_option maxHeartbeats 4000000
namespace Fw
open PySem PySem.Spec L2
/-! ### Segment.__init__: what its body does -/
theorem uInt_eq {u : UE} {ρ : En} {st st' : St4} {n : Int} (h : uInt u ρ st = some (n, st')) : u ρ st = some (.int n, st') := by
  unfold uInt at h
  obtain ⟨⟨d, s1⟩, h1, h2⟩ := Option.bind_eq_some_iff.mp h
  cases d with
  | int m =>
    have h2 : some (m, s1) = some (n, st') := h2
    cases h2
    exact h1
  | _ =>
    have h2 : (none : Option (Int × St4)) = some (n, st') := h2
    cases h2
def fV (f : Str) (i : Int) : Str × V := (f, .int i)
def t_segLoop (K : PySem.W.Frag) : TS := tSeq (tAsg (canon K (FzN 5) e_starts) (gName 3)) (tSeq (tDrop (tBM K "list" rAppend (tFld K (tVar 0) "year_days") (tCons (canon K (FzN 5) e_ydapp) tNil)))
  (tDrop (tBM K "list" rAppend (tFld K (tVar 0) "year_months") (tCons (canon K (FzN 5) e_ymapp) tNil))))
def t_segInit (K : PySem.W.Frag) : TS := tSeq (sFld K (tVar 0) (canon K (FzN 5) e_tick) "tick") <| tSeq (sFld K (tVar 0) (canon K (FzN 5) e_width) "width") <| tSeq (sFld K (tVar 0) (canon K (FzN 5) e_into) "into") <|
  tSeq (sFld K (tVar 0) (canon K (FzN 5) e_date) "date") <| tSeq (sFld K (tVar 0) (canon K (FzN 5) e_leap) "leap") <| tSeq (sFld K (tVar 0) (canon K (FzN 5) e_cycles) "cycles") <|
  tSeq (sFld K (tVar 0) (canon K (FzN 5) e_common) "common") <| tSeq (sFld K (tVar 0) (canon K (FzN 5) e_longer) "longer") <| tSeq (sFld K (tVar 0) (canon K (FzN 5) e_years) "years") <|
  tSeq (sFld K (tVar 0) (canonN K (FzN 5) (uLst (aCons (uC (.int 0)) aNil))) "year_days") <| tSeq (sFld K (tVar 0) (canonN K (FzN 5) (uLst (aCons (uC (.int 0)) aNil))) "year_months") <|
  tSeq (tFor (iRng1 (tCons (canon K (FzN 5) e_upto) tNil)) (gName 2) (t_segLoop K)) <| tSeq (sFld K (tVar 0) (canon K (FzN 5) e_days) "days") <| tSeq (sFld K (tVar 0) (canon K (FzN 5) e_months) "months") <|
  sFld K (tVar 0) (canon K (FzN 5) e_first_day) "first_day"
section
variable {K : PySem.W.Frag} {c : Str} {g : Gh} {own : Owns} {x dx : Addr} {vfs : List (Str × V)} {fs fs' : List (Str × D)} {σ : St} {H H1 H' : Hp} {ρ ρ' : En} {st st' : St4} {D : Ends} {f : Str} {u : UE} {d : Fw.D} {n : Nat}
theorem RI.weak (R : RI K c g own x dx vfs fs σ H ρ st) (hn : ρ'.length = ρ.length) (h : ∀ (i : Nat) (d : Fw.D), ρ'[i]? = some (some d) → ρ[i]? = some (some d)) : RI K c g own x dx vfs fs σ H ρ' st :=
  ⟨R.gok, R.src, R.bk, R.xB, R.self, R.inst, R.rf, R.ownc, R.nd, by rw [hn]; exact R.len, fun i d z => R.slot i d (h i d z)⟩
theorem RI.setL (R : RI K c g own x dx vfs fs σ H ρ st) {i : Nat} {v : V} (hi : i ≠ 0) (r : Rp K (hid H (Fx g own x)) v d) : RI K c g own x dx vfs fs (σ.set i (some v)) H (ρ.set i (some d)) st := by
  refine ⟨R.gok, R.src, R.bk, R.xB, ?_, R.inst, R.rf, R.ownc, R.nd, by rw [List.length_set, List.length_set]; exact R.len, fun j e z => ?_⟩
  · rw [List.getElem?_set_ne hi]
    exact R.self
  · by_cases w : i = j
    · subst w
      have hl : i < ρ.length := by
        have := (List.getElem?_eq_some_iff.mp z).1
        rwa [List.length_set] at this
      rw [List.getElem?_set_self hl] at z
      cases z
      exact ⟨v, List.getElem?_set_self (by rw [R.len]; exact hl), r⟩
    · rw [List.getElem?_set_ne w] at z
      obtain ⟨v', h1, h2⟩ := R.slot j e z
      exact ⟨v', by rw [List.getElem?_set_ne w]; exact h1, h2⟩
theorem RpF.split {H : Hp} : ∀ {vs ws : List (Str × V)} {ds es : List (Str × Fw.D)}, RpF K H (vs ++ ws) (ds ++ es) → vs.length = ds.length → RpF K H vs ds ∧ RpF K H ws es
  | [], _, [], _, h, _ => ⟨.nil, h⟩
  | _ :: _, _, _ :: _, _, .cons q r, l => by
    obtain ⟨a, b⟩ := RpF.split r (by simpa using l)
    exact ⟨.cons q a, b⟩
theorem RI.neO (R : RI K c g own x dx vfs fs σ H ρ st) {p : Addr} {ns : List Int} (h : (p, ns) ∈ own) : p ≠ x := fun e => by
  have := (R.ownc p ns h).2
  rw [e, R.inst] at this
  cases this
theorem RI.notF (R : RI K c g own x dx vfs fs σ H ρ st) {p : Addr} {ns : List Int} (h : (p, ns) ∈ own) : ¬ g.F p := fun e => R.gok.live p e (R.ownc p ns h).1
theorem RI.xF (R : RI K c g own x dx vfs fs σ H ρ st) : ¬ g.F x := fun e => R.gok.live x e R.xB
/-- self as it is seen with its lists -/
theorem RI.reveal {v9 vt : List (Str × V)} {fs9 ft : List (Str × Fw.D)} {p1 p2 : Addr} {yd ym : List Int} {a b : Str} {F' : Addr → Prop} (R : RI K c g [(p2, ym), (p1, yd)] x dx (((v9 ++ [(a, .ref p1)]) ++ [(b, .ref p2)]) ++ vt) (((fs9 ++ [(a, .src)]) ++ [(b, .src)]) ++ ft) σ H ρ st) (h1 : ∀ b, F' b → Fx g [(p2, ym), (p1, yd)] x b) (n1 : ¬ F' p1) (n2 : ¬ F' p2) (hl : v9.length = fs9.length) :
    RpF K (hid H F') (((v9 ++ [(a, .ref p1)]) ++ [(b, .ref p2)]) ++ vt) ((fs9 ++ [(a, .lst (yd.map .int)), (b, .lst (ym.map .int))]) ++ ft) := by
  have sm : Same (hid H (Fx g [(p2, ym), (p1, yd)] x)) (hid H F') := hid_mono fun b o q z => ⟨fun w => q (h1 b w), z⟩
  obtain ⟨q1, q2⟩ := RpF.split (RpF.mono sm R.rf) (by simp [hl])
  obtain ⟨q3, _⟩ := RpF.split q1 (by simp [hl])
  obtain ⟨q4, _⟩ := RpF.split q3 hl
  refine RpF.app ?_ q2
  rw [List.append_assoc]
  refine RpF.app q4 (.cons (.lst (hid_of n1 (R.ownc p1 yd (by simp)).2) (RpA.ofInts yd)) (.cons (.lst (hid_of n2 (R.ownc p2 ym (by simp)).2) (RpA.ofInts ym)) .nil))
theorem RI.reveal0 {v9 : List (Str × V)} {fs9 : List (Str × Fw.D)} {p1 p2 : Addr} {yd ym : List Int} {a b : Str} {F' : Addr → Prop} (R : RI K c g [(p2, ym), (p1, yd)] x dx ((v9 ++ [(a, .ref p1)]) ++ [(b, .ref p2)]) ((fs9 ++ [(a, .src)]) ++ [(b, .src)]) σ H ρ st) (h1 : ∀ b, F' b → Fx g [(p2, ym), (p1, yd)] x b) (n1 : ¬ F' p1) (n2 : ¬ F' p2) (hl : v9.length = fs9.length) :
    RpF K (hid H F') ((v9 ++ [(a, .ref p1)]) ++ [(b, .ref p2)]) (fs9 ++ [(a, .lst (yd.map .int)), (b, .lst (ym.map .int))]) := by
  have e1 : ((v9 ++ [(a, V.ref p1)]) ++ [(b, V.ref p2)]) ++ [] = ((v9 ++ [(a, .ref p1)]) ++ [(b, .ref p2)]) := List.append_nil _
  have e2 : ((fs9 ++ [(a, Fw.D.src)]) ++ [(b, Fw.D.src)]) ++ [] = ((fs9 ++ [(a, .src)]) ++ [(b, .src)]) := List.append_nil _
  rw [← e1, ← e2] at R
  have := R.reveal h1 n1 n2 hl
  rw [List.append_nil, List.append_nil] at this
  exact this
end
section
variable {K : PySem.W.Frag} {g : Gh} {x dx : Addr} {σ : St} {H : Hp} {st st' stf : St4} {D : Ends}
abbrev YD : Str := "year_days"
abbrev YM : Str := "year_months"
abbrev yV (v9 : List (Str × V)) (p1 p2 : Addr) : List (Str × V) := (v9 ++ [(YD, .ref p1)]) ++ [(YM, .ref p2)]
abbrev yF (fs9 : List (Str × Fw.D)) : List (Str × Fw.D) := (fs9 ++ [(YD, .src)]) ++ [(YM, .src)]
def segRho (row : Fw.D) : En := [some .src, some row, none, none, none]
theorem seg_rel {row : Fw.D} {ρ : En} {d : Fw.D} {y s : Option Fw.D} (h1 : ρ[1]? = some (some row)) (h2 : ∀ d, y = some d → ρ[2]? = some (some d)) (h3 : ∀ d, s = some d → ρ[3]? = some (some d)) :
    ∀ (i : Nat) (d' : Fw.D), ([some d, some row, y, s, none] : En)[i]? = some (some d') → ρ[i]? = some (some d') ∨ (i = 0 ∧ d' = d)
  | 0, d', h => .inr ⟨rfl, by simpa using h.symm⟩
  | 1, d', h => .inl (by
    have : row = d' := by simpa using h
    rw [← this]; exact h1)
  | 2, d', h => .inl (h2 d' (by simpa using h))
  | 3, d', h => .inl (h3 d' (by simpa using h))
  | 4, d', h => by simp at h
  | _ + 5, d', h => by simp at h
/-- one turn of the loop over the years, and all of them -/
theorem seg_loop {v9 : List (Str × V)} {fs9 : List (Str × Fw.D)} {p1 p2 : Addr} {row : Fw.D} {n : Int} {ydf ymf : List Int} (cl : Cls K (He.ga K "Segment")) (na1 : NoAttr K (He.ga K "Segment") "year_days") (na2 : NoAttr K (He.ga K "Segment") "year_months")
    (hl : v9.length = fs9.length) (hl2 : fs9.length < 100) (k1 : (yV v9 p1 p2).lookup YD = some (.ref p1)) (k2 : (yV v9 p1 p2).lookup YM = some (.ref p2))
    (R : RI K "Segment" g [(p2, [0]), (p1, [0])] x dx (yV v9 p1 p2) (yF fs9) σ H (segRho row) st)
    (h0 : uInt e_upto (sEn (fs9 ++ yPair .src .src) row none none) st = some (n, st')) (hn : -(2 ^ 62) ≤ n ∧ n < 2 ^ 62) (hgo : initGo fs9 row (rng 0 n) [0] [0] st' = some (ydf, ymf, stf))
    (k : ∀ σ' H', RI K "Segment" g [(p2, ymf), (p1, ydf)] x dx (yV v9 p1 p2) (yF fs9) σ' H' (segRho row) stf → D.nx σ' H') :
    tFor (iRng1 (tCons (canon K (FzN 5) e_upto) tNil)) (gName 2) (t_segLoop K) D σ H := by
  have eq : (fs9 ++ yPair .src .src : List (Str × Fw.D)) = (yF fs9) := by
    unfold yF
    rw [List.append_assoc] <;> rfl
  rw [eq] at h0
  have sub : ∀ {b}, g.F b → Fx g [(p2, [0]), (p1, [0])] x b := fun w => .inl w
  refine ⟨⟨g.as, g.F, H⟩, sEn _ row none none, st, .int n, st', R.rel (fun b w => .inl w) (fun _ w => w) rfl fun j d h => (seg_rel (ρ := segRho row) rfl (fun _ z => by cases z) (fun _ z => by cases z) j d h).imp id fun ⟨a, b⟩ => ⟨a, by
    rw [b]
    exact .ins (hid_of R.xF R.inst) (RpF.mono (hid_mono fun b o q z => ⟨fun w => q (.inl w), z⟩) R.rf)⟩, uInt_eq h0, fun v H1 e1 s1 rv => ?_⟩
  cases rv
  refine ⟨n, rfl, hn.1, hn.2, ?_⟩
  have R1 := R.step e1 s1
  have q := for_range (lo := 0) (n := (n - 0).toNat) (g := gName 2) (tb := t_segLoop K) (D := D) (σ := σ) (H := H1) (fun i σ' H' => ∃ yd ym st1, RI K "Segment" g [(p2, ym), (p1, yd)] x dx (yV v9 p1 p2) (yF fs9) σ' H' (segRho row) st1 ∧
    initGo fs9 row ((rng 0 n).drop i) yd ym st1 = some (ydf, ymf, stf)) ⟨[0], [0], st', R1, hgo⟩ (fun i σ2 H2 hi ⟨yd, ym, st1, R2, hg⟩ => ?_) fun σ2 H2 ⟨yd, ym, st1, R2, hg⟩ => ?_
  · rw [Int.sub_zero] at q
    exact q
  · rw [drop_at (rng_at hi)] at hg
    unfold initGo at hg
    by_cases hle : yd.length < 100000 ∧ ym.length < 100000
    · rw [if_pos hle] at hg
      obtain ⟨⟨ds, st2⟩, h1, hg⟩ := Option.bind_eq_some_iff.mp hg
      cases ds with
      | lst ds =>
        have hg : ((asI ds).bind fun ns => (uInt e_ydapp (sEn (fs9 ++ yPair (iL yd) (iL ym)) row (some (.int (0 + (i : Int)))) (some (iL ns))) st2).bind fun a =>
          (uInt e_ymapp (sEn (fs9 ++ yPair (iL (yd ++ [a.1])) (iL ym)) row (some (.int (0 + (i : Int)))) (some (iL ns))) a.2).bind fun b => initGo fs9 row ((rng 0 n).drop (i + 1)) (yd ++ [a.1]) (ym ++ [b.1]) b.2) = some (ydf, ymf, stf) := hg
        obtain ⟨ns, h2, hg⟩ := Option.bind_eq_some_iff.mp hg
        obtain ⟨⟨a, st3⟩, h3, hg⟩ := Option.bind_eq_some_iff.mp hg
        obtain ⟨⟨b, st4⟩, h4, hg'⟩ := Option.bind_eq_some_iff.mp hg
        have eds := asI_eq h2
        subst eds
        rw [eq] at h1
        have R3 : RI K "Segment" g [(p2, ym), (p1, yd)] x dx _ _ (σ2.set 2 (some (.int (0 + (i : Int))))) H2 ((segRho row).set 2 (some (.int (0 + (i : Int))))) st1 := R2.setL (by decide) (.int _)
        let F2 : Addr → Prop := fun b => g.F b ∨ ∃ ns, (b, ns) ∈ [(p2, ym), (p1, yd)]
        refine ⟨⟨g.as, F2, H2⟩, sEn _ row (some (.int (0 + (i : Int)))) none, st1, _, st2, R3.rel (F' := F2) (fun b w => w.imp id .inr) (fun _ w => .inl w) rfl fun j d h => (seg_rel (ρ := (segRho row).set 2 (some (.int (0 + (i : Int))))) rfl (fun _ z => by cases z; rfl) (fun _ z => by cases z) j d h).imp id fun ⟨a, b⟩ => ⟨a, by
          rw [b]
          refine .ins (hid_of (fun w => w.elim R3.xF fun ⟨l, w⟩ => R3.neO w rfl) R3.inst) (RpF.mono (hid_mono fun b o q z => ⟨fun w => q (w.imp id .inr), z⟩) R3.rf)⟩, h1, fun v H3 e3 s3 rv => ?_⟩
        have R4 := R3.step e3 s3
        have rv2 : Rp K (hid H3 (Fx g [(p2, ym), (p1, yd)] x)) v (iL ns) := by
          rw [ex_fz] at rv
          cases rv with
          | @lst pa vs _ q r =>
            obtain ⟨q1, q2⟩ := hid_some q
            rw [r.ints] at q2
            refine .lst (hid_of (fun w => ?_) q2) (RpA.ofInts ns)
            rcases w with w | w | w
            · exact q1 (.inl w)
            · rw [w, R4.inst] at q2
              cases q2
            · exact q1 (.inr w)
        have R5 := R4.setL (i := 3) (by decide) rv2
        refine st_app (own1 := [(p2, ym)]) (own2 := []) (p := p1) (ns := yd) (i := a) (ρ' := sEn (fs9 ++ yPair (iL yd) (iL ym)) row (some (.int (0 + (i : Int)))) (some (iL ns))) (F' := g.F) R5 k1 (fun _ w => .inl w) (fun _ w => w) R5.xF (R5.reveal0 (fun _ w => .inl w) (R5.notF (ns := yd) (.tail _ (.head _))) (R5.notF (ns := ym) (.head _)) hl) rfl (seg_rel (ρ := ((segRho row).set 2 (some (.int (0 + (i : Int))))).set 3 (some (iL ns))) rfl (fun _ z => by cases z; rfl) (fun _ z => by cases z; rfl)) (uInt_eq h3) hle.1 cl na1 fun H4 R6 => ?_
        refine st_app (own1 := []) (own2 := [(p1, yd ++ [a])]) (p := p2) (ns := ym) (i := b) (ρ' := sEn (fs9 ++ yPair (iL (yd ++ [a])) (iL ym)) row (some (.int (0 + (i : Int)))) (some (iL ns))) (F' := g.F) R6 k2 (fun _ w => .inl w) (fun _ w => w) R6.xF (R6.reveal0 (fun _ w => .inl w) (R6.notF (ns := yd ++ [a]) (.tail _ (.head _))) (R6.notF (ns := ym) (.head _)) hl) rfl (seg_rel (ρ := ((segRho row).set 2 (some (.int (0 + (i : Int))))).set 3 (some (iL ns))) rfl (fun _ z => by cases z; rfl) (fun _ z => by cases z; rfl)) (uInt_eq h4) hle.2 cl na2 fun H5 R7 => ?_
        refine ⟨yd ++ [a], ym ++ [b], st4, R7.weak rfl fun j d h => ?_, hg'⟩
        match j, h with
        | 0, h => exact h
        | 1, h => exact h
        | 2, h => cases h
        | 3, h => cases h
        | 4, h => cases h
        | _ + 5, h => cases h
      | _ =>
        have hg : (none : Option (List Int × List Int × St4)) = some (ydf, ymf, stf) := hg
        cases hg
    · rw [if_neg hle] at hg
      cases hg
  · rw [← rng_len, List.drop_length] at hg
    cases hg
    exact k σ2 H2 R2
end

section
variable {K : PySem.W.Frag} {Q : VK} {E : XK} {H : Hp} {vs : List V}
theorem app2 {α : Type} (l : List α) (a b : α) : (l ++ [a]) ++ [b] = l ++ [a, b] := by rw [List.append_assoc] <;> rfl
theorem app3 {α : Type} (l : List α) (a b c : α) : (l ++ [a, b]) ++ [c] = l ++ [a, b, c] := by rw [List.append_assoc] <;> rfl
theorem seg_pure (cl : Cls K (He.ga K "Segment")) (na : ∀ f, f ∈ (["tick", "width", "into", "date", "leap", "cycles", "common", "longer", "years", "year_days", "year_months", "days", "months", "first_day"] : List Str) → NoAttr K (He.ga K "Segment") f) {N : List Str} (hN : N.length = 5)
    (h : spI K "Segment" [.fz] f_Segment___init__ vs H Q E) : t_segInit K { nx := fun _ H' => Q .non H', rt := Q } (L2.start N vs) H := by
  obtain ⟨g, ds, st, fs, stf, x, dx, ws, rfl, gok, sub, xB, dxB, hx, hdx, nex, src, ra, hf, k⟩ := h
  obtain ⟨row, rfl⟩ : ∃ row, ds = [row] := by
    have := ra.len.2
    match ds, this with
    | [r], _ => exact ⟨r, rfl⟩
  obtain ⟨v, rfl⟩ : ∃ v, ws = [v] := by
    have := ra.len.1
    match ws, this with
    | [r], _ => exact ⟨r, rfl⟩
  have rv : Rp K (hid g.B g.F) v row := by
    cases ra with
    | cons h _ => exact h
  have es : L2.start N [V.ref x, v] = [some (.ref x), some v, none, none, none] := by
    unfold L2.start
    rw [hN] <;> rfl
  rw [es]
  have R0 : RI K "Segment" g [] x dx [] [] [some (.ref x), some v, none, none, none] H (segRho row) st := by
    refine ⟨gok, src, fun b o z _ => sub b o z, xB, rfl, hx, .nil, fun _ _ h => (by cases h), List.nodup_nil, rfl, fun i d h => ?_⟩
    match i, h with
    | 0, h =>
      cases h
      exact ⟨_, rfl, .any _⟩
    | 1, h =>
      cases h
      refine ⟨_, rfl, Rp.mono (hid_mono fun b o q z => ⟨fun w => ?_, sub b o z⟩) rv⟩
      rcases w with w | w | ⟨_, w⟩
      · exact q w
      · rw [w, xB] at z
        cases z
      · cases w
    | 2, h => cases h
    | 3, h => cases h
    | 4, h => cases h
    | _ + 5, h => cases h
  unfold f_Segment___init__ at hf
  obtain ⟨x1, h1, hf⟩ := Option.bind_eq_some_iff.mp hf
  obtain ⟨x2, h2, hf⟩ := Option.bind_eq_some_iff.mp hf
  obtain ⟨x3, h3, hf⟩ := Option.bind_eq_some_iff.mp hf
  obtain ⟨x4, h4, hf⟩ := Option.bind_eq_some_iff.mp hf
  obtain ⟨x5, h5, hf⟩ := Option.bind_eq_some_iff.mp hf
  obtain ⟨x6, h6, hf⟩ := Option.bind_eq_some_iff.mp hf
  obtain ⟨x7, h7, hf⟩ := Option.bind_eq_some_iff.mp hf
  obtain ⟨x8, h8, hf⟩ := Option.bind_eq_some_iff.mp hf
  obtain ⟨x9, h9, hf⟩ := Option.bind_eq_some_iff.mp hf
  obtain ⟨x10, h10, hf⟩ := Option.bind_eq_some_iff.mp hf
  split at hf
  rotate_left
  · cases hf
  rename_i hn
  obtain ⟨x11, h11, hf⟩ := Option.bind_eq_some_iff.mp hf
  obtain ⟨x12, h12, hf⟩ := Option.bind_eq_some_iff.mp hf
  obtain ⟨x13, h13, hf⟩ := Option.bind_eq_some_iff.mp hf
  obtain ⟨x14, h14, hf⟩ := Option.bind_eq_some_iff.mp hf
  have hf := Option.some.inj hf
  refine st_fz R0 h1 (by decide) rfl cl (na _ (by decide)) fun v1 H1 R1 => ?_
  refine st_fz R1 h2 (by simp) rfl cl (na _ (by decide)) fun v2 H2 R2 => ?_
  refine st_fz R2 h3 (by simp) rfl cl (na _ (by decide)) fun v3 H3 R3 => ?_
  refine st_fz R3 h4 (by simp) rfl cl (na _ (by decide)) fun v4 H4 R4 => ?_
  refine st_fz R4 h5 (by simp) rfl cl (na _ (by decide)) fun v5 H5 R5 => ?_
  refine st_fz R5 h6 (by simp) rfl cl (na _ (by decide)) fun v6 H6 R6 => ?_
  refine st_fz R6 h7 (by simp) rfl cl (na _ (by decide)) fun v7 H7 R7 => ?_
  refine st_fz R7 h8 (by simp) rfl cl (na _ (by decide)) fun v8 H8 R8 => ?_
  refine st_int R8 (F' := g.F) (fun _ w => .inl w) (fun _ w => w) R8.xF (RpF.mono (hid_mono fun b o q z => ⟨fun w => q (.inl w), z⟩) R8.rf) (by rfl) (seg_rel (ρ := segRho row) rfl (fun _ z => by cases z) (fun _ z => by cases z)) (uInt_eq h9) (by simp) rfl cl (na _ (by decide)) fun H9 R9 => ?_
  refine st_own (ns := [0]) R9 rfl (by simp) rfl cl (na _ (by decide)) fun p1 H10 R10 => ?_
  refine st_own (ns := [0]) R10 rfl (by simp) rfl cl (na _ (by decide)) fun p2 H11 R11 => ?_
  refine seg_loop (p1 := p1) (p2 := p2) cl (na _ (by decide)) (na _ (by decide)) R9.rf.length (by simp) rfl rfl R11 h10 hn h11 fun σ' H12 R12 => ?_
  refine st_int R12 (F' := g.F) (fun _ w => .inl w) (fun _ w => w) R12.xF (R12.reveal0 (fun _ w => .inl w) (R12.notF (ns := x11.1) (.tail _ (.head _))) (R12.notF (ns := x11.2.1) (.head _)) R9.rf.length) (by rfl) (seg_rel (ρ := segRho row) rfl (fun _ z => by cases z) (fun _ z => by cases z)) (uInt_eq h12) (by simp) rfl cl (na _ (by decide)) fun H13 R13 => ?_
  refine st_int R13 (F' := g.F) (fun _ w => .inl w) (fun _ w => w) R13.xF (R13.reveal (fun _ w => .inl w) (R13.notF (ns := x11.1) (.tail _ (.head _))) (R13.notF (ns := x11.2.1) (.head _)) R9.rf.length) (by rfl) (seg_rel (ρ := segRho row) rfl (fun _ z => by cases z) (fun _ z => by cases z)) (uInt_eq h13) (by simp) rfl cl (na _ (by decide)) fun H14 R14 => ?_
  have R14' := R14
  rw [app2 (yV _ _ _), app2 (yF _)] at R14'
  refine st_int R14' (F' := g.F) (fun _ w => .inl w) (fun _ w => w) R14'.xF (R14'.reveal (fun _ w => .inl w) (R14'.notF (ns := x11.1) (.tail _ (.head _))) (R14'.notF (ns := x11.2.1) (.head _)) R9.rf.length) (by rfl) (seg_rel (ρ := segRho row) rfl (fun _ z => by cases z) (fun _ z => by cases z)) (uInt_eq h14) (by simp) rfl cl (na _ (by decide)) fun H15 R15 => ?_
  have R15' := R15
  rw [app3 (yV _ _ _), app3 (yF _)] at R15'
  have n1 : p1 ≠ x := R15'.neO (ns := x11.1) (.tail _ (.head _))
  have n2 : p2 ≠ x := R15'.neO (ns := x11.2.1) (.head _)
  cases hf
  refine k H15 _ R15'.bk R15'.src R15'.inst (R15'.reveal (fun b w => w.elim .inl fun w => .inr (.inl w)) (fun w => w.elim (R15'.notF (ns := x11.1) (.tail _ (.head _))) n1) (fun w => w.elim (R15'.notF (ns := x11.2.1) (.head _)) n2) R9.rf.length)
end
/-! ### Calendar.__init__ -/
abbrev calMs (x : Addr) : List Mo := [.me x, .fz, .fz, .fz, .fz]
def t_calInit (K : PySem.W.Frag) (x : Addr) : TS := tSeq (canonSt K .fz (calMs x) u_cal1) (tSeq (canonSt K .fz (calMs x) u_cal2) (sFld K (tVar 0) (canon K (calMs x) e_own) "own_segments"))
section
variable {K : PySem.W.Frag} {Q : VK} {E : XK} {H : Hp} {vs : List V} {g : Gh} {σ : St}
theorem own_cal {x p : Addr} : ¬ Own (calMs x) σ p := fun ⟨i, h, _⟩ => by
  match i, h with
  | 0, h => cases h
  | 1, h => cases h
  | 2, h => cases h
  | 3, h => cases h
  | 4, h => cases h
  | _ + 5, h => cases h
theorem ex_cal {x : Addr} : Ex g (calMs x) σ = g.F := by
  funext b
  exact propext ⟨fun w => w.elim id fun w => absurd w own_cal, .inl⟩
theorem cal_pure (cl : Cls K (He.ga K "Calendar")) (na : NoAttr K (He.ga K "Calendar") "own_segments") {N : List Str} (hN : N.length = 5)
    (h : spI K "Calendar" [.fz, .fz] f_Calendar___init__ vs H Q E) : ∃ x vs', vs = .ref x :: vs' ∧ t_calInit K x { nx := fun _ H' => Q .non H', rt := Q } (L2.start N vs) H := by
  obtain ⟨g, ds, st, fs, stf, x, dx, ws, rfl, gok, sub, xB, dxB, hx, hdx, nex, src, ra, hf, k⟩ := h
  obtain ⟨rows, name, rfl⟩ : ∃ r n, ds = [r, n] := by
    have := ra.len.2
    match ds, this with
    | [r, n], _ => exact ⟨r, n, rfl⟩
  obtain ⟨v, w, d1, d2, rfl, e2, r1, r2⟩ := ra2 ra
  cases e2
  refine ⟨x, [v, w], rfl, ?_⟩
  have es : L2.start N [V.ref x, v, w] = [some (.ref x), some v, some w, none, none] := by
    unfold L2.start
    rw [hN] <;> rfl
  rw [es]
  have asx : g.as ≠ some x := fun q => gok.live x (gok.asF x q) xB
  let g' : Gh := ⟨g.as, fun b => g.F b ∨ b = x, H⟩
  have mo : ∀ {v : V} {d : Fw.D}, Rp K (hid g.B g.F) v d → Rp K (hid H (Ex g' (calMs x) [some (.ref x), some v, some w, none, none])) v d := fun r => by
    rw [ex_cal]
    exact Rp.mono (hid_mono fun b o q z => ⟨fun w => w.elim q (fun w => by rw [w, xB] at z; cases z), sub b o z⟩) r
  have R0 : Rel K g' (calMs x) [some (.ref x), some v, some w, none, none] H [some .src, some rows, some name, none, none] st := by
    refine ⟨⟨fun a q => .inl (gok.asF a q), fun a q => ?_⟩, rfl, rfl, src, fun b o z _ => z, fun i m d hm hd => ?_, fun p h => absurd h own_cal, fun i j p h => ?_⟩
    · rcases q with q | q
      · have := gok.live a q
        cases e : g.B a with
        | none => exact absurd e this
        | some o =>
          show H a ≠ none
          rw [sub a o e]
          exact fun z => by cases z
      · show H a ≠ none
        rw [q, hx]
        exact fun z => by cases z
    · match i, hm, hd with
      | 0, hm, hd =>
        cases hm
        exact ⟨_, rfl, rfl⟩
      | 1, hm, hd =>
        cases hm
        cases hd
        refine ⟨_, rfl, ?_⟩
        show Rp K (hid H (Ex g' (calMs x) _)) v rows
        rw [ex_cal]
        exact Rp.mono (hid_mono fun b o q z => ⟨fun w => w.elim q (fun w => by rw [w, xB] at z; cases z), sub b o z⟩) r1
      | 2, hm, hd =>
        cases hm
        cases hd
        refine ⟨_, rfl, ?_⟩
        show Rp K (hid H (Ex g' (calMs x) _)) w name
        rw [ex_cal]
        exact Rp.mono (hid_mono fun b o q z => ⟨fun w => w.elim q (fun w => by rw [w, xB] at z; cases z), sub b o z⟩) r2
      | 3, hm, hd => cases hd
      | 4, hm, hd => cases hd
      | _ + 5, hm, hd => cases hd
    · match i, h with
      | 0, h => cases h
      | 1, h => cases h
      | 2, h => cases h
      | 3, h => cases h
      | 4, h => cases h
      | _ + 5, h => cases h
  unfold f_Calendar___init__ at hf
  obtain ⟨⟨f, ρ2, st2⟩, h1, hf⟩ := Option.bind_eq_some_iff.mp hf
  unfold uSeq at h1
  obtain ⟨⟨f1, ρ1, st1⟩, h2, h1⟩ := Option.bind_eq_some_iff.mp h1
  cases f with
  | nx =>
    have hf : ((gv ρ2 0).bind fun _ => (e_own ρ2 st2).map fun x => ([(("own_segments" : Str), x.1)], x.2)) = some (fs, stf) := hf
    obtain ⟨d0, h3, hf⟩ := Option.bind_eq_some_iff.mp hf
    obtain ⟨⟨d, st3⟩, h4, hf⟩ := Option.map_eq_some_iff.mp hf
    cases hf
    cases f1 with
    | nx =>
      refine ⟨g', _, st, .nx, ρ1, st1, R0, h2, fun σ1 H1 R1 sm1 => ⟨g', ρ1, st1, .nx, ρ2, st2, R1, h1, fun σ2 H2 R2 sm2 => ⟨g', ρ2, st2, d, _, R2, h4, fun y H3 e3 s3 ry => ?_⟩⟩⟩
      obtain ⟨vx, hv, ex⟩ := R2.slot 0 (.me x) d0 rfl (gv_some h3)
      cases ex
      have hx3 : H3 x = some (.ins (He.ga K "Calendar") dx []) := e3 x _ (R2.bk x _ hx asx) asx
      refine ⟨_, hv, x, _, dx, [], rfl, hx3, cl, na, by decide, ?_⟩
      refine k _ [("own_segments", y)] (fun b o z n => ?_) (fun a q => ?_) upd_same (.cons ?_ .nil)
      · rw [upd_ne fun w => by rw [w, xB] at z; cases z]
        exact e3 b o (R2.bk b o (sub b o z) n) n
      · rw [upd_ne fun w => asx (by rw [← w]; exact q)]
        exact s3 a q
      · rw [ex_cal] at ry
        exact Rp.mono (hid_mono fun b o q z => ⟨q, by
          rw [upd_ne fun w => q (.inr w)]
          exact z⟩) ry
    | _ => cases h1
  | _ => cases hf
end
/-! ### the law's def -/
/-- what the law's text computes is true -/
def LawOk (ns : List Int) : Prop := ∃ (st0 : St4) (ρ' : En) (st' : St4), lawSrc (some (iL ns) :: List.replicate (lms.length - 1) none) (0, 0, 0, 0) = some ([.int st0.1, .int st0.2.1, .int st0.2.2.1, .int st0.2.2.2], (0, 0, 0, 0)) ∧
  u_law_rest (none :: some .src :: List.replicate (lms.length - 2) none) st0 = some (.rt (.bl true), ρ', st')
def spLaw (K : PySem.W.Frag) : Sp := fun vs H Q _ => ∃ (a : Addr) (ns : List Int), vs = [.ref a] ∧ SqL K H a (ns.map V.int) ∧ LawOk ns ∧ ∀ H', Q (.bl true) H'
theorem lms_own : ∀ i, i < 2 → lms[i]? ≠ some .own := by decide
section
variable {K : PySem.W.Frag} {Q : VK} {E : XK} {H : Hp} {vs : List V}
theorem law_pure {N : List Str} (hN : N.length = lms.length) (h : spLaw K vs H Q E) : tSeq (tAsg (canonN K lms lawSrc) (gName 1)) (canonSt K .fz lms u_law_rest) { nx := fun _ H' => Q .non H', rt := Q } (L2.start N vs) H := by
  obtain ⟨a, ns, rfl, hS, ⟨st0, ρ', st', h1, h2⟩, hQ⟩ := h
  have es : L2.start N [V.ref a] = some (.ref a) :: List.replicate (lms.length - 1) none := by
    unfold L2.start
    rw [hN] <;> rfl
  rw [es]
  have no : ∀ {p : Addr} {σ0 : St} {v0 v1 : Option V} (i : Nat), lms[i]? = some .own → (v0 :: v1 :: List.replicate (lms.length - 2) none : St)[i]? = some (some (.ref p)) → False := fun {p σ0 v0 v1} i h1 h2 => by
    match i, h1, h2 with
    | 0, h1, _ => exact lms_own 0 (by decide) h1
    | 1, h1, _ => exact lms_own 1 (by decide) h1
    | i + 2, _, h2 =>
      rw [List.getElem?_cons_succ, List.getElem?_cons_succ, List.getElem?_replicate] at h2
      split at h2 <;> cases h2
  let g0 : Gh := ⟨none, fun _ => False, H⟩
  have R0 : Rel K g0 lms (some (.ref a) :: List.replicate (lms.length - 1) none) H (some (iL ns) :: List.replicate (lms.length - 1) none) (0, 0, 0, 0) := by
    refine ⟨⟨fun a q => (by cases q), fun a q => False.elim q⟩, rfl, rfl, fun a q => (by cases q), fun b o z _ => z, fun i m d hm hd => ?_, fun p ⟨i, h1, h2⟩ => ?_, fun i j p h1 _ h3 => ?_⟩
    · match i, hm, hd with
      | 0, hm, hd =>
        cases hm
        cases hd
        refine ⟨_, rfl, a, ns.map V.int, ns.map .int, rfl, rfl, hS, fun q => (by cases q), RpA.ofInts ns⟩
      | i + 1, hm, hd =>
        rw [List.getElem?_cons_succ, List.getElem?_replicate] at hd
        split at hd <;> cases hd
    · exact (no (σ0 := []) (v0 := some (.ref a)) (v1 := none) i h1 h2).elim
    · exact (no (σ0 := []) (v0 := some (.ref a)) (v1 := none) i h1 h3).elim
  refine ⟨g0, _, _, _, _, R0, h1, fun p us H1 e1 s1 np hp r => ?_⟩
  have ev : us = s4 st0 := by
    have := r.ints (ns := [st0.1, st0.2.1, st0.2.2.1, st0.2.2.2])
    exact this
  rw [ev] at hp
  show canonSt K .fz lms u_law_rest _ _ H1
  have np' : a ≠ p → True := fun _ => trivial
  refine ⟨⟨some p, fun b => b = p, H1⟩, none :: some .src :: List.replicate (lms.length - 2) none, st0, .rt (.bl true), ρ', st', ?_, h2, fun v H' _ _ rv => ?_⟩
  · refine ⟨⟨fun b q => (by cases q; rfl), fun b q => (by
      show H1 b ≠ none
      rw [show b = p from q, hp]
      exact fun z => (by cases z))⟩, rfl, rfl, fun b q => (by cases q; exact hp), fun b o z _ => z, fun i m d hm hd => ?_, fun q ⟨i, h1, h2⟩ => ?_, fun i j q h1 _ h3 => ?_⟩
    · match i, hm, hd with
      | 0, hm, hd => cases hd
      | 1, hm, hd =>
        cases hm
        exact ⟨_, rfl, p, rfl, rfl⟩
      | i + 2, hm, hd =>
        rw [List.getElem?_cons_succ, List.getElem?_cons_succ, List.getElem?_replicate] at hd
        split at hd <;> cases hd
    · exact (no (σ0 := []) (v0 := some (.ref a)) (v1 := some (.ref p)) i h1 h2).elim
    · exact (no (σ0 := []) (v0 := some (.ref a)) (v1 := some (.ref p)) i h1 h3).elim
  · cases rv
    exact hQ H'
end
end Fw
set_option Elab.async false
set_option linter.all false
set_option maxRecDepth 100000
set_option maxHeartbeats 4000000
namespace Fw
open PySem PySem.Spec L2
variable {P : Program} {w : World} {K : PySem.W.Frag} {mg : Str → Option Value} {base : Heap}
/-! segment_at -/
theorem sc_segment_at : FnScope ["segments", "t", "place", "k"] ["segments", "t"] (defScope s_segment_at) := ⟨rfl, rfl, rfl, by decide +kernel, rfl, by decide +kernel, by decide +kernel⟩
theorem ok_segment_at (T : Tx w K mg) : Callee P w K mg base CX0 "segment_at" 1 [.fz, .fz] .fz f_segment_at := by
  obtain ⟨fd, F⟩ := T.def_ 0 (d := d_segment_at) rfl
  refine ⟨fd, ["segments", "t"], (T.glo 37), fn_ok (ms := [.fz, .fz, .fz, .fz]) (pm := [.fz, .fz]) (rk := .fz) (a := u_segment_at) F sc_segment_at rfl rfl rfl rfl fun cdv A outer s H E hr => ?_, F.kp, F.bindsN fun _ _ _ _ _ _ us hl => match us, hl with | [_, _], _ => rfl⟩
  exact (ss_cons (PS.imp (ps_set (i := 2) sc_segment_at.nd rfl (by first | exact Or.inl rfl | exact Or.inr rfl) pd_int) fun _ _ _ c => c_set rfl c)
  (ss_cons (PS.imp (ps_for PassesOwn.never rfl (pi_range2 rfl (T.free 1) (pa_cons pd_int (pa_cons (pd_b1 call_len rc_len (T.free 0) PySem.boot_len (pd_var 0)) pa_nil))) (pg_name (i := 3) sc_segment_at.nd rfl (by first | exact Or.inl rfl | exact Or.inr rfl))
  (ss_one (PS.imp (ps_if (ptd_cmp op_le rop_B0 (pd_fld (c := ("Segment" : PySem.Str)) (pd_ix (pd_var 0) (pd_var 3)) (T.cls 2) (T.noat 3)) (pd_var 1) (nomark _))
  (ss_one (PS.imp (ps_set (i := 2) sc_segment_at.nd rfl (by first | exact Or.inl rfl | exact Or.inr rfl) (pd_var 3)) fun _ _ _ c => c_set rfl c))
  ss_nil) fun _ _ _ c => c_if c))) fun _ _ _ c => c_forR2 (tg_name (i := 3) (vs := [3]) rfl (by decide)) c)
  (ss_one (PS.imp (ps_ret (pd_var 2)) fun _ _ _ c => c_ret c))))

/-! place_in -/
theorem sc_place_in : FnScope ["starts", "number", "low", "high", "middle"] ["starts", "number"] (defScope s_place_in) := ⟨rfl, rfl, rfl, by decide +kernel, rfl, by decide +kernel, by decide +kernel⟩
theorem ok_place_in (T : Tx w K mg) : Callee P w K mg base CX0 "place_in" 1 [.fz, .fz] .fz f_place_in := by
  obtain ⟨fd, F⟩ := T.def_ 10 (d := d_place_in) rfl
  refine ⟨fd, ["starts", "number"], (T.glo 38), fn_ok (ms := [.fz, .fz, .fz, .fz, .fz]) (pm := [.fz, .fz]) (rk := .fz) (a := u_place_in) F sc_place_in rfl rfl rfl rfl fun cdv A outer s H E hr => ?_, F.kp, F.bindsN fun _ _ _ _ _ _ us hl => match us, hl with | [_, _], _ => rfl⟩
  exact (ss_cons (PS.imp (ps_set (i := 2) sc_place_in.nd rfl (by first | exact Or.inl rfl | exact Or.inr rfl) pd_int) fun _ _ _ c => c_set rfl c)
  (ss_cons (PS.imp (ps_set (i := 3) sc_place_in.nd rfl (by first | exact Or.inl rfl | exact Or.inr rfl) (pd_bin op_sub rop_I0 (pd_b1 call_len rc_len (T.free 0) PySem.boot_len (pd_var 0)) pd_int)) fun _ _ _ c => c_set rfl c)
  (ss_cons (PS.imp (ps_while PassesOwn.never (ptd_cmp op_lt rop_B0 (pd_var 2) (pd_var 3) (nomark _))
  (ss_cons (PS.imp (ps_set (i := 4) sc_place_in.nd rfl (by first | exact Or.inl rfl | exact Or.inr rfl) (pd_bin op_fdivW rop_div (pd_bin op_addAll rop_add (pd_bin op_addAll rop_add (pd_var 2) (pd_var 3)) pd_int) pd_int)) fun _ _ _ c => c_set rfl c)
  (ss_one (PS.imp (ps_if (ptd_cmp op_le rop_B0 (pd_ix (pd_var 0) (pd_var 4)) (pd_var 1) (nomark _))
  (ss_one (PS.imp (ps_set (i := 2) sc_place_in.nd rfl (by first | exact Or.inl rfl | exact Or.inr rfl) (pd_var 4)) fun _ _ _ c => c_set rfl c))
  (ss_one (PS.imp (ps_set (i := 3) sc_place_in.nd rfl (by first | exact Or.inl rfl | exact Or.inr rfl) (pd_bin op_sub rop_I0 (pd_var 4) pd_int)) fun _ _ _ c => c_set rfl c))) fun _ _ _ c => c_if c)))) fun _ _ _ c => c_while c)
  (ss_one (PS.imp (ps_ret (pd_var 2)) fun _ _ _ c => c_ret c)))))

/-! is_long -/
theorem sc_is_long : FnScope ["leap", "year", "told", "number"] ["leap", "year"] (defScope s_is_long) := ⟨rfl, rfl, rfl, by decide +kernel, rfl, by decide +kernel, by decide +kernel⟩
theorem ok_is_long (T : Tx w K mg) : Callee P w K mg base CX0 "is_long" 1 [.fz, .fz] .fz f_is_long := by
  obtain ⟨fd, F⟩ := T.def_ 5 (d := d_is_long) rfl
  refine ⟨fd, ["leap", "year"], (T.glo 39), fn_ok (ms := [.fz, .fz, .fz, .fz]) (pm := [.fz, .fz]) (rk := .fz) (a := u_is_long) F sc_is_long rfl rfl rfl rfl fun cdv A outer s H E hr => ?_, F.kp, F.bindsN fun _ _ _ _ _ _ us hl => match us, hl with | [_, _], _ => rfl⟩
  exact (ss_cons (PS.imp (ps_if (ptd_cmp op_eq rop_eq (pd_ix (pd_var 0) pd_int) pd_str (nomark _))
  (ss_one (PS.imp (ps_ret pd_bl) fun _ _ _ c => c_ret c))
  ss_nil) fun _ _ _ c => c_if c)
  (ss_cons (PS.imp (ps_if (ptd_cmp op_eq rop_eq (pd_ix (pd_var 0) pd_int) pd_str (nomark _))
  (ss_one (PS.imp (ps_ret (pd_cmp op_in_seq (rop_in (neg := false)) (pd_bin op_mod rop_mod (pd_var 1) (pd_ix (pd_var 0) pd_int)) (pd_ix (pd_var 0) pd_int) (by rfl))) fun _ _ _ c => c_ret c))
  ss_nil) fun _ _ _ c => c_if c)
  (ss_cons (PS.imp (ps_set (i := 2) sc_is_long.nd rfl (by first | exact Or.inl rfl | exact Or.inr rfl) pd_bl) fun _ _ _ c => c_set rfl c)
  (ss_cons (PS.imp (ps_for PassesOwn.never rfl (pi_any (pd_sl (pd_var 0) (pp_some pd_int) pp_none)) (pg_name (i := 3) sc_is_long.nd rfl (by first | exact Or.inl rfl | exact Or.inr rfl))
  (ss_one (PS.imp (ps_if (ptd_cmp op_eq rop_eq (pd_bin op_mod rop_mod (pd_var 1) (pd_var 3)) pd_int (nomark _))
  (ss_one (PS.imp (ps_set (i := 2) sc_is_long.nd rfl (by first | exact Or.inl rfl | exact Or.inr rfl) (pd_notV (pd_var 2))) fun _ _ _ c => c_set rfl c))
  ss_nil) fun _ _ _ c => c_if c))) fun _ _ _ c => c_forA (tg_name (i := 3) (vs := [3]) rfl (by decide)) c)
  (ss_one (PS.imp (ps_ret (pd_var 2)) fun _ _ _ c => c_ret c))))))

/-! Segment.starts -/
theorem sc_Segment_starts : FnScope ["self", "year"] ["self", "year"] (defScope s_Segment_starts) := ⟨rfl, rfl, rfl, by decide +kernel, rfl, by decide +kernel, by decide +kernel⟩
theorem ok_Segment_starts (T : Tx w K mg) (C_is_long : Callee P w K mg base CX0 "is_long" 1 [.fz, .fz] .fz f_is_long) : MethC P w K mg base CX0 "Segment" "starts" 2 [.fz, .fz] f_Segment_starts := by
  obtain ⟨fd, F⟩ := T.def_ 12 (d := d_Segment_starts) rfl
  refine ⟨fd, ["self", "year"], (T.cls 2), (T.meth 40), fn_ok (ms := [.fz, .fz]) (pm := [.fz, .fz]) (rk := .fz) (a := u_Segment_starts) F sc_Segment_starts rfl rfl rfl rfl fun cdv A outer s H E hr => ?_, F.bindsN fun _ _ _ _ _ _ us hl => match us, hl with | [_, _], _ => rfl⟩
  exact (ss_one (PS.imp (ps_ret (pd_if (pt_tr (pd_callC C_is_long hr (by decide) pass0 (ad_cons (pd_fld (c := ("Segment" : PySem.Str)) (pd_var 0) (T.cls 2) (T.noat 4)) (ad_cons (pd_var 1) ad_nil)))) (pd_fld (c := ("Segment" : PySem.Str)) (pd_var 0) (T.cls 2) (T.noat 5)) (pd_fld (c := ("Segment" : PySem.Str)) (pd_var 0) (T.cls 2) (T.noat 6)))) fun _ _ _ c => c_ret c))

/-! Segment.date_of -/
theorem sc_Segment_date_of : FnScope ["self", "day", "rest", "place", "year", "starts", "month"] ["self", "day"] (defScope s_Segment_date_of) := ⟨rfl, rfl, rfl, by decide +kernel, rfl, by decide +kernel, by decide +kernel⟩
theorem ok_Segment_date_of (T : Tx w K mg) (C_place_in : Callee P w K mg base CX0 "place_in" 1 [.fz, .fz] .fz f_place_in) (C_Segment_starts : MethC P w K mg base CX0 "Segment" "starts" 2 [.fz, .fz] f_Segment_starts) : MethC P w K mg base CX0 "Segment" "date_of" 3 [.fz, .fz] f_Segment_date_of := by
  obtain ⟨fd, F⟩ := T.def_ 15 (d := d_Segment_date_of) rfl
  refine ⟨fd, ["self", "day"], (T.cls 2), (T.meth 41), fn_ok (ms := [.fz, .fz, .fz, .fz, .fz, .fz, .fz]) (pm := [.fz, .fz]) (rk := .fz) (a := u_Segment_date_of) F sc_Segment_date_of rfl rfl rfl rfl fun cdv A outer s H E hr => ?_, F.bindsN fun _ _ _ _ _ _ us hl => match us, hl with | [_, _], _ => rfl⟩
  exact (ss_cons (PS.imp (ps_set (i := 2) sc_Segment_date_of.nd rfl (by first | exact Or.inl rfl | exact Or.inr rfl) (pd_bin op_mod rop_mod (pd_var 1) (pd_fld (c := ("Segment" : PySem.Str)) (pd_var 0) (T.cls 2) (T.noat 7)))) fun _ _ _ c => c_set rfl c)
  (ss_cons (PS.imp (ps_set (i := 3) sc_Segment_date_of.nd rfl (by first | exact Or.inl rfl | exact Or.inr rfl) (pd_callC C_place_in hr (by decide) pass0 (ad_cons (pd_fld (c := ("Segment" : PySem.Str)) (pd_var 0) (T.cls 2) (T.noat 8)) (ad_cons (pd_var 2) ad_nil)))) fun _ _ _ c => c_set rfl c)
  (ss_cons (PS.imp (ps_set (i := 4) sc_Segment_date_of.nd rfl (by first | exact Or.inl rfl | exact Or.inr rfl) (pd_bin op_addAll rop_add (pd_bin op_mulAll rop_mul (pd_bin op_fdivW rop_div (pd_var 1) (pd_fld (c := ("Segment" : PySem.Str)) (pd_var 0) (T.cls 2) (T.noat 7))) (pd_fld (c := ("Segment" : PySem.Str)) (pd_var 0) (T.cls 2) (T.noat 9))) (pd_var 3))) fun _ _ _ c => c_set rfl c)
  (ss_cons (PS.imp (ps_set (i := 2) sc_Segment_date_of.nd rfl (by first | exact Or.inl rfl | exact Or.inr rfl) (pd_bin op_sub rop_I0 (pd_var 2) (pd_ix (pd_fld (c := ("Segment" : PySem.Str)) (pd_var 0) (T.cls 2) (T.noat 8)) (pd_var 3)))) fun _ _ _ c => c_set rfl c)
  (ss_cons (PS.imp (ps_set (i := 5) sc_Segment_date_of.nd rfl (by first | exact Or.inl rfl | exact Or.inr rfl) (pd_methC (c := ("Segment" : PySem.Str)) C_Segment_starts hr (by decide) pass0 (pd_var 0) (ad_cons (pd_var 4) ad_nil))) fun _ _ _ c => c_set rfl c)
  (ss_cons (PS.imp (ps_set (i := 6) sc_Segment_date_of.nd rfl (by first | exact Or.inl rfl | exact Or.inr rfl) (pd_callC C_place_in hr (by decide) pass0 (ad_cons (pd_var 5) (ad_cons (pd_var 2) ad_nil)))) fun _ _ _ c => c_set rfl c)
  (ss_one (PS.imp (ps_ret (pd_tup (ad_cons (pd_var 4) (ad_cons (pd_bin op_addAll rop_add (pd_var 6) pd_int) (ad_cons (pd_bin op_addAll rop_add (pd_bin op_sub rop_I0 (pd_var 2) (pd_ix (pd_var 5) (pd_var 6))) pd_int) ad_nil))) (by decide))) fun _ _ _ c => c_ret c))))))))

/-! Segment.day_at -/
theorem sc_Segment_day_at : FnScope ["self", "t"] ["self", "t"] (defScope s_Segment_day_at) := ⟨rfl, rfl, rfl, by decide +kernel, rfl, by decide +kernel, by decide +kernel⟩
theorem ok_Segment_day_at (T : Tx w K mg) : MethC P w K mg base CX0 "Segment" "day_at" 1 [.fz, .fz] f_Segment_day_at := by
  obtain ⟨fd, F⟩ := T.def_ 16 (d := d_Segment_day_at) rfl
  refine ⟨fd, ["self", "t"], (T.cls 2), (T.meth 42), fn_ok (ms := [.fz, .fz]) (pm := [.fz, .fz]) (rk := .fz) (a := u_Segment_day_at) F sc_Segment_day_at rfl rfl rfl rfl fun cdv A outer s H E hr => ?_, F.bindsN fun _ _ _ _ _ _ us hl => match us, hl with | [_, _], _ => rfl⟩
  exact (ss_one (PS.imp (ps_ret (pd_bin op_addAll rop_add (pd_fld (c := ("Segment" : PySem.Str)) (pd_var 0) (T.cls 2) (T.noat 10)) (pd_bin op_fdivW rop_div (pd_bin op_addAll rop_add (pd_bin op_sub rop_I0 (pd_var 1) (pd_fld (c := ("Segment" : PySem.Str)) (pd_var 0) (T.cls 2) (T.noat 3))) (pd_fld (c := ("Segment" : PySem.Str)) (pd_var 0) (T.cls 2) (T.noat 11))) (pd_fld (c := ("Segment" : PySem.Str)) (pd_var 0) (T.cls 2) (T.noat 12))))) fun _ _ _ c => c_ret c))

/-! name_at -/
theorem sc_name_at : FnScope ["segments", "level", "t", "segment"] ["segments", "level", "t"] (defScope s_name_at) := ⟨rfl, rfl, rfl, by decide +kernel, rfl, by decide +kernel, by decide +kernel⟩
theorem ok_name_at (T : Tx w K mg) (C_segment_at : Callee P w K mg base CX0 "segment_at" 1 [.fz, .fz] .fz f_segment_at) (C_Segment_date_of : MethC P w K mg base CX0 "Segment" "date_of" 3 [.fz, .fz] f_Segment_date_of) (C_Segment_day_at : MethC P w K mg base CX0 "Segment" "day_at" 1 [.fz, .fz] f_Segment_day_at) : Callee P w K mg base CX0 "name_at" 4 [.fz, .fz, .fz] .fz f_name_at := by
  obtain ⟨fd, F⟩ := T.def_ 1 (d := d_name_at) rfl
  refine ⟨fd, ["segments", "level", "t"], (T.glo 43), fn_ok (ms := [.fz, .fz, .fz, .fz]) (pm := [.fz, .fz, .fz]) (rk := .fz) (a := u_name_at) F sc_name_at rfl rfl rfl rfl fun cdv A outer s H E hr => ?_, F.kp, F.bindsN fun _ _ _ _ _ _ us hl => match us, hl with | [_, _, _], _ => rfl⟩
  exact (ss_cons (PS.imp (ps_set (i := 3) sc_name_at.nd rfl (by first | exact Or.inl rfl | exact Or.inr rfl) (pd_ix (pd_var 0) (pd_callC C_segment_at hr (by decide) pass0 (ad_cons (pd_var 0) (ad_cons (pd_var 2) ad_nil))))) fun _ _ _ c => c_set rfl c)
  (ss_one (PS.imp (ps_ret (pd_sl (pd_methC (c := ("Segment" : PySem.Str)) C_Segment_date_of hr (by decide) pass0 (pd_var 3) (ad_cons (pd_methC (c := ("Segment" : PySem.Str)) C_Segment_day_at hr (by decide) pass0 (pd_var 3) (ad_cons (pd_var 2) ad_nil)) ad_nil)) pp_none (pp_some (pd_tab (tab := tab_SIZES) (T.glo 13) (T.tab_SIZES) (pd_var 1))))) fun _ _ _ c => c_ret c)))

/-! leap_numbers -/
theorem sc_leap_numbers : FnScope ["leap"] ["leap"] (defScope s_leap_numbers) := ⟨rfl, rfl, rfl, by decide +kernel, rfl, by decide +kernel, by decide +kernel⟩
theorem ok_leap_numbers (T : Tx w K mg) : Callee P w K mg base CX0 "leap_numbers" 1 [.fz] .fz f_leap_numbers := by
  obtain ⟨fd, F⟩ := T.def_ 2 (d := d_leap_numbers) rfl
  refine ⟨fd, ["leap"], (T.glo 44), fn_ok (ms := [.fz]) (pm := [.fz]) (rk := .fz) (a := u_leap_numbers) F sc_leap_numbers rfl rfl rfl rfl fun cdv A outer s H E hr => ?_, F.kp, F.bindsN fun _ _ _ _ _ _ us hl => match us, hl with | [_], _ => rfl⟩
  exact (ss_cons (PS.imp (ps_if (ptd_cmp op_eq rop_eq (pd_ix (pd_var 0) pd_int) pd_str (nomark _))
  (ss_one (PS.imp (ps_ret (pd_bin op_addAll rop_add (pd_ofN (pn_lst (ad_cons (pd_ix (pd_var 0) pd_int) ad_nil) (by decide))) (pd_t1 call_list_of rc_list (T.free 14) PyProof.Rows.boot_list (pd_ix (pd_var 0) pd_int)))) fun _ _ _ c => c_ret c))
  ss_nil) fun _ _ _ c => c_if c)
  (ss_one (PS.imp (ps_ret (pd_t1 call_list_of rc_list (T.free 14) PyProof.Rows.boot_list (pd_sl (pd_var 0) (pp_some pd_int) pp_none))) fun _ _ _ c => c_ret c)))

/-! leap_fits -/
theorem sc_leap_fits : FnScope ["leap", "above", "rest", "numbers", "k"] ["leap"] (defScope s_leap_fits) := ⟨rfl, rfl, rfl, by decide +kernel, rfl, by decide +kernel, by decide +kernel⟩
theorem ok_leap_fits (T : Tx w K mg) : Callee P w K mg base CX0 "leap_fits" 1 [.fz] .fz f_leap_fits := by
  obtain ⟨fd, F⟩ := T.def_ 3 (d := d_leap_fits) rfl
  refine ⟨fd, ["leap"], (T.glo 45), fn_ok (ms := [.fz, .fz, .fz, .fz, .fz]) (pm := [.fz]) (rk := .fz) (a := u_leap_fits) F sc_leap_fits rfl rfl rfl rfl fun cdv A outer s H E hr => ?_, F.kp, F.bindsN fun _ _ _ _ _ _ us hl => match us, hl with | [_], _ => rfl⟩
  exact (ss_cons (PS.imp (ps_if (ptd_cmp op_eq rop_eq (pd_ix (pd_var 0) pd_int) pd_str (nomark _))
  (ss_cons (PS.imp (ps_if (PW.pt (ptw_or (ptd_cmp op_lt rop_B0 (pd_ix (pd_var 0) pd_int) pd_int (nomark _)) (ptw_one (ptd_cmp op_eq rop_eq (pd_b1 call_len rc_len (T.free 0) PySem.boot_len (pd_ix (pd_var 0) pd_int)) pd_int (nomark _)))))
  (ss_one (PS.imp (ps_ret pd_bl) fun _ _ _ c => c_ret c))
  ss_nil) fun _ _ _ c => c_if c)
  (ss_cons (PS.imp (ps_set (i := 1) sc_leap_fits.nd rfl (by first | exact Or.inl rfl | exact Or.inr rfl) (pd_un un_neg run_neg pd_int)) fun _ _ _ c => c_set rfl c)
  (ss_cons (PS.imp (ps_for PassesOwn.never rfl (pi_any (pd_ix (pd_var 0) pd_int)) (pg_name (i := 2) sc_leap_fits.nd rfl (by first | exact Or.inl rfl | exact Or.inr rfl))
  (ss_cons (PS.imp (ps_if (PW.pt (ptw_or (ptd_cmp op_le rop_B0 (pd_var 2) (pd_var 1) (nomark _)) (ptw_one (ptd_cmp op_ge rop_B0 (pd_var 2) (pd_ix (pd_var 0) pd_int) (nomark _)))))
  (ss_one (PS.imp (ps_ret pd_bl) fun _ _ _ c => c_ret c))
  ss_nil) fun _ _ _ c => c_if c)
  (ss_one (PS.imp (ps_set (i := 1) sc_leap_fits.nd rfl (by first | exact Or.inl rfl | exact Or.inr rfl) (pd_var 2)) fun _ _ _ c => c_set rfl c)))) fun _ _ _ c => c_forA (tg_name (i := 2) (vs := [2]) rfl (by decide)) c)
  (ss_one (PS.imp (ps_ret pd_bl) fun _ _ _ c => c_ret c)))))
  ss_nil) fun _ _ _ c => c_if c)
  (ss_cons (PS.imp (ps_set (i := 3) sc_leap_fits.nd rfl (by first | exact Or.inl rfl | exact Or.inr rfl) (pd_t1 call_list_of rc_list (T.free 14) PyProof.Rows.boot_list (pd_sl (pd_var 0) (pp_some pd_int) pp_none))) fun _ _ _ c => c_set rfl c)
  (ss_cons (PS.imp (ps_for PassesOwn.never rfl (pi_range1 rfl (T.free 1) (pa_cons (pd_b1 call_len rc_len (T.free 0) PySem.boot_len (pd_var 3)) pa_nil)) (pg_name (i := 4) sc_leap_fits.nd rfl (by first | exact Or.inl rfl | exact Or.inr rfl))
  (ss_one (PS.imp (ps_if (PW.pt (ptw_or (ptd_cmp op_lt rop_B0 (pd_ix (pd_var 3) (pd_var 4)) pd_int (nomark _)) (ptw_one (PW.pt (ptw_and (ptd_cmp op_gt rop_B0 (pd_var 4) pd_int (nomark _)) (ptw_one (ptd_cmp op_ne rop_ne (pd_bin op_mod rop_mod (pd_ix (pd_var 3) (pd_var 4)) (pd_ix (pd_var 3) (pd_bin op_sub rop_I0 (pd_var 4) pd_int))) pd_int (nomark _))))))))
  (ss_one (PS.imp (ps_ret pd_bl) fun _ _ _ c => c_ret c))
  ss_nil) fun _ _ _ c => c_if c))) fun _ _ _ c => c_forR1 (tg_name (i := 4) (vs := [4]) rfl (by decide)) c)
  (ss_one (PS.imp (ps_ret pd_bl) fun _ _ _ c => c_ret c)))))

/-! leap_round -/
theorem sc_leap_round : FnScope ["leap"] ["leap"] (defScope s_leap_round) := ⟨rfl, rfl, rfl, by decide +kernel, rfl, by decide +kernel, by decide +kernel⟩
theorem ok_leap_round (T : Tx w K mg) : Callee P w K mg base CX0 "leap_round" 1 [.fz] .fz f_leap_round := by
  obtain ⟨fd, F⟩ := T.def_ 4 (d := d_leap_round) rfl
  refine ⟨fd, ["leap"], (T.glo 46), fn_ok (ms := [.fz]) (pm := [.fz]) (rk := .fz) (a := u_leap_round) F sc_leap_round rfl rfl rfl rfl fun cdv A outer s H E hr => ?_, F.kp, F.bindsN fun _ _ _ _ _ _ us hl => match us, hl with | [_], _ => rfl⟩
  exact (ss_cons (PS.imp (ps_if (ptd_cmp op_eq rop_eq (pd_ix (pd_var 0) pd_int) pd_str (nomark _))
  (ss_one (PS.imp (ps_ret pd_int) fun _ _ _ c => c_ret c))
  ss_nil) fun _ _ _ c => c_if c)
  (ss_cons (PS.imp (ps_if (ptd_cmp op_eq rop_eq (pd_ix (pd_var 0) pd_int) pd_str (nomark _))
  (ss_one (PS.imp (ps_ret (pd_ix (pd_var 0) pd_int)) fun _ _ _ c => c_ret c))
  ss_nil) fun _ _ _ c => c_if c)
  (ss_one (PS.imp (ps_ret (pd_ix (pd_var 0) (pd_bin op_sub rop_I0 (pd_b1 call_len rc_len (T.free 0) PySem.boot_len (pd_var 0)) pd_int))) fun _ _ _ c => c_ret c))))

/-! too_many -/
theorem sc_too_many : FnScope ["what", "kind", "number"] ["what", "kind", "number"] (defScope s_too_many) := ⟨rfl, rfl, rfl, by decide +kernel, rfl, by decide +kernel, by decide +kernel⟩
theorem ok_too_many (T : Tx w K mg) : Callee P w K mg base CX0 "too_many" 1 [.fz, .fz, .fz] .fz f_too_many := by
  obtain ⟨fd, F⟩ := T.def_ 6 (d := d_too_many) rfl
  refine ⟨fd, ["what", "kind", "number"], (T.glo 47), fn_ok (ms := [.fz, .fz, .fz]) (pm := [.fz, .fz, .fz]) (rk := .fz) (a := u_too_many) F sc_too_many rfl rfl rfl rfl fun cdv A outer s H E hr => ?_, F.kp, F.bindsN fun _ _ _ _ _ _ us hl => match us, hl with | [_, _, _], _ => rfl⟩
  exact (ss_one (PS.imp (ps_if (ptd_cmp op_gt rop_B0 (pd_var 2) (pd_tab (tab := tab_MOST) (T.glo 15) (T.tab_MOST) (pd_var 1)) (nomark _))
  (ss_one (PS.imp ps_never fun _ _ _ c => c_never c))
  ss_nil) fun _ _ _ c => c_if c))

/-! number_check -/
theorem sc_number_check : FnScope ["numbers", "number"] ["numbers"] (defScope s_number_check) := ⟨rfl, rfl, rfl, by decide +kernel, rfl, by decide +kernel, by decide +kernel⟩
theorem ok_number_check (T : Tx w K mg) : Callee P w K mg base CX0 "number_check" 1 [.fz] .fz f_number_check := by
  obtain ⟨fd, F⟩ := T.def_ 7 (d := d_number_check) rfl
  refine ⟨fd, ["numbers"], (T.glo 48), fn_ok (ms := [.fz, .fz]) (pm := [.fz]) (rk := .fz) (a := u_number_check) F sc_number_check rfl rfl rfl rfl fun cdv A outer s H E hr => ?_, F.kp, F.bindsN fun _ _ _ _ _ _ us hl => match us, hl with | [_], _ => rfl⟩
  exact (ss_one (PS.imp (ps_for PassesOwn.never rfl (pi_any (pd_var 0)) (pg_name (i := 1) sc_number_check.nd rfl (by first | exact Or.inl rfl | exact Or.inr rfl))
  (ss_one (PS.imp (ps_if (ptd_cmp op_gt rop_B0 (pd_b1 call_abs rc_abs (T.free 16) PyProof.Rows.boot_abs (pd_var 1)) (pd_tab (tab := tab_MOST) (T.glo 15) (T.tab_MOST) pd_str) (nomark _))
  (ss_one (PS.imp ps_never fun _ _ _ c => c_never c))
  ss_nil) fun _ _ _ c => c_if c))) fun _ _ _ c => c_forA (tg_name (i := 1) (vs := [1]) rfl (by decide)) c))

/-! segment_limits -/
theorem sc_segment_limits : FnScope ["row", "lengths", "length", "number", "cycle"] ["row"] (defScope s_segment_limits) := ⟨rfl, rfl, rfl, by decide +kernel, rfl, by decide +kernel, by decide +kernel⟩
theorem ok_segment_limits (T : Tx w K mg) (C_too_many : Callee P w K mg base CX0 "too_many" 1 [.fz, .fz, .fz] .fz f_too_many) (C_leap_numbers : Callee P w K mg base CX0 "leap_numbers" 1 [.fz] .fz f_leap_numbers) : Callee P w K mg base CX0 "segment_limits" 2 [.fz] .fz f_segment_limits := by
  obtain ⟨fd, F⟩ := T.def_ 8 (d := d_segment_limits) rfl
  refine ⟨fd, ["row"], (T.glo 49), fn_ok (ms := [.fz, .fz, .fz, .fz, .fz]) (pm := [.fz]) (rk := .fz) (a := u_segment_limits) F sc_segment_limits rfl rfl rfl rfl fun cdv A outer s H E hr => ?_, F.kp, F.bindsN fun _ _ _ _ _ _ us hl => match us, hl with | [_], _ => rfl⟩
  exact (ss_cons (PS.imp (ps_for PassesOwn.never rfl (pi_any (pd_tup (ad_cons (pd_ix (pd_var 0) pd_int) (ad_cons (pd_ix (pd_var 0) pd_int) ad_nil)) (by decide))) (pg_name (i := 1) sc_segment_limits.nd rfl (by first | exact Or.inl rfl | exact Or.inr rfl))
  (ss_cons (PS.imp (ps_expr (pd_callC C_too_many hr (by decide) pass0 (ad_cons pd_str (ad_cons pd_str (ad_cons (pd_b1 call_len rc_len (T.free 0) PySem.boot_len (pd_var 1)) ad_nil))))) fun _ _ _ c => c_drop c)
  (ss_one (PS.imp (ps_for PassesOwn.never rfl (pi_any (pd_var 1)) (pg_name (i := 2) sc_segment_limits.nd rfl (by first | exact Or.inl rfl | exact Or.inr rfl))
  (ss_one (PS.imp (ps_expr (pd_callC C_too_many hr (by decide) pass0 (ad_cons pd_str (ad_cons pd_str (ad_cons (pd_var 2) ad_nil))))) fun _ _ _ c => c_drop c))) fun _ _ _ c => c_forA (tg_name (i := 2) (vs := [2]) rfl (by decide)) c)))) fun _ _ _ c => c_forA (tg_name (i := 1) (vs := [1]) rfl (by decide)) c)
  (ss_cons (PS.imp (ps_expr (pd_callC C_too_many hr (by decide) pass0 (ad_cons pd_str (ad_cons pd_str (ad_cons (pd_ix (pd_var 0) pd_int) ad_nil))))) fun _ _ _ c => c_drop c)
  (ss_cons (PS.imp (ps_for PassesOwn.never rfl (pi_any (pd_callC C_leap_numbers hr (by decide) pass0 (ad_cons (pd_ix (pd_var 0) pd_int) ad_nil))) (pg_name (i := 3) sc_segment_limits.nd rfl (by first | exact Or.inl rfl | exact Or.inr rfl))
  (ss_one (PS.imp (ps_expr (pd_callC C_too_many hr (by decide) pass0 (ad_cons pd_str (ad_cons pd_str (ad_cons (pd_var 3) ad_nil))))) fun _ _ _ c => c_drop c))) fun _ _ _ c => c_forA (tg_name (i := 3) (vs := [3]) rfl (by decide)) c)
  (ss_one (PS.imp (ps_for PassesOwn.never rfl (pi_any (pd_ix (pd_var 0) pd_int)) (pg_name (i := 4) sc_segment_limits.nd rfl (by first | exact Or.inl rfl | exact Or.inr rfl))
  (ss_one (PS.imp (ps_expr (pd_callC C_too_many hr (by decide) pass0 (ad_cons pd_str (ad_cons pd_str (ad_cons (pd_ix (pd_var 4) pd_int) ad_nil))))) fun _ _ _ c => c_drop c))) fun _ _ _ c => c_forA (tg_name (i := 4) (vs := [4]) rfl (by decide)) c)))))

/-! starts_of -/
theorem sc_starts_of : FnScope ["lengths", "starts", "length"] ["lengths"] (defScope s_starts_of) := ⟨rfl, rfl, rfl, by decide +kernel, rfl, by decide +kernel, by decide +kernel⟩
theorem ok_starts_of (T : Tx w K mg) : Callee P w K mg base CX0 "starts_of" 1 [.fz] .nw f_starts_of := by
  obtain ⟨fd, F⟩ := T.def_ 9 (d := d_starts_of) rfl
  refine ⟨fd, ["lengths"], (T.glo 50), fn_ok (ms := [.fz, .own, .fz]) (pm := [.fz]) (rk := .nw) (a := u_starts_of) F sc_starts_of rfl rfl rfl rfl fun cdv A outer s H E hr => ?_, F.kp, F.bindsN fun _ _ _ _ _ _ us hl => match us, hl with | [_], _ => rfl⟩
  exact (ss_cons (PS.imp (ps_set (i := 1) sc_starts_of.nd rfl (by first | exact Or.inl rfl | exact Or.inr rfl) (pn_lst (ad_cons pd_int ad_nil) (by decide))) fun _ _ _ c => c_setN rfl c)
  (ss_cons (PS.imp (ps_for PassesOwn.never rfl (pi_any (pd_var 0)) (pg_name (i := 2) sc_starts_of.nd rfl (by first | exact Or.inl rfl | exact Or.inr rfl))
  (ss_one (PS.imp (ps_expr (pe_bm PySem.F.plainAttrs_list PySem.F.slot_list_append PySem.F.type_list_append mt_append (pv 1) (pa_cons (pd_bin op_addAll rop_add (pd_ixL (pl_var 1) (pd_bin op_sub rop_I0 (pd_b1L call_len rl_len (T.free 0) PySem.boot_len (pl_var 1)) pd_int)) (pd_var 2)) pa_nil))) fun _ _ _ c => c_app rfl c))) fun _ _ _ c => c_forA (tg_name (i := 2) (vs := [2]) rfl (by decide)) c)
  (ss_one (PS.imp (ps_ret (pv 1)) fun _ _ _ c => c_retOwn rfl c))))

/-! Segment.day_of -/
theorem sc_Segment_day_of : FnScope ["self", "date", "year", "day"] ["self", "date"] (defScope s_Segment_day_of) := ⟨rfl, rfl, rfl, by decide +kernel, rfl, by decide +kernel, by decide +kernel⟩
theorem ok_Segment_day_of (T : Tx w K mg) (C_Segment_starts : MethC P w K mg base CX0 "Segment" "starts" 2 [.fz, .fz] f_Segment_starts) : MethC P w K mg base CX0 "Segment" "day_of" 3 [.fz, .fz] f_Segment_day_of := by
  obtain ⟨fd, F⟩ := T.def_ 14 (d := d_Segment_day_of) rfl
  refine ⟨fd, ["self", "date"], (T.cls 2), (T.meth 51), fn_ok (ms := [.fz, .fz, .fz, .fz]) (pm := [.fz, .fz]) (rk := .fz) (a := u_Segment_day_of) F sc_Segment_day_of rfl rfl rfl rfl fun cdv A outer s H E hr => ?_, F.bindsN fun _ _ _ _ _ _ us hl => match us, hl with | [_, _], _ => rfl⟩
  exact (ss_cons (PS.imp (ps_set (i := 2) sc_Segment_day_of.nd rfl (by first | exact Or.inl rfl | exact Or.inr rfl) (pd_ix (pd_var 1) pd_int)) fun _ _ _ c => c_set rfl c)
  (ss_cons (PS.imp (ps_set (i := 3) sc_Segment_day_of.nd rfl (by first | exact Or.inl rfl | exact Or.inr rfl) (pd_bin op_addAll rop_add (pd_bin op_mulAll rop_mul (pd_bin op_fdivW rop_div (pd_var 2) (pd_fld (c := ("Segment" : PySem.Str)) (pd_var 0) (T.cls 2) (T.noat 9))) (pd_fld (c := ("Segment" : PySem.Str)) (pd_var 0) (T.cls 2) (T.noat 7))) (pd_ix (pd_fld (c := ("Segment" : PySem.Str)) (pd_var 0) (T.cls 2) (T.noat 8)) (pd_bin op_mod rop_mod (pd_var 2) (pd_fld (c := ("Segment" : PySem.Str)) (pd_var 0) (T.cls 2) (T.noat 9)))))) fun _ _ _ c => c_set rfl c)
  (ss_one (PS.imp (ps_ret (pd_bin op_sub rop_I0 (pd_bin op_addAll rop_add (pd_bin op_addAll rop_add (pd_var 3) (pd_ix (pd_methC (c := ("Segment" : PySem.Str)) C_Segment_starts hr (by decide) pass0 (pd_var 0) (ad_cons (pd_var 2) ad_nil)) (pd_bin op_sub rop_I0 (pd_ix (pd_var 1) pd_int) pd_int))) (pd_ix (pd_var 1) pd_int)) pd_int)) fun _ _ _ c => c_ret c))))

/-! Segment.__init__ -/
theorem sc_Segment___init__ : FnScope ["self", "row", "year", "starts", "cycle"] ["self", "row"] (defScope s_Segment___init__) := ⟨rfl, rfl, rfl, by decide +kernel, rfl, by decide +kernel, by decide +kernel⟩
theorem ok_Segment___init__ (T : Tx w K mg) (C_starts_of : Callee P w K mg base CX0 "starts_of" 1 [.fz] .nw f_starts_of) (C_leap_round : Callee P w K mg base CX0 "leap_round" 1 [.fz] .fz f_leap_round) (C_Segment_starts : MethC P w K mg base CX0 "Segment" "starts" 2 [.fz, .fz] f_Segment_starts) (C_Segment_day_of : MethC P w K mg base CX0 "Segment" "day_of" 3 [.fz, .fz] f_Segment_day_of) : MakeC P w K mg base CX0 "Segment" 4 [.fz] [] f_Segment___init__ := by
  obtain ⟨fd, F⟩ := T.def_ 11 (d := d_Segment___init__) rfl
  have na : ∀ f, f ∈ (["tick", "width", "into", "date", "leap", "cycles", "common", "longer", "years", "year_days", "year_months", "days", "months", "first_day"] : List Str) → NoAttr K (He.ga K "Segment") f := fun f hf => by
    have := hf
    simp only [List.mem_cons, List.not_mem_nil, or_false] at this
    rcases this with rfl | rfl | rfl | rfl | rfl | rfl | rfl | rfl | rfl | rfl | rfl | rfl | rfl | rfl
    · exact (T.noat 3)
    · exact (T.noat 12)
    · exact (T.noat 11)
    · exact (T.noat 19)
    · exact (T.noat 4)
    · exact (T.noat 20)
    · exact (T.noat 6)
    · exact (T.noat 5)
    · exact (T.noat 9)
    · exact (T.noat 8)
    · exact (T.noat 18)
    · exact (T.noat 7)
    · exact (T.noat 21)
    · exact (T.noat 10)
  refine ⟨fd, ["self", "row"], [], (T.glo 22), (T.mk_ 23), F.ok sc_Segment___init__ (fun vs H Q E h => ?_) (fun cdv A outer s H vs Q E hr h => ⟨t_segInit K, PSs.nox ?_, seg_pure (T.cls 2) na rfl h⟩), F.bindsN fun _ _ _ _ _ _ us hl => match us, hl with | [_, _], _ => rfl, .nil⟩
  · obtain ⟨_, _, _, _, _, _, _, ws, rfl, _, _, _, _, _, _, _, _, ra, _⟩ := h
    exact congrArg Nat.succ ra.len.1
  exact (pss_cons (ps_fld (pv 0) (pd_ix (pd_var 1) pd_int) (by rfl))
  (pss_cons (ps_fld (pv 0) (pd_ix (pd_var 1) pd_int) (by rfl))
  (pss_cons (ps_fld (pv 0) (pd_ix (pd_var 1) pd_int) (by rfl))
  (pss_cons (ps_fld (pv 0) (pd_t1 call_tuple_of rc_tup (T.free 17) PyProof.Rows.boot_tuple (pd_ix (pd_var 1) pd_int)) (by rfl))
  (pss_cons (ps_fld (pv 0) (pd_ix (pd_var 1) pd_int) (by rfl))
  (pss_cons (ps_fld (pv 0) (pd_ofN (pn_lc (own := [("cycle", 4)]) (ul := (uLc [4] (uItems (uOp dIx (uVar 1) (uC (.int 7)))) (bName 4) tYesU (uUn dTup (uVar 4)))) rfl sc_Segment___init__.nd (pi_any (pd_ix (pd_var 1) pd_int)) (blkOk_by (own := [("cycle", 4)]) (by kernel_rfl)) (fun {_ _ _} c => lcA (vs := [4]) (fz_all (by first | decide | rfl)) (tg_name (i := 4) rfl (by decide)) c) (fun _ _ _ _ _ => (pg_name (i := 4) sc_Segment___init__.nd rfl (Or.inl rfl))) (fun _ _ _ _ _ => pts_yes) (fun _ _ _ _ _ => (pd_t1 call_tuple_of rc_tup (T.free 17) PyProof.Rows.boot_tuple (pd_var 4))))) (by rfl))
  (pss_cons (ps_fld (pv 0) (pd_ofN (pn_callC C_starts_of hr (by decide) pass0 (ad_cons (pd_ix (pd_var 1) pd_int) ad_nil))) (by rfl))
  (pss_cons (ps_fld (pv 0) (pd_ofN (pn_callC C_starts_of hr (by decide) pass0 (ad_cons (pd_ix (pd_var 1) pd_int) ad_nil))) (by rfl))
  (pss_cons (ps_fld (pv 0) (pd_callC C_leap_round hr (by decide) pass0 (ad_cons (pd_fld (c := ("Segment" : PySem.Str)) (pd_var 0) (T.cls 2) (T.noat 4)) ad_nil)) (by rfl))
  (pss_cons (ps_fld (pv 0) (pn_lst (ad_cons pd_int ad_nil) (by decide)) (by rfl))
  (pss_cons (ps_fld (pv 0) (pn_lst (ad_cons pd_int ad_nil) (by decide)) (by rfl))
  (pss_cons (ps_for PassesOwn.never rfl (pi_range1 rfl (T.free 1) (pa_cons (pd_fld (c := ("Segment" : PySem.Str)) (pd_var 0) (T.cls 2) (T.noat 9)) pa_nil)) (pg_name (i := 2) sc_Segment___init__.nd rfl (by first | exact Or.inl rfl | exact Or.inr rfl))
  (pss_cons (ps_set (i := 3) sc_Segment___init__.nd rfl (by first | exact Or.inl rfl | exact Or.inr rfl) (pd_methC (c := ("Segment" : PySem.Str)) C_Segment_starts hr (by decide) pass0 (pd_var 0) (ad_cons (pd_var 2) ad_nil)))
  (pss_cons (ps_expr (pe_bm PySem.F.plainAttrs_list PySem.F.slot_list_append PySem.F.type_list_append mt_append (pe_fld (pv 0) (by rfl)) (pa_cons (pd_bin op_addAll rop_add (pd_ix (pd_fld (c := ("Segment" : PySem.Str)) (pd_var 0) (T.cls 2) (T.noat 8)) (pd_var 2)) (pd_ix (pd_var 3) (pd_bin op_sub rop_I0 (pd_b1 call_len rc_len (T.free 0) PySem.boot_len (pd_var 3)) pd_int))) pa_nil)))
  (pss_one (ps_expr (pe_bm PySem.F.plainAttrs_list PySem.F.slot_list_append PySem.F.type_list_append mt_append (pe_fld (pv 0) (by rfl)) (pa_cons (pd_bin op_sub rop_I0 (pd_bin op_addAll rop_add (pd_ix (pd_fld (c := ("Segment" : PySem.Str)) (pd_var 0) (T.cls 2) (T.noat 18)) (pd_var 2)) (pd_b1 call_len rc_len (T.free 0) PySem.boot_len (pd_var 3))) pd_int) pa_nil)))))))
  (pss_cons (ps_fld (pv 0) (pd_ix (pd_fld (c := ("Segment" : PySem.Str)) (pd_var 0) (T.cls 2) (T.noat 8)) (pd_fld (c := ("Segment" : PySem.Str)) (pd_var 0) (T.cls 2) (T.noat 9))) (by rfl))
  (pss_cons (ps_fld (pv 0) (pd_ix (pd_fld (c := ("Segment" : PySem.Str)) (pd_var 0) (T.cls 2) (T.noat 18)) (pd_fld (c := ("Segment" : PySem.Str)) (pd_var 0) (T.cls 2) (T.noat 9))) (by rfl))
  (pss_one (ps_fld (pv 0) (pd_methC (c := ("Segment" : PySem.Str)) C_Segment_day_of hr (by decide) pass0 (pd_var 0) (ad_cons (pd_fld (c := ("Segment" : PySem.Str)) (pd_var 0) (T.cls 2) (T.noat 19)) ad_nil)) (by rfl)))))))))))))))))

/-! Segment.has_date -/
theorem sc_Segment_has_date : FnScope ["self", "date", "starts"] ["self", "date"] (defScope s_Segment_has_date) := ⟨rfl, rfl, rfl, by decide +kernel, rfl, by decide +kernel, by decide +kernel⟩
theorem ok_Segment_has_date (T : Tx w K mg) (C_Segment_starts : MethC P w K mg base CX0 "Segment" "starts" 2 [.fz, .fz] f_Segment_starts) : MethC P w K mg base CX0 "Segment" "has_date" 3 [.fz, .fz] f_Segment_has_date := by
  obtain ⟨fd, F⟩ := T.def_ 13 (d := d_Segment_has_date) rfl
  refine ⟨fd, ["self", "date"], (T.cls 2), (T.meth 52), fn_ok (ms := [.fz, .fz, .fz]) (pm := [.fz, .fz]) (rk := .fz) (a := u_Segment_has_date) F sc_Segment_has_date rfl rfl rfl rfl fun cdv A outer s H E hr => ?_, F.bindsN fun _ _ _ _ _ _ us hl => match us, hl with | [_, _], _ => rfl⟩
  exact (ss_cons (PS.imp (ps_set (i := 2) sc_Segment_has_date.nd rfl (by first | exact Or.inl rfl | exact Or.inr rfl) (pd_methC (c := ("Segment" : PySem.Str)) C_Segment_starts hr (by decide) pass0 (pd_var 0) (ad_cons (pd_ix (pd_var 1) pd_int) ad_nil))) fun _ _ _ c => c_set rfl c)
  (ss_cons (PS.imp (ps_if (ptd_not (ptd_chain op_le rop_B0 op_lt rop_B0 pd_int (pd_ix (pd_var 1) pd_int) (pd_b1 call_len rc_len (T.free 0) PySem.boot_len (pd_var 2))))
  (ss_one (PS.imp (ps_ret pd_bl) fun _ _ _ c => c_ret c))
  ss_nil) fun _ _ _ c => c_if c)
  (ss_one (PS.imp (ps_ret (pd_chain op_le rop_B0 op_le rop_B0 pd_int (pd_ix (pd_var 1) pd_int) (pd_bin op_sub rop_I0 (pd_ix (pd_var 2) (pd_ix (pd_var 1) pd_int)) (pd_ix (pd_var 2) (pd_bin op_sub rop_I0 (pd_ix (pd_var 1) pd_int) pd_int))))) fun _ _ _ c => c_ret c))))

/-! common_divisor -/
theorem sc_common_divisor : FnScope ["one", "other"] ["one", "other"] (defScope s_common_divisor) := ⟨rfl, rfl, rfl, by decide +kernel, rfl, by decide +kernel, by decide +kernel⟩
theorem ok_common_divisor (T : Tx w K mg) : Callee P w K mg base CX0 "common_divisor" 1 [.fz, .fz] .fz f_common_divisor := by
  obtain ⟨fd, F⟩ := T.def_ 17 (d := d_common_divisor) rfl
  refine ⟨fd, ["one", "other"], (T.glo 53), fn_ok (ms := [.fz, .fz]) (pm := [.fz, .fz]) (rk := .fz) (a := u_common_divisor) F sc_common_divisor rfl rfl rfl rfl fun cdv A outer s H E hr => ?_, F.kp, F.bindsN fun _ _ _ _ _ _ us hl => match us, hl with | [_, _], _ => rfl⟩
  exact (ss_cons (PS.imp (ps_while PassesOwn.never (ptd_cmp op_gt rop_B0 (pd_var 1) pd_int (nomark _))
  (ss_one (PS.imp (ps_par (i := 0) (j := 1) rfl sc_common_divisor.nd rfl rfl (by decide) rfl rfl (ad_cons (pd_var 1) (ad_cons (pd_bin op_mod rop_mod (pd_var 0) (pd_var 1)) ad_nil)) (by rfl)) fun _ _ _ c => c_par2 rfl rfl c))) fun _ _ _ c => c_while c)
  (ss_one (PS.imp (ps_ret (pd_var 0)) fun _ _ _ c => c_ret c)))

/-! least_multiple -/
theorem sc_least_multiple : FnScope ["one", "other"] ["one", "other"] (defScope s_least_multiple) := ⟨rfl, rfl, rfl, by decide +kernel, rfl, by decide +kernel, by decide +kernel⟩
theorem ok_least_multiple (T : Tx w K mg) (C_common_divisor : Callee P w K mg base CX0 "common_divisor" 1 [.fz, .fz] .fz f_common_divisor) : Callee P w K mg base CX0 "least_multiple" 2 [.fz, .fz] .fz f_least_multiple := by
  obtain ⟨fd, F⟩ := T.def_ 18 (d := d_least_multiple) rfl
  refine ⟨fd, ["one", "other"], (T.glo 54), fn_ok (ms := [.fz, .fz]) (pm := [.fz, .fz]) (rk := .fz) (a := u_least_multiple) F sc_least_multiple rfl rfl rfl rfl fun cdv A outer s H E hr => ?_, F.kp, F.bindsN fun _ _ _ _ _ _ us hl => match us, hl with | [_, _], _ => rfl⟩
  exact (ss_one (PS.imp (ps_ret (pd_bin op_mulAll rop_mul (pd_bin op_fdivW rop_div (pd_var 0) (pd_callC C_common_divisor hr (by decide) pass0 (ad_cons (pd_var 0) (ad_cons (pd_var 1) ad_nil)))) (pd_var 1))) fun _ _ _ c => c_ret c))

/-! row_numbers -/
theorem sc_row_numbers : FnScope ["row", "numbers", "cycle"] ["row"] (defScope s_row_numbers) := ⟨rfl, rfl, rfl, by decide +kernel, rfl, by decide +kernel, by decide +kernel⟩
theorem ok_row_numbers (T : Tx w K mg) (C_leap_numbers : Callee P w K mg base CX0 "leap_numbers" 1 [.fz] .fz f_leap_numbers) : Callee P w K mg base CX0 "row_numbers" 2 [.fz] .fz f_row_numbers := by
  obtain ⟨fd, F⟩ := T.def_ 19 (d := d_row_numbers) rfl
  refine ⟨fd, ["row"], (T.glo 55), fn_ok (ms := [.fz, .fz, .fz]) (pm := [.fz]) (rk := .fz) (a := u_row_numbers) F sc_row_numbers rfl rfl rfl rfl fun cdv A outer s H E hr => ?_, F.kp, F.bindsN fun _ _ _ _ _ _ us hl => match us, hl with | [_], _ => rfl⟩
  exact (ss_cons (PS.imp (ps_set (i := 1) sc_row_numbers.nd rfl (by first | exact Or.inl rfl | exact Or.inr rfl) (pd_bin op_addAll rop_add (pd_bin op_addAll rop_add (pd_bin op_addAll rop_add (pd_bin op_addAll rop_add (pd_ofN (pn_lst (ad_cons (pd_ix (pd_var 0) pd_int) (ad_cons (pd_ix (pd_var 0) pd_int) (ad_cons (pd_ix (pd_var 0) pd_int) ad_nil))) (by decide))) (pd_t1 call_list_of rc_list (T.free 14) PyProof.Rows.boot_list (pd_ix (pd_var 0) pd_int))) (pd_t1 call_list_of rc_list (T.free 14) PyProof.Rows.boot_list (pd_ix (pd_var 0) pd_int))) (pd_t1 call_list_of rc_list (T.free 14) PyProof.Rows.boot_list (pd_ix (pd_var 0) pd_int))) (pd_callC C_leap_numbers hr (by decide) pass0 (ad_cons (pd_ix (pd_var 0) pd_int) ad_nil)))) fun _ _ _ c => c_set rfl c)
  (ss_cons (PS.imp (ps_for PassesOwn.never rfl (pi_any (pd_ix (pd_var 0) pd_int)) (pg_name (i := 2) sc_row_numbers.nd rfl (by first | exact Or.inl rfl | exact Or.inr rfl))
  (ss_one (PS.imp (ps_set (i := 1) sc_row_numbers.nd rfl (by first | exact Or.inl rfl | exact Or.inr rfl) (pd_bin op_addAll rop_add (pd_var 1) (pd_ofN (pn_lst (ad_cons (pd_ix (pd_var 2) pd_int) (ad_cons (pd_ix (pd_var 2) pd_int) ad_nil)) (by decide))))) fun _ _ _ c => c_set rfl c))) fun _ _ _ c => c_forA (tg_name (i := 2) (vs := [2]) rfl (by decide)) c)
  (ss_one (PS.imp (ps_ret (pd_var 1)) fun _ _ _ c => c_ret c))))

/-! bounds_check -/
theorem sc_bounds_check : FnScope ["rows", "row"] ["rows"] (defScope s_bounds_check) := ⟨rfl, rfl, rfl, by decide +kernel, rfl, by decide +kernel, by decide +kernel⟩
theorem ok_bounds_check (T : Tx w K mg) (C_row_numbers : Callee P w K mg base CX0 "row_numbers" 2 [.fz] .fz f_row_numbers) (C_number_check : Callee P w K mg base CX0 "number_check" 1 [.fz] .fz f_number_check) (C_too_many : Callee P w K mg base CX0 "too_many" 1 [.fz, .fz, .fz] .fz f_too_many) (C_segment_limits : Callee P w K mg base CX0 "segment_limits" 2 [.fz] .fz f_segment_limits) : Callee P w K mg base CX0 "bounds_check" 3 [.fz] .fz f_bounds_check := by
  obtain ⟨fd, F⟩ := T.def_ 20 (d := d_bounds_check) rfl
  refine ⟨fd, ["rows"], (T.glo 56), fn_ok (ms := [.fz, .fz]) (pm := [.fz]) (rk := .fz) (a := u_bounds_check) F sc_bounds_check rfl rfl rfl rfl fun cdv A outer s H E hr => ?_, F.kp, F.bindsN fun _ _ _ _ _ _ us hl => match us, hl with | [_], _ => rfl⟩
  exact (ss_cons (PS.imp (ps_for PassesOwn.never rfl (pi_any (pd_var 0)) (pg_name (i := 1) sc_bounds_check.nd rfl (by first | exact Or.inl rfl | exact Or.inr rfl))
  (ss_one (PS.imp (ps_expr (pd_callC C_number_check hr (by decide) pass0 (ad_cons (pd_callC C_row_numbers hr (by decide) pass0 (ad_cons (pd_var 1) ad_nil)) ad_nil))) fun _ _ _ c => c_drop c))) fun _ _ _ c => c_forA (tg_name (i := 1) (vs := [1]) rfl (by decide)) c)
  (ss_cons (PS.imp (ps_expr (pd_callC C_too_many hr (by decide) pass0 (ad_cons pd_str (ad_cons pd_str (ad_cons (pd_b1 call_len rc_len (T.free 0) PySem.boot_len (pd_var 0)) ad_nil))))) fun _ _ _ c => c_drop c)
  (ss_one (PS.imp (ps_for PassesOwn.never rfl (pi_any (pd_var 0)) (pg_name (i := 1) sc_bounds_check.nd rfl (by first | exact Or.inl rfl | exact Or.inr rfl))
  (ss_one (PS.imp (ps_expr (pd_callC C_segment_limits hr (by decide) pass0 (ad_cons (pd_var 1) ad_nil))) fun _ _ _ c => c_drop c))) fun _ _ _ c => c_forA (tg_name (i := 1) (vs := [1]) rfl (by decide)) c))))

/-! cycles_fit -/
theorem sc_cycles_fit : FnScope ["row", "first", "names", "name", "length", "value", "cycle"] ["row", "first"] (defScope s_cycles_fit) := ⟨rfl, rfl, rfl, by decide +kernel, rfl, by decide +kernel, by decide +kernel⟩
theorem ok_cycles_fit (T : Tx w K mg) : Callee P w K mg base CX0 "cycles_fit" 1 [.fz, .fz] .fz f_cycles_fit := by
  obtain ⟨fd, F⟩ := T.def_ 21 (d := d_cycles_fit) rfl
  refine ⟨fd, ["row", "first"], (T.glo 57), fn_ok (ms := [.fz, .fz, .own, .fz, .fz, .fz, .fz]) (pm := [.fz, .fz]) (rk := .fz) (a := u_cycles_fit) F sc_cycles_fit rfl rfl rfl rfl fun cdv A outer s H E hr => ?_, F.kp, F.bindsN fun _ _ _ _ _ _ us hl => match us, hl with | [_, _], _ => rfl⟩
  exact (ss_cons (PS.imp (ps_set (i := 2) sc_cycles_fit.nd rfl (by first | exact Or.inl rfl | exact Or.inr rfl) (pn_lst ad_nil (by decide))) fun _ _ _ c => c_setN rfl c)
  (ss_cons (PS.imp (ps_for PassesOwn.never rfl (pi_any (pd_ix (pd_var 0) pd_int)) (pg_tup rfl (pgs_cons (pg_name (i := 3) sc_cycles_fit.nd rfl (by first | exact Or.inl rfl | exact Or.inr rfl)) (pgs_cons (pg_name (i := 4) sc_cycles_fit.nd rfl (by first | exact Or.inl rfl | exact Or.inr rfl)) (pgs_cons (pg_name (i := 5) sc_cycles_fit.nd rfl (by first | exact Or.inl rfl | exact Or.inr rfl)) pgs_nil))))
  (ss_cons (PS.imp (ps_if (PW.pt (ptw_or (ptd_not (ptd_chain op_le rop_B0 op_lt rop_B0 pd_int (pd_var 5) (pd_var 4))) (ptw_one (ptd_inL (neg := false) op_in_seq (pd_var 3) (pl_var 2) (by rfl)))))
  (ss_one (PS.imp (ps_ret pd_bl) fun _ _ _ c => c_ret c))
  ss_nil) fun _ _ _ c => c_if c)
  (ss_one (PS.imp (ps_expr (pe_bm PySem.F.plainAttrs_list PySem.F.slot_list_append PySem.F.type_list_append mt_append (pv 2) (pa_cons (pd_var 3) pa_nil))) fun _ _ _ c => c_app rfl c)))) fun _ _ _ c => c_forA (tg_tup (is := [3, 4, 5]) (vs := [3, 4, 5]) (by decide) rfl) c)
  (ss_one (PS.imp (ps_ret (pd_cmp (op_eqP (Room.units hr)) rop_eqP (pd_ofN (pn_lc (own := [("cycle", 6)]) (ul := (uLc [6] (uItems (uOp dIx (uVar 0) (uC (.int 7)))) (bName 6) tYesU (uUn dTup (uSl (uVar 6) none (some (uC (.int 2))))))) rfl sc_cycles_fit.nd (pi_any (pd_ix (pd_var 0) pd_int)) (blkOk_by (own := [("cycle", 6)]) (by kernel_rfl)) (fun {_ _ _} c => lcA (vs := [6]) (fz_all (by first | decide | rfl)) (tg_name (i := 6) rfl (by decide)) c) (fun _ _ _ _ _ => (pg_name (i := 6) sc_cycles_fit.nd rfl (Or.inl rfl))) (fun _ _ _ _ _ => pts_yes) (fun _ _ _ _ _ => (pd_t1 call_tuple_of rc_tup (T.free 17) PyProof.Rows.boot_tuple (pd_sl (pd_var 6) pp_none (pp_some pd_int)))))) (pd_ofN (pn_lc (own := [("cycle", 6)]) (ul := (uLc [6] (uItems (uOp dIx (uVar 1) (uC (.int 7)))) (bName 6) tYesU (uUn dTup (uSl (uVar 6) none (some (uC (.int 2))))))) rfl sc_cycles_fit.nd (pi_any (pd_ix (pd_var 1) pd_int)) (blkOk_by (own := [("cycle", 6)]) (by kernel_rfl)) (fun {_ _ _} c => lcA (vs := [6]) (fz_all (by first | decide | rfl)) (tg_name (i := 6) rfl (by decide)) c) (fun _ _ _ _ _ => (pg_name (i := 6) sc_cycles_fit.nd rfl (Or.inl rfl))) (fun _ _ _ _ _ => pts_yes) (fun _ _ _ _ _ => (pd_t1 call_tuple_of rc_tup (T.free 17) PyProof.Rows.boot_tuple (pd_sl (pd_var 6) pp_none (pp_some pd_int)))))) (nomark _))) fun _ _ _ c => c_ret c))))

/-! lengths_fit -/
theorem sc_lengths_fit : FnScope ["lengths"] ["lengths"] (defScope s_lengths_fit) := ⟨rfl, rfl, rfl, by decide +kernel, rfl, by decide +kernel, by decide +kernel⟩
theorem ok_lengths_fit (T : Tx w K mg) : Callee P w K mg base CX0 "lengths_fit" 1 [.fz] .fz f_lengths_fit := by
  obtain ⟨fd, F⟩ := T.def_ 22 (d := d_lengths_fit) rfl
  refine ⟨fd, ["lengths"], (T.glo 58), fn_ok (ms := [.fz]) (pm := [.fz]) (rk := .fz) (a := u_lengths_fit) F sc_lengths_fit rfl rfl rfl rfl fun cdv A outer s H E hr => ?_, F.kp, F.bindsN fun _ _ _ _ _ _ us hl => match us, hl with | [_], _ => rfl⟩
  exact (ss_cons (PS.imp (ps_if (ptd_cmp op_eq rop_eq (pd_b1 call_len rc_len (T.free 0) PySem.boot_len (pd_var 0)) pd_int (nomark _))
  (ss_one (PS.imp (ps_ret pd_bl) fun _ _ _ c => c_ret c))
  ss_nil) fun _ _ _ c => c_if c)
  (ss_one (PS.imp (ps_ret (pd_cmp op_ge rop_B0 (pd_b1 (cr_minA rfl) rc_minA (T.free 24) PyProof.Rows.boot_min (pd_var 0)) pd_int (nomark _))) fun _ _ _ c => c_ret c)))

/-! row_check -/
theorem sc_row_check : FnScope ["name", "rows", "k", "row", "segment"] ["name", "rows", "k"] (defScope s_row_check) := ⟨rfl, rfl, rfl, by decide +kernel, rfl, by decide +kernel, by decide +kernel⟩
theorem ok_row_check (T : Tx w K mg) (C_lengths_fit : Callee P w K mg base CX0 "lengths_fit" 1 [.fz] .fz f_lengths_fit) (C_leap_fits : Callee P w K mg base CX0 "leap_fits" 1 [.fz] .fz f_leap_fits) (C_Segment___init__ : MakeC P w K mg base CX0 "Segment" 4 [.fz] [] f_Segment___init__) (C_Segment_starts : MethC P w K mg base CX0 "Segment" "starts" 2 [.fz, .fz] f_Segment_starts) (C_Segment_has_date : MethC P w K mg base CX0 "Segment" "has_date" 3 [.fz, .fz] f_Segment_has_date) (C_cycles_fit : Callee P w K mg base CX0 "cycles_fit" 1 [.fz, .fz] .fz f_cycles_fit) : Callee P w K mg base CX0 "row_check" 6 [.fz, .fz, .fz] .fz f_row_check := by
  obtain ⟨fd, F⟩ := T.def_ 23 (d := d_row_check) rfl
  refine ⟨fd, ["name", "rows", "k"], (T.glo 59), fn_ok (ms := [.fz, .fz, .fz, .fz, .fz]) (pm := [.fz, .fz, .fz]) (rk := .fz) (a := u_row_check) F sc_row_check rfl rfl rfl rfl fun cdv A outer s H E hr => ?_, F.kp, F.bindsN fun _ _ _ _ _ _ us hl => match us, hl with | [_, _, _], _ => rfl⟩
  exact (ss_cons (PS.imp (ps_set (i := 3) sc_row_check.nd rfl (by first | exact Or.inl rfl | exact Or.inr rfl) (pd_ix (pd_var 1) (pd_var 2))) fun _ _ _ c => c_set rfl c)
  (ss_cons (PS.imp (ps_if (PW.pt (ptw_and (ptd_cmp op_gt rop_B0 (pd_var 2) pd_int (nomark _)) (ptw_one (ptd_cmp op_le rop_B0 (pd_ix (pd_var 3) pd_int) (pd_ix (pd_ix (pd_var 1) (pd_bin op_sub rop_I0 (pd_var 2) pd_int)) pd_int) (nomark _)))))
  (ss_one (PS.imp ps_never fun _ _ _ c => c_never c))
  ss_nil) fun _ _ _ c => c_if c)
  (ss_cons (PS.imp (ps_if (ptd_not (ptd_chain op_le rop_B0 op_lt rop_B0 pd_int (pd_ix (pd_var 3) pd_int) (pd_ix (pd_var 3) pd_int)))
  (ss_one (PS.imp ps_never fun _ _ _ c => c_never c))
  ss_nil) fun _ _ _ c => c_if c)
  (ss_cons (PS.imp (ps_if (PW.pt (ptw_or (ptd_not (pt_tr (pd_callC C_lengths_fit hr (by decide) pass0 (ad_cons (pd_ix (pd_var 3) pd_int) ad_nil)))) (ptw_one (ptd_not (pt_tr (pd_callC C_lengths_fit hr (by decide) pass0 (ad_cons (pd_ix (pd_var 3) pd_int) ad_nil)))))))
  (ss_one (PS.imp ps_never fun _ _ _ c => c_never c))
  ss_nil) fun _ _ _ c => c_if c)
  (ss_cons (PS.imp (ps_if (ptd_not (pt_tr (pd_callC C_leap_fits hr (by decide) pass0 (ad_cons (pd_ix (pd_var 3) pd_int) ad_nil))))
  (ss_one (PS.imp ps_never fun _ _ _ c => c_never c))
  ss_nil) fun _ _ _ c => c_if c)
  (ss_cons (PS.imp (ps_set (i := 4) sc_row_check.nd rfl (by first | exact Or.inl rfl | exact Or.inr rfl) (pd_makeC (c := ("Segment" : PySem.Str)) C_Segment___init__ hr (by decide) Plain.nil pass0 (ad_cons (pd_bin op_addAll rop_add (pd_bin op_addAll rop_add (pd_t1 call_tuple_of rc_tup (T.free 17) PyProof.Rows.boot_tuple (pd_sl (pd_var 3) pp_none (pp_some pd_int))) (pd_tup (ad_cons (pd_tup (ad_cons pd_int (ad_cons pd_int (ad_cons pd_int ad_nil))) (by decide)) ad_nil) (by decide))) (pd_t1 call_tuple_of rc_tup (T.free 17) PyProof.Rows.boot_tuple (pd_sl (pd_var 3) (pp_some pd_int) pp_none))) ad_nil))) fun _ _ _ c => c_set rfl c)
  (ss_cons (PS.imp (ps_if (ptd_not (ptd_chain op_le rop_B0 op_lt rop_B0 pd_int (pd_ix (pd_ix (pd_var 3) pd_int) pd_int) (pd_b1 call_len rc_len (T.free 0) PySem.boot_len (pd_methC (c := ("Segment" : PySem.Str)) C_Segment_starts hr (by decide) pass0 (pd_var 4) (ad_cons (pd_ix (pd_ix (pd_var 3) pd_int) pd_int) ad_nil)))))
  (ss_one (PS.imp ps_never fun _ _ _ c => c_never c))
  ss_nil) fun _ _ _ c => c_if c)
  (ss_cons (PS.imp (ps_if (ptd_not (pt_tr (pd_methC (c := ("Segment" : PySem.Str)) C_Segment_has_date hr (by decide) pass0 (pd_var 4) (ad_cons (pd_ix (pd_var 3) pd_int) ad_nil))))
  (ss_one (PS.imp ps_never fun _ _ _ c => c_never c))
  ss_nil) fun _ _ _ c => c_if c)
  (ss_one (PS.imp (ps_if (ptd_not (pt_tr (pd_callC C_cycles_fit hr (by decide) pass0 (ad_cons (pd_var 3) (ad_cons (pd_ix (pd_var 1) pd_int) ad_nil)))))
  (ss_one (PS.imp ps_never fun _ _ _ c => c_never c))
  ss_nil) fun _ _ _ c => c_if c))))))))))

/-! Calendar.__init__ -/
theorem sc_Calendar___init__ : FnScope ["self", "rows", "name", "k", "row"] ["self", "rows", "name"] (defScope s_Calendar___init__) := ⟨rfl, rfl, rfl, by decide +kernel, rfl, by decide +kernel, by decide +kernel⟩
theorem ok_Calendar___init__ (T : Tx w K mg) (C_bounds_check : Callee P w K mg base CX0 "bounds_check" 3 [.fz] .fz f_bounds_check) (C_row_check : Callee P w K mg base CX0 "row_check" 6 [.fz, .fz, .fz] .fz f_row_check) (C_Segment___init__ : MakeC P w K mg base CX0 "Segment" 4 [.fz] [] f_Segment___init__) : MakeC P w K mg base CX0 "Calendar" 7 [.fz] [.str ("" : PySem.Str)] f_Calendar___init__ := by
  obtain ⟨fd, F⟩ := T.def_ 24 (d := d_Calendar___init__) rfl
  obtain ⟨ds, vd, b⟩ := FunD.binds1 (ps := ["self", "rows", "name"]) F 2 0 (by simp [He.DefD.dvs, d_Calendar___init__]) rfl fun T kV doc pm an cdv ct us its hu hi => by
    match us, hu, its, hi with
    | [_, _], _, [_], _ => exact ⟨_, rfl, rfl⟩
  refine ⟨fd, ["self", "rows", "name"], ds, (T.glo 25), (T.mk_ 26), F.ok sc_Calendar___init__ (fun vs H Q E h => ?_) (fun cdv A outer s H vs Q E hr h => ?_), b, vd⟩
  · obtain ⟨_, _, _, _, _, _, _, ws, rfl, _, _, _, _, _, _, _, _, ra, _⟩ := h
    exact congrArg Nat.succ ra.len.1
  · obtain ⟨x, vs', e, q⟩ := cal_pure (N := ["self", "rows", "name", "k", "row"]) (T.cls 27) (T.noat 28) rfl h
    exact ⟨t_calInit K x, PSs.nox (pss_cons (PS.imp (ps_expr (pd_callC C_bounds_check hr (by decide) pass0 (ad_cons (pd_var 1) ad_nil))) fun _ _ _ c => c_drop c) (pss_cons (PS.imp (ps_for PassesOwn.never rfl (pi_range1 rfl (T.free 1) (pa_cons (pd_b1 call_len rc_len (T.free 0) PySem.boot_len (pd_var 1)) pa_nil)) (pg_name (i := 3) sc_Calendar___init__.nd rfl (by first | exact Or.inl rfl | exact Or.inr rfl))
  (ss_one (PS.imp (ps_expr (pd_callC C_row_check hr (by decide) pass0 (ad_cons (pd_var 2) (ad_cons (pd_var 1) (ad_cons (pd_var 3) ad_nil))))) fun _ _ _ c => c_drop c))) fun _ _ _ c => c_forR1 (tg_name (i := 3) (vs := [3]) rfl (by decide)) c) (pss_one (ps_fld (pv 0) (pd_ofN (pn_lc (own := [("row", 4)]) (ul := (uLc [4] (uItems (uVar 1)) (bName 4) tYesU (uMake ("Segment" : PySem.Str) f_Segment___init__ [] (aCons (uVar 4) aNil)))) rfl sc_Calendar___init__.nd (pi_any (pd_var 1)) (blkOk_by (own := [("row", 4)]) (by kernel_rfl)) (fun {_ _ _} c => lcA (vs := [4]) (fz_all (by first | decide | rfl)) (tg_name (i := 4) rfl (by decide)) c) (fun _ _ _ _ _ => (pg_name (i := 4) sc_Calendar___init__.nd rfl (Or.inl rfl))) (fun _ _ _ _ _ => pts_yes) (fun _ _ _ _ _ => (pd_makeC (c := ("Segment" : PySem.Str)) C_Segment___init__ hr (by decide) Plain.nil pass0 (ad_cons (pd_var 4) ad_nil))))) (by rfl))))), q⟩

/-! Calendar.goes_back -/
theorem sc_Calendar_goes_back : FnScope ["self", "k", "segment", "old"] ["self"] (defScope s_Calendar_goes_back) := ⟨rfl, rfl, rfl, by decide +kernel, rfl, by decide +kernel, by decide +kernel⟩
theorem ok_Calendar_goes_back (T : Tx w K mg) (C_name_at : Callee P w K mg base CX0 "name_at" 4 [.fz, .fz, .fz] .fz f_name_at) : MethC P w K mg base CX0 "Calendar" "goes_back" 5 [.fz] f_Calendar_goes_back := by
  obtain ⟨fd, F⟩ := T.def_ 25 (d := d_Calendar_goes_back) rfl
  refine ⟨fd, ["self"], (T.cls 27), (T.meth 60), fn_ok (ms := [.fz, .fz, .fz, .fz]) (pm := [.fz]) (rk := .fz) (a := u_Calendar_goes_back) F sc_Calendar_goes_back rfl rfl rfl rfl fun cdv A outer s H E hr => ?_, F.bindsN fun _ _ _ _ _ _ us hl => match us, hl with | [_], _ => rfl⟩
  exact (ss_cons (PS.imp (ps_for PassesOwn.never rfl (pi_range2 rfl (T.free 1) (pa_cons pd_int (pa_cons (pd_b1 call_len rc_len (T.free 0) PySem.boot_len (pd_fld (c := ("Calendar" : PySem.Str)) (pd_var 0) (T.cls 27) (T.noat 28))) pa_nil))) (pg_name (i := 1) sc_Calendar_goes_back.nd rfl (by first | exact Or.inl rfl | exact Or.inr rfl))
  (ss_cons (PS.imp (ps_set (i := 2) sc_Calendar_goes_back.nd rfl (by first | exact Or.inl rfl | exact Or.inr rfl) (pd_ix (pd_fld (c := ("Calendar" : PySem.Str)) (pd_var 0) (T.cls 27) (T.noat 28)) (pd_var 1))) fun _ _ _ c => c_set rfl c)
  (ss_cons (PS.imp (ps_set (i := 3) sc_Calendar_goes_back.nd rfl (by first | exact Or.inl rfl | exact Or.inr rfl) (pd_callC C_name_at hr (by decide) pass0 (ad_cons (pd_fld (c := ("Calendar" : PySem.Str)) (pd_var 0) (T.cls 27) (T.noat 28)) (ad_cons pd_str (ad_cons (pd_bin op_sub rop_I0 (pd_fld (c := ("Segment" : PySem.Str)) (pd_var 2) (T.cls 2) (T.noat 3)) pd_int) ad_nil))))) fun _ _ _ c => c_set rfl c)
  (ss_one (PS.imp (ps_if (ptd_cmp (op_ltT (Room.units0 hr)) rop_ltT (pd_fld (c := ("Segment" : PySem.Str)) (pd_var 2) (T.cls 2) (T.noat 19)) (pd_var 3) (nomark _))
  (ss_one (PS.imp (ps_ret (pd_tup (ad_cons (pd_var 1) (ad_cons (pd_var 3) (ad_cons (pd_fld (c := ("Segment" : PySem.Str)) (pd_var 2) (T.cls 2) (T.noat 19)) ad_nil))) (by decide))) fun _ _ _ c => c_ret c))
  ss_nil) fun _ _ _ c => c_if c))))) fun _ _ _ c => c_forR2 (tg_name (i := 1) (vs := [1]) rfl (by decide)) c)
  (ss_one (PS.imp (ps_ret pd_non) fun _ _ _ c => c_ret c)))

/-! Calendar.round_length -/
theorem sc_Calendar_round_length : FnScope ["self", "told", "segment", "days", "cycle"] ["self"] (defScope s_Calendar_round_length) := ⟨rfl, rfl, rfl, by decide +kernel, rfl, by decide +kernel, by decide +kernel⟩
theorem ok_Calendar_round_length (T : Tx w K mg) (C_least_multiple : Callee P w K mg base CX0 "least_multiple" 2 [.fz, .fz] .fz f_least_multiple) : MethC P w K mg base CX0 "Calendar" "round_length" 3 [.fz] f_Calendar_round_length := by
  obtain ⟨fd, F⟩ := T.def_ 26 (d := d_Calendar_round_length) rfl
  refine ⟨fd, ["self"], (T.cls 27), (T.meth 61), fn_ok (ms := [.fz, .fz, .fz, .fz, .fz]) (pm := [.fz]) (rk := .fz) (a := u_Calendar_round_length) F sc_Calendar_round_length rfl rfl rfl rfl fun cdv A outer s H E hr => ?_, F.bindsN fun _ _ _ _ _ _ us hl => match us, hl with | [_], _ => rfl⟩
  exact (ss_cons (PS.imp (ps_set (i := 1) sc_Calendar_round_length.nd rfl (by first | exact Or.inl rfl | exact Or.inr rfl) pd_int) fun _ _ _ c => c_set rfl c)
  (ss_cons (PS.imp (ps_for PassesOwn.never rfl (pi_any (pd_tup (ad_cons (pd_ix (pd_fld (c := ("Calendar" : PySem.Str)) (pd_var 0) (T.cls 27) (T.noat 28)) pd_int) (ad_cons (pd_ix (pd_fld (c := ("Calendar" : PySem.Str)) (pd_var 0) (T.cls 27) (T.noat 28)) (pd_bin op_sub rop_I0 (pd_b1 call_len rc_len (T.free 0) PySem.boot_len (pd_fld (c := ("Calendar" : PySem.Str)) (pd_var 0) (T.cls 27) (T.noat 28))) pd_int)) ad_nil)) (by decide))) (pg_name (i := 2) sc_Calendar_round_length.nd rfl (by first | exact Or.inl rfl | exact Or.inr rfl))
  (ss_cons (PS.imp (ps_set (i := 3) sc_Calendar_round_length.nd rfl (by first | exact Or.inl rfl | exact Or.inr rfl) (pd_fld (c := ("Segment" : PySem.Str)) (pd_var 2) (T.cls 2) (T.noat 7))) fun _ _ _ c => c_set rfl c)
  (ss_cons (PS.imp (ps_for PassesOwn.never rfl (pi_any (pd_fld (c := ("Segment" : PySem.Str)) (pd_var 2) (T.cls 2) (T.noat 20))) (pg_name (i := 4) sc_Calendar_round_length.nd rfl (by first | exact Or.inl rfl | exact Or.inr rfl))
  (ss_one (PS.imp (ps_set (i := 3) sc_Calendar_round_length.nd rfl (by first | exact Or.inl rfl | exact Or.inr rfl) (pd_callC C_least_multiple hr (by decide) pass0 (ad_cons (pd_var 3) (ad_cons (pd_ix (pd_var 4) pd_int) ad_nil)))) fun _ _ _ c => c_set rfl c))) fun _ _ _ c => c_forA (tg_name (i := 4) (vs := [4]) rfl (by decide)) c)
  (ss_one (PS.imp (ps_set (i := 1) sc_Calendar_round_length.nd rfl (by first | exact Or.inl rfl | exact Or.inr rfl) (pd_callC C_least_multiple hr (by decide) pass0 (ad_cons (pd_var 1) (ad_cons (pd_bin op_mulAll rop_mul (pd_var 3) (pd_fld (c := ("Segment" : PySem.Str)) (pd_var 2) (T.cls 2) (T.noat 12))) ad_nil)))) fun _ _ _ c => c_set rfl c))))) fun _ _ _ c => c_forA (tg_name (i := 2) (vs := [2]) rfl (by decide)) c)
  (ss_one (PS.imp (ps_ret (pd_var 1)) fun _ _ _ c => c_ret c))))

/-! _law_source -/
theorem sc_law_source : FnScope ["script", "at", "fold", "cell", "own", "great", "left"] ["script", "at"] (defScope s_law_source) := ⟨rfl, rfl, rfl, by decide +kernel, rfl, by decide +kernel, by decide +kernel⟩
theorem ok_law_source (T : Tx w K mg) : Callee P w K mg base CX0 "_law_source" 1 [.sh, .fz] .nw f_law_source := by
  obtain ⟨fd, F⟩ := T.def_ 27 (d := d_law_source) rfl
  refine ⟨fd, ["script", "at"], (T.glo 62), fn_ok (ms := [.sh, .fz, .fz, .fz, .fz, .fz, .fz]) (pm := [.sh, .fz]) (rk := .nw) (a := u_law_source) F sc_law_source rfl rfl rfl rfl fun cdv A outer s H E hr => ?_, F.kp, F.bindsN fun _ _ _ _ _ _ us hl => match us, hl with | [_, _], _ => rfl⟩
  exact (ss_cons (PS.imp (ps_set (i := 2) sc_law_source.nd rfl (by first | exact Or.inl rfl | exact Or.inr rfl) pd_int) fun _ _ _ c => c_set rfl c)
  (ss_cons (PS.imp (ps_for PassesOwn.never rfl (pi_any (pd_ofN (pn_slL (pl_var 0) pp_none (pp_some pd_int)))) (pg_name (i := 3) sc_law_source.nd rfl (by first | exact Or.inl rfl | exact Or.inr rfl))
  (ss_one (PS.imp (ps_set (i := 2) sc_law_source.nd rfl (by first | exact Or.inl rfl | exact Or.inr rfl) (pd_bin op_mod rop_mod (pd_bin op_addAll rop_add (pd_bin op_addAll rop_add (pd_bin op_mulAll rop_mul (pd_var 2) pd_int) (pd_t1 call_int1 rc_int (T.free 29) PyProof.Rows.boot_int (pd_var 3))) pd_int) pd_int)) fun _ _ _ c => c_set rfl c))) fun _ _ _ c => c_forA (tg_name (i := 3) (vs := [3]) rfl (by decide)) c)
  (ss_cons (PS.imp (ps_set (i := 4) sc_law_source.nd rfl (by first | exact Or.inl rfl | exact Or.inr rfl) (pd_if (ptd_cmp op_lt rop_B0 (pd_var 1) (pd_b1L call_len rl_len (T.free 0) PySem.boot_len (pl_var 0)) (nomark _)) (pd_t1 call_int1 rc_int (T.free 29) PyProof.Rows.boot_int (pd_ixL (pl_var 0) (pd_var 1))) pd_int)) fun _ _ _ c => c_set rfl c)
  (ss_cons (PS.imp (ps_set (i := 5) sc_law_source.nd rfl (by first | exact Or.inl rfl | exact Or.inr rfl) (pd_bin op_pow rop_pow pd_int pd_int)) fun _ _ _ c => c_set rfl c)
  (ss_cons (PS.imp (ps_set (i := 4) sc_law_source.nd rfl (by first | exact Or.inl rfl | exact Or.inr rfl) (pd_bin op_mod rop_mod (pd_var 4) (pd_bin op_mulAll rop_mul (pd_bin op_mulAll rop_mul (pd_bin op_mulAll rop_mul (pd_bin op_mulAll rop_mul (pd_var 5) (pd_var 5)) (pd_var 5)) (pd_var 5)) (pd_var 5)))) fun _ _ _ c => c_set rfl c)
  (ss_cons (PS.imp (ps_set (i := 6) sc_law_source.nd rfl (by first | exact Or.inl rfl | exact Or.inr rfl) (pd_if (ptd_cmp op_ge rop_B0 (pd_var 4) (pd_bin op_pow rop_pow pd_int pd_int) (nomark _)) (pd_var 4) pd_int)) fun _ _ _ c => c_set rfl c)
  (ss_one (PS.imp (ps_ret (pn_lst (ad_cons (pd_var 6) (ad_cons (pd_bin op_mod rop_mod (pd_bin op_addAll rop_add (pd_bin op_addAll rop_add (pd_var 2) (pd_bin op_mulAll rop_mul pd_int (pd_var 1))) pd_int) pd_int) (ad_cons (pd_bin op_mod rop_mod (pd_bin op_addAll rop_add (pd_bin op_addAll rop_add (pd_bin op_fdivW rop_div (pd_var 2) pd_int) (pd_bin op_mulAll rop_mul pd_int (pd_var 1))) pd_int) pd_int) (ad_cons pd_int ad_nil)))) (by decide))) fun _ _ _ c => c_retL c))))))))

/-! _law_pick -/
theorem sc_law_pick : FnScope ["s", "many", "told"] ["s", "many"] (defScope s_law_pick) := ⟨rfl, rfl, rfl, by decide +kernel, rfl, by decide +kernel, by decide +kernel⟩
theorem ok_law_pick (T : Tx w K mg) : Callee P w K mg base CX0 "_law_pick" 1 [.sr, .fz] .fz f_law_pick := by
  obtain ⟨fd, F⟩ := T.def_ 28 (d := d_law_pick) rfl
  refine ⟨fd, ["s", "many"], (T.glo 63), fn_ok (ms := [.sr, .fz, .fz]) (pm := [.sr, .fz]) (rk := .fz) (a := u_law_pick) F sc_law_pick rfl rfl rfl rfl fun cdv A outer s H E hr => ?_, F.kp, F.bindsN fun _ _ _ _ _ _ us hl => match us, hl with | [_, _], _ => rfl⟩
  exact (ss_cons (PS.imp (ps_if (ptd_cmp op_le rop_B0 (pd_var 1) pd_int (nomark _))
  (ss_one (PS.imp (ps_ret pd_int) fun _ _ _ c => c_ret c))
  ss_nil) fun _ _ _ c => c_if c)
  (ss_cons (PS.imp (ps_if (ptd_cmp op_gt rop_B0 (pd_srcAt 0) pd_int (nomark _))
  (ss_cons (PS.imp (ps_set (i := 2) sc_law_pick.nd rfl (by first | exact Or.inl rfl | exact Or.inr rfl) (pd_bin op_mod rop_mod (pd_t1 call_int1 rc_int (T.free 29) PyProof.Rows.boot_int (pd_srcAt 0)) (pd_var 1))) fun _ _ _ c => c_set rfl c)
  (ss_cons (PS.imp (ps_asg (pd_bin op_fdivW rop_div (pd_srcAt 0) (pd_var 1)) (pg_sub (pv 0) pe_int set_list)) fun _ _ _ c => c_setSrc rfl c)
  (ss_one (PS.imp (ps_ret (pd_var 2)) fun _ _ _ c => c_ret c))))
  ss_nil) fun _ _ _ c => c_if c)
  (ss_cons (PS.imp (ps_asg (pd_bin op_addAll rop_add (pd_srcAt 0) pd_int) (pg_sub (pv 0) pe_int set_list)) fun _ _ _ c => c_setSrc rfl c)
  (ss_cons (PS.imp (ps_asg (pd_bin op_mod rop_mod (pd_t1 call_int1 rc_int (T.free 29) PyProof.Rows.boot_int (pd_bin op_addAll rop_add (pd_bin op_addAll rop_add (pd_bin op_mulAll rop_mul (pd_srcAt 0) pd_int) (pd_bin op_mulAll rop_mul (pd_srcAt 0) pd_int)) pd_int)) pd_int) (pg_sub (pv 0) pe_int set_list)) fun _ _ _ c => c_setSrc rfl c)
  (ss_cons (PS.imp (ps_asg (pd_bin op_mod rop_mod (pd_t1 call_int1 rc_int (T.free 29) PyProof.Rows.boot_int (pd_bin op_addAll rop_add (pd_bin op_addAll rop_add (pd_bin op_mulAll rop_mul (pd_srcAt 0) pd_int) (pd_bin op_mulAll rop_mul (pd_srcAt 0) pd_int)) (pd_srcAt 0))) pd_int) (pg_sub (pv 0) pe_int set_list)) fun _ _ _ c => c_setSrc rfl c)
  (ss_one (PS.imp (ps_ret (pd_bin op_mod rop_mod (pd_t1 call_int1 rc_int (T.free 29) PyProof.Rows.boot_int (pd_bin op_addAll rop_add (pd_bin op_fdivW rop_div (pd_srcAt 0) pd_int) (pd_bin op_fdivW rop_div (pd_srcAt 0) pd_int))) (pd_var 1))) fun _ _ _ c => c_ret c)))))))

/-! _law_one -/
theorem sc_law_one : FnScope ["s", "things"] ["s", "things"] (defScope s_law_one) := ⟨rfl, rfl, rfl, by decide +kernel, rfl, by decide +kernel, by decide +kernel⟩
theorem ok_law_one (T : Tx w K mg) (C_law_pick : Callee P w K mg base CX0 "_law_pick" 1 [.sr, .fz] .fz f_law_pick) : Callee P w K mg base CX0 "_law_one" 2 [.sr, .fz] .fz f_law_one := by
  obtain ⟨fd, F⟩ := T.def_ 29 (d := d_law_one) rfl
  refine ⟨fd, ["s", "things"], (T.glo 64), fn_ok (ms := [.sr, .fz]) (pm := [.sr, .fz]) (rk := .fz) (a := u_law_one) F sc_law_one rfl rfl rfl rfl fun cdv A outer s H E hr => ?_, F.kp, F.bindsN fun _ _ _ _ _ _ us hl => match us, hl with | [_, _], _ => rfl⟩
  exact (ss_one (PS.imp (ps_ret (pd_ix (pd_var 1) (pd_callC C_law_pick hr (by decide) pass0 (ad_consS 0 (ad_cons (pd_b1 call_len rc_len (T.free 0) PySem.boot_len (pd_var 1)) ad_nil))))) fun _ _ _ c => c_ret c))

/-! _law_shuffled -/
theorem sc_law_shuffled : FnScope ["s", "things", "left", "out", "k"] ["s", "things"] (defScope s_law_shuffled) := ⟨rfl, rfl, rfl, by decide +kernel, rfl, by decide +kernel, by decide +kernel⟩
theorem ok_law_shuffled (T : Tx w K mg) (C_law_pick : Callee P w K mg base CX0 "_law_pick" 1 [.sr, .fz] .fz f_law_pick) : Callee P w K mg base CX0 "_law_shuffled" 2 [.sr, .fz] .nw f_law_shuffled := by
  obtain ⟨fd, F⟩ := T.def_ 30 (d := d_law_shuffled) rfl
  refine ⟨fd, ["s", "things"], (T.glo 65), fn_ok (ms := [.sr, .fz, .own, .own, .fz]) (pm := [.sr, .fz]) (rk := .nw) (a := u_law_shuffled) F sc_law_shuffled rfl rfl rfl rfl fun cdv A outer s H E hr => ?_, F.kp, F.bindsN fun _ _ _ _ _ _ us hl => match us, hl with | [_, _], _ => rfl⟩
  exact (ss_cons (PS.imp (ps_set (i := 2) sc_law_shuffled.nd rfl (by first | exact Or.inl rfl | exact Or.inr rfl) (pn_t1L call_list_of rn_list (T.free 14) PyProof.Rows.boot_list (pl_of (pd_var 1)))) fun _ _ _ c => c_setN rfl c)
  (ss_cons (PS.imp (ps_set (i := 3) sc_law_shuffled.nd rfl (by first | exact Or.inl rfl | exact Or.inr rfl) (pn_lst ad_nil (by decide))) fun _ _ _ c => c_setN rfl c)
  (ss_cons (PS.imp (ps_for PassesOwn.never rfl (pi_range1 rfl (T.free 1) (pa_cons (pd_b1 call_len rc_len (T.free 0) PySem.boot_len (pd_var 1)) pa_nil)) (pg_name (i := 4) sc_law_shuffled.nd rfl (by first | exact Or.inl rfl | exact Or.inr rfl))
  (ss_one (PS.imp (ps_expr (pe_bm PySem.F.plainAttrs_list PySem.F.slot_list_append PySem.F.type_list_append mt_append (pv 3) (pa_cons (pe_bm PySem.F.plainAttrs_list PySem.F.slot_list_pop PySem.F.type_list_pop mt_popAt (pv 2) (pa_cons (pd_callC C_law_pick hr (by decide) pass0 (ad_consS 0 (ad_cons (pd_b1L call_len rl_len (T.free 0) PySem.boot_len (pl_var 2)) ad_nil))) pa_nil)) pa_nil))) fun _ _ _ c => c_appPop rfl rfl (by decide) c))) fun _ _ _ c => c_forR1 (tg_name (i := 4) (vs := [4]) rfl (by decide)) c)
  (ss_one (PS.imp (ps_ret (pv 3)) fun _ _ _ c => c_retOwn rfl c)))))

/-! _law_name -/
theorem sc_law_name : FnScope ["s", "taken", "letters", "figures", "size", "name", "place", "free", "k", "other"] ["s", "taken"] (defScope s_law_name) := ⟨rfl, rfl, rfl, by decide +kernel, rfl, by decide +kernel, by decide +kernel⟩
theorem ok_law_name (T : Tx w K mg) (C_law_pick : Callee P w K mg base CX0 "_law_pick" 1 [.sr, .fz] .fz f_law_pick) (C_law_one : Callee P w K mg base CX0 "_law_one" 2 [.sr, .fz] .fz f_law_one) : Callee P w K mg base CX0 "_law_name" 3 [.sr, .sh] .fz f_law_name := by
  obtain ⟨fd, F⟩ := T.def_ 31 (d := d_law_name) rfl
  refine ⟨fd, ["s", "taken"], (T.glo 66), fn_ok (ms := [.sr, .sh, .fz, .fz, .fz, .fz, .fz, .fz, .fz, .fz]) (pm := [.sr, .sh]) (rk := .fz) (a := u_law_name) F sc_law_name rfl rfl rfl rfl fun cdv A outer s H E hr => ?_, F.kp, F.bindsN fun _ _ _ _ _ _ us hl => match us, hl with | [_, _], _ => rfl⟩
  exact (ss_cons (PS.imp (ps_asg (pd_tup (ad_cons pd_str (ad_cons pd_str ad_nil)) (by decide)) (pg_tup rfl (pgs_cons (pg_name (i := 2) sc_law_name.nd rfl (by first | exact Or.inl rfl | exact Or.inr rfl)) (pgs_cons (pg_name (i := 3) sc_law_name.nd rfl (by first | exact Or.inl rfl | exact Or.inr rfl)) pgs_nil)))) fun _ _ _ c => c_tgt (tg_tup (is := [2, 3]) (vs := [2, 3]) (by decide) rfl) c)
  (ss_cons (PS.imp (ps_set (i := 4) sc_law_name.nd rfl (by first | exact Or.inl rfl | exact Or.inr rfl) (pd_if (ptd_cmp op_eq rop_eq (pd_callC C_law_pick hr (by decide) pass0 (ad_consS 0 (ad_cons pd_int ad_nil))) pd_int (nomark _)) (pd_callC C_law_pick hr (by decide) pass0 (ad_consS 0 (ad_cons pd_int ad_nil))) (pd_callC C_law_pick hr (by decide) pass0 (ad_consS 0 (ad_cons pd_int ad_nil))))) fun _ _ _ c => c_set rfl c)
  (ss_cons (PS.imp (ps_set (i := 5) sc_law_name.nd rfl (by first | exact Or.inl rfl | exact Or.inr rfl) (pd_bin op_addAll rop_add (pd_callC C_law_one hr (by decide) pass0 (ad_consS 0 (ad_cons (pd_var 2) ad_nil))) (pd_join (pl_ofN (pn_lc (own := [("k", 8)]) (ul := (uLc [8] (uRng1 (uVar 4)) (bName 8) tYesU (uCall f_law_one [] (aSrc 0 (aCons (uOp dAdd (uVar 2) (uVar 3)) aNil))))) rfl sc_law_name.nd (pi_range1 rfl (T.free 1) (pa_cons (pd_var 4) pa_nil)) (blkOk_by (own := [("k", 8)]) (by kernel_rfl)) (fun {_ _ _} c => lcR1 (vs := [8]) (fz_all (by first | decide | rfl)) (tg_name (i := 8) rfl (by decide)) c) (fun _ _ _ _ _ => (pg_name (i := 8) sc_law_name.nd rfl (Or.inl rfl))) (fun _ _ _ _ _ => pts_yes) (fun _ _ _ _ _ => (pd_callC C_law_one hr (by decide) pass0 (ad_consS 0 (ad_cons (pd_bin op_addAll rop_add (pd_var 2) (pd_var 3)) ad_nil))))))))) fun _ _ _ c => c_set rfl c)
  (ss_cons (PS.imp (ps_set (i := 6) sc_law_name.nd rfl (by first | exact Or.inl rfl | exact Or.inr rfl) (pd_bin op_addAll rop_add pd_int (pd_callC C_law_pick hr (by decide) pass0 (ad_consS 0 (ad_cons (pd_var 4) ad_nil))))) fun _ _ _ c => c_set rfl c)
  (ss_cons (PS.imp (ps_if (pt_tr (pd_var 4))
  (ss_one (PS.imp (ps_set (i := 5) sc_law_name.nd rfl (by first | exact Or.inl rfl | exact Or.inr rfl) (pd_bin op_addAll rop_add (pd_bin op_addAll rop_add (pd_sl (pd_var 5) pp_none (pp_some (pd_var 6))) (pd_callC C_law_one hr (by decide) pass0 (ad_consS 0 (ad_cons (pd_var 3) ad_nil)))) (pd_sl (pd_var 5) (pp_some (pd_bin op_addAll rop_add (pd_var 6) pd_int)) pp_none))) fun _ _ _ c => c_set rfl c))
  ss_nil) fun _ _ _ c => c_if c)
  (ss_cons (PS.imp (ps_set (i := 7) sc_law_name.nd rfl (by first | exact Or.inl rfl | exact Or.inr rfl) (pd_bin op_addAll rop_add (pd_ofN (pn_lst (ad_cons (pd_var 5) ad_nil) (by decide))) (pd_ofN (pn_lc (own := [("k", 8)]) (ul := (uLc [8] (uRng1 (uC (.int 200))) (bName 8) tYesU (uOp dAdd (uSl (uVar 5) none (some (uC (.int 9)))) (uUn dStr (uOp dAdd (uVar 8) (uC (.int 100))))))) rfl sc_law_name.nd (pi_range1 rfl (T.free 1) (pa_cons pd_int pa_nil)) (blkOk_by (own := [("k", 8)]) (by kernel_rfl)) (fun {_ _ _} c => lcR1 (vs := [8]) (fz_all (by first | decide | rfl)) (tg_name (i := 8) rfl (by decide)) c) (fun _ _ _ _ _ => (pg_name (i := 8) sc_law_name.nd rfl (Or.inl rfl))) (fun _ _ _ _ _ => pts_yes) (fun _ _ _ _ _ => (pd_bin op_addAll rop_add (pd_sl (pd_var 5) pp_none (pp_some pd_int)) (pd_t1 call_str_int rc_str (T.free 30) PyProof.Rows.boot_str (pd_bin op_addAll rop_add (pd_var 8) pd_int)))))))) fun _ _ _ c => c_set rfl c)
  (ss_one (PS.imp (ps_ret (pd_ix (pd_ofN (pn_lc (own := [("other", 9)]) (ul := (uLc [9] (uItems (uVar 7)) (bName 9) (uTst dBool (uInL true (uVar 9) (uLVar 1))) (uVar 9))) rfl sc_law_name.nd (pi_any (pd_var 7)) (blkOk_by (own := [("other", 9)]) (by kernel_rfl)) (fun {_ _ _} c => lcA (vs := [9]) (fz_all (by first | decide | rfl)) (tg_name (i := 9) rfl (by decide)) c) (fun _ _ _ _ _ => (pg_name (i := 9) sc_law_name.nd rfl (Or.inl rfl))) (fun _ _ _ _ _ => (pts_one (ptd_inL (neg := true) op_notIn_seq (pd_var 9) (pl_var 1) (by rfl)))) (fun _ _ _ _ _ => (pd_var 9)))) pd_int)) fun _ _ _ c => c_ret c))))))))

/-! _law_names -/
theorem sc_law_names : FnScope ["s", "many", "taken", "out", "k"] ["s", "many", "taken"] (defScope s_law_names) := ⟨rfl, rfl, rfl, by decide +kernel, rfl, by decide +kernel, by decide +kernel⟩
theorem ok_law_names (T : Tx w K mg) (C_law_name : Callee P w K mg base CX0 "_law_name" 3 [.sr, .sh] .fz f_law_name) : Callee P w K mg base CX0 "_law_names" 4 [.sr, .fz, .own] .nw f_law_names := by
  obtain ⟨fd, F⟩ := T.def_ 32 (d := d_law_names) rfl
  refine ⟨fd, ["s", "many", "taken"], (T.glo 67), fn_ok (ms := [.sr, .fz, .own, .own, .fz]) (pm := [.sr, .fz, .own]) (rk := .nw) (a := u_law_names) F sc_law_names rfl rfl rfl rfl fun cdv A outer s H E hr => ?_, F.kp, F.bindsN fun _ _ _ _ _ _ us hl => match us, hl with | [_, _, _], _ => rfl⟩
  exact (ss_cons (PS.imp (ps_set (i := 3) sc_law_names.nd rfl (by first | exact Or.inl rfl | exact Or.inr rfl) (pn_lst ad_nil (by decide))) fun _ _ _ c => c_setN rfl c)
  (ss_cons (PS.imp (ps_for PassesOwn.never rfl (pi_range1 rfl (T.free 1) (pa_cons (pd_var 1) pa_nil)) (pg_name (i := 4) sc_law_names.nd rfl (by first | exact Or.inl rfl | exact Or.inr rfl))
  (ss_cons (PS.imp (ps_expr (pe_bm PySem.F.plainAttrs_list PySem.F.slot_list_append PySem.F.type_list_append mt_append (pv 3) (pa_cons (pd_callC C_law_name hr (by decide) pass0 (ad_consS 0 (ad_consL (pl_var 2) ad_nil))) pa_nil))) fun _ _ _ c => c_app rfl c)
  (ss_one (PS.imp (ps_expr (pe_bm PySem.F.plainAttrs_list PySem.F.slot_list_append PySem.F.type_list_append mt_append (pv 2) (pa_cons (pd_ixL (pl_var 3) (pd_un un_neg run_neg pd_int)) pa_nil))) fun _ _ _ c => c_app rfl c)))) fun _ _ _ c => c_forR1 (tg_name (i := 4) (vs := [4]) rfl (by decide)) c)
  (ss_one (PS.imp (ps_ret (pv 3)) fun _ _ _ c => c_retOwn rfl c))))

/-! _law_same -/
theorem sc_law_same : FnScope ["answer", "due", "key", "k"] ["answer", "due"] (defScope s_law_same) := ⟨rfl, rfl, rfl, by decide +kernel, rfl, by decide +kernel, by decide +kernel⟩
theorem ok_law_same (T : Tx w K mg) : ∀ k : Nat, Callee P w K mg base CX0 "_law_same" (k + 1) [.fz, .fz] .fz (f_law_same k)
  | 0 => by
    obtain ⟨fd, F⟩ := T.def_ 33 (d := d_law_same) rfl
    exact ⟨fd, ["answer", "due"], (T.glo 68), ⟨fun vs H Q E h => (spD_len h).trans rfl, fun A outer s H args us vs Q E hr he hb hv h => by
      obtain ⟨_, _, _, _, _, _, _, _, _, _, z, _⟩ := h
      cases z⟩, F.kp, F.bindsN fun _ _ _ _ _ _ us hl => match us, hl with | [_, _], _ => rfl⟩
  | k + 1 => by
    have Crec := ok_law_same T k
    obtain ⟨fd, F⟩ := T.def_ 33 (d := d_law_same) rfl
    refine ⟨fd, ["answer", "due"], (T.glo 68), fn_ok (ms := [.fz, .fz, .fz, .fz]) (pm := [.fz, .fz]) (rk := .fz) (a := u_law_same (f_law_same k)) F sc_law_same rfl rfl rfl rfl fun cdv A outer s H E hr => ?_, F.kp, F.bindsN fun _ _ _ _ _ _ us hl => match us, hl with | [_, _], _ => rfl⟩
    exact (ss_cons (PS.imp (ps_if (ptd_cmp op_isN rop_isN (pd_var 1) pd_non (nomark _))
  (ss_one (PS.imp (ps_ret (pd_cmp op_isN rop_isN (pd_var 0) pd_non (nomark _))) fun _ _ _ c => c_ret c))
  ss_nil) fun _ _ _ c => c_if c)
  (ss_cons (PS.imp (ps_if (pt_tr (pd_isi rfl (T.free 31) (T.free 30) PyProof.Rows.boot_str (pd_var 1)))
  (ss_one (PS.imp (ps_ret (pd_andV (pd_isi rfl (T.free 31) (T.free 30) PyProof.Rows.boot_str (pd_var 0)) (pd_one (pd_cmp op_eq rop_eq (pd_var 0) (pd_var 1) (nomark _))))) fun _ _ _ c => c_ret c))
  ss_nil) fun _ _ _ c => c_if c)
  (ss_cons (PS.imp (ps_if (pt_tr (pd_isi rfl (T.free 31) (T.free 29) PyProof.Rows.boot_int (pd_var 1)))
  (ss_one (PS.imp (ps_ret (pd_andV (pd_isi rfl (T.free 31) (T.free 29) PyProof.Rows.boot_int (pd_var 0)) (pd_andV (pd_cmp op_eq rop_eq (pd_isi rfl (T.free 31) (T.free 32) PyProof.Rows.boot_bool (pd_var 0)) (pd_isi rfl (T.free 31) (T.free 32) PyProof.Rows.boot_bool (pd_var 1)) (nomark _)) (pd_one (pd_cmp op_eq rop_eq (pd_var 0) (pd_var 1) (nomark _)))))) fun _ _ _ c => c_ret c))
  ss_nil) fun _ _ _ c => c_if c)
  (ss_cons (PS.imp (ps_if (pt_tr (pd_isi rfl (T.free 31) (T.free 33) PyProof.Rows.boot_dict (pd_var 1)))
  (ss_cons (PS.imp (ps_if (PW.pt (ptw_or (ptd_not (pt_tr (pd_isi rfl (T.free 31) (T.free 33) PyProof.Rows.boot_dict (pd_var 0)))) (ptw_one (ptd_cmp op_ne rop_ne (pd_b1 call_len rc_len (T.free 0) PySem.boot_len (pd_var 1)) (pd_b1 call_len rc_len (T.free 0) PySem.boot_len (pd_var 0)) (nomark _)))))
  (ss_one (PS.imp (ps_ret pd_bl) fun _ _ _ c => c_ret c))
  ss_nil) fun _ _ _ c => c_if c)
  (ss_one (PS.imp (ps_ret (pd_b1L (cr_all rfl) rl_all (T.free 34) PyProof.Rows.boot_all (pl_ofN (pn_lc (own := [("key", 2)]) (ul := (uLc [2] (uItems (uVar 1)) (bName 2) tYesU (uAndV (uRel (bIn false) (uVar 2) (uVar 0)) (uCall (f_law_same k) [] (aCons (uOp dIx (uVar 0) (uVar 2)) (aCons (uOp dIx (uVar 1) (uVar 2)) aNil)))))) rfl sc_law_same.nd (pi_any (pd_var 1)) (blkOk_by (own := [("key", 2)]) (by kernel_rfl)) (fun {_ _ _} c => lcA (vs := [2]) (fz_all (by first | decide | rfl)) (tg_name (i := 2) rfl (by decide)) c) (fun _ _ _ _ _ => (pg_name (i := 2) sc_law_same.nd rfl (Or.inl rfl))) (fun _ _ _ _ _ => pts_yes) (fun _ _ _ _ _ => (pd_andV (pd_cmp op_in_seq (rop_in (neg := false)) (pd_var 2) (pd_var 0) (by rfl)) (pd_one (pd_callC Crec hr (Nat.le_refl _) pass0 (ad_cons (pd_ix (pd_var 0) (pd_var 2)) (ad_cons (pd_ix (pd_var 1) (pd_var 2)) ad_nil)))))))))) fun _ _ _ c => c_ret c)))
  ss_nil) fun _ _ _ c => c_if c)
  (ss_cons (PS.imp (ps_if (PW.pt (ptw_or (ptd_cmp op_ne rop_ne (pd_isi rfl (T.free 31) (T.free 17) PyProof.Rows.boot_tuple (pd_var 1)) (pd_isi rfl (T.free 31) (T.free 17) PyProof.Rows.boot_tuple (pd_var 0)) (nomark _)) (ptw_one (ptd_cmp op_ne rop_ne (pd_isi rfl (T.free 31) (T.free 14) PyProof.Rows.boot_list (pd_var 1)) (pd_isi rfl (T.free 31) (T.free 14) PyProof.Rows.boot_list (pd_var 0)) (nomark _)))))
  (ss_one (PS.imp (ps_ret pd_bl) fun _ _ _ c => c_ret c))
  ss_nil) fun _ _ _ c => c_if c)
  (ss_one (PS.imp (ps_ret (pd_andV (pd_cmp op_eq rop_eq (pd_b1 call_len rc_len (T.free 0) PySem.boot_len (pd_var 0)) (pd_b1 call_len rc_len (T.free 0) PySem.boot_len (pd_var 1)) (nomark _)) (pd_one (pd_b1L (cr_all rfl) rl_all (T.free 34) PyProof.Rows.boot_all (pl_ofN (pn_lc (own := [("k", 3)]) (ul := (uLc [3] (uRng1 (uUn dLen (uVar 1))) (bName 3) tYesU (uCall (f_law_same k) [] (aCons (uOp dIx (uVar 0) (uVar 3)) (aCons (uOp dIx (uVar 1) (uVar 3)) aNil))))) rfl sc_law_same.nd (pi_range1 rfl (T.free 1) (pa_cons (pd_b1 call_len rc_len (T.free 0) PySem.boot_len (pd_var 1)) pa_nil)) (blkOk_by (own := [("k", 3)]) (by kernel_rfl)) (fun {_ _ _} c => lcR1 (vs := [3]) (fz_all (by first | decide | rfl)) (tg_name (i := 3) rfl (by decide)) c) (fun _ _ _ _ _ => (pg_name (i := 3) sc_law_same.nd rfl (Or.inl rfl))) (fun _ _ _ _ _ => pts_yes) (fun _ _ _ _ _ => (pd_callC Crec hr (Nat.le_refl _) pass0 (ad_cons (pd_ix (pd_var 0) (pd_var 3)) (ad_cons (pd_ix (pd_var 1) (pd_var 3)) ad_nil)))))))))) fun _ _ _ c => c_ret c)))))))

/-! _law_far -/
theorem sc_law_far : FnScope ["s", "size"] ["s"] (defScope s_law_far) := ⟨rfl, rfl, rfl, by decide +kernel, rfl, by decide +kernel, by decide +kernel⟩
theorem ok_law_far (T : Tx w K mg) (C_law_pick : Callee P w K mg base CX0 "_law_pick" 1 [.sr, .fz] .fz f_law_pick) : Callee P w K mg base CX0 "_law_far" 2 [.sr] .fz f_law_far := by
  obtain ⟨fd, F⟩ := T.def_ 34 (d := d_law_far) rfl
  refine ⟨fd, ["s"], (T.glo 69), fn_ok (ms := [.sr, .fz]) (pm := [.sr]) (rk := .fz) (a := u_law_far) F sc_law_far rfl rfl rfl rfl fun cdv A outer s H E hr => ?_, F.kp, F.bindsN fun _ _ _ _ _ _ us hl => match us, hl with | [_], _ => rfl⟩
  exact (ss_cons (PS.imp (ps_set (i := 1) sc_law_far.nd rfl (by first | exact Or.inl rfl | exact Or.inr rfl) (pd_bin op_addAll rop_add (pd_bin op_mulAll rop_mul (pd_bin op_addAll rop_add pd_int (pd_callC C_law_pick hr (by decide) pass0 (ad_consS 0 (ad_cons pd_int ad_nil)))) (pd_bin op_pow rop_pow pd_int pd_int)) (pd_callC C_law_pick hr (by decide) pass0 (ad_consS 0 (ad_cons (pd_bin op_pow rop_pow pd_int pd_int) ad_nil))))) fun _ _ _ c => c_set rfl c)
  (ss_one (PS.imp (ps_ret (pd_if (pt_tr (pd_callC C_law_pick hr (by decide) pass0 (ad_consS 0 (ad_cons pd_int ad_nil)))) (pd_var 1) (pd_bin op_sub rop_I0 pd_int (pd_var 1)))) fun _ _ _ c => c_ret c)))

/-! _law_lengths -/
theorem sc_law_lengths : FnScope ["s", "k"] ["s"] (defScope s_law_lengths) := ⟨rfl, rfl, rfl, by decide +kernel, rfl, by decide +kernel, by decide +kernel⟩
theorem ok_law_lengths (T : Tx w K mg) (C_law_pick : Callee P w K mg base CX0 "_law_pick" 1 [.sr, .fz] .fz f_law_pick) : Callee P w K mg base CX0 "_law_lengths" 2 [.sr] .fz f_law_lengths := by
  obtain ⟨fd, F⟩ := T.def_ 35 (d := d_law_lengths) rfl
  refine ⟨fd, ["s"], (T.glo 70), fn_ok (ms := [.sr, .fz]) (pm := [.sr]) (rk := .fz) (a := u_law_lengths) F sc_law_lengths rfl rfl rfl rfl fun cdv A outer s H E hr => ?_, F.kp, F.bindsN fun _ _ _ _ _ _ us hl => match us, hl with | [_], _ => rfl⟩
  exact (ss_one (PS.imp (ps_ret (pd_ofN (pn_lc (own := [("k", 1)]) (ul := (uLc [1] (uRng1 (uOp dAdd (uC (.int 1)) (uCall f_law_pick [] (aSrc 0 (aCons (uC (.int 3)) aNil))))) (bName 1) tYesU (uOp dAdd (uC (.int 1)) (uCall f_law_pick [] (aSrc 0 (aCons (uC (.int 3)) aNil)))))) rfl sc_law_lengths.nd (pi_range1 rfl (T.free 1) (pa_cons (pd_bin op_addAll rop_add pd_int (pd_callC C_law_pick hr (by decide) pass0 (ad_consS 0 (ad_cons pd_int ad_nil)))) pa_nil)) (blkOk_by (own := [("k", 1)]) (by kernel_rfl)) (fun {_ _ _} c => lcR1 (vs := [1]) (fz_all (by first | decide | rfl)) (tg_name (i := 1) rfl (by decide)) c) (fun _ _ _ _ _ => (pg_name (i := 1) sc_law_lengths.nd rfl (Or.inl rfl))) (fun _ _ _ _ _ => pts_yes) (fun _ _ _ _ _ => (pd_bin op_addAll rop_add pd_int (pd_callC C_law_pick hr (by decide) pass0 (ad_consS 0 (ad_cons pd_int ad_nil)))))))) fun _ _ _ c => c_ret c))

/-! _law_leap -/
theorem sc_law_leap : FnScope ["s", "kind", "a", "b", "rules"] ["s"] (defScope s_law_leap) := ⟨rfl, rfl, rfl, by decide +kernel, rfl, by decide +kernel, by decide +kernel⟩
theorem ok_law_leap (T : Tx w K mg) (C_law_pick : Callee P w K mg base CX0 "_law_pick" 1 [.sr, .fz] .fz f_law_pick) (C_law_shuffled : Callee P w K mg base CX0 "_law_shuffled" 2 [.sr, .fz] .nw f_law_shuffled) : Callee P w K mg base CX0 "_law_leap" 3 [.sr] .fz f_law_leap := by
  obtain ⟨fd, F⟩ := T.def_ 36 (d := d_law_leap) rfl
  refine ⟨fd, ["s"], (T.glo 71), fn_ok (ms := [.sr, .fz, .fz, .fz, .fz]) (pm := [.sr]) (rk := .fz) (a := u_law_leap) F sc_law_leap rfl rfl rfl rfl fun cdv A outer s H E hr => ?_, F.kp, F.bindsN fun _ _ _ _ _ _ us hl => match us, hl with | [_], _ => rfl⟩
  exact (ss_cons (PS.imp (ps_par (i := 1) (j := 2) rfl sc_law_leap.nd rfl rfl (by decide) rfl rfl (ad_cons (pd_callC C_law_pick hr (by decide) pass0 (ad_consS 0 (ad_cons pd_int ad_nil))) (ad_cons (pd_bin op_addAll rop_add pd_int (pd_callC C_law_pick hr (by decide) pass0 (ad_consS 0 (ad_cons pd_int ad_nil)))) ad_nil)) (by rfl)) fun _ _ _ c => c_par2 rfl rfl c)
  (ss_cons (PS.imp (ps_set (i := 3) sc_law_leap.nd rfl (by first | exact Or.inl rfl | exact Or.inr rfl) (pd_bin op_mulAll rop_mul (pd_var 2) (pd_bin op_addAll rop_add pd_int (pd_callC C_law_pick hr (by decide) pass0 (ad_consS 0 (ad_cons pd_int ad_nil)))))) fun _ _ _ c => c_set rfl c)
  (ss_cons (PS.imp (ps_set (i := 4) sc_law_leap.nd rfl (by first | exact Or.inl rfl | exact Or.inr rfl) (pd_ofN (pn_lst (ad_cons (pd_tup (ad_cons pd_str ad_nil) (by decide)) (ad_cons (pd_tup (ad_cons pd_str (ad_cons (pd_var 2) ad_nil)) (by decide)) (ad_cons (pd_tup (ad_cons pd_str (ad_cons (pd_var 2) (ad_cons (pd_var 3) ad_nil))) (by decide)) (ad_cons (pd_tup (ad_cons pd_str (ad_cons (pd_var 2) (ad_cons (pd_var 3) (ad_cons (pd_bin op_mulAll rop_mul (pd_var 3) pd_int) ad_nil)))) (by decide)) ad_nil)))) (by decide)))) fun _ _ _ c => c_set rfl c)
  (ss_one (PS.imp (ps_ret (pd_if (ptd_cmp op_lt rop_B0 (pd_var 1) pd_int (nomark _)) (pd_ix (pd_var 4) (pd_var 1)) (pd_tup (ad_cons pd_str (ad_cons (pd_var 2) (ad_cons (pd_ofN (pn_b1L cr_sortedI rn_sorted (T.free 35) PyProof.Rows.boot_sorted (pl_of (pd_sl (pd_ofN (pn_callC C_law_shuffled hr (by decide) pass0 (ad_consS 0 (ad_cons (pd_ofN (pn_listRg (rfl) (T.free 14) (T.free 1) (pd_var 2))) ad_nil)))) pp_none (pp_some (pd_bin op_addAll rop_add pd_int (pd_callC C_law_pick hr (by decide) pass0 (ad_consS 0 (ad_cons (pd_bin op_sub rop_I0 (pd_var 2) pd_int) ad_nil))))))))) ad_nil))) (by decide)))) fun _ _ _ c => c_ret c)))))

/-! _law_is_long -/
theorem sc_law_is_long : FnScope ["leap", "y", "hits", "n"] ["leap", "y"] (defScope s_law_is_long) := ⟨rfl, rfl, rfl, by decide +kernel, rfl, by decide +kernel, by decide +kernel⟩
theorem ok_law_is_long (T : Tx w K mg) : Callee P w K mg base CX0 "_law_is_long" 1 [.fz, .fz] .fz f_law_is_long := by
  obtain ⟨fd, F⟩ := T.def_ 37 (d := d_law_is_long) rfl
  refine ⟨fd, ["leap", "y"], (T.glo 72), fn_ok (ms := [.fz, .fz, .fz, .fz]) (pm := [.fz, .fz]) (rk := .fz) (a := u_law_is_long) F sc_law_is_long rfl rfl rfl rfl fun cdv A outer s H E hr => ?_, F.kp, F.bindsN fun _ _ _ _ _ _ us hl => match us, hl with | [_, _], _ => rfl⟩
  exact (ss_cons (PS.imp (ps_if (ptd_cmp op_eq rop_eq (pd_ix (pd_var 0) pd_int) pd_str (nomark _))
  (ss_one (PS.imp (ps_ret pd_bl) fun _ _ _ c => c_ret c))
  ss_nil) fun _ _ _ c => c_if c)
  (ss_cons (PS.imp (ps_if (ptd_cmp op_eq rop_eq (pd_ix (pd_var 0) pd_int) pd_str (nomark _))
  (ss_one (PS.imp (ps_ret (pd_cmp op_in_seq (rop_in (neg := false)) (pd_bin op_mod rop_mod (pd_t1 call_int1 rc_int (T.free 29) PyProof.Rows.boot_int (pd_var 1)) (pd_ix (pd_var 0) pd_int)) (pd_ix (pd_var 0) pd_int) (by rfl))) fun _ _ _ c => c_ret c))
  ss_nil) fun _ _ _ c => c_if c)
  (ss_cons (ps_setFof (ul := (uLc [3] (uItems (uSl (uVar 0) (some (uC (.int 1))) none)) (bName 3) tYesU (uRel bEq (uOp (dI2 iMod) (uUn dInt (uVar 1)) (uVar 3)) (uC (.int 0))))) rfl (ps_setLc (i := 2) (own := [("n", 3)]) rfl sc_law_is_long.nd rfl rfl (sw_true rfl rfl rfl (by decide +kernel)) (pi_any (pd_sl (pd_var 0) (pp_some pd_int) pp_none)) (blkOk_by (own := [("n", 3)]) (by kernel_rfl)) (fun _ _ _ _ _ => (pg_name (i := 3) sc_law_is_long.nd rfl (Or.inl rfl))) (fun _ _ _ _ _ => pts_yes) (fun _ _ _ _ _ => (pd_cmp op_eq rop_eq (pd_bin op_mod rop_mod (pd_t1 call_int1 rc_int (T.free 29) PyProof.Rows.boot_int (pd_var 1)) (pd_var 3)) pd_int (nomark _)))) (fun {_ _ _} c => lcA (vs := [3]) (fz_all (by first | decide | rfl)) (tg_name (i := 3) rfl (by decide)) c))
  (ss_one (PS.imp (ps_ret (pd_if (ptd_cmp op_eq rop_eq (pd_b1 call_len rc_len (T.free 0) PySem.boot_len (pd_var 2)) pd_int (nomark _)) (pd_ix (pd_var 2) pd_int) (pd_andV (pd_ix (pd_var 2) pd_int) (pd_one (pd_orV (pd_notV (pd_ix (pd_var 2) pd_int)) (pd_one (pd_andV (pd_cmp op_eq rop_eq (pd_b1 call_len rc_len (T.free 0) PySem.boot_len (pd_var 2)) pd_int (nomark _)) (pd_one (pd_ix (pd_var 2) pd_int))))))))) fun _ _ _ c => c_ret c)))))

/-! _law_months -/
theorem sc_law_months : FnScope ["seg", "y"] ["seg", "y"] (defScope s_law_months) := ⟨rfl, rfl, rfl, by decide +kernel, rfl, by decide +kernel, by decide +kernel⟩
theorem ok_law_months (T : Tx w K mg) (C_law_is_long : Callee P w K mg base CX0 "_law_is_long" 1 [.fz, .fz] .fz f_law_is_long) : Callee P w K mg base CX0 "_law_months" 2 [.fz, .fz] .fz f_law_months := by
  obtain ⟨fd, F⟩ := T.def_ 38 (d := d_law_months) rfl
  refine ⟨fd, ["seg", "y"], (T.glo 73), fn_ok (ms := [.fz, .fz]) (pm := [.fz, .fz]) (rk := .fz) (a := u_law_months) F sc_law_months rfl rfl rfl rfl fun cdv A outer s H E hr => ?_, F.kp, F.bindsN fun _ _ _ _ _ _ us hl => match us, hl with | [_, _], _ => rfl⟩
  exact (ss_one (PS.imp (ps_ret (pd_if (pt_tr (pd_callC C_law_is_long hr (by decide) pass0 (ad_cons (pd_ix (pd_var 0) pd_int) (ad_cons (pd_var 1) ad_nil)))) (pd_ix (pd_var 0) pd_int) (pd_ix (pd_var 0) pd_int))) fun _ _ _ c => c_ret c))

/-! _law_lcm -/
theorem sc_law_lcm : FnScope ["one", "other", "a", "b", "k"] ["one", "other"] (defScope s_law_lcm) := ⟨rfl, rfl, rfl, by decide +kernel, rfl, by decide +kernel, by decide +kernel⟩
theorem ok_law_lcm (T : Tx w K mg) : Callee P w K mg base CX0 "_law_lcm" 1 [.fz, .fz] .fz f_law_lcm := by
  obtain ⟨fd, F⟩ := T.def_ 39 (d := d_law_lcm) rfl
  refine ⟨fd, ["one", "other"], (T.glo 74), fn_ok (ms := [.fz, .fz, .fz, .fz, .fz]) (pm := [.fz, .fz]) (rk := .fz) (a := u_law_lcm) F sc_law_lcm rfl rfl rfl rfl fun cdv A outer s H E hr => ?_, F.kp, F.bindsN fun _ _ _ _ _ _ us hl => match us, hl with | [_, _], _ => rfl⟩
  exact (ss_cons (PS.imp (ps_par (i := 2) (j := 3) rfl sc_law_lcm.nd rfl rfl (by decide) rfl rfl (ad_cons (pd_var 0) (ad_cons (pd_var 1) ad_nil)) (by rfl)) fun _ _ _ c => c_par2 rfl rfl c)
  (ss_cons (PS.imp (ps_for PassesOwn.never rfl (pi_range1 rfl (T.free 1) (pa_cons pd_int pa_nil)) (pg_name (i := 4) sc_law_lcm.nd rfl (by first | exact Or.inl rfl | exact Or.inr rfl))
  (ss_one (PS.imp (ps_if (ptd_cmp op_gt rop_B0 (pd_var 3) pd_int (nomark _))
  (ss_one (PS.imp (ps_par (i := 2) (j := 3) rfl sc_law_lcm.nd rfl rfl (by decide) rfl rfl (ad_cons (pd_var 3) (ad_cons (pd_bin op_mod rop_mod (pd_t1 call_int1 rc_int (T.free 29) PyProof.Rows.boot_int (pd_var 2)) (pd_var 3)) ad_nil)) (by rfl)) fun _ _ _ c => c_par2 rfl rfl c))
  ss_nil) fun _ _ _ c => c_if c))) fun _ _ _ c => c_forR1 (tg_name (i := 4) (vs := [4]) rfl (by decide)) c)
  (ss_one (PS.imp (ps_ret (pd_bin op_mulAll rop_mul (pd_bin op_fdivW rop_div (pd_var 0) (pd_var 2)) (pd_var 1))) fun _ _ _ c => c_ret c))))

/-! _law_walk_days -/
theorem sc_law_walk_days : FnScope ["seg", "days", "y", "m", "d", "k"] ["seg", "days"] (defScope s_law_walk_days) := ⟨rfl, rfl, rfl, by decide +kernel, rfl, by decide +kernel, by decide +kernel⟩
theorem ok_law_walk_days (T : Tx w K mg) (C_law_months : Callee P w K mg base CX0 "_law_months" 2 [.fz, .fz] .fz f_law_months) : Callee P w K mg base CX0 "_law_walk_days" 3 [.fz, .fz] .fz f_law_walk_days := by
  obtain ⟨fd, F⟩ := T.def_ 40 (d := d_law_walk_days) rfl
  refine ⟨fd, ["seg", "days"], (T.glo 75), fn_ok (ms := [.fz, .fz, .fz, .fz, .fz, .fz]) (pm := [.fz, .fz]) (rk := .fz) (a := u_law_walk_days) F sc_law_walk_days rfl rfl rfl rfl fun cdv A outer s H E hr => ?_, F.kp, F.bindsN fun _ _ _ _ _ _ us hl => match us, hl with | [_, _], _ => rfl⟩
  exact (ss_cons (PS.imp (ps_asg (pd_ix (pd_var 0) pd_int) (pg_tup rfl (pgs_cons (pg_name (i := 2) sc_law_walk_days.nd rfl (by first | exact Or.inl rfl | exact Or.inr rfl)) (pgs_cons (pg_name (i := 3) sc_law_walk_days.nd rfl (by first | exact Or.inl rfl | exact Or.inr rfl)) (pgs_cons (pg_name (i := 4) sc_law_walk_days.nd rfl (by first | exact Or.inl rfl | exact Or.inr rfl)) pgs_nil))))) fun _ _ _ c => c_tgt (tg_tup (is := [2, 3, 4]) (vs := [2, 3, 4]) (by decide) rfl) c)
  (ss_cons (PS.imp (ps_for PassesOwn.never rfl (pi_range1 rfl (T.free 1) (pa_cons (pd_b1 call_abs rc_abs (T.free 16) PyProof.Rows.boot_abs (pd_var 1)) pa_nil)) (pg_name (i := 5) sc_law_walk_days.nd rfl (by first | exact Or.inl rfl | exact Or.inr rfl))
  (ss_one (PS.imp (ps_if (ptd_cmp op_gt rop_B0 (pd_var 1) pd_int (nomark _))
  (ss_cons (PS.imp (ps_set (i := 4) sc_law_walk_days.nd rfl (by first | exact Or.inl rfl | exact Or.inr rfl) (pd_bin op_addAll rop_add (pd_var 4) pd_int)) fun _ _ _ c => c_set rfl c)
  (ss_cons (PS.imp (ps_if (ptd_cmp op_gt rop_B0 (pd_var 4) (pd_ix (pd_callC C_law_months hr (by decide) pass0 (ad_cons (pd_var 0) (ad_cons (pd_var 2) ad_nil))) (pd_bin op_sub rop_I0 (pd_var 3) pd_int)) (nomark _))
  (ss_one (PS.imp (ps_par (i := 3) (j := 4) rfl sc_law_walk_days.nd rfl rfl (by decide) rfl rfl (ad_cons (pd_bin op_addAll rop_add (pd_var 3) pd_int) (ad_cons pd_int ad_nil)) (by rfl)) fun _ _ _ c => c_par2 rfl rfl c))
  ss_nil) fun _ _ _ c => c_if c)
  (ss_one (PS.imp (ps_if (ptd_cmp op_gt rop_B0 (pd_var 3) (pd_b1 call_len rc_len (T.free 0) PySem.boot_len (pd_callC C_law_months hr (by decide) pass0 (ad_cons (pd_var 0) (ad_cons (pd_var 2) ad_nil)))) (nomark _))
  (ss_one (PS.imp (ps_par (i := 2) (j := 3) rfl sc_law_walk_days.nd rfl rfl (by decide) rfl rfl (ad_cons (pd_bin op_addAll rop_add (pd_var 2) pd_int) (ad_cons pd_int ad_nil)) (by rfl)) fun _ _ _ c => c_par2 rfl rfl c))
  ss_nil) fun _ _ _ c => c_if c))))
  (ss_cons (PS.imp (ps_set (i := 4) sc_law_walk_days.nd rfl (by first | exact Or.inl rfl | exact Or.inr rfl) (pd_bin op_sub rop_I0 (pd_var 4) pd_int)) fun _ _ _ c => c_set rfl c)
  (ss_one (PS.imp (ps_if (ptd_cmp op_lt rop_B0 (pd_var 4) pd_int (nomark _))
  (ss_cons (PS.imp (ps_set (i := 3) sc_law_walk_days.nd rfl (by first | exact Or.inl rfl | exact Or.inr rfl) (pd_bin op_sub rop_I0 (pd_var 3) pd_int)) fun _ _ _ c => c_set rfl c)
  (ss_cons (PS.imp (ps_if (ptd_cmp op_lt rop_B0 (pd_var 3) pd_int (nomark _))
  (ss_one (PS.imp (ps_par (i := 2) (j := 3) rfl sc_law_walk_days.nd rfl rfl (by decide) rfl rfl (ad_cons (pd_bin op_sub rop_I0 (pd_var 2) pd_int) (ad_cons (pd_b1 call_len rc_len (T.free 0) PySem.boot_len (pd_callC C_law_months hr (by decide) pass0 (ad_cons (pd_var 0) (ad_cons (pd_bin op_sub rop_I0 (pd_var 2) pd_int) ad_nil)))) ad_nil)) (by rfl)) fun _ _ _ c => c_par2 rfl rfl c))
  ss_nil) fun _ _ _ c => c_if c)
  (ss_one (PS.imp (ps_set (i := 4) sc_law_walk_days.nd rfl (by first | exact Or.inl rfl | exact Or.inr rfl) (pd_ix (pd_callC C_law_months hr (by decide) pass0 (ad_cons (pd_var 0) (ad_cons (pd_var 2) ad_nil))) (pd_bin op_sub rop_I0 (pd_var 3) pd_int))) fun _ _ _ c => c_set rfl c))))
  ss_nil) fun _ _ _ c => c_if c)))) fun _ _ _ c => c_if c))) fun _ _ _ c => c_forR1 (tg_name (i := 5) (vs := [5]) rfl (by decide)) c)
  (ss_one (PS.imp (ps_ret (pd_tup (ad_cons (pd_var 2) (ad_cons (pd_var 3) (ad_cons (pd_var 4) ad_nil))) (by decide))) fun _ _ _ c => c_ret c))))

/-! _law_seg_at -/
theorem sc_law_seg_at : FnScope ["segs", "t", "told", "seg"] ["segs", "t"] (defScope s_law_seg_at) := ⟨rfl, rfl, rfl, by decide +kernel, rfl, by decide +kernel, by decide +kernel⟩
theorem ok_law_seg_at (T : Tx w K mg) : Callee P w K mg base CX0 "_law_seg_at" 1 [.sh, .fz] .fz f_law_seg_at := by
  obtain ⟨fd, F⟩ := T.def_ 41 (d := d_law_seg_at) rfl
  refine ⟨fd, ["segs", "t"], (T.glo 76), fn_ok (ms := [.sh, .fz, .fz, .fz]) (pm := [.sh, .fz]) (rk := .fz) (a := u_law_seg_at) F sc_law_seg_at rfl rfl rfl rfl fun cdv A outer s H E hr => ?_, F.kp, F.bindsN fun _ _ _ _ _ _ us hl => match us, hl with | [_, _], _ => rfl⟩
  exact (ss_cons (ps_setFof (ul := (uLc [3] (uLVar 0) (bName 3) (uTst dBool (uRel (bI2 fun i j => decide (i ≤ j)) (uOp dIx (uVar 3) (uC (.int 0))) (uVar 1))) (uVar 3))) rfl (ps_setLc (i := 2) (own := [("seg", 3)]) rfl sc_law_seg_at.nd rfl rfl (sw_true rfl rfl rfl (by decide +kernel)) (pi_list (pl_var 0)) (blkOk_by (own := [("seg", 3)]) (by kernel_rfl)) (fun _ _ _ _ _ => (pg_name (i := 3) sc_law_seg_at.nd rfl (Or.inl rfl))) (fun _ _ _ _ _ => (pts_one (ptd_cmp op_le rop_B0 (pd_ix (pd_var 3) pd_int) (pd_var 1) (nomark _)))) (fun _ _ _ _ _ => (pd_var 3))) (fun {_ _ _} c => lcL (vs := [3]) (fz_all (by first | decide | rfl)) (tg_name (i := 3) rfl (by decide)) c))
  (ss_one (PS.imp (ps_ret (pd_if (pt_tr (pd_var 2)) (pd_ix (pd_var 2) (pd_un un_neg run_neg pd_int)) (pd_ixL (pl_var 0) pd_int))) fun _ _ _ c => c_ret c)))

/-! _law_date -/
theorem sc_law_date : FnScope ["segs", "t", "seg", "past"] ["segs", "t"] (defScope s_law_date) := ⟨rfl, rfl, rfl, by decide +kernel, rfl, by decide +kernel, by decide +kernel⟩
theorem ok_law_date (T : Tx w K mg) (C_law_seg_at : Callee P w K mg base CX0 "_law_seg_at" 1 [.sh, .fz] .fz f_law_seg_at) (C_law_walk_days : Callee P w K mg base CX0 "_law_walk_days" 3 [.fz, .fz] .fz f_law_walk_days) : Callee P w K mg base CX0 "_law_date" 4 [.sh, .fz] .fz f_law_date := by
  obtain ⟨fd, F⟩ := T.def_ 42 (d := d_law_date) rfl
  refine ⟨fd, ["segs", "t"], (T.glo 77), fn_ok (ms := [.sh, .fz, .fz, .fz]) (pm := [.sh, .fz]) (rk := .fz) (a := u_law_date) F sc_law_date rfl rfl rfl rfl fun cdv A outer s H E hr => ?_, F.kp, F.bindsN fun _ _ _ _ _ _ us hl => match us, hl with | [_, _], _ => rfl⟩
  exact (ss_cons (PS.imp (ps_set (i := 2) sc_law_date.nd rfl (by first | exact Or.inl rfl | exact Or.inr rfl) (pd_callC C_law_seg_at hr (by decide) pass0 (ad_consL (pl_var 0) (ad_cons (pd_var 1) ad_nil)))) fun _ _ _ c => c_set rfl c)
  (ss_cons (PS.imp (ps_set (i := 3) sc_law_date.nd rfl (by first | exact Or.inl rfl | exact Or.inr rfl) (pd_bin op_addAll rop_add (pd_bin op_sub rop_I0 (pd_var 1) (pd_ix (pd_var 2) pd_int)) (pd_ix (pd_var 2) pd_int))) fun _ _ _ c => c_set rfl c)
  (ss_one (PS.imp (ps_ret (pd_bin op_addAll rop_add (pd_callC C_law_walk_days hr (by decide) pass0 (ad_cons (pd_var 2) (ad_cons (pd_bin op_fdivW rop_div (pd_var 3) (pd_ix (pd_var 2) pd_int)) ad_nil))) (pd_tup (ad_cons (pd_bin op_mod rop_mod (pd_t1 call_int1 rc_int (T.free 29) PyProof.Rows.boot_int (pd_var 3)) (pd_ix (pd_var 2) pd_int)) ad_nil) (by decide)))) fun _ _ _ c => c_ret c))))

/-! _law_a_segment -/
theorem sc_law_a_segment : FnScope ["s", "tick", "date", "cycles", "great", "width", "common", "long", "leap", "kind", "into", "seg", "months", "month", "k"] ["s", "tick", "date", "cycles", "great"] (defScope s_law_a_segment) := ⟨rfl, rfl, rfl, by decide +kernel, rfl, by decide +kernel, by decide +kernel⟩
theorem ok_law_a_segment (T : Tx w K mg) (C_law_lengths : Callee P w K mg base CX0 "_law_lengths" 2 [.sr] .fz f_law_lengths) (C_law_pick : Callee P w K mg base CX0 "_law_pick" 1 [.sr, .fz] .fz f_law_pick) (C_law_leap : Callee P w K mg base CX0 "_law_leap" 3 [.sr] .fz f_law_leap) (C_law_shuffled : Callee P w K mg base CX0 "_law_shuffled" 2 [.sr, .fz] .nw f_law_shuffled) (C_law_months : Callee P w K mg base CX0 "_law_months" 2 [.fz, .fz] .fz f_law_months) : Callee P w K mg base CX0 "_law_a_segment" 4 [.sr, .fz, .fz, .fz, .fz] .fz f_law_a_segment := by
  obtain ⟨fd, F⟩ := T.def_ 43 (d := d_law_a_segment) rfl
  refine ⟨fd, ["s", "tick", "date", "cycles", "great"], (T.glo 78), fn_ok (ms := [.sr, .fz, .fz, .fz, .fz, .fz, .fz, .fz, .fz, .fz, .fz, .fz, .fz, .fz, .fz]) (pm := [.sr, .fz, .fz, .fz, .fz]) (rk := .fz) (a := u_law_a_segment) F sc_law_a_segment rfl rfl rfl rfl fun cdv A outer s H E hr => ?_, F.kp, F.bindsN fun _ _ _ _ _ _ us hl => match us, hl with | [_, _, _, _, _], _ => rfl⟩
  exact (ss_cons (PS.imp (ps_par3 (i := 5) (j := 6) (l := 7) rfl sc_law_a_segment.nd rfl rfl rfl (by decide) (by decide) (by decide) rfl rfl rfl (ad_cons (pd_bin op_addAll rop_add pd_int (pd_callC C_law_pick hr (by decide) pass0 (ad_consS 0 (ad_cons pd_int ad_nil)))) (ad_cons (pd_callC C_law_lengths hr (by decide) pass0 (ad_consS 0 ad_nil)) (ad_cons (pd_callC C_law_lengths hr (by decide) pass0 (ad_consS 0 ad_nil)) ad_nil))) (by rfl)) fun _ _ _ c => c_par3 rfl rfl rfl c)
  (ss_cons (PS.imp (ps_if (pt_tr (pd_callC C_law_pick hr (by decide) pass0 (ad_consS 0 (ad_cons pd_int ad_nil))))
  (ss_one (PS.imp (ps_set (i := 7) sc_law_a_segment.nd rfl (by first | exact Or.inl rfl | exact Or.inr rfl) (pd_bin op_addAll rop_add (pd_sl (pd_var 6) pp_none (pp_some (pd_un un_neg run_neg pd_int))) (pd_ofN (pn_lst (ad_cons (pd_bin op_addAll rop_add (pd_ix (pd_var 6) (pd_un un_neg run_neg pd_int)) pd_int) ad_nil) (by decide))))) fun _ _ _ c => c_set rfl c))
  ss_nil) fun _ _ _ c => c_if c)
  (ss_cons (PS.imp (ps_par (i := 8) (j := 9) rfl sc_law_a_segment.nd rfl rfl (by decide) rfl rfl (ad_cons (pd_callC C_law_leap hr (by decide) pass0 (ad_consS 0 ad_nil)) (ad_cons (pd_if (pt_tr (pd_var 4)) (pd_callC C_law_pick hr (by decide) pass0 (ad_consS 0 (ad_cons pd_int ad_nil))) pd_int) ad_nil)) (by rfl)) fun _ _ _ c => c_par2 rfl rfl c)
  (ss_cons (PS.imp (ps_if (ptd_cmp op_eq rop_eq (pd_var 9) pd_int (nomark _))
  (ss_one (PS.imp (ps_set (i := 5) sc_law_a_segment.nd rfl (by first | exact Or.inl rfl | exact Or.inr rfl) (pd_if (pt_tr (pd_callC C_law_pick hr (by decide) pass0 (ad_consS 0 (ad_cons pd_int ad_nil)))) (pd_bin op_sub rop_I0 pd_int (pd_callC C_law_pick hr (by decide) pass0 (ad_consS 0 (ad_cons pd_int ad_nil)))) (pd_bin op_addAll rop_add pd_int (pd_callC C_law_pick hr (by decide) pass0 (ad_consS 0 (ad_cons pd_int ad_nil)))))) fun _ _ _ c => c_set rfl c))
  ss_nil) fun _ _ _ c => c_if c)
  (ss_cons (PS.imp (ps_if (ptd_cmp op_eq rop_eq (pd_var 9) pd_int (nomark _))
  (ss_one (ps_setFof (ul := (uLc [14] (uRng1 (uIf (uTru (uCall f_law_pick [] (aSrc 0 (aCons (uC (.int 2)) aNil)))) (uOp (dI2 fun i j => some (i - j)) (uC (.int 24)) (uCall f_law_pick [] (aSrc 0 (aCons (uC (.int 2)) aNil)))) (uOp dAdd (uC (.int 1)) (uCall f_law_pick [] (aSrc 0 (aCons (uC (.int 24)) aNil)))))) (bName 14) tYesU (uOp dAdd (uC (.int 1)) (uCall f_law_pick [] (aSrc 0 (aCons (uC (.int 60)) aNil)))))) rfl (ps_setLc (i := 6) (own := [("k", 14)]) rfl sc_law_a_segment.nd rfl rfl (sw_true rfl rfl rfl (by decide +kernel)) (pi_range1 rfl (T.free 1) (pa_cons (pd_if (pt_tr (pd_callC C_law_pick hr (by decide) pass0 (ad_consS 0 (ad_cons pd_int ad_nil)))) (pd_bin op_sub rop_I0 pd_int (pd_callC C_law_pick hr (by decide) pass0 (ad_consS 0 (ad_cons pd_int ad_nil)))) (pd_bin op_addAll rop_add pd_int (pd_callC C_law_pick hr (by decide) pass0 (ad_consS 0 (ad_cons pd_int ad_nil))))) pa_nil)) (blkOk_by (own := [("k", 14)]) (by kernel_rfl)) (fun _ _ _ _ _ => (pg_name (i := 14) sc_law_a_segment.nd rfl (Or.inl rfl))) (fun _ _ _ _ _ => pts_yes) (fun _ _ _ _ _ => (pd_bin op_addAll rop_add pd_int (pd_callC C_law_pick hr (by decide) pass0 (ad_consS 0 (ad_cons pd_int ad_nil)))))) (fun {_ _ _} c => lcR1 (vs := [14]) (fz_all (by first | decide | rfl)) (tg_name (i := 14) rfl (by decide)) c)))
  ss_nil) fun _ _ _ c => c_if c)
  (ss_cons (PS.imp (ps_if (ptd_cmp op_eq rop_eq (pd_var 9) pd_int (nomark _))
  (ss_one (PS.imp (ps_set (i := 8) sc_law_a_segment.nd rfl (by first | exact Or.inl rfl | exact Or.inr rfl) (pd_tup (ad_cons pd_str (ad_cons (pd_bin op_sub rop_I0 pd_int (pd_callC C_law_pick hr (by decide) pass0 (ad_consS 0 (ad_cons pd_int ad_nil)))) (ad_cons (pd_ofN (pn_b1L cr_sortedI rn_sorted (T.free 35) PyProof.Rows.boot_sorted (pl_of (pd_sl (pd_ofN (pn_callC C_law_shuffled hr (by decide) pass0 (ad_consS 0 (ad_cons (pd_ofN (pn_listRg (rfl) (T.free 14) (T.free 1) pd_int)) ad_nil)))) pp_none (pp_some (pd_bin op_addAll rop_add pd_int (pd_callC C_law_pick hr (by decide) pass0 (ad_consS 0 (ad_cons pd_int ad_nil))))))))) ad_nil))) (by decide))) fun _ _ _ c => c_set rfl c))
  ss_nil) fun _ _ _ c => c_if c)
  (ss_cons (PS.imp (ps_if (ptd_cmp op_eq rop_eq (pd_var 9) pd_int (nomark _))
  (ss_one (PS.imp (ps_set (i := 8) sc_law_a_segment.nd rfl (by first | exact Or.inl rfl | exact Or.inr rfl) (pd_tup (ad_cons pd_str (ad_cons pd_int (ad_cons pd_int (ad_cons pd_int ad_nil)))) (by decide))) fun _ _ _ c => c_set rfl c))
  ss_nil) fun _ _ _ c => c_if c)
  (ss_cons (PS.imp (ps_set (i := 10) sc_law_a_segment.nd rfl (by first | exact Or.inl rfl | exact Or.inr rfl) (pd_if (pt_tr (pd_callC C_law_pick hr (by decide) pass0 (ad_consS 0 (ad_cons pd_int ad_nil)))) (pd_callC C_law_pick hr (by decide) pass0 (ad_consS 0 (ad_cons (pd_var 5) ad_nil))) (pd_bin op_sub rop_I0 (pd_var 5) pd_int))) fun _ _ _ c => c_set rfl c)
  (ss_cons (PS.imp (ps_set (i := 11) sc_law_a_segment.nd rfl (by first | exact Or.inl rfl | exact Or.inr rfl) (pd_tup (ad_cons (pd_var 1) (ad_cons (pd_var 5) (ad_cons (pd_var 10) (ad_cons (pd_var 2) (ad_cons (pd_var 6) (ad_cons (pd_var 7) (ad_cons (pd_var 8) (ad_cons (pd_var 3) ad_nil)))))))) (by decide))) fun _ _ _ c => c_set rfl c)
  (ss_cons (PS.imp (ps_set (i := 12) sc_law_a_segment.nd rfl (by first | exact Or.inl rfl | exact Or.inr rfl) (pd_callC C_law_months hr (by decide) pass0 (ad_cons (pd_var 11) (ad_cons (pd_ix (pd_var 2) pd_int) ad_nil)))) fun _ _ _ c => c_set rfl c)
  (ss_cons (PS.imp (ps_set (i := 13) sc_law_a_segment.nd rfl (by first | exact Or.inl rfl | exact Or.inr rfl) (pd_b2 (call_min2 rfl) rc_min2 (T.free 24) PyProof.Rows.boot_min (pd_ix (pd_var 2) pd_int) (pd_b1 call_len rc_len (T.free 0) PySem.boot_len (pd_var 12)))) fun _ _ _ c => c_set rfl c)
  (ss_one (PS.imp (ps_ret (pd_bin op_addAll rop_add (pd_bin op_addAll rop_add (pd_sl (pd_var 11) pp_none (pp_some pd_int)) (pd_tup (ad_cons (pd_tup (ad_cons (pd_ix (pd_var 2) pd_int) (ad_cons (pd_var 13) (ad_cons (pd_b2 (call_min2 rfl) rc_min2 (T.free 24) PyProof.Rows.boot_min (pd_ix (pd_var 2) pd_int) (pd_ix (pd_var 12) (pd_bin op_sub rop_I0 (pd_var 13) pd_int))) ad_nil))) (by decide)) ad_nil) (by decide))) (pd_sl (pd_var 11) (pp_some pd_int) pp_none))) fun _ _ _ c => c_ret c)))))))))))))

/-! _law_a_days -/
theorem sc_law_a_days : FnScope ["seg", "t"] ["seg", "t"] (defScope s_law_a_days) := ⟨rfl, rfl, rfl, by decide +kernel, rfl, by decide +kernel, by decide +kernel⟩
theorem ok_law_a_days (T : Tx w K mg) : Callee P w K mg base CX0 "_law_a_days" 1 [.fz, .fz] .fz f_law_a_days := by
  obtain ⟨fd, F⟩ := T.def_ 45 (d := d_law_a_days) rfl
  refine ⟨fd, ["seg", "t"], (T.glo 79), fn_ok (ms := [.fz, .fz]) (pm := [.fz, .fz]) (rk := .fz) (a := u_law_a_days) F sc_law_a_days rfl rfl rfl rfl fun cdv A outer s H E hr => ?_, F.kp, F.bindsN fun _ _ _ _ _ _ us hl => match us, hl with | [_, _], _ => rfl⟩
  exact (ss_one (PS.imp (ps_ret (pd_bin op_fdivW rop_div (pd_bin op_addAll rop_add (pd_bin op_sub rop_I0 (pd_var 1) (pd_ix (pd_var 0) pd_int)) (pd_ix (pd_var 0) pd_int)) (pd_ix (pd_var 0) pd_int))) fun _ _ _ c => c_ret c))

/-! _law_a_segs -/
theorem sc_law_a_segs : FnScope ["s", "most", "great", "base", "names", "out", "lengths", "date", "k", "cycles", "kind", "old", "name", "j"] ["s", "most", "great"] (defScope s_law_a_segs) := ⟨rfl, rfl, rfl, by decide +kernel, rfl, by decide +kernel, by decide +kernel⟩
theorem ok_law_a_segs (T : Tx w K mg) (C_law_pick : Callee P w K mg base CX0 "_law_pick" 1 [.sr, .fz] .fz f_law_pick) (C_law_far : Callee P w K mg base CX0 "_law_far" 2 [.sr] .fz f_law_far) (C_law_names : Callee P w K mg base CX0 "_law_names" 4 [.sr, .fz, .own] .nw f_law_names) (C_law_a_segment : Callee P w K mg base CX0 "_law_a_segment" 4 [.sr, .fz, .fz, .fz, .fz] .fz f_law_a_segment) (C_law_date : Callee P w K mg base CX0 "_law_date" 4 [.sh, .fz] .fz f_law_date) (C_law_a_days : Callee P w K mg base CX0 "_law_a_days" 1 [.fz, .fz] .fz f_law_a_days) (C_law_walk_days : Callee P w K mg base CX0 "_law_walk_days" 3 [.fz, .fz] .fz f_law_walk_days) : Callee P w K mg base CX0 "_law_a_segs" 5 [.sr, .fz, .fz] .nw f_law_a_segs := by
  obtain ⟨fd, F⟩ := T.def_ 44 (d := d_law_a_segs) rfl
  refine ⟨fd, ["s", "most", "great"], (T.glo 80), fn_ok (ms := [.sr, .fz, .fz, .fz, .fz, .own, .fz, .fz, .fz, .fz, .fz, .fz, .fz, .fz]) (pm := [.sr, .fz, .fz]) (rk := .nw) (a := u_law_a_segs) F sc_law_a_segs rfl rfl rfl rfl fun cdv A outer s H E hr => ?_, F.kp, F.bindsN fun _ _ _ _ _ _ us hl => match us, hl with | [_, _, _], _ => rfl⟩
  exact (ss_cons (PS.imp (ps_set (i := 3) sc_law_a_segs.nd rfl (by first | exact Or.inl rfl | exact Or.inr rfl) (pd_if (ptd_cmp op_eq rop_eq (pd_callC C_law_pick hr (by decide) pass0 (ad_consS 0 (ad_cons pd_int ad_nil))) pd_int (nomark _)) (pd_callC C_law_far hr (by decide) pass0 (ad_consS 0 ad_nil)) (pd_bin op_sub rop_I0 (pd_callC C_law_pick hr (by decide) pass0 (ad_consS 0 (ad_cons pd_int ad_nil))) pd_int))) fun _ _ _ c => c_set rfl c)
  (ss_cons (PS.imp (ps_asg (pe_tup (ad_cons (pd_ofN (pn_callC C_law_names hr (by decide) pass0 (ad_consS 0 (ad_cons (pd_callC C_law_pick hr (by decide) pass0 (ad_consS 0 (ad_cons pd_int ad_nil))) (ad_lastN (pn_lst ad_nil (by decide))))))) (ad_lastN (pn_lst ad_nil (by decide))))) (pg_tup rfl (pgs_cons (pg_name (i := 4) sc_law_a_segs.nd rfl (by first | exact Or.inl rfl | exact Or.inr rfl)) (pgs_cons (pg_name (i := 5) sc_law_a_segs.nd rfl (by first | exact Or.inl rfl | exact Or.inr rfl)) pgs_nil)))) fun _ _ _ c => c_tup2N rfl rfl c)
  (ss_cons (PS.imp (ps_set (i := 6) sc_law_a_segs.nd rfl (by first | exact Or.inl rfl | exact Or.inr rfl) (pd_ofN (pn_lc (own := [("name", 12)]) (ul := (uLc [12] (uItems (uVar 4)) (bName 12) tYesU (uIf (uTru (uCall f_law_pick [] (aSrc 0 (aCons (uC (.int 3)) aNil)))) (uOp dAdd (uC (.int 2)) (uCall f_law_pick [] (aSrc 0 (aCons (uC (.int 5)) aNil)))) (uOp (dI2 fun i j => some (i - j)) (uC (.int 400)) (uCall f_law_pick [] (aSrc 0 (aCons (uC (.int 2)) aNil))))))) rfl sc_law_a_segs.nd (pi_any (pd_var 4)) (blkOk_by (own := [("name", 12)]) (by kernel_rfl)) (fun {_ _ _} c => lcA (vs := [12]) (fz_all (by first | decide | rfl)) (tg_name (i := 12) rfl (by decide)) c) (fun _ _ _ _ _ => (pg_name (i := 12) sc_law_a_segs.nd rfl (Or.inl rfl))) (fun _ _ _ _ _ => pts_yes) (fun _ _ _ _ _ => (pd_if (pt_tr (pd_callC C_law_pick hr (by decide) pass0 (ad_consS 0 (ad_cons pd_int ad_nil)))) (pd_bin op_addAll rop_add pd_int (pd_callC C_law_pick hr (by decide) pass0 (ad_consS 0 (ad_cons pd_int ad_nil)))) (pd_bin op_sub rop_I0 pd_int (pd_callC C_law_pick hr (by decide) pass0 (ad_consS 0 (ad_cons pd_int ad_nil))))))))) fun _ _ _ c => c_set rfl c)
  (ss_cons (PS.imp (ps_set (i := 7) sc_law_a_segs.nd rfl (by first | exact Or.inl rfl | exact Or.inr rfl) (pd_tup (ad_cons (pd_if (pt_tr (pd_callC C_law_pick hr (by decide) pass0 (ad_consS 0 (ad_cons pd_int ad_nil)))) (pd_bin op_sub rop_I0 (pd_callC C_law_pick hr (by decide) pass0 (ad_consS 0 (ad_cons pd_int ad_nil))) pd_int) (pd_callC C_law_far hr (by decide) pass0 (ad_consS 0 ad_nil))) (ad_cons (pd_bin op_addAll rop_add pd_int (pd_callC C_law_pick hr (by decide) pass0 (ad_consS 0 (ad_cons pd_int ad_nil)))) (ad_cons (pd_bin op_addAll rop_add pd_int (pd_callC C_law_pick hr (by decide) pass0 (ad_consS 0 (ad_cons pd_int ad_nil)))) ad_nil))) (by decide))) fun _ _ _ c => c_set rfl c)
  (ss_cons (PS.imp (ps_for PassesOwn.never rfl (pi_range1 rfl (T.free 1) (pa_cons (pd_bin op_addAll rop_add pd_int (pd_callC C_law_pick hr (by decide) pass0 (ad_consS 0 (ad_cons (pd_var 1) ad_nil)))) pa_nil)) (pg_name (i := 8) sc_law_a_segs.nd rfl (by first | exact Or.inl rfl | exact Or.inr rfl))
  (ss_cons (ps_setFof (ul := (uLc [13] (uRng1 (uUn dLen (uVar 4))) (bName 13) tYesU (uTup (aCons (uOp dIx (uVar 4) (uVar 13)) (aCons (uOp dIx (uVar 6) (uVar 13)) (aCons (uCall f_law_pick [] (aSrc 0 (aCons (uOp dIx (uVar 6) (uVar 13)) aNil))) aNil)))))) rfl (ps_setLc (i := 9) (own := [("j", 13)]) rfl sc_law_a_segs.nd rfl rfl (sw_true rfl rfl rfl (by decide +kernel)) (pi_range1 rfl (T.free 1) (pa_cons (pd_b1 call_len rc_len (T.free 0) PySem.boot_len (pd_var 4)) pa_nil)) (blkOk_by (own := [("j", 13)]) (by kernel_rfl)) (fun _ _ _ _ _ => (pg_name (i := 13) sc_law_a_segs.nd rfl (Or.inl rfl))) (fun _ _ _ _ _ => pts_yes) (fun _ _ _ _ _ => (pd_tup (ad_cons (pd_ix (pd_var 4) (pd_var 13)) (ad_cons (pd_ix (pd_var 6) (pd_var 13)) (ad_cons (pd_callC C_law_pick hr (by decide) pass0 (ad_consS 0 (ad_cons (pd_ix (pd_var 6) (pd_var 13)) ad_nil))) ad_nil))) (by decide)))) (fun {_ _ _} c => lcR1 (vs := [13]) (fz_all (by first | decide | rfl)) (tg_name (i := 13) rfl (by decide)) c))
  (ss_cons (PS.imp (ps_if (ptd_cmp op_eq rop_eq (pd_var 8) pd_int (nomark _))
  (ss_cons (PS.imp (ps_expr (pe_bm PySem.F.plainAttrs_list PySem.F.slot_list_append PySem.F.type_list_append mt_append (pv 5) (pa_cons (pd_callC C_law_a_segment hr (by decide) pass0 (ad_consS 0 (ad_cons (pd_var 3) (ad_cons (pd_var 7) (ad_cons (pd_var 9) (ad_cons (pd_var 2) ad_nil)))))) pa_nil))) fun _ _ _ c => c_app rfl c)
  (ss_one (PS.imp ps_continue fun _ _ _ c => c_cont c)))
  ss_nil) fun _ _ _ c => c_if c)
  (ss_cons (PS.imp (ps_par (i := 3) (j := 10) rfl sc_law_a_segs.nd rfl rfl (by decide) rfl rfl (ad_cons (pd_bin op_addAll rop_add (pd_bin op_addAll rop_add (pd_var 3) pd_int) (pd_callC C_law_pick hr (by decide) pass0 (ad_consS 0 (ad_cons pd_int ad_nil)))) (ad_cons (pd_callC C_law_pick hr (by decide) pass0 (ad_consS 0 (ad_cons pd_int ad_nil))) ad_nil)) (by rfl)) fun _ _ _ c => c_par2 rfl rfl c)
  (ss_cons (PS.imp (ps_par (i := 7) (j := 11) rfl sc_law_a_segs.nd rfl rfl (by decide) rfl rfl (ad_cons (pd_sl (pd_callC C_law_date hr (by decide) pass0 (ad_consL (pl_var 5) (ad_cons (pd_var 3) ad_nil))) pp_none (pp_some pd_int)) (ad_cons (pd_ixL (pl_var 5) (pd_un un_neg run_neg pd_int)) ad_nil)) (by rfl)) fun _ _ _ c => c_par2 rfl rfl c)
  (ss_one (PS.imp (ps_if (ptd_cmp op_lt rop_B0 (pd_var 10) pd_int (nomark _))
  (ss_one (PS.imp (ps_expr (pe_bm PySem.F.plainAttrs_list PySem.F.slot_list_append PySem.F.type_list_append mt_append (pv 5) (pa_cons (pd_bin op_addAll rop_add (pd_bin op_addAll rop_add (pd_tup (ad_cons (pd_var 3) (ad_cons (pd_ix (pd_var 11) pd_int) (ad_cons (pd_callC C_law_pick hr (by decide) pass0 (ad_consS 0 (ad_cons (pd_ix (pd_var 11) pd_int) ad_nil))) (ad_cons (pd_var 7) ad_nil)))) (by decide)) (pd_sl (pd_var 11) (pp_some pd_int) (pp_some pd_int))) (pd_tup (ad_cons (pd_var 9) ad_nil) (by decide))) pa_nil))) fun _ _ _ c => c_app rfl c))
  (ss_one (PS.imp (ps_if (ptd_cmp op_eq rop_eq (pd_var 10) pd_int (nomark _))
  (ss_one (PS.imp (ps_expr (pe_bm PySem.F.plainAttrs_list PySem.F.slot_list_append PySem.F.type_list_append mt_append (pv 5) (pa_cons (pd_bin op_addAll rop_add (pd_bin op_addAll rop_add (pd_tup (ad_cons (pd_var 3) (ad_cons (pd_ix (pd_var 11) pd_int) (ad_cons (pd_callC C_law_pick hr (by decide) pass0 (ad_consS 0 (ad_cons (pd_ix (pd_var 11) pd_int) ad_nil))) (ad_cons (pd_callC C_law_walk_days hr (by decide) pass0 (ad_cons (pd_var 11) (ad_cons (pd_bin op_sub rop_I0 (pd_callC C_law_a_days hr (by decide) pass0 (ad_cons (pd_var 11) (ad_cons (pd_var 3) ad_nil))) pd_int) ad_nil))) ad_nil)))) (by decide)) (pd_sl (pd_var 11) (pp_some pd_int) (pp_some pd_int))) (pd_tup (ad_cons (pd_var 9) ad_nil) (by decide))) pa_nil))) fun _ _ _ c => c_app rfl c))
  (ss_one (PS.imp (ps_expr (pe_bm PySem.F.plainAttrs_list PySem.F.slot_list_append PySem.F.type_list_append mt_append (pv 5) (pa_cons (pd_callC C_law_a_segment hr (by decide) pass0 (ad_consS 0 (ad_cons (pd_var 3) (ad_cons (pd_tup (ad_cons (pd_bin op_sub rop_I0 (pd_bin op_addAll rop_add (pd_ix (pd_var 7) pd_int) (pd_var 10)) pd_int) (ad_cons (pd_bin op_addAll rop_add pd_int (pd_callC C_law_pick hr (by decide) pass0 (ad_consS 0 (ad_cons pd_int ad_nil)))) (ad_cons (pd_bin op_addAll rop_add pd_int (pd_callC C_law_pick hr (by decide) pass0 (ad_consS 0 (ad_cons pd_int ad_nil)))) ad_nil))) (by decide)) (ad_cons (pd_var 9) (ad_cons (pd_var 2) ad_nil)))))) pa_nil))) fun _ _ _ c => c_app rfl c))) fun _ _ _ c => c_if c))) fun _ _ _ c => c_if c))))))) fun _ _ _ c => c_forR1 (tg_name (i := 8) (vs := [8]) rfl (by decide)) c)
  (ss_one (PS.imp (ps_ret (pv 5)) fun _ _ _ c => c_retOwn rfl c)))))))

/-! _law_a_loose -/
theorem sc_law_a_loose : FnScope ["leap", "part"] ["leap"] (defScope s_law_a_loose) := ⟨rfl, rfl, rfl, by decide +kernel, rfl, by decide +kernel, by decide +kernel⟩
theorem ok_law_a_loose (T : Tx w K mg) : Callee P w K mg base CX0 "_law_a_loose" 1 [.fz] .fz f_law_a_loose := by
  obtain ⟨fd, F⟩ := T.def_ 46 (d := d_law_a_loose) rfl
  refine ⟨fd, ["leap"], (T.glo 81), fn_ok (ms := [.fz, .fz]) (pm := [.fz]) (rk := .fz) (a := u_law_a_loose) F sc_law_a_loose rfl rfl rfl rfl fun cdv A outer s H E hr => ?_, F.kp, F.bindsN fun _ _ _ _ _ _ us hl => match us, hl with | [_], _ => rfl⟩
  exact (ss_one (PS.imp (ps_ret (pd_t1 call_tuple_of rc_tup (T.free 17) PyProof.Rows.boot_tuple (pd_ofN (pn_lc (own := [("part", 1)]) (ul := (uLc [1] (uItems (uVar 0)) (bName 1) tYesU (uIf (uTru (uUn (dIsi "list") (uVar 1))) (uUn dList (uVar 1)) (uVar 1)))) rfl sc_law_a_loose.nd (pi_any (pd_var 0)) (blkOk_by (own := [("part", 1)]) (by kernel_rfl)) (fun {_ _ _} c => lcA (vs := [1]) (fz_all (by first | decide | rfl)) (tg_name (i := 1) rfl (by decide)) c) (fun _ _ _ _ _ => (pg_name (i := 1) sc_law_a_loose.nd rfl (Or.inl rfl))) (fun _ _ _ _ _ => pts_yes) (fun _ _ _ _ _ => (pd_if (pt_tr (pd_isi rfl (T.free 31) (T.free 14) PyProof.Rows.boot_list (pd_var 1))) (pd_t1 call_list_of rc_list (T.free 14) PyProof.Rows.boot_list (pd_var 1)) (pd_var 1))))))) fun _ _ _ c => c_ret c))

/-! _law_a_rows -/
theorem sc_law_a_rows : FnScope ["segs", "seg"] ["segs"] (defScope s_law_a_rows) := ⟨rfl, rfl, rfl, by decide +kernel, rfl, by decide +kernel, by decide +kernel⟩
theorem ok_law_a_rows (T : Tx w K mg) (C_law_a_loose : Callee P w K mg base CX0 "_law_a_loose" 1 [.fz] .fz f_law_a_loose) : Callee P w K mg base CX0 "_law_a_rows" 2 [.sh] .fz f_law_a_rows := by
  obtain ⟨fd, F⟩ := T.def_ 47 (d := d_law_a_rows) rfl
  refine ⟨fd, ["segs"], (T.glo 82), fn_ok (ms := [.sh, .fz]) (pm := [.sh]) (rk := .fz) (a := u_law_a_rows) F sc_law_a_rows rfl rfl rfl rfl fun cdv A outer s H E hr => ?_, F.kp, F.bindsN fun _ _ _ _ _ _ us hl => match us, hl with | [_], _ => rfl⟩
  exact (ss_one (PS.imp (ps_ret (pd_ofN (pn_lc (own := [("seg", 1)]) (ul := (uLc [1] (uLVar 0) (bName 1) tYesU (uTup (aCons (uOp dIx (uVar 1) (uC (.int 0))) (aCons (uOp dIx (uVar 1) (uC (.int 1))) (aCons (uOp dIx (uVar 1) (uC (.int 2))) (aCons (uUn dTup (uOp dIx (uVar 1) (uC (.int 3)))) (aCons (uUn dList (uOp dIx (uVar 1) (uC (.int 4)))) (aCons (uUn dTup (uOp dIx (uVar 1) (uC (.int 5)))) (aCons (uCall f_law_a_loose [] (aCons (uOp dIx (uVar 1) (uC (.int 6))) aNil)) (aCons (uUn dList (uOp dIx (uVar 1) (uC (.int 7)))) aNil))))))))))) rfl sc_law_a_rows.nd (pi_list (pl_var 0)) (blkOk_by (own := [("seg", 1)]) (by kernel_rfl)) (fun {_ _ _} c => lcL (vs := [1]) (fz_all (by first | decide | rfl)) (tg_name (i := 1) rfl (by decide)) c) (fun _ _ _ _ _ => (pg_name (i := 1) sc_law_a_rows.nd rfl (Or.inl rfl))) (fun _ _ _ _ _ => pts_yes) (fun _ _ _ _ _ => (pd_tup (ad_cons (pd_ix (pd_var 1) pd_int) (ad_cons (pd_ix (pd_var 1) pd_int) (ad_cons (pd_ix (pd_var 1) pd_int) (ad_cons (pd_t1 call_tuple_of rc_tup (T.free 17) PyProof.Rows.boot_tuple (pd_ix (pd_var 1) pd_int)) (ad_cons (pd_t1 call_list_of rc_list (T.free 14) PyProof.Rows.boot_list (pd_ix (pd_var 1) pd_int)) (ad_cons (pd_t1 call_tuple_of rc_tup (T.free 17) PyProof.Rows.boot_tuple (pd_ix (pd_var 1) pd_int)) (ad_cons (pd_callC C_law_a_loose hr (by decide) pass0 (ad_cons (pd_ix (pd_var 1) pd_int) ad_nil)) (ad_cons (pd_t1 call_list_of rc_list (T.free 14) PyProof.Rows.boot_list (pd_ix (pd_var 1) pd_int)) ad_nil)))))))) (by decide)))))) fun _ _ _ c => c_ret c))

/-! _law_a_years -/
theorem sc_law_a_years : FnScope ["seg", "leap"] ["seg"] (defScope s_law_a_years) := ⟨rfl, rfl, rfl, by decide +kernel, rfl, by decide +kernel, by decide +kernel⟩
theorem ok_law_a_years (T : Tx w K mg) : Callee P w K mg base CX0 "_law_a_years" 1 [.fz] .fz f_law_a_years := by
  obtain ⟨fd, F⟩ := T.def_ 48 (d := d_law_a_years) rfl
  refine ⟨fd, ["seg"], (T.glo 83), fn_ok (ms := [.fz, .fz]) (pm := [.fz]) (rk := .fz) (a := u_law_a_years) F sc_law_a_years rfl rfl rfl rfl fun cdv A outer s H E hr => ?_, F.kp, F.bindsN fun _ _ _ _ _ _ us hl => match us, hl with | [_], _ => rfl⟩
  exact (ss_cons (PS.imp (ps_set (i := 1) sc_law_a_years.nd rfl (by first | exact Or.inl rfl | exact Or.inr rfl) (pd_ix (pd_var 0) pd_int)) fun _ _ _ c => c_set rfl c)
  (ss_one (PS.imp (ps_ret (pd_if (ptd_cmp op_eq rop_eq (pd_ix (pd_var 1) pd_int) pd_str (nomark _)) pd_int (pd_if (ptd_cmp op_eq rop_eq (pd_ix (pd_var 1) pd_int) pd_str (nomark _)) (pd_ix (pd_var 1) pd_int) (pd_ix (pd_var 1) (pd_un un_neg run_neg pd_int))))) fun _ _ _ c => c_ret c)))

/-! law -/
theorem sc_law : FnScope ["script", "s", "at", "segs", "k", "kind", "old", "date", "back", "j", "told", "days", "seg", "many", "cycle", "y"] ["script"] (defScope s_law) := ⟨rfl, rfl, rfl, by decide +kernel, rfl, by decide +kernel, by decide +kernel⟩
theorem ok_law (T : Tx w K mg) (C_law_source : Callee P w K mg base CX0 "_law_source" 1 [.sh, .fz] .nw f_law_source) (C_law_a_segs : Callee P w K mg base CX0 "_law_a_segs" 5 [.sr, .fz, .fz] .nw f_law_a_segs) (C_law_pick : Callee P w K mg base CX0 "_law_pick" 1 [.sr, .fz] .fz f_law_pick) (C_law_a_days : Callee P w K mg base CX0 "_law_a_days" 1 [.fz, .fz] .fz f_law_a_days) (C_law_walk_days : Callee P w K mg base CX0 "_law_walk_days" 3 [.fz, .fz] .fz f_law_walk_days) (C_Calendar___init__ : MakeC P w K mg base CX0 "Calendar" 7 [.fz] [.str ("" : PySem.Str)] f_Calendar___init__) (C_law_a_rows : Callee P w K mg base CX0 "_law_a_rows" 2 [.sh] .fz f_law_a_rows) (C_Calendar_goes_back : MethC P w K mg base CX0 "Calendar" "goes_back" 5 [.fz] f_Calendar_goes_back) (C_law_same : Callee P w K mg base CX0 "_law_same" 5 [.fz, .fz] .fz (f_law_same 4)) (C_law_a_years : Callee P w K mg base CX0 "_law_a_years" 1 [.fz] .fz f_law_a_years) (C_law_months : Callee P w K mg base CX0 "_law_months" 2 [.fz, .fz] .fz f_law_months) (C_law_lcm : Callee P w K mg base CX0 "_law_lcm" 1 [.fz, .fz] .fz f_law_lcm) (C_Calendar_round_length : MethC P w K mg base CX0 "Calendar" "round_length" 3 [.fz] f_Calendar_round_length) {fd : FuncData} (F : FunD K d_law.name d_law.qual d_law.params d_law.body d_law.scope (d_law.dvs K) (d_law.kws K) (He.fAd K d_law.at_) fd) : FnOk P w K mg base CX0 9 (He.ga K "law") fd ["script"] (spLaw K) := by
  refine F.ok sc_law (fun vs H Q E h => ?_) (fun cdv A outer s H vs Q E hr h => ⟨tSeq (tAsg (canonN K lms lawSrc) (gName 1)) (canonSt K .fz lms u_law_rest), PSs.nox ?_, law_pure (N := ["script", "s", "at", "segs", "k", "kind", "old", "date", "back", "j", "told", "days", "seg", "many", "cycle", "y"]) rfl h⟩)
  · obtain ⟨a, ns, rfl, _⟩ := h
    rfl
  exact (pss_cons (ps_set (i := 1) sc_law.nd rfl (by first | exact Or.inl rfl | exact Or.inr rfl) (pn_callC C_law_source hr (by decide) pass0 (ad_consL (pl_var 0) (ad_cons pd_int ad_nil))))
  (ss_cons (PS.imp (ps_for PassesOwn.never rfl (pi_range1 rfl (T.free 1) (pa_cons pd_int pa_nil)) (pg_name (i := 2) sc_law.nd rfl (by first | exact Or.inl rfl | exact Or.inr rfl))
  (ss_cons (PS.imp (ps_set (i := 3) sc_law.nd rfl (by first | exact Or.inl rfl | exact Or.inr rfl) (pn_callC C_law_a_segs hr (by decide) pass0 (ad_consS 1 (ad_cons pd_int (ad_cons (pd_cmp op_eq rop_eq (pd_var 2) pd_int (nomark _)) ad_nil))))) fun _ _ _ c => c_setN rfl c)
  (ss_cons (PS.imp (ps_par (i := 4) (j := 5) rfl sc_law.nd rfl rfl (by decide) rfl rfl (ad_cons (pd_callC C_law_pick hr (by decide) pass0 (ad_consS 1 (ad_cons (pd_b1L call_len rl_len (T.free 0) PySem.boot_len (pl_var 3)) ad_nil))) (ad_cons (pd_callC C_law_pick hr (by decide) pass0 (ad_consS 1 (ad_cons pd_int ad_nil))) ad_nil)) (by rfl)) fun _ _ _ c => c_par2 rfl rfl c)
  (ss_cons (PS.imp (ps_if (PW.pt (ptw_and (ptd_cmp op_gt rop_B0 (pd_var 4) pd_int (nomark _)) (ptw_one (ptd_cmp op_lt rop_B0 (pd_var 5) pd_int (nomark _)))))
  (ss_cons (PS.imp (ps_set (i := 6) sc_law.nd rfl (by first | exact Or.inl rfl | exact Or.inr rfl) (pd_ixL (pl_var 3) (pd_bin op_sub rop_I0 (pd_var 4) pd_int))) fun _ _ _ c => c_set rfl c)
  (ss_cons (PS.imp (ps_set (i := 7) sc_law.nd rfl (by first | exact Or.inl rfl | exact Or.inr rfl) (pd_callC C_law_walk_days hr (by decide) pass0 (ad_cons (pd_var 6) (ad_cons (pd_bin op_sub rop_I0 (pd_callC C_law_a_days hr (by decide) pass0 (ad_cons (pd_var 6) (ad_cons (pd_bin op_sub rop_I0 (pd_ix (pd_ixL (pl_var 3) (pd_var 4)) pd_int) pd_int) ad_nil))) (pd_var 5)) ad_nil)))) fun _ _ _ c => c_set rfl c)
  (ss_one (PS.imp (ps_asg (pd_bin op_addAll rop_add (pd_bin op_addAll rop_add (pd_tup (ad_cons (pd_ix (pd_ixL (pl_var 3) (pd_var 4)) pd_int) (ad_cons (pd_ix (pd_var 6) pd_int) (ad_cons (pd_if (ptd_cmp op_lt rop_B0 (pd_ix (pd_ixL (pl_var 3) (pd_var 4)) pd_int) (pd_ix (pd_var 6) pd_int) (nomark _)) (pd_ix (pd_ixL (pl_var 3) (pd_var 4)) pd_int) pd_int) (ad_cons (pd_var 7) ad_nil)))) (by decide)) (pd_sl (pd_var 6) (pp_some pd_int) (pp_some pd_int))) (pd_sl (pd_ixL (pl_var 3) (pd_var 4)) (pp_some pd_int) pp_none)) (pg_sub (pv 3) (pd_var 4) set_list)) fun _ _ _ c => c_setIx rfl c))))
  ss_nil) fun _ _ _ c => c_if c)
  (ss_cons (PS.imp (ps_set (i := 8) sc_law.nd rfl (by first | exact Or.inl rfl | exact Or.inr rfl) (pn_lst ad_nil (by decide))) fun _ _ _ c => c_setN rfl c)
  (ss_cons (PS.imp (ps_for PassesOwn.never rfl (pi_range2 rfl (T.free 1) (pa_cons pd_int (pa_cons (pd_b1L call_len rl_len (T.free 0) PySem.boot_len (pl_var 3)) pa_nil))) (pg_name (i := 9) sc_law.nd rfl (by first | exact Or.inl rfl | exact Or.inr rfl))
  (ss_cons (PS.imp (ps_set (i := 7) sc_law.nd rfl (by first | exact Or.inl rfl | exact Or.inr rfl) (pd_callC C_law_walk_days hr (by decide) pass0 (ad_cons (pd_ixL (pl_var 3) (pd_bin op_sub rop_I0 (pd_var 9) pd_int)) (ad_cons (pd_callC C_law_a_days hr (by decide) pass0 (ad_cons (pd_ixL (pl_var 3) (pd_bin op_sub rop_I0 (pd_var 9) pd_int)) (ad_cons (pd_bin op_sub rop_I0 (pd_ix (pd_ixL (pl_var 3) (pd_var 9)) pd_int) pd_int) ad_nil))) ad_nil)))) fun _ _ _ c => c_set rfl c)
  (ss_one (PS.imp (ps_if (ptd_cmp (op_ltT (Room.units0 hr)) rop_ltT (pd_ix (pd_ixL (pl_var 3) (pd_var 9)) pd_int) (pd_var 7) (nomark _))
  (ss_one (PS.imp (ps_expr (pe_bm PySem.F.plainAttrs_list PySem.F.slot_list_append PySem.F.type_list_append mt_append (pv 8) (pa_cons (pd_tup (ad_cons (pd_var 9) (ad_cons (pd_var 7) (ad_cons (pd_t1 call_tuple_of rc_tup (T.free 17) PyProof.Rows.boot_tuple (pd_ix (pd_ixL (pl_var 3) (pd_var 9)) pd_int)) ad_nil))) (by decide)) pa_nil))) fun _ _ _ c => c_app rfl c))
  ss_nil) fun _ _ _ c => c_if c)))) fun _ _ _ c => c_forR2 (tg_name (i := 9) (vs := [9]) rfl (by decide)) c)
  (ss_cons (PS.imp (ps_set (i := 10) sc_law.nd rfl (by first | exact Or.inl rfl | exact Or.inr rfl) (pd_makeC (c := ("Calendar" : PySem.Str)) C_Calendar___init__ hr (by decide) (Plain.cons (fun _ _ => .str _) .nil) pass0 (ad_cons (pd_callC C_law_a_rows hr (by decide) pass0 (ad_consL (pl_var 3) ad_nil)) ad_nil))) fun _ _ _ c => c_set rfl c)
  (ss_cons (PS.imp (ps_if (ptd_not (pt_tr (pd_callC C_law_same hr (by decide) pass0 (ad_cons (pd_methC0 (c := ("Calendar" : PySem.Str)) C_Calendar_goes_back hr (by decide) pass0 (pd_var 10)) (ad_cons (pd_if (pt_trL (pl_var 8)) (pd_ixL (pl_var 8) pd_int) pd_non) ad_nil)))))
  (ss_one (PS.imp (ps_ret pd_bl) fun _ _ _ c => c_ret c))
  ss_nil) fun _ _ _ c => c_if c)
  (ss_cons (PS.imp (ps_set (i := 11) sc_law.nd rfl (by first | exact Or.inl rfl | exact Or.inr rfl) (pn_lst ad_nil (by decide))) fun _ _ _ c => c_setN rfl c)
  (ss_cons (PS.imp (ps_for PassesOwn.never rfl (pi_any (pd_tup (ad_cons (pd_ixL (pl_var 3) pd_int) (ad_cons (pd_ixL (pl_var 3) (pd_un un_neg run_neg pd_int)) ad_nil)) (by decide))) (pg_name (i := 12) sc_law.nd rfl (by first | exact Or.inl rfl | exact Or.inr rfl))
  (ss_cons (PS.imp (ps_set (i := 13) sc_law.nd rfl (by first | exact Or.inl rfl | exact Or.inr rfl) (pd_b1L (cr_sum rfl) rl_sum (T.free 36) PyProof.Rows.boot_sum (pl_ofN (pn_lc (own := [("y", 15)]) (ul := (uLc [15] (uRng1 (uCall f_law_a_years [] (aCons (uVar 12) aNil))) (bName 15) tYesU (uUnL lSum (uLOf (uCall f_law_months [] (aCons (uVar 12) (aCons (uVar 15) aNil))))))) rfl sc_law.nd (pi_range1 rfl (T.free 1) (pa_cons (pd_callC C_law_a_years hr (by decide) pass0 (ad_cons (pd_var 12) ad_nil)) pa_nil)) (blkOk_by (own := [("y", 15)]) (by kernel_rfl)) (fun {_ _ _} c => lcR1 (vs := [15]) (fz_all (by first | decide | rfl)) (tg_name (i := 15) rfl (by decide)) c) (fun _ _ _ _ _ => (pg_name (i := 15) sc_law.nd rfl (Or.inl rfl))) (fun _ _ _ _ _ => pts_yes) (fun _ _ _ _ _ => (pd_b1L (cr_sum rfl) rl_sum (T.free 36) PyProof.Rows.boot_sum (pl_of (pd_callC C_law_months hr (by decide) pass0 (ad_cons (pd_var 12) (ad_cons (pd_var 15) ad_nil)))))))))) fun _ _ _ c => c_set rfl c)
  (ss_cons (PS.imp (ps_for PassesOwn.never rfl (pi_any (pd_ix (pd_var 12) pd_int)) (pg_name (i := 14) sc_law.nd rfl (by first | exact Or.inl rfl | exact Or.inr rfl))
  (ss_one (PS.imp (ps_set (i := 13) sc_law.nd rfl (by first | exact Or.inl rfl | exact Or.inr rfl) (pd_callC C_law_lcm hr (by decide) pass0 (ad_cons (pd_var 13) (ad_cons (pd_ix (pd_var 14) pd_int) ad_nil)))) fun _ _ _ c => c_set rfl c))) fun _ _ _ c => c_forA (tg_name (i := 14) (vs := [14]) rfl (by decide)) c)
  (ss_one (PS.imp (ps_expr (pe_bm PySem.F.plainAttrs_list PySem.F.slot_list_append PySem.F.type_list_append mt_append (pv 11) (pa_cons (pd_bin op_mulAll rop_mul (pd_var 13) (pd_ix (pd_var 12) pd_int)) pa_nil))) fun _ _ _ c => c_app rfl c))))) fun _ _ _ c => c_forA (tg_name (i := 12) (vs := [12]) rfl (by decide)) c)
  (ss_one (PS.imp (ps_if (ptd_not (pt_tr (pd_callC C_law_same hr (by decide) pass0 (ad_cons (pd_methC0 (c := ("Calendar" : PySem.Str)) C_Calendar_round_length hr (by decide) pass0 (pd_var 10)) (ad_cons (pd_callC C_law_lcm hr (by decide) pass0 (ad_cons (pd_ixL (pl_var 11) pd_int) (ad_cons (pd_ixL (pl_var 11) pd_int) ad_nil))) ad_nil)))))
  (ss_one (PS.imp (ps_ret pd_bl) fun _ _ _ c => c_ret c))
  ss_nil) fun _ _ _ c => c_if c)))))))))))) fun _ _ _ c => c_forR1 (tg_name (i := 2) (vs := [2]) rfl (by decide)) c)
  (ss_one (PS.imp (ps_ret pd_bl) fun _ _ _ c => c_ret c))))
theorem law_binds {fd : FuncData} (F : FunD K d_law.name d_law.qual d_law.params d_law.body d_law.scope (d_law.dvs K) (d_law.kws K) (He.fAd K d_law.at_) fd) (s : Shared) (v : Value) : BindsTo s fd ⟨[v], []⟩ [("script", v)] :=
  FunD.bindsA (ps := ["script"]) F (fun _ _ _ _ _ _ us hl => match us, hl with | [_], _ => rfl) s [v] rfl
theorem walk_law (T : Tx w K mg) {fd : FuncData} (F : FunD K d_law.name d_law.qual d_law.params d_law.body d_law.scope (d_law.dvs K) (d_law.kws K) (He.fAd K d_law.at_) fd) : FnOk P w K mg base CX0 9 (He.ga K "law") fd ["script"] (spLaw K) := by
  have C_segment_at := ok_segment_at (P := P) (base := base) T
  have C_place_in := ok_place_in (P := P) (base := base) T
  have C_is_long := ok_is_long (P := P) (base := base) T
  have C_Segment_starts := ok_Segment_starts (P := P) (base := base) T C_is_long
  have C_Segment_date_of := ok_Segment_date_of (P := P) (base := base) T C_place_in C_Segment_starts
  have C_Segment_day_at := ok_Segment_day_at (P := P) (base := base) T
  have C_name_at := ok_name_at (P := P) (base := base) T C_segment_at C_Segment_date_of C_Segment_day_at
  have C_leap_numbers := ok_leap_numbers (P := P) (base := base) T
  have C_leap_fits := ok_leap_fits (P := P) (base := base) T
  have C_leap_round := ok_leap_round (P := P) (base := base) T
  have C_too_many := ok_too_many (P := P) (base := base) T
  have C_number_check := ok_number_check (P := P) (base := base) T
  have C_segment_limits := ok_segment_limits (P := P) (base := base) T C_too_many C_leap_numbers
  have C_starts_of := ok_starts_of (P := P) (base := base) T
  have C_Segment_day_of := ok_Segment_day_of (P := P) (base := base) T C_Segment_starts
  have C_Segment___init__ := ok_Segment___init__ (P := P) (base := base) T C_starts_of C_leap_round C_Segment_starts C_Segment_day_of
  have C_Segment_has_date := ok_Segment_has_date (P := P) (base := base) T C_Segment_starts
  have C_common_divisor := ok_common_divisor (P := P) (base := base) T
  have C_least_multiple := ok_least_multiple (P := P) (base := base) T C_common_divisor
  have C_row_numbers := ok_row_numbers (P := P) (base := base) T C_leap_numbers
  have C_bounds_check := ok_bounds_check (P := P) (base := base) T C_row_numbers C_number_check C_too_many C_segment_limits
  have C_cycles_fit := ok_cycles_fit (P := P) (base := base) T
  have C_lengths_fit := ok_lengths_fit (P := P) (base := base) T
  have C_row_check := ok_row_check (P := P) (base := base) T C_lengths_fit C_leap_fits C_Segment___init__ C_Segment_starts C_Segment_has_date C_cycles_fit
  have C_Calendar___init__ := ok_Calendar___init__ (P := P) (base := base) T C_bounds_check C_row_check C_Segment___init__
  have C_Calendar_goes_back := ok_Calendar_goes_back (P := P) (base := base) T C_name_at
  have C_Calendar_round_length := ok_Calendar_round_length (P := P) (base := base) T C_least_multiple
  have C_law_source := ok_law_source (P := P) (base := base) T
  have C_law_pick := ok_law_pick (P := P) (base := base) T
  have C_law_one := ok_law_one (P := P) (base := base) T C_law_pick
  have C_law_shuffled := ok_law_shuffled (P := P) (base := base) T C_law_pick
  have C_law_name := ok_law_name (P := P) (base := base) T C_law_pick C_law_one
  have C_law_names := ok_law_names (P := P) (base := base) T C_law_name
  have C_law_same := ok_law_same (P := P) (base := base) T 4
  have C_law_far := ok_law_far (P := P) (base := base) T C_law_pick
  have C_law_lengths := ok_law_lengths (P := P) (base := base) T C_law_pick
  have C_law_leap := ok_law_leap (P := P) (base := base) T C_law_pick C_law_shuffled
  have C_law_is_long := ok_law_is_long (P := P) (base := base) T
  have C_law_months := ok_law_months (P := P) (base := base) T C_law_is_long
  have C_law_lcm := ok_law_lcm (P := P) (base := base) T
  have C_law_walk_days := ok_law_walk_days (P := P) (base := base) T C_law_months
  have C_law_seg_at := ok_law_seg_at (P := P) (base := base) T
  have C_law_date := ok_law_date (P := P) (base := base) T C_law_seg_at C_law_walk_days
  have C_law_a_segment := ok_law_a_segment (P := P) (base := base) T C_law_lengths C_law_pick C_law_leap C_law_shuffled C_law_months
  have C_law_a_days := ok_law_a_days (P := P) (base := base) T
  have C_law_a_segs := ok_law_a_segs (P := P) (base := base) T C_law_pick C_law_far C_law_names C_law_a_segment C_law_date C_law_a_days C_law_walk_days
  have C_law_a_loose := ok_law_a_loose (P := P) (base := base) T
  have C_law_a_rows := ok_law_a_rows (P := P) (base := base) T C_law_a_loose
  have C_law_a_years := ok_law_a_years (P := P) (base := base) T
  exact ok_law T C_law_source C_law_a_segs C_law_pick C_law_a_days C_law_walk_days C_Calendar___init__ C_law_a_rows C_Calendar_goes_back C_law_same C_law_a_years C_law_months C_law_lcm C_Calendar_round_length F
end Fw
set_option Elab.async false
set_option linter.all false
set_option maxRecDepth 100000
set_option maxHeartbeats 400000
namespace Fw
open PySem PySem.Spec L2
theorem law_ok (ns : List Int) (_ : ns.length ≤ 63) : LawOk ns := by
  obtain ⟨st0, h0⟩ := lawSrc_ok ns
  obtain ⟨ρ', s', _, e⟩ := lw_go [0, 1, 2] (none :: some .src :: List.replicate (lms.length - 2) none) st0 ⟨⟨_, _, _, _, _, _, _, _, _, _, _, _, _, _, rfl⟩⟩
  refine ⟨st0, ρ', s', h0, ?_⟩
  rw [law_rest_eq]
  exact uSeq_go ((uFor_eq (uRng1_eq (n := 3) rfl (by decide) (by decide))).trans e) rfl
end Fw
set_option Elab.async false
set_option linter.all false
set_option maxRecDepth 100000
set_option maxHeartbeats 4000000
open PySem PySem.W PySem.Calls PyProof.Rows
theorem PySem.Challenge.cw_doubteddays_k03_names_that_go_back_holds : PySem.Challenge.rw_doubteddays_k03_names_that_go_back.Holds := by
  w_on; o_law
  refine HandSHeadRun.head_any (r := OpenLaw.row PySem.Challenge.rw_doubteddays_k03_names_that_go_back) (q := view (OpenLaw.row PySem.Challenge.rw_doubteddays_k03_names_that_go_back).prog [60]) (H := Fw.lawH) (ob := Fw.lawOb) (M := 6000) (loose := Fw.looseN) (d := HandSHeadRun.topDef (OpenLaw.row PySem.Challenge.rw_doubteddays_k03_names_that_go_back).prog 60) (kwd := []) Fw.lawOb_eq
    (by kernel_rfl) (fun s => by kernel_rfl) Fw.lawRun (by kernel_rfl) (by kernel_rfl) (by kernel_rfl) (by rfl) (by first | assumption | decide +kernel) (by decide +kernel) ⟨rfl, rfl, rfl, rfl, rfl, by decide +kernel⟩ ?hw ?hc
  case hw => w_witness2
  case hc =>
    refine L2.walk_ofE (l := PySem.Challenge.rw_doubteddays_k03_names_that_go_back) (n := 63) (k := 9) (x := "script") (CX := L2.CX0) rfl (by decide) (by kernel_rfl) ⟨rfl, by decide, by decide⟩ ?F (fun _ _ _ _ z => z)
    intro w mg fa h Y G hmg0
    obtain ⟨K, KX, c⟩ := Y
    have hmg : mg ("law" : PySem.Str) = some (.ref fa) := by
      have e : (HandSHeadRun.topDef (OpenLaw.row PySem.Challenge.rw_doubteddays_k03_names_that_go_back).prog 60).name = ("law" : PySem.Str) := by kernel_rfl
      rw [← e]
      exact hmg0
    have T : Fw.Tx w K mg := ⟨⟨h, KX, G⟩, c.t, c.more⟩
    have eg := hmg.symm.trans (T.glo 84)
    cases eg
    obtain ⟨fd, F⟩ := T.def_ 49 (d := Fw.d_law) rfl
    exact ⟨K, fd, Fw.spLaw K, KX, Fw.law_binds F, fun H a ns hl _ hS => ⟨a, ns, rfl, hS, Fw.law_ok ns hl, fun _ => rfl⟩, fun base _ _ => Fw.walk_law (P := (PySem.Challenge.rw_doubteddays_k03_names_that_go_back).prog) (base := base) T F⟩
