import PyProof.Rows.All
import Wide.All
import OpenK.AllK
import Wide.FinOn
import HandS.ForMost
import HandS.Gcd
import HandS.Wide
import HandS.WideBits
import HandS.IsInst
import HandS.TupAny
import HandS.TupMul
import HandS.Zip
import HandS.Rev
import HandS.Style
import HandS.Flow
import HandS.Defaults
import PyProof.Rows.IntBool
import PyProof.NeData
import HandS.Walk
import HandS.Words
import HandS.WordsExc
import HandS.Head0
import HandS.Head1
import HandS.Head2
import HandS.HeadEnd
import HandS.HeadHook1
import HandS.HeadHook2
import KE.GoesEnum
import HandS.Star
import HandS.SetFor
import KE.KStateDown
import HandS.Head3
import PySem.Challenge.RW_splitcosts_k02_tables_of_anything
set_option Elab.async false
set_option linter.all false
set_option maxRecDepth 100000
set_option maxHeartbeats 4000000
/-! The data layer: what a piece of the program does to plain data (D), over the hand layer's readings. -/
namespace Dl
open PySem PySem.Spec PyProof.Rows L2

/-- plain data: what the program's values say -/
inductive D where
  | non | bl (b : Bool) | int (i : Int) | str (s : Str) | tup (ds : List D) | lst (ds : List D) | scr (ns : List Int) | dct

abbrev ASet := Addr → Prop
abbrev St := L2.St
/-- the script's list: locked, or of the written part -/
def ScrAt (K : PySem.W.Frag) (H : Hp) (a : Addr) (xs : List V) : Prop := (∃ o, H a = some (.frz o (.lst xs))) ∨
  ∃ (o : Obj) (its : Array Value) (n : Nat), K.lookup a = some o ∧ o.cls = .type "list" ∧ o.dict = none ∧ o.data = .seq its n ∧ its.size ≤ sizeLine ∧ Vals xs its.toList
theorem ScrAt.sq {K : PySem.W.Frag} {H : Hp} {a : Addr} {xs : List V} (h : ScrAt K H a xs) : SqL K H a xs := h.elim (fun ⟨o, h⟩ => .inl (.inr ⟨o, h⟩)) .inr
theorem ScrAt.of {K : PySem.W.Frag} {H : Hp} {a : Addr} {xs : List V} (hO : Only H) (h : SqL K H a xs) : ScrAt K H a xs := by
  rcases h with (h | h) | h
  · rcases hO a with q | ⟨o, ys, q⟩
    · rw [h] at q; cases q
    · rw [h] at q; cases q
  · exact .inl h
  · exact .inr h
/-! ### values and data; A: lists that a value must not lean on -/
mutual
inductive VR (K : PySem.W.Frag) (A : ASet) (H : Hp) : V → D → Prop
  | non : VR K A H .non .non
  | bl (b : Bool) : VR K A H (.bl b) (.bl b)
  | int (i : Int) : VR K A H (.int i) (.int i)
  | str (x : Str) : VR K A H (.str x) (.str x)
  | tup {a : Addr} {xs : List V} {ds : List D} : SqT K H a xs → VRs K A H xs ds → VR K A H (.ref a) (.tup ds)
  | lst {a : Addr} {xs : List V} {ds : List D} : ¬ A a → H a = some (.lst xs) → VRs K A H xs ds → VR K A H (.ref a) (.lst ds)
  | scr {a : Addr} {ns : List Int} : ScrAt K H a (ns.map V.int) → VR K A H (.ref a) (.scr ns)
  | dct {a : Addr} {kvs : List (Key × V)} : ¬ A a → H a = some (.dK kvs) → VR K A H (.ref a) .dct
inductive VRs (K : PySem.W.Frag) (A : ASet) (H : Hp) : List V → List D → Prop
  | nil : VRs K A H [] []
  | cons {v : V} {vs : List V} {d : D} {ds : List D} : VR K A H v d → VRs K A H vs ds → VRs K A H (v :: vs) (d :: ds)
end

/-- what is not a list of A stays; lists of A stay lists -/
structure Keep (A : ASet) (H H' : Hp) : Prop where
  st : ∀ a o, H a = some o → (A a → ∀ xs, o ≠ .lst xs) → H' a = some o
  ls : ∀ a xs, A a → H a = some (.lst xs) → ∃ xs', H' a = some (.lst xs')
theorem Keep.refl (A : ASet) (H : Hp) : Keep A H H := ⟨fun _ _ e _ => e, fun _ xs _ e => ⟨xs, e⟩⟩
theorem Keep.trans {A : ASet} {H H1 H2 : Hp} (a : Keep A H H1) (b : Keep A H1 H2) : Keep A H H2 :=
  ⟨fun c o e n => b.st c o (a.st c o e n) n, fun c xs i e => by obtain ⟨y, e1⟩ := a.ls c xs i e; exact b.ls c y i e1⟩
theorem Keep.mono {A B : ASet} {H H' : Hp} (k : Keep A H H') (h : ∀ a, A a → B a) : Keep B H H' :=
  ⟨fun a o e n => k.st a o e fun z => n (h a z), fun a xs _ e => by
    by_cases q : A a
    · exact k.ls a xs q e
    · exact ⟨xs, k.st a _ e fun z => absurd z q⟩⟩
abbrev Keep0 (H H' : Hp) : Prop := Keep (fun _ => False) H H'
theorem Keep.any {A : ASet} {H H' : Hp} (k : Keep0 H H') : Keep A H H' := k.mono fun _ z => z.elim
theorem Keep.same {H H' : Hp} (k : Keep0 H H') : Same H H' := fun a o e => k.st a o e fun z => z.elim
theorem keep_upd {H : Hp} {p : Addr} {o : HO} {A : ASet} (n : H p = none) : Keep A H (upd H p o) :=
  ⟨fun a u e _ => by rw [upd_ne (ne_of_none e n)]; exact e, fun a xs _ e => ⟨xs, by rw [upd_ne (ne_of_none e n)]; exact e⟩⟩
theorem Keep.tr {A : ASet} {H H' : Hp} (k : Keep A H H') {a : Addr} (h : H a ≠ none) : H' a ≠ none := by
  cases e : H a with
  | none => exact absurd e h
  | some o =>
    by_cases q : A a ∧ ∃ xs, o = .lst xs
    · obtain ⟨q1, xs, rfl⟩ := q
      obtain ⟨y, e1⟩ := k.ls a xs q1 e
      rw [e1]; intro z; cases z
    · rw [k.st a o e fun z xs e2 => q ⟨z, xs, e2⟩]; intro z; cases z

theorem SqT.keep {K : PySem.W.Frag} {A : ASet} {H H' : Hp} {a : Addr} {xs : List V} (k : Keep A H H') (h : SqT K H a xs) : SqT K H' a xs := by
  rcases h with (h | ⟨o, h⟩) | h
  · exact .inl (.inl (k.st _ _ h fun _ _ e => nomatch e))
  · exact .inl (.inr ⟨o, k.st _ _ h fun _ _ e => nomatch e⟩)
  · exact .inr h
mutual
theorem VR.keep {K : PySem.W.Frag} {A B : ASet} {H H' : Hp} (k : Keep B H H') (s : ∀ a, B a → A a) : ∀ {v : V} {d : D}, VR K A H v d → VR K A H' v d
  | _, _, .non => .non
  | _, _, .bl b => .bl b
  | _, _, .int i => .int i
  | _, _, .str x => .str x
  | _, _, .tup h hs => .tup (SqT.keep k h) (VRs.keep k s hs)
  | _, _, .lst n h hs => .lst n (k.st _ _ h fun z => absurd (s _ z) n) (VRs.keep k s hs)
  | _, _, .scr h => .scr (h.elim (fun ⟨o, h⟩ => .inl ⟨o, k.st _ _ h fun _ _ e => nomatch e⟩) .inr)
  | _, _, .dct n h => .dct n (k.st _ _ h fun _ _ e => nomatch e)
theorem VRs.keep {K : PySem.W.Frag} {A B : ASet} {H H' : Hp} (k : Keep B H H') (s : ∀ a, B a → A a) : ∀ {v : List V} {d : List D}, VRs K A H v d → VRs K A H' v d
  | _, _, .nil => .nil
  | _, _, .cons h hs => .cons (VR.keep k s h) (VRs.keep k s hs)
end
/- an avoided set made smaller, or larger by what is not tracked -/
mutual
theorem VR.avoid {K : PySem.W.Frag} {A B : ASet} {H : Hp} (s : ∀ a, B a → A a ∨ H a = none) : ∀ {v : V} {d : D}, VR K A H v d → VR K B H v d
  | _, _, .non => .non
  | _, _, .bl b => .bl b
  | _, _, .int i => .int i
  | _, _, .str x => .str x
  | _, _, .tup h hs => .tup h (VRs.avoid s hs)
  | _, _, .lst n h hs => .lst (fun z => (s _ z).elim n fun q => by rw [h] at q; cases q) h (VRs.avoid s hs)
  | _, _, .scr h => .scr h
  | _, _, .dct n h => .dct (fun z => (s _ z).elim n fun q => by rw [h] at q; cases q) h
theorem VRs.avoid {K : PySem.W.Frag} {A B : ASet} {H : Hp} (s : ∀ a, B a → A a ∨ H a = none) : ∀ {v : List V} {d : List D}, VRs K A H v d → VRs K B H v d
  | _, _, .nil => .nil
  | _, _, .cons h hs => .cons (VR.avoid s h) (VRs.avoid s hs)
end
section
variable {K : PySem.W.Frag} {A : ASet} {H : Hp}
theorem VRs.length : ∀ {xs : List V} {ds : List D}, VRs K A H xs ds → xs.length = ds.length
  | _, _, .nil => rfl
  | _, _, .cons _ t => congrArg (· + 1) (VRs.length t)
theorem VRs.get : ∀ {xs : List V} {ds : List D} {i : Nat} {d : D}, VRs K A H xs ds → ds[i]? = some d → ∃ v, xs[i]? = some v ∧ VR K A H v d
  | _, _, _, _, .nil, e => by simp at e
  | _, _, 0, _, .cons h _, e => by simp at e; subst e; exact ⟨_, rfl, h⟩
  | _, _, i + 1, _, .cons _ t, e => by
    obtain ⟨v, h1, h2⟩ := VRs.get (i := i) t (by simpa using e)
    exact ⟨v, by simpa using h1, h2⟩
theorem VRs.append : ∀ {xs ys : List V} {ds es : List D}, VRs K A H xs ds → VRs K A H ys es → VRs K A H (xs ++ ys) (ds ++ es)
  | _, _, _, _, .nil, h => h
  | _, _, _, _, .cons h t, g => .cons h (VRs.append t g)
theorem VRs.set : ∀ {xs : List V} {ds : List D} {v : V} {d : D} (i : Nat), VRs K A H xs ds → VR K A H v d → VRs K A H (xs.set i v) (ds.set i d)
  | _, _, _, _, _, .nil, _ => .nil
  | _, _, _, _, 0, .cons _ t, g => .cons g t
  | _, _, _, _, i + 1, .cons h t, g => .cons h (VRs.set i t g)
theorem VRs.take : ∀ {xs : List V} {ds : List D} (n : Nat), VRs K A H xs ds → VRs K A H (xs.take n) (ds.take n)
  | _, _, 0, _ => .nil
  | _, _, _ + 1, .nil => .nil
  | _, _, n + 1, .cons h t => .cons h (VRs.take n t)
theorem VRs.drop : ∀ {xs : List V} {ds : List D} (n : Nat), VRs K A H xs ds → VRs K A H (xs.drop n) (ds.drop n)
  | _, _, 0, h => h
  | _, _, _ + 1, .nil => .nil
  | _, _, n + 1, .cons _ t => VRs.drop n t
theorem VRs.rev {xs : List V} {ds : List D} (h : VRs K A H xs ds) : VRs K A H xs.reverse ds.reverse := by
  induction xs generalizing ds with
  | nil => cases h; exact .nil
  | cons x r ih =>
    cases h with
    | cons h t =>
      rw [List.reverse_cons, List.reverse_cons]
      exact (ih t).append (.cons h .nil)
theorem VRs.ints : ∀ (ns : List Int), VRs K A H (ns.map V.int) (ns.map D.int)
  | [] => .nil
  | _ :: r => .cons (.int _) (VRs.ints r)
end

/-- a value, or (st = false) a list of one's own as it stands now -/
def VT (st : Bool) (K : PySem.W.Frag) (A : ASet) (H : Hp) (v : V) (d : D) : Prop :=
  VR K A H v d ∨ (st = false ∧ ∃ a xs ds, v = .ref a ∧ d = .lst ds ∧ H a = some (.lst xs) ∧ VRs K A H xs ds)
theorem VT.of {st : Bool} {K : PySem.W.Frag} {A : ASet} {H : Hp} {v : V} {d : D} (h : VR K A H v d) : VT st K A H v d := .inl h
theorem VT.stable {K : PySem.W.Frag} {A : ASet} {H : Hp} {v : V} {d : D} (h : VT true K A H v d) : VR K A H v d := h.elim id fun q => Bool.noConfusion q.1
theorem VT.weak {st : Bool} {K : PySem.W.Frag} {A : ASet} {H : Hp} {v : V} {d : D} (h : VT st K A H v d) : VT false K A H v d := h.elim .inl fun q => .inr ⟨rfl, q.2⟩
inductive VTs (st : Bool) (K : PySem.W.Frag) (A : ASet) (H : Hp) : List V → List D → Prop
  | nil : VTs st K A H [] []
  | cons {v : V} {vs : List V} {d : D} {ds : List D} : VT st K A H v d → VTs st K A H vs ds → VTs st K A H (v :: vs) (d :: ds)
theorem VTs.weak {st : Bool} {K : PySem.W.Frag} {A : ASet} {H : Hp} : ∀ {v : List V} {d : List D}, VTs st K A H v d → VTs false K A H v d
  | _, _, .nil => .nil
  | _, _, .cons h t => .cons h.weak (VTs.weak t)
theorem VTs.stable {K : PySem.W.Frag} {A : ASet} {H : Hp} : ∀ {v : List V} {d : List D}, VTs true K A H v d → VRs K A H v d
  | _, _, .nil => .nil
  | _, _, .cons h t => .cons h.stable (VTs.stable t)
theorem VTs.of {st : Bool} {K : PySem.W.Frag} {A : ASet} {H : Hp} : ∀ {v : List V} {d : List D}, VRs K A H v d → VTs st K A H v d
  | _, _, .nil => .nil
  | _, _, .cons h t => .cons (.of h) (VTs.of t)
/-- .. carried over a step -/
theorem VT.keep {st p : Bool} {K : PySem.W.Frag} {A B : ASet} {H H' : Hp} {v : V} {d : D} (c : (st || p) = true) (k : Keep (fun a => p = false ∧ B a) H H') (s : ∀ a, B a → A a) (h : VT st K A H v d) : VT st K A H' v d := by
  rcases h with h | ⟨e, a, xs, ds, e1, e2, e3, e4⟩
  · exact .inl (h.keep k fun a q => s a q.2)
  · subst e
    have e : p = true := by simpa using c
    subst e
    have k0 : Keep0 H H' := k.mono fun _ q => Bool.noConfusion q.1
    exact .inr ⟨rfl, a, xs, ds, e1, e2, k0.st _ _ e3 fun z => z.elim, e4.keep k0 fun _ z => z.elim⟩
theorem VTs.keep {st p : Bool} {K : PySem.W.Frag} {A B : ASet} {H H' : Hp} (c : (st || p) = true) (k : Keep (fun a => p = false ∧ B a) H H') (s : ∀ a, B a → A a) : ∀ {v : List V} {d : List D}, VTs st K A H v d → VTs st K A H' v d
  | _, _, .nil => .nil
  | _, _, .cons h t => .cons (h.keep c k s) (VTs.keep c k s t)
/-- the items of a tuple, of a list -/
theorem VT.tup_inv {st : Bool} {K : PySem.W.Frag} {A : ASet} {H : Hp} {v : V} {ds : List D} (h : VT st K A H v (.tup ds)) : ∃ a xs, v = .ref a ∧ SqT K H a xs ∧ VRs K A H xs ds := by
  rcases h with h | ⟨_, _, _, _, _, e, _⟩
  · cases h with
    | tup h hs => exact ⟨_, _, rfl, h, hs⟩
  · cases e
theorem VT.lst_inv {st : Bool} {K : PySem.W.Frag} {A : ASet} {H : Hp} {v : V} {ds : List D} (h : VT st K A H v (.lst ds)) : ∃ a xs, v = .ref a ∧ H a = some (.lst xs) ∧ VRs K A H xs ds := by
  rcases h with h | ⟨_, a, xs, es, e1, e, e2, e3⟩
  · cases h with
    | lst _ h hs => exact ⟨_, _, rfl, h, hs⟩
  · cases e
    exact ⟨a, xs, e1, e2, e3⟩
theorem VT.scr_inv {st : Bool} {K : PySem.W.Frag} {A : ASet} {H : Hp} {v : V} {ns : List Int} (h : VT st K A H v (.scr ns)) : ∃ a, v = .ref a ∧ ScrAt K H a (ns.map V.int) := by
  rcases h with h | ⟨_, _, _, _, _, e, _⟩
  · cases h with
    | scr h => exact ⟨_, rfl, h⟩
  · cases e
theorem VT.int_inv {st : Bool} {K : PySem.W.Frag} {A : ASet} {H : Hp} {v : V} {i : Int} (h : VT st K A H v (.int i)) : v = .int i := by
  rcases h with h | ⟨_, _, _, _, _, e, _⟩
  · cases h; rfl
  · cases e
theorem VT.bl_inv {st : Bool} {K : PySem.W.Frag} {A : ASet} {H : Hp} {v : V} {i : Bool} (h : VT st K A H v (.bl i)) : v = .bl i := by
  rcases h with h | ⟨_, _, _, _, _, e, _⟩
  · cases h; rfl
  · cases e
theorem VT.non_inv {st : Bool} {K : PySem.W.Frag} {A : ASet} {H : Hp} {v : V} (h : VT st K A H v .non) : v = .non := by
  rcases h with h | ⟨_, _, _, _, _, e, _⟩
  · cases h; rfl
  · cases e
theorem VT.str_inv {st : Bool} {K : PySem.W.Frag} {A : ASet} {H : Hp} {v : V} {z : Str} (h : VT st K A H v (.str z)) : v = .str z := by
  rcases h with h | ⟨_, _, _, _, _, e, _⟩
  · cases h; rfl
  · cases e

/-! ### a def's run: what is its own -/
abbrev DEnv := List (Option D)
abbrev DFn := DEnv → Option (D × DEnv)
abbrev LFn := DEnv → Option (List D × DEnv)
abbrev TFn := DEnv → Option (Bool × DEnv)
/-- own: the slots that hold lists which nothing else leans on; io: those of them that are parameters, with their addresses; H0: the heap at the entry; W0: what the caller avoids; ex: lists in the making -/
structure Fx where
  own : List Nat
  io : List (Nat × Addr)
  H0 : Hp
  W0 : ASet
  ex : ASet
  fresh : Bool
def Fx.Own (F : Fx) (σ : St) : ASet := fun a => ∃ i, i ∈ F.own ∧ σ[i]? = some (some (.ref a))
def Fx.W (F : Fx) (σ : St) : ASet := fun a => F.W0 a ∨ F.Own σ a ∨ F.ex a
def Fx.add (F : Fx) (a : Addr) : Fx := { F with ex := fun b => F.ex b ∨ b = a }
def Fx.Chg (F : Fx) (σ : St) : ASet := fun a => F.Own σ a ∨ F.ex a
theorem Fx.chg_W {F : Fx} {σ : St} {a : Addr} (h : F.Chg σ a) : F.W σ a := h.elim (fun h => .inr (.inl h)) fun h => .inr (.inr h)
theorem Fx.own_W {F : Fx} {σ : St} {a : Addr} (h : F.Own σ a) : F.W σ a := .inr (.inl h)

structure EnvR (K : PySem.W.Frag) (F : Fx) (σ : St) (H : Hp) (ρ : DEnv) : Prop where
  len : ρ.length = σ.length
  val : ∀ (i : Nat) d, ρ[i]? = some (some d) → ∃ v, σ[i]? = some (some v) ∧ VT (decide (i ∉ F.own)) K (F.W σ) H v d
  lst : ∀ (i : Nat), i ∈ F.own → ∀ v, σ[i]? = some (some v) → ∃ a xs, v = .ref a ∧ H a = some (.lst xs)
  lsD : ∀ (i : Nat), i ∈ F.own → ∀ d, ρ[i]? = some (some d) → ∃ ds, d = .lst ds
  ap : ∀ (i j : Nat) a, i ∈ F.own → j ∈ F.own → σ[i]? = some (some (.ref a)) → σ[j]? = some (some (.ref a)) → i = j
  tr : ∀ a, F.W0 a → F.H0 a ≠ none
  fr : ∀ a o, F.H0 a = some o → (∀ p, p ∈ F.io → p.2 ≠ a) → H a = some o
  iop : ∀ p, p ∈ F.io → p.1 ∈ F.own ∧ F.W0 p.2 ∧ σ[p.1]? = some (some (.ref p.2))
  loc : ∀ (i : Nat), i ∈ F.own → (∀ p, p ∈ F.io → p.1 ≠ i) → ∀ a, σ[i]? = some (some (.ref a)) → F.H0 a = none
  exT : ∀ a, F.ex a → H a ≠ none ∧ F.H0 a = none ∧ ¬ F.Own σ a
section
variable {K : PySem.W.Frag} {F : Fx} {σ : St} {H H' : Hp} {ρ : DEnv}
theorem EnvR.ownT (R : EnvR K F σ H ρ) {a : Addr} (h : F.Own σ a) : ∃ xs, H a = some (.lst xs) := by
  obtain ⟨i, hi, e⟩ := h
  obtain ⟨b, xs, e1, e2⟩ := R.lst i hi _ e
  cases e1
  exact ⟨xs, e2⟩
theorem EnvR.trk (R : EnvR K F σ H ρ) {a : Addr} (h : F.W σ a) : H a ≠ none := by
  rcases h with h | h | h
  · by_cases q : ∀ p, p ∈ F.io → p.2 ≠ a
    · cases e : F.H0 a with
      | none => exact absurd e (R.tr a h)
      | some o => rw [R.fr a o e q]; intro z; cases z
    · have q2 : ∃ p, p ∈ F.io ∧ p.2 = a := Classical.byContradiction fun z => q fun p hp e => z ⟨p, hp, e⟩
      obtain ⟨p, hp, e⟩ := q2
      obtain ⟨h1, _, h3⟩ := R.iop p hp
      obtain ⟨xs, e2⟩ := R.ownT ⟨p.1, h1, h3⟩
      rw [← e, e2]; intro z; cases z
  · obtain ⟨xs, e⟩ := R.ownT h
    rw [e]; intro z; cases z
  · exact (R.exT a h).1
/-- over a step that changes no list of one's own -/
theorem EnvR.keep (R : EnvR K F σ H ρ) (k : Keep0 H H') : EnvR K F σ H' ρ where
  len := R.len
  val := fun i d e => by
    obtain ⟨v, h1, h2⟩ := R.val i d e
    exact ⟨v, h1, h2.keep (p := true) (B := fun _ => False) (by simp) (k.mono fun _ z => z.elim) fun _ z => z.elim⟩
  lst := fun i hi v e => by
    obtain ⟨a, xs, e1, e2⟩ := R.lst i hi v e
    exact ⟨a, xs, e1, k.st _ _ e2 fun z => z.elim⟩
  lsD := R.lsD
  ap := R.ap
  tr := R.tr
  fr := fun a o e n => k.st _ _ (R.fr a o e n) fun z => z.elim
  iop := R.iop
  loc := R.loc
  exT := fun a h => ⟨k.tr (R.exT a h).1, (R.exT a h).2⟩
theorem EnvR.own_ne_ex (R : EnvR K F σ H ρ) {a : Addr} (h : F.ex a) : ¬ F.Own σ a := (R.exT a h).2.2
/-- one more avoided address, new at H -/
theorem EnvR.add (R : EnvR K F σ H ρ) (k : Keep0 H H') {a : Addr} (n : H a = none) (n' : H' a ≠ none) : EnvR K (F.add a) σ H' ρ := by
  have R1 := R.keep k
  have hW : ∀ b, (F.add a).W σ b → F.W σ b ∨ H b = none := fun b h => by
    rcases h with h | h | h | h
    · exact .inl (.inl h)
    · exact .inl (.inr (.inl h))
    · exact .inl (.inr (.inr h))
    · subst h; exact .inr n
  refine ⟨R.len, fun i d e => ?_, R1.lst, R1.lsD, R1.ap, R1.tr, R1.fr, R1.iop, R1.loc, fun b h => ?_⟩
  · obtain ⟨v, h1, h2⟩ := R.val i d e
    refine ⟨v, h1, ?_⟩
    have h3 : VT (decide (i ∉ F.own)) K ((F.add a).W σ) H v d := by
      rcases h2 with h2 | ⟨q, b, xs, ds, e1, e2, e3, e4⟩
      · exact .inl (h2.avoid hW)
      · exact .inr ⟨q, b, xs, ds, e1, e2, e3, e4.avoid hW⟩
    exact h3.keep (p := true) (B := fun _ => False) (by simp) (k.mono fun _ z => z.elim) fun _ z => z.elim
  · rcases h with h | h
    · exact ⟨k.tr (R.exT b h).1, (R.exT b h).2⟩
    · subst h
      refine ⟨n', ?_, fun q => ?_⟩
      · show F.H0 b = none
        cases e : F.H0 b with
        | none => rfl
        | some o =>
          by_cases q : ∀ p, p ∈ F.io → p.2 ≠ b
          · rw [R.fr b o e q] at n; cases n
          · have q2 : ∃ p, p ∈ F.io ∧ p.2 = b := Classical.byContradiction fun z => q fun p hp e => z ⟨p, hp, e⟩
            obtain ⟨p, hp, e⟩ := q2
            obtain ⟨h1, _, h3⟩ := R.iop p hp
            obtain ⟨xs, e2⟩ := R.ownT ⟨p.1, h1, h3⟩
            rw [← e, e2] at n; cases n
      · obtain ⟨xs, e⟩ := R.ownT q
        rw [e] at n; cases n
/-- .. forgotten again -/
theorem EnvR.drop {a : Addr} (R : EnvR K (F.add a) σ H ρ) : EnvR K F σ H ρ := by
  have hW : ∀ b, F.W σ b → (F.add a).W σ b ∨ H b = none := fun b h => by
    rcases h with h | h | h
    · exact .inl (.inl h)
    · exact .inl (.inr (.inl h))
    · exact .inl (.inr (.inr (.inl h)))
  refine ⟨R.len, fun i d e => ?_, R.lst, R.lsD, R.ap, R.tr, R.fr, R.iop, R.loc, fun b h => R.exT b (.inl h)⟩
  obtain ⟨v, h1, h2⟩ := R.val i d e
  refine ⟨v, h1, ?_⟩
  rcases h2 with h2 | ⟨q, b, xs, ds, e1, e2, e3, e4⟩
  · exact .inl (h2.avoid hW)
  · exact .inr ⟨q, b, xs, ds, e1, e2, e3, e4.avoid hW⟩
end

theorem _root_.L2.PE.impD {X : Cx} {e : Expr} {t t' : TE} (h : PE X e t) (i : ∀ σ H Q, t' σ H Q → t σ H Q) : PE X e t' := ⟨fun pins s σ H Q I hw => h.run pins s σ H Q I (i σ H Q hw)⟩
theorem _root_.L2.PT.impD {X : Cx} {e : Expr} {t t' : TT} (h : PT X e t) (i : ∀ σ H Q, t' σ H Q → t σ H Q) : PT X e t' := ⟨fun pins s σ H Q I hw => h.run pins s σ H Q I (i σ H Q hw)⟩
theorem _root_.L2.PW.impD {X : Cx} {e : Expr} {t t' : TT} (h : PW X e t) (i : ∀ σ H Q, t' σ H Q → t σ H Q) : PW X e t' := ⟨fun wh pins s σ H Q I hw => h.run wh pins s σ H Q I (i σ H Q hw)⟩
theorem _root_.L2.PA.impD {X : Cx} {e : List Expr} {t t' : TA} (h : PA X e t) (i : ∀ σ H Q, t' σ H Q → t σ H Q) : PA X e t' := ⟨fun pos pins s σ H Q I hw => h.run pos pins s σ H Q I (i σ H Q hw)⟩
theorem _root_.L2.PS.impD {X : Cx} {e : Stmt} {t t' : TS} (h : PS X e t) (i : ∀ D σ H, t' D σ H → t D σ H) : PS X e t' := ⟨fun pins s σ H D I hw => h.run pins s σ H D I (i D σ H hw)⟩
theorem _root_.L2.PSs.impD {X : Cx} {e : List Stmt} {t t' : TS} (h : PSs X e t) (i : ∀ D σ H, t' D σ H → t D σ H) : PSs X e t' := ⟨fun pins s σ H D I hw => h.run pins s σ H D I (i D σ H hw)⟩

/-- the step that an expression makes: p: no list of one's own is changed -/
abbrev Stp (p : Bool) (F : Fx) (σ : St) (H H' : Hp) : Prop := Keep (fun a => p = false ∧ F.Own σ a) H H'
theorem Stp.pure {F : Fx} {σ : St} {H H' : Hp} (k : Stp true F σ H H') : Keep0 H H' := k.mono fun _ q => Bool.noConfusion q.1
theorem Stp.of {p : Bool} {F : Fx} {σ : St} {H H' : Hp} (k : Keep0 H H') : Stp p F σ H H' := k.mono fun _ z => z.elim
theorem Stp.trans {p q : Bool} {F : Fx} {σ : St} {H H1 H2 : Hp} (a : Stp p F σ H H1) (b : Stp q F σ H1 H2) : Stp (p && q) F σ H H2 :=
  Keep.trans (a.mono fun _ z => ⟨by simp [z.1], z.2⟩) (b.mono fun _ z => ⟨by simp [z.1], z.2⟩)

/-! ### readings by data -/
/-- an expression -/
def tD (K : PySem.W.Frag) (F : Fx) (p st : Bool) (f : DFn) : TE := fun σ H Q => ∃ ρ, EnvR K F σ H ρ ∧ ∃ d ρ', f ρ = some (d, ρ') ∧
  ∀ v H', Stp p F σ H H' → EnvR K F σ H' ρ' → VT st K (F.W σ) H' v d → Q v H'
/-- a new list -/
def tL (K : PySem.W.Frag) (F : Fx) (p : Bool) (f : LFn) : TE := fun σ H Q => ∃ ρ, EnvR K F σ H ρ ∧ ∃ ds ρ', f ρ = some (ds, ρ') ∧
  ∀ a xs H', Stp p F σ H H' → EnvR K (F.add a) σ H' ρ' → H a = none → H' a = some (.lst xs) → VRs K ((F.add a).W σ) H' xs ds → Q (.ref a) H'
/-- a test -/
def tT (K : PySem.W.Frag) (F : Fx) (p : Bool) (f : TFn) : TT := fun σ H Q => ∃ ρ, EnvR K F σ H ρ ∧ ∃ b ρ', f ρ = some (b, ρ') ∧
  ∀ H', Stp p F σ H H' → EnvR K F σ H' ρ' → Q b H'
/-- arguments -/
def tAs (K : PySem.W.Frag) (F : Fx) (p st : Bool) (f : LFn) : TA := fun σ H Q => ∃ ρ, EnvR K F σ H ρ ∧ ∃ ds ρ', f ρ = some (ds, ρ') ∧
  ∀ vs H', Stp p F σ H H' → EnvR K F σ H' ρ' → VTs st K (F.W σ) H' vs ds → Q vs H'
end Dl

namespace Dl
open PySem PySem.Spec PyProof.Rows L2

/-! ### values' functions -/
def LINE : Nat := sizeLine
def b2i (b : Bool) : Int := if b = true then 1 else 0
def gAdd : D → D → Option D
  | .int i, .int j => some (.int (i + j))
  | .tup xs, .tup ys => if xs.length + ys.length ≤ sizeLine then some (.tup (xs ++ ys)) else none
  | .lst xs, .lst ys => if xs.length + ys.length ≤ sizeLine then some (.lst (xs ++ ys)) else none
  | .bl b, .int j => some (.int (b2i b + j))
  | _, _ => none
def gSub : D → D → Option D
  | .int i, .int j => some (.int (i - j))
  | .int i, .bl b => some (.int (i - b2i b))
  | .bl b, .int j => some (.int (b2i b - j))
  | _, _ => none
def mulOk (i j : Int) : Bool := decide ((Builtin.Int.intBits i : Int) + (Builtin.Int.intBits j : Int) ≤ 134217728)
def gMul : D → D → Option D
  | .int i, .int j => if mulOk i j then some (.int (i * j)) else none
  | .lst xs, .int k => if 0 ≤ k ∧ k < 2 ^ 20 ∧ xs.length * k.toNat ≤ sizeLine then some (.lst (List.replicate k.toNat xs).flatten) else none
  | .tup xs, .int k => if xs ≠ [] ∧ 0 ≤ k ∧ k ≤ 1000 ∧ xs.length ≤ 1000 then some (.tup (List.replicate k.toNat xs).flatten) else none
  | .int i, .bl b => some (.int (i * b2i b))
  | _, _ => none
def divOk (j : Int) : Bool := decide (j ≠ 0) && decide (j.natAbs.log2 < 9000)
def gFdiv : D → D → Option D
  | .int i, .int j => if divOk j then some (.int (i.fdiv j)) else none
  | _, _ => none
def gMod : D → D → Option D
  | .int i, .int j => if j ≠ 0 then some (.int (i.fmod j)) else none
  | _, _ => none
def gPow : D → D → Option D
  | .int i, .int j => if 0 ≤ j ∧ j ≤ 1000000 ∧ i.natAbs < 2 ^ 64 then some (.int (i ^ j.toNat)) else none
  | _, _ => none
def gNeg : D → Option D
  | .int i => some (.int (-i))
  | _ => none
def gLt : D → D → Option D
  | .int i, .int j => some (.bl (decide (i < j)))
  | _, _ => none
def gLe : D → D → Option D
  | .int i, .int j => some (.bl (decide (i ≤ j)))
  | _, _ => none
def gGt : D → D → Option D
  | .int i, .int j => some (.bl (decide (j < i)))
  | _, _ => none
def gGe : D → D → Option D
  | .int i, .int j => some (.bl (decide (j ≤ i)))
  | _, _ => none
/- to the library's data -/
mutual
def toPy : D → PyData
  | .non => .none
  | .bl b => .bool b
  | .int i => .int i
  | .str s => .str s
  | .tup ds => .tuple (toPys ds)
  | .lst ds => .list (toPys ds)
  | .scr ns => .list (ns.map PyData.int)
  | .dct => .dict []
def toPys : List D → List PyData
  | [] => []
  | d :: ds => toPy d :: toPys ds
end
def eqOk (x y : D) : Bool := SeqAt.shaped (toPy x) && SeqAt.shaped (toPy y)
def gEq (x y : D) : Option D := if eqOk x y then some (.bl (PyData.eqv (toPy x) (toPy y))) else none
def gNe0 : D → D → Option D
  | .tup xs, .tup [] => some (.bl (!xs.isEmpty))
  | _, _ => none
def gNe (x y : D) : Option D := if eqOk x y then some (.bl (!PyData.eqv (toPy x) (toPy y))) else gNe0 x y
def isNon : D → Bool
  | .non => true
  | _ => false
def gIs : D → D → Option D
  | x, .non => some (.bl (isNon x))
  | .bl a, .bl b => some (.bl (decide (a = b)))
  | _, _ => none
def gIsNot : D → D → Option D
  | x, .non => some (.bl (!isNon x))
  | .bl a, .bl b => some (.bl (!decide (a = b)))
  | _, _ => none

/-! ### what the values' functions answer -/
def OpD (K : PySem.W.Frag) (r : R2) (g : D → D → Option D) : Prop := ∀ (A : ASet) (H : Hp) (x y : V) (dx dy d : D) (Q : VK), (∀ a, A a → H a ≠ none) → VT false K A H x dx → VT false K A H y dy → g dx dy = some d →
  (∀ v H', Keep0 H H' → VR K A H' v d → Q v H') → r x y H Q
section
variable {K : PySem.W.Frag} {A : ASet} {H : Hp}
theorem new_tup {p : Addr} {xs : List V} {ds : List D} (n : H p = none) (h : VRs K A H xs ds) : VR K A (upd H p (.tup xs)) (.ref p) (.tup ds) :=
  .tup (.inl (.inl upd_same)) (h.keep (keep_upd (A := fun _ => False) n) fun _ z => z.elim)
theorem new_lst {p : Addr} {xs : List V} {ds : List D} (n : H p = none) (t : ∀ a, A a → H a ≠ none) (h : VRs K A H xs ds) : VR K A (upd H p (.lst xs)) (.ref p) (.lst ds) :=
  .lst (fun z => t _ z n) upd_same (h.keep (keep_upd (A := fun _ => False) n) fun _ z => z.elim)
theorem VRs.nil_iff {xs : List V} {ds : List D} (h : VRs K A H xs ds) : xs = [] ↔ ds = [] := by
  cases h with
  | nil => simp
  | cons _ _ => simp
theorem dp_ints : ∀ ns : List Int, DpAll K H (ns.map V.int) (ns.map PyData.int)
  | [] => .nil
  | _ :: r => .cons (.int _) (dp_ints r)
mutual
theorem VR.dp : ∀ {v : V} {d : D}, VR K A H v d → (toPy d).canLay0 = true → Dp K H v (toPy d)
  | _, _, .non, _ => .non
  | _, _, .bl b, _ => .bl b
  | _, _, .int i, _ => .int i
  | _, _, .str x, _ => .str x
  | _, _, .tup h hs, q => .tup h (VRs.dp hs (by simpa [toPy, PyData.canLay0] using q))
  | _, _, .lst _ h hs, q => .lst (.inl (.inl h)) (VRs.dp hs (by simpa [toPy, PyData.canLay0] using q))
  | _, _, .scr h, _ => .lst h.sq (dp_ints _)
  | _, _, .dct _ _, q => by simp [toPy, PyData.canLay0] at q
theorem VRs.dp : ∀ {v : List V} {d : List D}, VRs K A H v d → PyData.canLayAll0 (toPys d) = true → DpAll K H v (toPys d)
  | _, _, .nil, _ => .nil
  | _, d :: ds, .cons h hs, q => by
    have q' : (toPy d).canLay0 = true ∧ PyData.canLayAll0 (toPys ds) = true := by simpa [toPys, PyData.canLayAll0] using q
    exact .cons (VR.dp h q'.1) (VRs.dp hs q'.2)
end
theorem VT.dp {st : Bool} {v : V} {d : D} (h : VT st K A H v d) (q : SeqAt.shaped (toPy d) = true) : Dp K H v (toPy d) := by
  have q' := SeqAt.canLay_of_shaped q
  rcases h with h | ⟨_, a, xs, ds, rfl, rfl, e2, e3⟩
  · exact h.dp q'
  · exact .lst (.inl (.inl e2)) (e3.dp (by simpa [toPy, PyData.canLay0] using q'))

theorem od_int {f : Int → Int → Int} {g : D → D → Option D} (hg : ∀ x y d, g x y = some d → ∃ i j, x = .int i ∧ y = .int j ∧ d = .int (f i j)) : OpD K (rI0 fun i j => .int (f i j)) g := by
  intro A H x y dx dy d Q _ hx hy e q
  obtain ⟨i, j, rfl, rfl, rfl⟩ := hg _ _ _ e
  exact ⟨i, j, hx.int_inv, hy.int_inv, q _ H (Keep.refl _ _) (.int _)⟩
theorem od_intC {C : Int → Int → Prop} {f : Int → Int → Int} {g : D → D → Option D} (hg : ∀ x y d, g x y = some d → ∃ i j, x = .int i ∧ y = .int j ∧ C i j ∧ d = .int (f i j)) : OpD K (rI C fun i j => .int (f i j)) g := by
  intro A H x y dx dy d Q _ hx hy e q
  obtain ⟨i, j, rfl, rfl, c, rfl⟩ := hg _ _ _ e
  exact ⟨i, j, hx.int_inv, hy.int_inv, c, q _ H (Keep.refl _ _) (.int _)⟩
theorem od_bl {f : Int → Int → Bool} {g : D → D → Option D} (hg : ∀ x y d, g x y = some d → ∃ i j, x = .int i ∧ y = .int j ∧ d = .bl (f i j)) : OpD K (rI0 fun i j => .bl (f i j)) g := by
  intro A H x y dx dy d Q _ hx hy e q
  obtain ⟨i, j, rfl, rfl, rfl⟩ := hg _ _ _ e
  exact ⟨i, j, hx.int_inv, hy.int_inv, q _ H (Keep.refl _ _) (.bl _)⟩
def rBI (f : Int → Int → Int) : R2 := fun x y H Q => ∃ (b : Bool) (j : Int), x = .bl b ∧ y = .int j ∧ Q (.int (f (b2i b) j)) H
def rIB (f : Int → Int → Int) : R2 := fun x y H Q => ∃ (i : Int) (b : Bool), x = .int i ∧ y = .bl b ∧ Q (.int (f i (b2i b))) H
theorem opBI {X : Cx} {f : Value → Value → Sem Value} {g : Int → Int → Int}
    (rule : ∀ (b : Bool) (j : Int) (u : Tok) (s : Shared) (Q : Value → Shared → Prop) (E : Value → Shared → Prop), Q (.int (g (b2i b) j) s.toks) { s with toks := s.toks + 1 } → wpAny (model X.prog X.w) X.A (f (.bool b) (.int j u)) Q E s) :
    OpR X f (rBI g) := by
  intro pins s σ H x y v u Q I rx ry h
  obtain ⟨b, j, rfl, rfl, q⟩ := h
  cases rx
  obtain ⟨t', rfl⟩ := ry
  exact rule b j t' s _ _ ⟨.int (g (b2i b) j), H, I.tok _, ⟨_, rfl⟩, q⟩
theorem opIB {X : Cx} {f : Value → Value → Sem Value} {g : Int → Int → Int}
    (rule : ∀ (i : Int) (b : Bool) (t : Tok) (s : Shared) (Q : Value → Shared → Prop) (E : Value → Shared → Prop), Q (.int (g i (b2i b)) s.toks) { s with toks := s.toks + 1 } → wpAny (model X.prog X.w) X.A (f (.int i t) (.bool b)) Q E s) :
    OpR X f (rIB g) := by
  intro pins s σ H x y v u Q I rx ry h
  obtain ⟨i, b, rfl, rfl, q⟩ := h
  obtain ⟨t, rfl⟩ := rx
  cases ry
  exact rule i b t s _ _ ⟨.int (g i (b2i b)), H, I.tok _, ⟨_, rfl⟩, q⟩
def rSubD : R2 := fun x y H Q => rI0 (fun i j => .int (i - j)) x y H Q ∨ rIB (fun i j => i - j) x y H Q ∨ rBI (fun i j => i - j) x y H Q
theorem op_subD {X : Cx} : OpR X (binaryOp .Sub) rSubD := op_sub.or ((opIB fun _ _ _ _ _ _ q => IntBool.sub_int_bool q).or (opBI fun _ _ _ _ _ _ q => IntBool.sub_bool_int q))
theorem od_sub : OpD K rSubD gSub := by
  intro A H x y dx dy d Q t hx hy e q
  unfold gSub at e
  split at e
  · cases e
    exact .inl ⟨_, _, hx.int_inv, hy.int_inv, q _ H (Keep.refl _ _) (.int _)⟩
  · cases e
    exact .inr (.inl ⟨_, _, hx.int_inv, hy.bl_inv, q _ H (Keep.refl _ _) (.int _)⟩)
  · cases e
    exact .inr (.inr ⟨_, _, hx.bl_inv, hy.int_inv, q _ H (Keep.refl _ _) (.int _)⟩)
  · cases e
theorem od_fdiv : OpD K (rI (fun _ j => j ≠ 0 ∧ j.natAbs.log2 < 9000) fun i j => .int (i.fdiv j)) gFdiv := od_intC fun x y d e => by
  unfold gFdiv at e
  split at e
  · split at e
    · rename_i h
      cases e
      exact ⟨_, _, rfl, rfl, by simpa [divOk] using h, rfl⟩
    · cases e
  · cases e
theorem od_mod : OpD K (rI (fun _ j => j ≠ 0) fun i j => .int (i.fmod j)) gMod := od_intC fun x y d e => by
  unfold gMod at e
  split at e
  · split at e
    · rename_i h; cases e; exact ⟨_, _, rfl, rfl, h, rfl⟩
    · cases e
  · cases e
theorem od_pow : OpD K (rI CPow fun i j => .int (i ^ j.toNat)) gPow := od_intC fun x y d e => by
  unfold gPow at e
  split at e
  · split at e
    · rename_i h; cases e; exact ⟨_, _, rfl, rfl, h, rfl⟩
    · cases e
  · cases e
theorem od_lt : OpD K (rI0 fun i j => .bl (decide (i < j))) gLt := od_bl fun x y d e => by
  unfold gLt at e; split at e <;> first | (cases e; exact ⟨_, _, rfl, rfl, rfl⟩) | cases e
theorem od_le : OpD K (rI0 fun i j => .bl (decide (i ≤ j))) gLe := od_bl fun x y d e => by
  unfold gLe at e; split at e <;> first | (cases e; exact ⟨_, _, rfl, rfl, rfl⟩) | cases e
theorem od_gt : OpD K (rI0 fun i j => .bl (decide (j < i))) gGt := od_bl fun x y d e => by
  unfold gGt at e; split at e <;> first | (cases e; exact ⟨_, _, rfl, rfl, rfl⟩) | cases e
theorem od_ge : OpD K (rI0 fun i j => .bl (decide (j ≤ i))) gGe := od_bl fun x y d e => by
  unfold gGe at e; split at e <;> first | (cases e; exact ⟨_, _, rfl, rfl, rfl⟩) | cases e
theorem od_eq : OpD K (rEqD K) gEq := by
  intro A H x y dx dy d Q _ hx hy e q
  unfold gEq at e
  split at e
  · rename_i h
    cases e
    obtain ⟨h1, h2⟩ := Bool.and_eq_true_iff.mp h
    exact ⟨toPy dx, toPy dy, hx.dp h1, hy.dp h2, h1, h2, q _ H (Keep.refl _ _) (.bl _)⟩
  · cases e
def rNe0 (K : PySem.W.Frag) : R2 := fun x y H Q => ∃ (a b : Addr) (xs : List V), x = .ref a ∧ y = .ref b ∧ SqT K H a xs ∧ SqT K H b [] ∧ Q (.bl (!xs.isEmpty)) H
theorem op_ne0 {X : Cx} (hu : X.A.units + 64 < cLine) : OpR X (compareOp .NotEq) (rNe0 X.K) := by
  intro pins s σ H x y v u Q I rx ry h
  obtain ⟨a, b, xs, rfl, rfl, hX, hY, q⟩ := h
  cases rx
  cases ry
  obtain ⟨its, r, hT⟩ := I.tuple hX
  obtain ⟨its', r', hT'⟩ := I.tuple hY
  cases r'
  refine SeqAt.RcNeAt.tuples (e := fun _ => true) hT.1 hT'.1 (by omega) (fun j _ h2 => by simp at h2) _ _ _ _ ?_
  refine ⟨.bl (!xs.isEmpty), H, I, ?_, q⟩
  have e : xs.isEmpty = its.isEmpty := by
    cases r <;> rfl
  rw [e]
  cases its <;> rfl
def rNeX (K : PySem.W.Frag) : R2 := fun x y H Q => rNeD K x y H Q ∨ rNe0 K x y H Q
theorem op_neX {X : Cx} (hu : X.A.units + 64 < cLine) : OpR X (compareOp .NotEq) (rNeX X.K) := (op_neD hu).or (op_ne0 hu)
theorem od_ne : OpD K (rNeX K) gNe := by
  intro A H x y dx dy d Q _ hx hy e q
  unfold gNe at e
  split at e
  · rename_i h
    cases e
    obtain ⟨h1, h2⟩ := Bool.and_eq_true_iff.mp h
    exact .inl ⟨toPy dx, toPy dy, hx.dp h1, hy.dp h2, h1, h2, q _ H (Keep.refl _ _) (.bl _)⟩
  · unfold gNe0 at e
    split at e
    · cases e
      obtain ⟨a, xs, rfl, hX, hxs⟩ := hx.tup_inv
      obtain ⟨b, ys, rfl, hY, hys⟩ := hy.tup_inv
      cases hys
      refine .inr ⟨a, b, xs, rfl, rfl, hX, hY, ?_⟩
      refine q _ H (Keep.refl _ _) ?_
      have e : ∀ {l : List V} {m : List D}, VRs K A H l m → l.isEmpty = m.isEmpty := fun h => by cases h <;> rfl
      rw [e hxs]
      exact .bl _
    · cases e
def rAddD (K : PySem.W.Frag) : R2 := fun x y H Q => rI0 (fun i j => .int (i + j)) x y H Q ∨ rCatA K x y H Q ∨ rCat x y H Q ∨ rBI (fun i j => i + j) x y H Q
theorem op_addD {X : Cx} : OpR X (binaryOp .Add) (rAddD X.K) := op_add.or (op_catA.or (op_cat.or (opBI fun _ _ _ _ _ _ q => IntBool.add_bool_int q)))
theorem od_add : OpD K (rAddD K) gAdd := by
  intro A H x y dx dy d Q t hx hy e q
  unfold gAdd at e
  split at e
  · cases e
    exact .inl ⟨_, _, hx.int_inv, hy.int_inv, q _ H (Keep.refl _ _) (.int _)⟩
  · split at e
    · rename_i hl
      cases e
      obtain ⟨a, xs, rfl, hX, hxs⟩ := hx.tup_inv
      obtain ⟨b, ys, rfl, hY, hys⟩ := hy.tup_inv
      refine .inr (.inl ⟨a, b, xs, ys, rfl, rfl, hX, hY, by rw [hxs.length, hys.length]; exact hl, fun z => ?_, fun _ z => ?_, fun _ _ p hp => ?_⟩)
      · have := hxs.nil_iff.mp z
        subst this
        exact q _ H (Keep.refl _ _) (.tup hY (by simpa using hys))
      · have := hys.nil_iff.mp z
        subst this
        exact q _ H (Keep.refl _ _) (.tup hX (by simpa using hxs))
      · exact q _ _ (keep_upd hp) (new_tup hp (hxs.append hys))
    · cases e
  · split at e
    · rename_i hl
      cases e
      obtain ⟨a, xs, rfl, hX, hxs⟩ := hx.lst_inv
      obtain ⟨b, ys, rfl, hY, hys⟩ := hy.lst_inv
      refine .inr (.inr (.inl ⟨a, b, xs, ys, rfl, rfl, hX, hY, by rw [hxs.length, hys.length]; exact hl, fun p hp => ?_⟩))
      exact q _ _ (keep_upd hp) (new_lst hp t (hxs.append hys))
    · cases e
  · cases e
    exact .inr (.inr (.inr ⟨_, _, hx.bl_inv, hy.int_inv, q _ H (Keep.refl _ _) (.int _)⟩))
  · cases e
theorem VT.isNon {st : Bool} {x : V} {dx : D} (hx : VT st K A H x dx) : decide (x = .non) = Dl.isNon dx := by
  rcases hx with hx | ⟨_, _, _, _, e1, e2, _⟩
  · cases hx <;> rfl
  · subst e1 e2; rfl
theorem od_is : OpD K (fun x y H Q => (y = .non ∧ Q (.bl (decide (x = .non))) H) ∨ rIsB x y H Q) gIs := by
  intro A H x y dx dy d Q t hx hy e q
  unfold gIs at e
  split at e
  · cases e
    refine .inl ⟨hy.non_inv, ?_⟩
    refine q _ H (Keep.refl _ _) ?_
    rw [hx.isNon]
    exact .bl _
  · cases e
    exact .inr ⟨_, _, hx.bl_inv, hy.bl_inv, q _ H (Keep.refl _ _) (.bl _)⟩
  · cases e
theorem od_isNot : OpD K (fun x y H Q => (y = .non ∧ Q (.bl (!decide (x = .non))) H) ∨ rNotB x y H Q) gIsNot := by
  intro A H x y dx dy d Q t hx hy e q
  unfold gIsNot at e
  split at e
  · cases e
    refine .inl ⟨hy.non_inv, ?_⟩
    refine q _ H (Keep.refl _ _) ?_
    rw [hx.isNon]
    exact .bl _
  · cases e
    exact .inr ⟨_, _, hx.bl_inv, hy.bl_inv, q _ H (Keep.refl _ _) (.bl _)⟩
  · cases e
theorem op_isD {X : Cx} : OpR X (compareOp .Is) (fun x y H Q => (y = .non ∧ Q (.bl (decide (x = .non))) H) ∨ rIsB x y H Q) := op_isN.or op_isBl
theorem op_isNotD {X : Cx} : OpR X (compareOp .IsNot) (fun x y H Q => (y = .non ∧ Q (.bl (!decide (x = .non))) H) ∨ rNotB x y H Q) := op_notN.or op_notBl
theorem op_fdivD {X : Cx} : OpR X (binaryOp .FloorDiv) (rI (fun _ j => j ≠ 0 ∧ j.natAbs.log2 < 9000) fun i j => .int (i.fdiv j)) := opI fun _ _ _ _ _ _ _ hc q => floordiv_int hc.1 q (.inl (PyProof.noPylong_of_log2 hc.2))
end
end Dl

namespace Dl
open PySem PySem.Spec PyProof.Rows L2

/-! ### expressions' functions -/
def fVar (i : Nat) : DFn := fun ρ => (ρ[i]?.join).map fun d => (d, ρ)
def fC (d : D) : DFn := fun ρ => some (d, ρ)
def fBin (g : D → D → Option D) (f1 f2 : DFn) : DFn := fun ρ => (f1 ρ).bind fun x => (f2 x.2).bind fun y => (g x.1 y.1).map fun d => (d, y.2)
def fUn (g : D → Option D) (f : DFn) : DFn := fun ρ => (f ρ).bind fun x => (g x.1).map fun d => (d, x.2)
def fNil : LFn := fun ρ => some ([], ρ)
def fCons (f : DFn) (fs : LFn) : LFn := fun ρ => (f ρ).bind fun x => (fs x.2).map fun y => (x.1 :: y.1, y.2)
def fCall (g : List D → Option D) (fs : LFn) : DFn := fun ρ => (fs ρ).bind fun x => (g x.1).map fun d => (d, x.2)
def fTup (fs : LFn) : DFn := fun ρ => (fs ρ).bind fun x => if x.1.length ≤ sizeLine then some (.tup x.1, x.2) else none
def fLst (fs : LFn) : LFn := fun ρ => (fs ρ).bind fun x => if x.1.length ≤ sizeLine then some x else none
def fOfL (fs : LFn) : DFn := fun ρ => (fs ρ).map fun x => (.lst x.1, x.2)
def asB : D → Option Bool
  | .bl b => some b
  | _ => none
def fB (f : DFn) : TFn := fun ρ => (f ρ).bind fun x => (asB x.1).map fun b => (b, x.2)
def fIf (c : TFn) (a b : DFn) : DFn := fun ρ => (c ρ).bind fun x => if x.1 then a x.2 else b x.2
def fAndT (a b : TFn) : TFn := fun ρ => (a ρ).bind fun x => if x.1 then b x.2 else some (false, x.2)
def fOrT (a b : TFn) : TFn := fun ρ => (a ρ).bind fun x => if x.1 then some (true, x.2) else b x.2
def fNotT (a : TFn) : TFn := fun ρ => (a ρ).map fun x => (!x.1, x.2)
def fAndV (a b : DFn) : DFn := fun ρ => (fB a ρ).bind fun x => if x.1 then b x.2 else some (.bl false, x.2)
def fOrV (a b : DFn) : DFn := fun ρ => (fB a ρ).bind fun x => if x.1 then some (.bl true, x.2) else b x.2
def fNotV (a : DFn) : DFn := fun ρ => (fB a ρ).map fun x => (.bl (!x.1), x.2)
def fChain (g g' : D → D → Option D) (a b c : DFn) : DFn := fun ρ => (a ρ).bind fun x => (b x.2).bind fun y => (g x.1 y.1).bind fun z => (asB z).bind fun k =>
  if k then (c y.2).bind fun u => (g' y.1 u.1).map fun d => (d, u.2) else some (.bl false, y.2)
def fTest (f : DFn) : TFn := fB f

section
variable {X : Cx} {F : Fx} {K : PySem.W.Frag} {p q p1 p2 p3 st st1 st2 st3 : Bool} {e a b c : Expr} {es rest : List Expr} {f f1 f2 f3 : DFn} {fs : LFn} {t1 t2 : TFn} {pos : Pos}
variable {σ : St} {H : Hp}

theorem Stp.weak {σ : St} {H H' : Hp} (h : p = false → q = false) (k : Stp p F σ H H') : Stp q F σ H H' := k.mono fun _ z => ⟨h z.1, z.2⟩
theorem VT.to {K : PySem.W.Frag} {A : ASet} {H : Hp} {v : V} {d : D} (h : st1 = true → st = true) (x : VT st K A H v d) : VT st1 K A H v d :=
  x.elim .inl fun z => .inr ⟨by cases st1 with
    | false => rfl
    | true => exact absurd (h rfl) (by rw [z.1]; decide), z.2⟩
theorem d_weak (h : PE X e (tD X.K F p st f)) (hp : p = false → q = false) (hs : st1 = true → st = true) : PE X e (tD X.K F q st1 f) :=
  h.impD fun σ H Q ⟨ρ, R, d, ρ', ef, k⟩ => ⟨ρ, R, d, ρ', ef, fun v H' s R' x => k v H' (s.weak hp) R' (x.to hs)⟩

/-- two in a row -/
theorem two {R : V → V → Hp → Prop} {ρ ρ1 ρ2 : DEnv} {d1 d2 : D} (r : EnvR K F σ H ρ) (e1 : f1 ρ = some (d1, ρ1)) (e2 : f2 ρ1 = some (d2, ρ2)) (hc : (st1 || p2) = true)
    (k : ∀ x y H2, Stp (p1 && p2) F σ H H2 → EnvR K F σ H2 ρ2 → VT st1 K (F.W σ) H2 x d1 → VT st2 K (F.W σ) H2 y d2 → R x y H2) :
    tD K F p1 st1 f1 σ H fun x H1 => tD K F p2 st2 f2 σ H1 fun y H2 => R x y H2 :=
  ⟨ρ, r, d1, ρ1, e1, fun x H1 s1 r1 v1 => ⟨ρ1, r1, d2, ρ2, e2, fun y H2 s2 r2 v2 => k x y H2 (s1.trans s2) r2 (v1.keep hc s2 fun _ z => Fx.own_W z) v2⟩⟩

theorem EnvR.trk' {ρ : DEnv} (R : EnvR K F σ H ρ) : ∀ a, F.W σ a → H a ≠ none := fun _ h => R.trk h

theorem d_var {i : Nat} {x : Str} (h : PE X (.Name x pos) (tVar i)) (ho : F.own.contains i = false := by rfl) : PE X (.Name x pos) (tD X.K F true true (fVar i)) :=
  h.impD fun σ H Q ⟨ρ, R, d, ρ', ef, k⟩ => by
    unfold fVar at ef
    cases e : ρ[i]?.join with
    | none => rw [e] at ef; cases ef
    | some d' =>
      rw [e] at ef
      cases ef
      obtain ⟨v, h1, h2⟩ := R.val i d (by simpa [Option.join_eq_some_iff] using e)
      have hn : decide (i ∉ F.own) = true := by
        simp only [decide_eq_true_eq]
        intro z
        rw [List.contains_iff_mem.mpr z] at ho
        cases ho
      rw [hn] at h2
      exact ⟨v, h1, k v H (Keep.refl _ _) R h2⟩
theorem d_view {i : Nat} {x : Str} (h : PE X (.Name x pos) (tVar i)) : PE X (.Name x pos) (tD X.K F true false (fVar i)) :=
  h.impD fun σ H Q ⟨ρ, R, d, ρ', ef, k⟩ => by
    unfold fVar at ef
    cases e : ρ[i]?.join with
    | none => rw [e] at ef; cases ef
    | some d' =>
      rw [e] at ef
      cases ef
      obtain ⟨v, h1, h2⟩ := R.val i d (by simpa [Option.join_eq_some_iff] using e)
      exact ⟨v, h1, k v H (Keep.refl _ _) R h2.weak⟩
/-- a constant: its reading gives v, which says d anywhere -/
theorem d_C {d : D} {v : V} (h : PE X e (tC v)) (hv : ∀ A H, VR X.K A H v d) : PE X e (tD X.K F true true (fC d)) :=
  h.impD fun σ H Q ⟨ρ, R, d, ρ', ef, k⟩ => by
    cases ef
    exact k v H (Keep.refl _ _) R (.of (hv _ _))
theorem d_int {i : Int} {j : Nat} : PE X (.Constant (.int i) j pos) (tD X.K F true true (fC (.int i))) := d_C pe_int fun _ _ => .int i
theorem d_bl {b : Bool} {j : Nat} : PE X (.Constant (.bool b) j pos) (tD X.K F true true (fC (.bl b))) := d_C pe_bl fun _ _ => .bl b
theorem d_non {j : Nat} : PE X (.Constant .none j pos) (tD X.K F true true (fC .non)) := d_C pe_non fun _ _ => .non
theorem d_str {x : Str} {j : Nat} : PE X (.Constant (.str x) j pos) (tD X.K F true true (fC (.str x))) := d_C pe_str fun _ _ => .str x

theorem fBin_some {g : D → D → Option D} {ρ ρ' : DEnv} {d : D} (h : fBin g f1 f2 ρ = some (d, ρ')) : ∃ d1 ρ1 d2, f1 ρ = some (d1, ρ1) ∧ f2 ρ1 = some (d2, ρ') ∧ g d1 d2 = some d := by
  unfold fBin at h
  simp only [Option.bind_eq_some_iff, Option.map_eq_some_iff] at h
  obtain ⟨⟨d1, ρ1⟩, e1, ⟨d2, ρ2⟩, e2, d', e3, e4⟩ := h
  cases e4
  exact ⟨d1, ρ1, d2, e1, e2, e3⟩
theorem tOp_of {r : R2} {g : D → D → Option D} (hd : OpD K r g) (hc : (st1 || p2) = true) : ∀ (σ : St) (H : Hp) (Q : VK), tD K F (p1 && p2) true (fBin g f1 f2) σ H Q → tOp r (tD K F p1 st1 f1) (tD K F p2 st2 f2) σ H Q :=
  fun σ H Q ⟨ρ, R, d, ρ', ef, k⟩ => by
    obtain ⟨d1, ρ1, d2, e1, e2, e3⟩ := fBin_some ef
    exact two R e1 e2 hc fun x y H2 s r2 v1 v2 => hd (F.W σ) H2 x y d1 d2 d Q r2.trk' v1.weak v2.weak e3 fun v H3 k3 v3 => k v H3 (s.trans (q := true) (Stp.of k3) |>.weak (by simp)) (r2.keep k3) (.of v3)
theorem d_op {op : Operator} {r : R2} {g : D → D → Option D} (ho : OpR X (binaryOp op) r) (hd : OpD X.K r g) (ha : PE X a (tD X.K F p1 st1 f1)) (hb : PE X b (tD X.K F p2 st2 f2)) (hc : (st1 || p2) = true := by rfl) :
    PE X (.BinOp a op b pos) (tD X.K F (p1 && p2) true (fBin g f1 f2)) := (pe_op ho ha hb).impD (tOp_of hd hc)
theorem d_cmp {op : CmpOp} {r : R2} {g : D → D → Option D} (ho : OpR X (compareOp op) r) (hd : OpD X.K r g) (ha : PE X a (tD X.K F p1 st1 f1)) (hb : PE X b (tD X.K F p2 st2 f2)) (hm : behindInMarks op b = false := by rfl) (hc : (st1 || p2) = true := by rfl) :
    PE X (.Compare a [op] [b] pos) (tD X.K F (p1 && p2) true (fBin g f1 f2)) := (pe_cmpR ho ha hb hm).impD (tOp_of hd hc)
theorem asB_some {d : D} {b : Bool} (h : asB d = some b) : d = .bl b := by
  cases d <;> first | (cases h; rfl) | cases h
theorem fB_some {ρ ρ' : DEnv} {b : Bool} (h : fB f ρ = some (b, ρ')) : f ρ = some (.bl b, ρ') := by
  unfold fB at h
  simp only [Option.bind_eq_some_iff, Option.map_eq_some_iff] at h
  obtain ⟨⟨d, ρ1⟩, e1, b', e2, e3⟩ := h
  cases e3
  have := asB_some e2
  subst this
  exact e1
theorem tB_of {t : TE} (h : ∀ (σ : St) (H : Hp) (Q : VK), tD K F p st f σ H Q → t σ H Q) : ∀ (σ : St) (H : Hp) (Q : Bool → Hp → Prop), tT K F p (fB f) σ H Q → t σ H fun x H1 => ∃ k, x = .bl k ∧ Q k H1 :=
  fun σ H Q ⟨ρ, R, d, ρ', ef, k⟩ => h _ _ _ ⟨ρ, R, .bl d, ρ', fB_some ef, fun v H' s R' x => ⟨d, x.bl_inv, k H' s R'⟩⟩
theorem dt_cmp {op : CmpOp} {r : R2} {g : D → D → Option D} (ho : OpR X (compareOp op) r) (hd : OpD X.K r g) (ha : PE X a (tD X.K F p1 st1 f1)) (hb : PE X b (tD X.K F p2 st2 f2)) (hm : behindInMarks op b = false := by rfl) (hc : (st1 || p2) = true := by rfl) :
    PT X (.Compare a [op] [b] pos) (tT X.K F (p1 && p2) (fB (fBin g f1 f2))) := (pt_cmpR ho ha hb hm).impD (tB_of (st := true) (tOp_of hd hc))
theorem dt_val (h : PE X e (tD X.K F p st f)) (he : ∀ whole, isTrue e X.env whole = (do let v ← whole; standAt e.pos; holding [v] (truthy v)) := by intro _; rfl) : PT X e (tT X.K F p (fB f)) :=
  (pt_val h he).impD (tB_of (st := st) fun _ _ _ z => z)
theorem d_un {op : UnaryOp} {r : V → Hp → VK → Prop} {g : D → Option D} (ho : UnR X (unaryOp op) r)
    (hd : ∀ (A : ASet) (H : Hp) (x : V) (dx d : D) (Q : VK), VT false X.K A H x dx → g dx = some d → (∀ v H', Keep0 H H' → VR X.K A H' v d → Q v H') → r x H Q)
    (ha : PE X a (tD X.K F p st f)) : PE X (.UnaryOp op a pos) (tD X.K F p true (fUn g f)) :=
  (pe_un ho ha).impD fun σ H Q ⟨ρ, R, d, ρ', ef, k⟩ => by
    unfold fUn at ef
    simp only [Option.bind_eq_some_iff, Option.map_eq_some_iff] at ef
    obtain ⟨⟨d1, ρ1⟩, e1, d', e2, e3⟩ := ef
    cases e3
    exact ⟨ρ, R, d1, _, e1, fun v H1 s r1 v1 => hd (F.W σ) H1 v d1 d Q v1.weak e2 fun w H2 k2 w2 => k w H2 ((s.trans (q := true) (Stp.of k2)).weak (by simp)) (r1.keep k2) (.of w2)⟩
theorem d_neg (ha : PE X a (tD X.K F p st f)) : PE X (.UnaryOp .USub a pos) (tD X.K F p true (fUn gNeg f)) := d_un un_neg (fun A H x dx d Q v e q => by
  unfold gNeg at e
  split at e
  · cases e
    exact ⟨_, v.int_inv, q _ H (Keep.refl _ _) (.int _)⟩
  · cases e) ha

/-! ### tests -/
theorem dt_not (ha : PT X a (tT X.K F p t1)) : PT X (.UnaryOp .Not a pos) (tT X.K F p (fNotT t1)) :=
  (pt_not ha).impD fun σ H Q ⟨ρ, R, d, ρ', ef, k⟩ => by
    unfold fNotT at ef
    simp only [Option.map_eq_some_iff] at ef
    obtain ⟨⟨b, ρ1⟩, e1, e2⟩ := ef
    cases e2
    exact ⟨ρ, R, b, _, e1, fun H' s R' => k H' s R'⟩
theorem dw_and1 (ha : PT X a (tT X.K F p t1)) : PW X (.BoolOp .And [a] pos) (tT X.K F p t1) := pw_and1 ha
theorem dw_or1 (ha : PT X a (tT X.K F p t1)) : PW X (.BoolOp .Or [a] pos) (tT X.K F p t1) := pw_or1 ha
theorem dw_and (ha : PT X a (tT X.K F p1 t1)) (hb : PW X (.BoolOp .And (b :: rest) pos) (tT X.K F p2 t2)) : PW X (.BoolOp .And (a :: b :: rest) pos) (tT X.K F (p1 && p2) (fAndT t1 t2)) :=
  (pw_and ha hb).impD fun σ H Q ⟨ρ, R, d, ρ', ef, k⟩ => by
    unfold fAndT at ef
    simp only [Option.bind_eq_some_iff] at ef
    obtain ⟨⟨b, ρ1⟩, e1, e2⟩ := ef
    refine ⟨ρ, R, b, ρ1, e1, fun H1 s R1 => ?_⟩
    cases b with
    | false => cases e2; exact iteF (k H1 (s.weak (by intro z; simp [z])) R1)
    | true => exact iteT ⟨ρ1, R1, d, ρ', e2, fun H2 s2 R2 => k H2 (s.trans s2) R2⟩
theorem dw_or (ha : PT X a (tT X.K F p1 t1)) (hb : PW X (.BoolOp .Or (b :: rest) pos) (tT X.K F p2 t2)) : PW X (.BoolOp .Or (a :: b :: rest) pos) (tT X.K F (p1 && p2) (fOrT t1 t2)) :=
  (pw_or ha hb).impD fun σ H Q ⟨ρ, R, d, ρ', ef, k⟩ => by
    unfold fOrT at ef
    simp only [Option.bind_eq_some_iff] at ef
    obtain ⟨⟨b, ρ1⟩, e1, e2⟩ := ef
    refine ⟨ρ, R, b, ρ1, e1, fun H1 s R1 => ?_⟩
    cases b with
    | true => cases e2; exact iteT (k H1 (s.weak (by intro z; simp [z])) R1)
    | false => exact iteF ⟨ρ1, R1, d, ρ', e2, fun H2 s2 R2 => k H2 (s.trans s2) R2⟩
/-! ### .. as values -/
theorem de_one {op : BoolOp} (h : PE X a (tD X.K F p st f)) : PE X (.BoolOp op [a] pos) (tD X.K F p st f) := pe_one h
theorem de_and (ha : PE X a (tD X.K F p1 st1 f1)) (hb : PE X (.BoolOp .And (b :: rest) pos) (tD X.K F p2 st2 f2)) : PE X (.BoolOp .And (a :: b :: rest) pos) (tD X.K F (p1 && p2) st2 (fAndV f1 f2)) :=
  (pe_and ha hb).impD fun σ H Q ⟨ρ, R, d, ρ', ef, k⟩ => by
    unfold fAndV at ef
    simp only [Option.bind_eq_some_iff] at ef
    obtain ⟨⟨b, ρ1⟩, e1, e2⟩ := ef
    refine ⟨ρ, R, .bl b, ρ1, fB_some e1, fun v H1 s R1 x => ⟨b, x.bl_inv, ?_⟩⟩
    cases b with
    | false => cases e2; exact iteF (k _ H1 (s.weak (by intro z; simp [z])) R1 (.of (.bl _)))
    | true => exact iteT ⟨ρ1, R1, d, ρ', e2, fun v H2 s2 R2 x => k v H2 (s.trans s2) R2 x⟩
theorem de_or (ha : PE X a (tD X.K F p1 st1 f1)) (hb : PE X (.BoolOp .Or (b :: rest) pos) (tD X.K F p2 st2 f2)) : PE X (.BoolOp .Or (a :: b :: rest) pos) (tD X.K F (p1 && p2) st2 (fOrV f1 f2)) :=
  (pe_or ha hb).impD fun σ H Q ⟨ρ, R, d, ρ', ef, k⟩ => by
    unfold fOrV at ef
    simp only [Option.bind_eq_some_iff] at ef
    obtain ⟨⟨b, ρ1⟩, e1, e2⟩ := ef
    refine ⟨ρ, R, .bl b, ρ1, fB_some e1, fun v H1 s R1 x => ⟨b, x.bl_inv, ?_⟩⟩
    cases b with
    | true => cases e2; exact iteT (k _ H1 (s.weak (by intro z; simp [z])) R1 (.of (.bl _)))
    | false => exact iteF ⟨ρ1, R1, d, ρ', e2, fun v H2 s2 R2 x => k v H2 (s.trans s2) R2 x⟩
theorem de_not (ha : PE X a (tD X.K F p st f)) : PE X (.UnaryOp .Not a pos) (tD X.K F p true (fNotV f)) :=
  (pe_not ha).impD fun σ H Q ⟨ρ, R, d, ρ', ef, k⟩ => by
    unfold fNotV at ef
    simp only [Option.map_eq_some_iff] at ef
    obtain ⟨⟨b, ρ1⟩, e1, e2⟩ := ef
    cases e2
    exact ⟨ρ, R, .bl b, _, fB_some e1, fun v H1 s R1 x => ⟨b, x.bl_inv, k _ H1 s R1 (.of (.bl _))⟩⟩
theorem de_if (hc : PT X c (tT X.K F p1 t1)) (ha : PE X a (tD X.K F p2 st2 f1)) (hb : PE X b (tD X.K F p3 st3 f2)) : PE X (.IfExp c a b pos) (tD X.K F (p1 && (p2 && p3)) (st2 && st3) (fIf t1 f1 f2)) :=
  (pe_ifExp hc ha hb).impD fun σ H Q ⟨ρ, R, d, ρ', ef, k⟩ => by
    unfold fIf at ef
    simp only [Option.bind_eq_some_iff] at ef
    obtain ⟨⟨b, ρ1⟩, e1, e2⟩ := ef
    refine ⟨ρ, R, b, ρ1, e1, fun H1 s R1 => ?_⟩
    cases b with
    | true => exact iteT ⟨ρ1, R1, d, ρ', e2, fun v H2 s2 R2 x => k v H2 ((s.trans s2).weak (by cases p1 <;> cases p2 <;> simp)) R2 (x.to (by cases st2 <;> simp))⟩
    | false => exact iteF ⟨ρ1, R1, d, ρ', e2, fun v H2 s2 R2 x => k v H2 ((s.trans s2).weak (by cases p1 <;> cases p2 <;> cases p3 <;> simp)) R2 (x.to (by cases st2 <;> cases st3 <;> simp))⟩
theorem fChain_some {g g' : D → D → Option D} {ρ ρ' : DEnv} {d : D} (h : fChain g g' f1 f2 f3 ρ = some (d, ρ')) : ∃ d1 ρ1 d2 ρ2 k, f1 ρ = some (d1, ρ1) ∧ f2 ρ1 = some (d2, ρ2) ∧ g d1 d2 = some (.bl k) ∧
    (k = false → d = .bl false ∧ ρ' = ρ2) ∧ (k = true → ∃ d3, f3 ρ2 = some (d3, ρ') ∧ g' d2 d3 = some d) := by
  unfold fChain at h
  simp only [Option.bind_eq_some_iff] at h
  obtain ⟨⟨d1, ρ1⟩, e1, ⟨d2, ρ2⟩, e2, z, e3, k, e4, h⟩ := h
  have := asB_some e4
  subst this
  refine ⟨d1, ρ1, d2, ρ2, k, e1, e2, e3, fun z => ?_, fun z => ?_⟩
  · subst z; cases h; exact ⟨rfl, rfl⟩
  · subst z
    simp only [if_true, Option.bind_eq_some_iff, Option.map_eq_some_iff] at h
    obtain ⟨⟨d3, ρ3⟩, e5, d', e6, e7⟩ := h
    cases e7
    exact ⟨d3, e5, e6⟩
theorem tChain_of {r r' : R2} {g g' : D → D → Option D} (hd : OpD K r g) (hd' : OpD K r' g') (hc : (st1 || p2) = true) (hc2 : (st2 || p3) = true) :
    ∀ (σ : St) (H : Hp) (Q : VK), tD K F (p1 && (p2 && p3)) true (fChain g g' f1 f2 f3) σ H Q → tChain r r' (tD K F p1 st1 f1) (tD K F p2 st2 f2) (tD K F p3 st3 f3) σ H Q :=
  fun σ H Q ⟨ρ, R, d, ρ', ef, k⟩ => by
    obtain ⟨d1, ρ1, d2, ρ2, b, e1, e2, e3, k1, k2⟩ := fChain_some ef
    refine two R e1 e2 hc fun x y H2 s r2 v1 v2 => hd (F.W σ) H2 x y d1 d2 _ _ r2.trk' v1.weak v2.weak e3 fun v H3 k3 v3 => ⟨b, (VT.of (st := true) v3).bl_inv, ?_⟩
    have s3 : Stp (p1 && p2) F σ H H3 := (s.trans (q := true) (Stp.of k3)).weak (by simp)
    cases b with
    | false =>
      obtain ⟨z1, z2⟩ := k1 rfl
      subst z1 z2
      exact iteF (k _ H3 (s3.weak (by cases p1 <;> cases p2 <;> simp)) (r2.keep k3) (.of (.bl _)))
    | true =>
      obtain ⟨d3, e5, e6⟩ := k2 rfl
      refine iteT ⟨ρ2, r2.keep k3, d3, ρ', e5, fun w H4 s4 R4 v4 => hd' (F.W σ) H4 y w d2 d3 d Q R4.trk' ?_ v4.weak e6 fun u H5 k5 v5 => ?_⟩
      · exact ((v2.keep (p := true) (B := fun _ => False) (by simp) (k3.mono fun _ z => z.elim) fun _ z => z.elim).keep hc2 s4 fun _ z => Fx.own_W z).weak
      · exact k u H5 (((s3.trans s4).trans (q := true) (Stp.of k5)).weak (by cases p1 <;> cases p2 <;> cases p3 <;> simp)) (R4.keep k5) (.of v5)
theorem d_chain {op op' : CmpOp} {r r' : R2} {g g' : D → D → Option D} (ho : OpR X (compareOp op) r) (hd : OpD X.K r g) (ho' : OpR X (compareOp op') r') (hd' : OpD X.K r' g') (ha : PE X a (tD X.K F p1 st1 f1)) (hb : PE X b (tD X.K F p2 st2 f2)) (he : PE X c (tD X.K F p3 st3 f3))
    (hm : lastMarks [op, op'] [b, c] = false := by with_unfolding_all rfl) (hc : (st1 || p2) = true := by rfl) (hc2 : (st2 || p3) = true := by rfl) : PE X (.Compare a [op, op'] [b, c] pos) (tD X.K F (p1 && (p2 && p3)) true (fChain g g' f1 f2 f3)) :=
  (pe_chain ho ho' ha hb he hm).impD (tChain_of hd hd' hc hc2)
theorem dt_chain {op op' : CmpOp} {r r' : R2} {g g' : D → D → Option D} (ho : OpR X (compareOp op) r) (hd : OpD X.K r g) (ho' : OpR X (compareOp op') r') (hd' : OpD X.K r' g') (ha : PE X a (tD X.K F p1 st1 f1)) (hb : PE X b (tD X.K F p2 st2 f2)) (he : PE X c (tD X.K F p3 st3 f3))
    (hm : lastMarks [op, op'] [b, c] = false := by with_unfolding_all rfl) (hc : (st1 || p2) = true := by rfl) (hc2 : (st2 || p3) = true := by rfl) : PT X (.Compare a [op, op'] [b, c] pos) (tT X.K F (p1 && (p2 && p3)) (fB (fChain g g' f1 f2 f3))) :=
  (pt_chain ho ho' ha hb he hm).impD (tB_of (st := true) (tChain_of hd hd' hc hc2))

/-! ### arguments, displays, calls of built-ins -/
theorem da_nil : PA X [] (tAs X.K F true true fNil) := pa_nil.impD fun σ H Q ⟨ρ, R, d, ρ', ef, k⟩ => by
  cases ef
  exact k _ H (Keep.refl _ _) R .nil
theorem da_cons (ha : PE X e (tD X.K F p1 st1 f)) (hr : PA X es (tAs X.K F p2 st2 fs)) (hs : starEach (e :: es) X.env = (false, eval e X.env) :: starEach es X.env := by rfl) (hc : (st1 || p2) = true := by rfl) :
    PA X (e :: es) (tAs X.K F (p1 && p2) (st1 && st2) (fCons f fs)) :=
  (pa_cons ha hr hs).impD fun σ H Q ⟨ρ, R, d, ρ', ef, k⟩ => by
    unfold fCons at ef
    simp only [Option.bind_eq_some_iff, Option.map_eq_some_iff] at ef
    obtain ⟨⟨d1, ρ1⟩, e1, ⟨ds, ρ2⟩, e2, e3⟩ := ef
    cases e3
    refine ⟨ρ, R, d1, ρ1, e1, fun x H1 s1 R1 v1 => ⟨ρ1, R1, ds, _, e2, fun xs H2 s2 R2 v2 => k _ H2 (s1.trans s2) R2 ?_⟩⟩
    have v1' := v1.keep hc s2 fun _ z => Fx.own_W z
    refine .cons (v1'.to (by cases st1 <;> simp)) ?_
    have hh : ∀ {vs : List V} {ds : List D}, VTs st2 X.K (F.W σ) H2 vs ds → VTs (st1 && st2) X.K (F.W σ) H2 vs ds := by
      intro vs ds h
      induction h with
      | nil => exact .nil
      | cons h _ ih => exact .cons (h.to (by cases st1 <;> cases st2 <;> simp)) ih
    exact hh v2
def CallD (K : PySem.W.Frag) (r : List V → Hp → VK → Prop) (g : List D → Option D) : Prop := ∀ (A : ASet) (H : Hp) (vs : List V) (ds : List D) (d : D) (Q : VK), (∀ a, A a → H a ≠ none) → VTs false K A H vs ds → g ds = some d →
  (∀ v H', Keep0 H H' → VR K A H' v d → Q v H') → r vs H Q
theorem fCall_some {g : List D → Option D} {ρ ρ' : DEnv} {d : D} (h : fCall g fs ρ = some (d, ρ')) : ∃ ds, fs ρ = some (ds, ρ') ∧ g ds = some d := by
  unfold fCall at h
  simp only [Option.bind_eq_some_iff, Option.map_eq_some_iff] at h
  obtain ⟨⟨ds, ρ1⟩, e1, d', e2, e3⟩ := h
  cases e3
  exact ⟨ds, e1, e2⟩
theorem tCB_of {r : List V → Hp → VK → Prop} {g : List D → Option D} (hd : CallD K r g) : ∀ (σ : St) (H : Hp) (Q : VK), tD K F p true (fCall g fs) σ H Q → tCB r (tAs K F p st fs) σ H Q :=
  fun σ H Q ⟨ρ, R, d, ρ', ef, k⟩ => by
    obtain ⟨ds, e1, e2⟩ := fCall_some ef
    exact ⟨ρ, R, ds, ρ', e1, fun vs H1 s R1 v1 => hd (F.W σ) H1 vs ds d Q R1.trk' v1.weak e2 fun v H2 k2 v2 => k v H2 ((s.trans (q := true) (Stp.of k2)).weak (by simp)) (R1.keep k2) (.of v2)⟩
theorem d_callB {x : Str} {id : String} {r : List V → Hp → VK → Prop} {g : List D → Option D} {px : Pos} (hc : CallR X (.builtin id) r) (hd : CallD X.K r g) (hg : Gl X x) (hm : X.mg x = none) (hv : bootBuiltins x = some (.builtin id)) (ha : PA X (e :: es) (tAs X.K F p st fs))
    (hn : x ≠ "__name__" := by decide) (hdb : (x == ("__debug__" : Str)) = false := by decide) (he : starEach (e :: es) X.env = (false, eval e X.env) :: starEach es X.env := by rfl) (hpl : (backTo pos (starEach es X.env)).any (·.1) = false := by rfl) :
    PE X (.Call (.Name x px) (e :: es) [] pos) (tD X.K F p true (fCall g fs)) := (pe_callB hc hg hm hv ha hn hdb he hpl).impD (tCB_of hd)
theorem d_callTy {x : Str} {T : String} {r : List V → Hp → VK → Prop} {g : List D → Option D} {px : Pos} (hc : CallR X (.type T) r) (hd : CallD X.K r g) (hg : Gl X x) (hm : X.mg x = none) (hv : bootBuiltins x = some (.type T)) (ha : PA X (e :: es) (tAs X.K F p st fs))
    (hn : x ≠ "__name__" := by decide) (hdb : (x == ("__debug__" : Str)) = false := by decide) (he : starEach (e :: es) X.env = (false, eval e X.env) :: starEach es X.env := by rfl) (hpl : (backTo pos (starEach es X.env)).any (·.1) = false := by rfl) :
    PE X (.Call (.Name x px) (e :: es) [] pos) (tD X.K F p true (fCall g fs)) := (pe_callTy hc hg hm hv ha hn hdb he hpl).impD (tCB_of hd)
theorem d_callBf {x : Str} {id : String} {r : List V → Hp → VK → Prop} {g : List D → Option D} {px : Pos} (hc : CallR X (.builtin id) r) (hd : CallD X.K r g) (hg : Gl X x) (hm : X.mg x = some (.builtin id)) (ha : PA X (e :: es) (tAs X.K F p st fs))
    (hdb : (x == ("__debug__" : Str)) = false := by decide) (he : starEach (e :: es) X.env = (false, eval e X.env) :: starEach es X.env := by rfl) (hpl : (backTo pos (starEach es X.env)).any (·.1) = false := by rfl) :
    PE X (.Call (.Name x px) (e :: es) [] pos) (tD X.K F p true (fCall g fs)) := (pe_callBfun hc hg hm ha hdb he hpl).impD (tCB_of hd)
theorem d_tup {k : Nat} (h : PA X es (tAs X.K F p st fs)) (hst : st = true := by rfl) : PE X (.Tuple es k pos) (tD X.K F p true (fTup fs)) := by
  subst hst
  exact (pe_tup h).impD fun σ H Q ⟨ρ, R, d, ρ', ef, k⟩ => by
    unfold fTup at ef
    simp only [Option.bind_eq_some_iff] at ef
    obtain ⟨⟨ds, ρ1⟩, e1, e2⟩ := ef
    split at e2
    · rename_i hl
      cases e2
      refine ⟨ρ, R, ds, _, e1, fun vs H1 s R1 v1 => ⟨by rw [v1.stable.length]; exact hl, fun p hp => ?_⟩⟩
      exact k _ _ ((s.trans (q := true) (Stp.of (keep_upd hp))).weak (by simp)) (R1.keep (keep_upd hp)) (.of (new_tup hp v1.stable))
    · cases e2
theorem new_list {p1 : Bool} {ρ ρ' : DEnv} {H H1 : Hp} {vs : List V} {ds : List D} {Q : VK} (R : EnvR K F σ H ρ) (s : Stp p1 F σ H H1) (R1 : EnvR K F σ H1 ρ') (v1 : VRs K (F.W σ) H1 vs ds)
    (k : ∀ a xs H', Stp p1 F σ H H' → EnvR K (F.add a) σ H' ρ' → H a = none → H' a = some (.lst xs) → VRs K ((F.add a).W σ) H' xs ds → Q (.ref a) H') (a : Addr) (n : H1 a = none) : Q (.ref a) (upd H1 a (.lst vs)) := by
  refine k a vs _ ((s.trans (q := true) (Stp.of (keep_upd n))).weak (by simp)) (R1.add (keep_upd n) n (by rw [upd_same]; intro z; cases z)) ?_ upd_same ?_
  · cases e : H a with
    | none => rfl
    | some o => exact absurd n (s.tr (by rw [e]; intro z; cases z))
  · refine (v1.avoid (B := (F.add a).W σ) fun b z => ?_).keep (keep_upd (A := fun _ => False) n) fun _ z => z.elim
    rcases z with z | z | z | z
    · exact .inl (.inl z)
    · exact .inl (.inr (.inl z))
    · exact .inl (.inr (.inr z))
    · subst z; exact .inr n
theorem l_lst (h : PA X es (tAs X.K F p st fs)) (hst : st = true := by rfl) : PE X (.List es pos) (tL X.K F p (fLst fs)) := by
  subst hst
  exact (pe_lst h).impD fun σ H Q ⟨ρ, R, d, ρ', ef, k⟩ => by
    unfold fLst at ef
    simp only [Option.bind_eq_some_iff] at ef
    obtain ⟨⟨ds, ρ1⟩, e1, e2⟩ := ef
    split at e2
    · rename_i hl
      cases e2
      exact ⟨ρ, R, d, ρ', e1, fun vs H1 s R1 v1 => ⟨by rw [v1.stable.length]; exact hl, fun a n => new_list R s R1 v1.stable k a n⟩⟩
    · cases e2
theorem d_ofL (h : PE X e (tL X.K F p fs)) : PE X e (tD X.K F p true (fOfL fs)) :=
  h.impD fun σ H Q ⟨ρ, R, d, ρ', ef, k⟩ => by
    unfold fOfL at ef
    simp only [Option.map_eq_some_iff] at ef
    obtain ⟨⟨ds, ρ1⟩, e1, e2⟩ := ef
    cases e2
    refine ⟨ρ, R, ds, _, e1, fun a xs H' s R' n e v => k _ H' s R'.drop (.of (.lst (fun z => R.trk z n) e (v.avoid fun b z => ?_)))⟩
    rcases z with z | z | z
    · exact .inl (.inl z)
    · exact .inl (.inr (.inl z))
    · exact .inl (.inr (.inr (.inl z)))
end
end Dl

namespace Dl
open PySem PySem.Spec PyProof.Rows L2

/-! ### subscripts, slices -/
def gIx : D → D → Option D
  | .tup ds, .int i => atI ds i
  | .lst ds, .int i => atI ds i
  | .scr ns, .int i => (atI ns i).map D.int
  | _, _ => none
def cutD {α : Type} (xs : List α) (lo hi : Option Int) : List α := (xs.drop (HT.sIx xs.length 0 lo)).take (HT.sIx xs.length xs.length hi - HT.sIx xs.length 0 lo)
def gSl : D → Option Int → Option Int → Option D
  | .tup ds, lo, hi => some (.tup (cutD ds lo hi))
  | .lst ds, lo, hi => some (.lst (cutD ds lo hi))
  | .scr ns, lo, hi => some (.lst ((cutD ns lo hi).map D.int))
  | _, _, _ => none
abbrev OFn := DEnv → Option (Option Int × DEnv)
def fNoP : OFn := fun ρ => some (none, ρ)
def asI : D → Option Int
  | .int i => some i
  | _ => none
def fP (f : DFn) : OFn := fun ρ => (f ρ).bind fun x => (asI x.1).map fun i => (some i, x.2)
def fSl (f : DFn) (l h : OFn) : DFn := fun ρ => (f ρ).bind fun x => (l x.2).bind fun y => (h y.2).bind fun z => (gSl x.1 y.1 z.1).map fun d => (d, z.2)
theorem asI_some {d : D} {i : Int} (h : asI d = some i) : d = .int i := by
  cases d <;> first | (cases h; rfl) | cases h
def tO (K : PySem.W.Frag) (F : Fx) (p : Bool) (f : OFn) : TO := fun σ H Q => ∃ ρ, EnvR K F σ H ρ ∧ ∃ o ρ', f ρ = some (o, ρ') ∧ ∀ H', Stp p F σ H H' → EnvR K F σ H' ρ' → Q o H'
theorem atI_map {α β : Type} (g : α → β) (xs : List α) (i : Int) : atI (xs.map g) i = (atI xs i).map g := by
  unfold atI
  rw [List.length_map]
  cases ixN xs.length i with
  | none => rfl
  | some j => simp
section
variable {X : Cx} {F : Fx} {K : PySem.W.Frag} {p q p1 p2 p3 st st1 st2 st3 : Bool} {e a b c : Expr} {es rest : List Expr} {f f1 f2 f3 : DFn} {fs : LFn} {t1 t2 : TFn} {pos : Pos}
variable {σ : St} {H : Hp} {A : ASet}
theorem VRs.atI {xs : List V} {ds : List D} {i : Int} {d : D} (h : VRs K A H xs ds) (e : L2.atI ds i = some d) : ∃ v, L2.atI xs i = some v ∧ VR K A H v d := by
  unfold L2.atI at e ⊢
  rw [h.length]
  cases q : ixN ds.length i with
  | none => rw [q] at e; cases e
  | some j =>
    rw [q] at e
    obtain ⟨v, h1, h2⟩ := h.get (i := j) e
    exact ⟨v, h1, h2⟩
theorem od_ix : OpD K (rIx K) gIx := by
  intro A H x y dx dy d Q t hx hy e q
  unfold gIx at e
  split at e
  · obtain ⟨a, xs, rfl, hX, hxs⟩ := hx.tup_inv
    obtain ⟨v, e1, hv⟩ := hxs.atI e
    exact .inr (.inl ⟨a, xs, _, v, rfl, hy.int_inv, hX, e1, q v H (Keep.refl _ _) hv⟩)
  · obtain ⟨a, xs, rfl, hX, hxs⟩ := hx.lst_inv
    obtain ⟨v, e1, hv⟩ := hxs.atI e
    exact .inl ⟨a, xs, _, v, rfl, hy.int_inv, .inl (.inl hX), e1, q v H (Keep.refl _ _) hv⟩
  · obtain ⟨a, rfl, hX⟩ := hx.scr_inv
    rename_i ns i
    rw [Option.map_eq_some_iff] at e
    obtain ⟨n, e1, rfl⟩ := e
    exact .inl ⟨a, _, i, .int n, rfl, hy.int_inv, hX.sq, by rw [atI_map, e1]; rfl, q _ H (Keep.refl _ _) (.int n)⟩
  · cases e
theorem d_ix (ha : PE X a (tD X.K F p1 st1 f1)) (hb : PE X b (tD X.K F p2 st2 f2)) (hs : PlainIx b := by exact fun _ _ => rfl) (hc : (st1 || p2) = true := by rfl) : PE X (.Subscript a b pos) (tD X.K F (p1 && p2) true (fBin gIx f1 f2)) :=
  (pe_ix ix_seq ha hb hs).impD (tOp_of od_ix hc)
theorem do_none : PO X none (tO X.K F true fNoP) := ⟨fun pins s σ H Q I ⟨ρ, R, o, ρ', ef, k⟩ => by
  cases ef
  exact po_none.run pins s σ H Q I (k H (Keep.refl _ _) R)⟩
theorem do_some (h : PE X e (tD X.K F p st f)) : PO X (some e) (tO X.K F p (fP f)) := ⟨fun pins s σ H Q I ⟨ρ, R, o, ρ', ef, k⟩ => by
  refine (po_some h).run pins s σ H Q I ?_
  unfold fP at ef
  simp only [Option.bind_eq_some_iff, Option.map_eq_some_iff] at ef
  obtain ⟨⟨d, ρ1⟩, e1, i, e2, e3⟩ := ef
  cases e3
  have := asI_some e2
  subst this
  exact ⟨ρ, R, _, _, e1, fun v H' s R' x => ⟨i, x.int_inv, k H' s R'⟩⟩⟩
theorem cutD_map {α β : Type} (g : α → β) (xs : List α) (lo hi : Option Int) : cutD (xs.map g) lo hi = (cutD xs lo hi).map g := by
  unfold cutD
  rw [List.length_map, ← List.map_drop, ← List.map_take]
theorem cutV_D (xs : List V) (lo hi : Option Int) : cutV xs lo hi = cutD xs lo hi := rfl
theorem VRs.cut {xs : List V} {ds : List D} (h : VRs K A H xs ds) (lo hi : Option Int) : VRs K A H (cutV xs lo hi) (cutD ds lo hi) := by
  unfold cutV cutD
  rw [h.length]
  exact (h.drop _).take _
theorem cutD_whole {ds : List D} {lo hi : Option Int} (h : HT.sIx ds.length 0 lo = 0 ∧ HT.sIx ds.length ds.length hi = ds.length) : cutD ds lo hi = ds := by
  unfold cutD
  rw [h.1, h.2]
  simp
def rSlD (K : PySem.W.Frag) : V → Option Int → Option Int → Hp → VK → Prop := fun x lo hi H Q => rSlA K x lo hi H Q ∨ rSlL K x lo hi H Q
theorem sl_D : SlR X (rSlD X.K) := sl_tupA.or sl_list
theorem d_slice {lo hi : Option Expr} {p2' : Pos} {fl fh : OFn} (he : PE X e (tD X.K F p1 st1 f1)) (hl : PO X lo (tO X.K F p2 fl)) (hu : PO X hi (tO X.K F p3 fh)) (hc : (st1 || (p2 && p3)) = true := by rfl) :
    PE X (.Subscript e (.Slice lo hi none p2') pos) (tD X.K F (p1 && (p2 && p3)) true (fSl f1 fl fh)) :=
  (pe_slice sl_D he hl hu).impD fun σ H Q ⟨ρ, R, d, ρ', ef, k⟩ => by
    unfold fSl at ef
    simp only [Option.bind_eq_some_iff, Option.map_eq_some_iff] at ef
    obtain ⟨⟨d1, ρ1⟩, e1, ⟨o2, ρ2⟩, e2, ⟨o3, ρ3⟩, e3, d', e4, e5⟩ := ef
    cases e5
    refine ⟨ρ, R, d1, ρ1, e1, fun x H1 s1 R1 v1 => ⟨ρ1, R1, o2, ρ2, e2, fun H2 s2 R2 => ⟨ρ2, R2, o3, _, e3, fun H3 s3 R3 => ?_⟩⟩⟩
    have v3 := v1.keep hc (s2.trans s3) fun _ z => Fx.own_W z
    have sA : Stp (p1 && (p2 && p3)) F σ H H3 := s1.trans (s2.trans s3)
    have fin : ∀ {v : V} {H4 : Hp}, Keep0 H3 H4 → VR X.K (F.W σ) H4 v d → Q v H4 := fun k4 v4 => k _ _ ((sA.trans (q := true) (Stp.of k4)).weak (by simp)) (R3.keep k4) (.of v4)
    dsimp only at e4
    unfold gSl at e4
    split at e4
    · cases e4
      obtain ⟨a, xs, rfl, hX, hxs⟩ := v3.tup_inv
      refine .inl ⟨a, xs, rfl, hX, fun w => ?_, fun w pp hp => ?_⟩
      · rw [hxs.length] at w
        refine fin (Keep.refl _ _) (.tup hX ?_)
        rw [cutD_whole w]
        exact hxs
      · exact fin (keep_upd hp) (new_tup hp (hxs.cut _ _))
    · cases e4
      obtain ⟨a, xs, rfl, hX, hxs⟩ := v3.lst_inv
      exact .inr ⟨a, xs, rfl, .inl (.inl hX), fun pp hp => fin (keep_upd hp) (new_lst hp R3.trk' (hxs.cut _ _))⟩
    · cases e4
      obtain ⟨a, rfl, hX⟩ := v3.scr_inv
      refine .inr ⟨a, _, rfl, hX.sq, fun pp hp => fin (keep_upd hp) (new_lst hp R3.trk' ?_)⟩
      rw [cutV_D, cutD_map]
      exact VRs.ints _
    · cases e4

/-! ### built-in functions -/
def gLen : List D → Option D
  | [.tup ds] => some (.int ds.length)
  | [.lst ds] => some (.int ds.length)
  | [.scr ns] => some (.int ns.length)
  | _ => none
theorem VTs.one {st : Bool} {vs : List V} {d : D} (h : VTs st K A H vs [d]) : ∃ v, vs = [v] ∧ VT st K A H v d := by
  cases h with
  | cons h t => cases t; exact ⟨_, rfl, h⟩
theorem VTs.two {st : Bool} {vs : List V} {d e : D} (h : VTs st K A H vs [d, e]) : ∃ v w, vs = [v, w] ∧ VT st K A H v d ∧ VT st K A H w e := by
  cases h with
  | cons h t =>
    obtain ⟨w, rfl, h2⟩ := t.one
    exact ⟨_, _, rfl, h, h2⟩
theorem cd_len : CallD K (fun xs H Q => ∃ p ys, xs = [.ref p] ∧ (SqL K H p ys ∨ SqT K H p ys) ∧ Q (.int ys.length) H) gLen := by
  intro A H vs ds d Q t hv e q
  unfold gLen at e
  split at e
  · cases e
    obtain ⟨v, rfl, h⟩ := hv.one
    obtain ⟨a, xs, rfl, hX, hxs⟩ := h.tup_inv
    exact ⟨a, xs, rfl, .inr hX, by rw [hxs.length]; exact q _ H (Keep.refl _ _) (.int _)⟩
  · cases e
    obtain ⟨v, rfl, h⟩ := hv.one
    obtain ⟨a, xs, rfl, hX, hxs⟩ := h.lst_inv
    exact ⟨a, xs, rfl, .inl (.inl (.inl hX)), by rw [hxs.length]; exact q _ H (Keep.refl _ _) (.int _)⟩
  · cases e
    obtain ⟨v, rfl, h⟩ := hv.one
    obtain ⟨a, rfl, hX⟩ := h.scr_inv
    exact ⟨a, _, rfl, .inl hX.sq, by rw [List.length_map]; exact q _ H (Keep.refl _ _) (.int _)⟩
  · cases e
def gTuple : List D → Option D
  | [.tup ds] => some (.tup ds)
  | [.lst ds] => some (.tup ds)
  | _ => none
theorem cd_tuple : CallD K (fun xs H Q => ∃ p ys, xs = [.ref p] ∧ ((SqL K H p ys ∧ ∀ l, H l = none → Q (.ref l) (upd H l (.tup ys))) ∨ (SqT K H p ys ∧ Q (.ref p) H))) gTuple := by
  intro A H vs ds d Q t hv e q
  unfold gTuple at e
  split at e
  · cases e
    obtain ⟨v, rfl, h⟩ := hv.one
    obtain ⟨a, xs, rfl, hX, hxs⟩ := h.tup_inv
    exact ⟨a, xs, rfl, .inr ⟨hX, q _ H (Keep.refl _ _) (.tup hX hxs)⟩⟩
  · cases e
    obtain ⟨v, rfl, h⟩ := hv.one
    obtain ⟨a, xs, rfl, hX, hxs⟩ := h.lst_inv
    exact ⟨a, xs, rfl, .inl ⟨.inl (.inl hX), fun l hl => q _ _ (keep_upd hl) (new_tup hl hxs)⟩⟩
  · cases e
def gList : List D → Option D
  | [.tup ds] => some (.lst ds)
  | [.lst ds] => some (.lst ds)
  | _ => none
theorem cd_list : CallD K (fun xs H Q => ∃ p ys, xs = [.ref p] ∧ (SqL K H p ys ∨ SqT K H p ys) ∧ ∀ l, H l = none → Q (.ref l) (upd H l (.lst ys))) gList := by
  intro A H vs ds d Q t hv e q
  unfold gList at e
  split at e
  · cases e
    obtain ⟨v, rfl, h⟩ := hv.one
    obtain ⟨a, xs, rfl, hX, hxs⟩ := h.tup_inv
    exact ⟨a, xs, rfl, .inr hX, fun l hl => q _ _ (keep_upd hl) (new_lst hl t hxs)⟩
  · cases e
    obtain ⟨v, rfl, h⟩ := hv.one
    obtain ⟨a, xs, rfl, hX, hxs⟩ := h.lst_inv
    exact ⟨a, xs, rfl, .inl (.inl (.inl hX)), fun l hl => q _ _ (keep_upd hl) (new_lst hl t hxs)⟩
  · cases e
/-- list(x) as a new list -/
def gListL : List D → Option (List D)
  | [.tup ds] => some ds
  | [.lst ds] => some ds
  | _ => none
def fCallL (g : List D → Option (List D)) (fs : LFn) : LFn := fun ρ => (fs ρ).bind fun x => (g x.1).map fun d => (d, x.2)
theorem l_list {px : Pos} (hg : Gl X "list") (hm : X.mg "list" = none) (hv : bootBuiltins "list" = some (.type "list")) (ha : PA X (e :: es) (tAs X.K F p st fs))
    (he : starEach (e :: es) X.env = (false, eval e X.env) :: starEach es X.env := by rfl) (hpl : (backTo pos (starEach es X.env)).any (·.1) = false := by rfl) :
    PE X (.Call (.Name "list" px) (e :: es) [] pos) (tL X.K F p (fCallL gListL fs)) :=
  (pe_callTy call_list_of hg hm hv ha (by decide) (by decide) he hpl).impD fun σ H Q ⟨ρ, R, d, ρ', ef, k⟩ => by
    unfold fCallL at ef
    simp only [Option.bind_eq_some_iff, Option.map_eq_some_iff] at ef
    obtain ⟨⟨ds, ρ1⟩, e1, d', e2, e3⟩ := ef
    cases e3
    refine ⟨ρ, R, ds, _, e1, fun vs H1 s R1 v1 => ?_⟩
    dsimp only at e2
    unfold gListL at e2
    split at e2
    · cases e2
      obtain ⟨v, rfl, h⟩ := v1.one
      obtain ⟨a, xs, rfl, hX, hxs⟩ := h.tup_inv
      exact ⟨a, xs, rfl, .inr hX, fun l hl => new_list R s R1 hxs k l hl⟩
    · cases e2
      obtain ⟨v, rfl, h⟩ := v1.one
      obtain ⟨a, xs, rfl, hX, hxs⟩ := h.lst_inv
      exact ⟨a, xs, rfl, .inl (.inl (.inl hX)), fun l hl => new_list R s R1 hxs k l hl⟩
    · cases e2
def gAbs : List D → Option D
  | [.int i] => some (.int (if i < 0 then -i else i))
  | _ => none
theorem cd_abs : CallD K (fun xs H Q => ∃ i, xs = [.int i] ∧ Q (.int (if i < 0 then -i else i)) H) gAbs := by
  intro A H vs ds d Q t hv e q
  unfold gAbs at e
  split at e
  · cases e
    obtain ⟨v, rfl, h⟩ := hv.one
    exact ⟨_, by rw [h.int_inv], q _ H (Keep.refl _ _) (.int _)⟩
  · cases e
def gMax2 : List D → Option D
  | [.int i, .int j] => some (.int (if j > i then j else i))
  | _ => none
theorem cd_max2 : CallD K (fun xs H Q => ∃ i j, xs = [.int i, .int j] ∧ Q (.int (if j > i then j else i)) H) gMax2 := by
  intro A H vs ds d Q t hv e q
  unfold gMax2 at e
  split at e
  · cases e
    obtain ⟨v, w, rfl, h1, h2⟩ := hv.two
    exact ⟨_, _, by rw [h1.int_inv, h2.int_inv], q _ H (Keep.refl _ _) (.int _)⟩
  · cases e
def gMin2 : List D → Option D
  | [.int i, .int j] => some (.int (if j < i then j else i))
  | _ => none
theorem cd_min2 : CallD K (fun xs H Q => ∃ i j, xs = [.int i, .int j] ∧ Q (.int (if j < i then j else i)) H) gMin2 := by
  intro A H vs ds d Q t hv e q
  unfold gMin2 at e
  split at e
  · cases e
    obtain ⟨v, w, rfl, h1, h2⟩ := hv.two
    exact ⟨_, _, by rw [h1.int_inv, h2.int_inv], q _ H (Keep.refl _ _) (.int _)⟩
  · cases e
def gInt : List D → Option D
  | [.int i] => some (.int i)
  | [.bl k] => some (.int (if k then 1 else 0))
  | _ => none
theorem cd_int : CallD K (fun xs H Q => (∃ i, xs = [.int i] ∧ Q (.int i) H) ∨ ∃ k, xs = [.bl k] ∧ Q (.int (if k then 1 else 0)) H) gInt := by
  intro A H vs ds d Q t hv e q
  unfold gInt at e
  split at e
  · cases e
    obtain ⟨v, rfl, h⟩ := hv.one
    exact .inl ⟨_, by rw [h.int_inv], q _ H (Keep.refl _ _) (.int _)⟩
  · cases e
    obtain ⟨v, rfl, h⟩ := hv.one
    exact .inr ⟨_, by rw [h.bl_inv], q _ H (Keep.refl _ _) (.int _)⟩
  · cases e
def gGcd : List D → Option D
  | [.int i, .int j] => some (.int ((Nat.gcd i.natAbs j.natAbs : Nat) : Int))
  | _ => none
theorem cd_gcd : CallD K rGcd gGcd := by
  intro A H vs ds d Q t hv e q
  unfold gGcd at e
  split at e
  · cases e
    obtain ⟨v, w, rfl, h1, h2⟩ := hv.two
    exact ⟨_, _, by rw [h1.int_inv, h2.int_inv], q _ H (Keep.refl _ _) (.int _)⟩
  · cases e
def gDivmod : List D → Option D
  | [.int i, .int j] => if 0 < j ∧ j < 1073741824 then some (.tup [.int (i / j), .int (i % j)]) else none
  | _ => none
theorem cd_divmod : CallD K (fun xs H Q => ∃ i j, xs = [.int i, .int j] ∧ CDiv i j ∧ ∀ p, H p = none → Q (.ref p) (upd H p (.tup [.int (i / j), .int (i % j)]))) gDivmod := by
  intro A H vs ds d Q t hv e q
  unfold gDivmod at e
  split at e
  · split at e
    · rename_i hc
      cases e
      obtain ⟨v, w, rfl, h1, h2⟩ := hv.two
      exact ⟨_, _, by rw [h1.int_inv, h2.int_inv], hc, fun p hp => q _ _ (keep_upd hp) (new_tup hp (.cons (.int _) (.cons (.int _) .nil)))⟩
    · cases e
  · cases e
def blsOf : List D → Option (List Bool)
  | [] => some []
  | .bl b :: r => (blsOf r).map (b :: ·)
  | _ :: _ => none
theorem blsOf_some : ∀ {ds : List D} {bs : List Bool}, blsOf ds = some bs → ds = bs.map D.bl
  | [], bs, h => by cases h; rfl
  | .bl b :: r, bs, h => by
    unfold blsOf at h
    rw [Option.map_eq_some_iff] at h
    obtain ⟨cs, e, rfl⟩ := h
    rw [blsOf_some e]; rfl
  | .non :: _, _, h => by cases h
  | .int _ :: _, _, h => by cases h
  | .str _ :: _, _, h => by cases h
  | .tup _ :: _, _, h => by cases h
  | .lst _ :: _, _, h => by cases h
  | .scr _ :: _, _, h => by cases h
  | .dct :: _, _, h => by cases h
theorem blsOf_map : ∀ bs : List Bool, blsOf (bs.map D.bl) = some bs
  | [] => rfl
  | b :: r => by show (blsOf (r.map D.bl)).map (b :: ·) = _; rw [blsOf_map r]; rfl
theorem VRs.bls : ∀ {bs : List Bool} {xs : List V}, VRs K A H xs (bs.map D.bl) → xs = bs.map V.bl
  | [], _, h => by cases h; rfl
  | b :: r, _, h => by
    cases h with
    | cons h t => cases h; rw [VRs.bls t]; rfl
def gAll : List D → Option D
  | [.lst ds] => (blsOf ds).map fun bs => .bl (bs.all id)
  | _ => none
def gAny : List D → Option D
  | [.lst ds] => (blsOf ds).map fun bs => .bl (bs.any id)
  | _ => none
theorem cd_all : CallD K (rAll K) gAll := by
  intro A H vs ds d Q t hv e q
  unfold gAll at e
  split at e
  · rw [Option.map_eq_some_iff] at e
    obtain ⟨bs, e1, rfl⟩ := e
    have := blsOf_some e1
    subst this
    obtain ⟨v, rfl, h⟩ := hv.one
    obtain ⟨a, xs, rfl, hX, hxs⟩ := h.lst_inv
    have := hxs.bls
    subst this
    exact ⟨a, bs, rfl, .inl (.inl hX), q _ H (Keep.refl _ _) (.bl _)⟩
  · cases e
theorem cd_any : CallD K (rAny K) gAny := by
  intro A H vs ds d Q t hv e q
  unfold gAny at e
  split at e
  · rw [Option.map_eq_some_iff] at e
    obtain ⟨bs, e1, rfl⟩ := e
    have := blsOf_some e1
    subst this
    obtain ⟨v, rfl, h⟩ := hv.one
    obtain ⟨a, xs, rfl, hX, hxs⟩ := h.lst_inv
    have := hxs.bls
    subst this
    exact ⟨a, bs, rfl, .inl (.inl hX), q _ H (Keep.refl _ _) (.bl _)⟩
  · cases e
def intsOf : List D → Option (List Int)
  | [] => some []
  | .int b :: r => (intsOf r).map (b :: ·)
  | _ :: _ => none
theorem intsOf_some : ∀ {ds : List D} {bs : List Int}, intsOf ds = some bs → ds = bs.map D.int
  | [], bs, h => by cases h; rfl
  | .int b :: r, bs, h => by
    unfold intsOf at h
    rw [Option.map_eq_some_iff] at h
    obtain ⟨cs, e, rfl⟩ := h
    rw [intsOf_some e]; rfl
  | .non :: _, _, h => by cases h
  | .bl _ :: _, _, h => by cases h
  | .str _ :: _, _, h => by cases h
  | .tup _ :: _, _, h => by cases h
  | .lst _ :: _, _, h => by cases h
  | .scr _ :: _, _, h => by cases h
  | .dct :: _, _, h => by cases h
theorem intsOf_map : ∀ bs : List Int, intsOf (bs.map D.int) = some bs
  | [] => rfl
  | b :: r => by show (intsOf (r.map D.int)).map (b :: ·) = _; rw [intsOf_map r]; rfl
theorem VRs.intsV : ∀ {bs : List Int} {xs : List V}, VRs K A H xs (bs.map D.int) → xs = bs.map V.int
  | [], _, h => by cases h; rfl
  | b :: r, _, h => by
    cases h with
    | cons h t => cases h; rw [VRs.intsV t]; rfl
def gSum : List D → Option D
  | [.lst ds] => (intsOf ds).map fun bs => .int bs.sum
  | _ => none
theorem cd_sum : CallD K (rSum K) gSum := by
  intro A H vs ds d Q t hv e q
  unfold gSum at e
  split at e
  · rw [Option.map_eq_some_iff] at e
    obtain ⟨bs, e1, rfl⟩ := e
    have := intsOf_some e1
    subst this
    obtain ⟨v, rfl, h⟩ := hv.one
    obtain ⟨a, xs, rfl, hX, hxs⟩ := h.lst_inv
    have := hxs.intsV
    subst this
    exact ⟨a, bs, rfl, .inl (.inl hX), q _ H (Keep.refl _ _) (.int _)⟩
  · cases e
/-! ### isinstance with a built-in type -/
def tyOf : D → String
  | .non => "NoneType"
  | .bl _ => "bool"
  | .int _ => "int"
  | .str _ => "str"
  | .tup _ => "tuple"
  | .lst _ => "list"
  | .scr _ => "list"
  | .dct => "dict"
theorem VT.tyX {st : Bool} {x : V} {d : D} (h : VT st K A H x d) : TyX K H x (.type (tyOf d)) := by
  rcases h with h | ⟨_, a, xs, ds, rfl, rfl, e, _⟩
  · cases h with
    | non => exact .base .non
    | bl b => exact .base (.bl b)
    | int i => exact .base (.int i)
    | str x => exact .base (.str x)
    | tup h _ =>
      rcases h with (h | ⟨o, h⟩) | ⟨o, its, n, h, c, _⟩
      · exact .base (.tup h)
      · exact .fTuple h
      · exact .kTuple h c
    | lst _ h _ => exact .base (.lst h)
    | scr h =>
      rcases h with ⟨o, h⟩ | ⟨o, its, n, h, c, _⟩
      · exact .base (.frz h)
      · exact .kList h c
    | dct _ h => exact .base (.dK h)
  · exact .base (.lst e)
end
end Dl

namespace Dl
open PySem PySem.Spec PyProof.Rows L2

/-! ### isinstance -/
def isInt : D → Bool
  | .int _ => true
  | .bl _ => true
  | _ => false
def isBool : D → Bool
  | .bl _ => true
  | _ => false
def isTup : D → Bool
  | .tup _ => true
  | _ => false
def isLst : D → Bool
  | .lst _ => true
  | .scr _ => true
  | _ => false
def fIsi (g : D → Bool) (f : DFn) : DFn := fun ρ => (f ρ).map fun x => (.bl (g x.1), x.2)

/-! ### statements by data -/
inductive Out where
  | nx (ρ : DEnv) | rt (d : D) (ρ : DEnv) | bk (ρ : DEnv) | ct (ρ : DEnv)
abbrev SFn := DEnv → Option Out
def Fx.frz (F : Fx) : Fx := { F with own := F.own.filter fun i => F.io.any fun p => p.1 == i }
structure StpS (F : Fx) (σ : St) (H : Hp) (σ' : St) (H' : Hp) : Prop where
  k : Keep (F.Own σ) H H'
  n : ∀ a, F.Own σ' a → F.Own σ a ∨ H a = none
def RetR (K : PySem.W.Frag) (F : Fx) (H' : Hp) (v : V) (d : D) : Prop := match F.fresh with
  | true => ∃ a xs ds, v = .ref a ∧ d = .lst ds ∧ F.H0 a = none ∧ H' a = some (.lst xs) ∧ VRs K (fun b => F.W0 b ∨ b = a) H' xs ds
  | false => VR K F.W0 H' v d
def Post (K : PySem.W.Frag) (F : Fx) (D : Ends) (σ : St) (H : Hp) : Out → Prop
  | .nx ρ' => ∀ σ' H', StpS F σ H σ' H' → EnvR K F σ' H' ρ' → D.nx σ' H'
  | .ct ρ' => ∀ σ' H', StpS F σ H σ' H' → EnvR K F σ' H' ρ' → D.ct σ' H'
  | .bk ρ' => ∀ σ' H', StpS F σ H σ' H' → EnvR K F σ' H' ρ' → D.bk σ' H'
  | .rt d ρ' => ∀ v σ' H', StpS F σ H σ' H' → EnvR K F.frz σ' H' ρ' → RetR K F H' v d → D.rt v H'
def tS (K : PySem.W.Frag) (F : Fx) (f : SFn) : TS := fun D σ H => ∃ ρ, EnvR K F σ H ρ ∧ ∃ o, f ρ = some o ∧ Post K F D σ H o

def fSkip : SFn := fun ρ => some (.nx ρ)
def oSeq (g : SFn) : Out → Option Out
  | .nx ρ => g ρ
  | o => some o
def fSeq (f g : SFn) : SFn := fun ρ => (f ρ).bind (oSeq g)
def fIfS (c : TFn) (a b : SFn) : SFn := fun ρ => (c ρ).bind fun x => if x.1 then a x.2 else b x.2
def fRet (f : DFn) : SFn := fun ρ => (f ρ).map fun x => .rt x.1 x.2
def fRetL (f : LFn) : SFn := fun ρ => (f ρ).map fun x => .rt (.lst x.1) x.2
def fSet (i : Nat) (f : DFn) : SFn := fun ρ => (f ρ).bind fun x => if i < x.2.length then some (.nx (x.2.set i (some x.1))) else none
def fSetL (i : Nat) (f : LFn) : SFn := fun ρ => (f ρ).bind fun x => if i < x.2.length then some (.nx (x.2.set i (some (.lst x.1)))) else none
def fNo : SFn := fun _ => none
def fBrk : SFn := fun ρ => some (.bk ρ)
def fCnt : SFn := fun ρ => some (.ct ρ)
abbrev GFn := D → DEnv → Option DEnv
abbrev GsFn := List D → DEnv → Option DEnv
def gNm (i : Nat) : GFn := fun d ρ => if i < ρ.length then some (ρ.set i (some d)) else none
def gTp (n : Nat) (g : GsFn) : GFn := fun d ρ => match d with
  | .tup ds => if ds.length = n then g ds ρ else none
  | _ => none
def gsNil : GsFn := fun ds ρ => match ds with
  | [] => some ρ
  | _ => none
def gsCons (g : GFn) (gs : GsFn) : GsFn := fun ds ρ => match ds with
  | d :: r => (g d ρ).bind (gs r)
  | [] => none
def fAsg (g : GFn) (f : DFn) : SFn := fun ρ => (f ρ).bind fun x => (g x.1 x.2).map .nx
def fDrop (f : DFn) : SFn := fun ρ => (f ρ).map fun x => .nx x.2
def fApp (i : Nat) (f : DFn) : SFn := fun ρ => (ρ[i]?.join).bind fun _ => (f ρ).bind fun x => match x.2[i]?.join with
  | some (.lst ds) => if ds.length < sizeLine then some (.nx (x.2.set i (some (.lst (ds ++ [x.1]))))) else none
  | _ => none
/-- x[e] = v, x one's own list -/
def fSetIx (i : Nat) (fv fi : DFn) : SFn := fun ρ => (fv ρ).bind fun v => (v.2[i]?.join).bind fun _ => (fi v.2).bind fun y => (asI y.1).bind fun k => match y.2[i]?.join with
  | some (.lst ds) => (ixN ds.length k).map fun j => .nx (y.2.set i (some (.lst (ds.set j v.1))))
  | _ => none
/-! loops -/
def oLoop (again : DEnv → Option Out) : Out → Option Out
  | .nx ρ => again ρ
  | .ct ρ => again ρ
  | .bk ρ => some (.nx ρ)
  | .rt d ρ => some (.rt d ρ)
def loopD (g : GFn) (b : SFn) : List D → SFn
  | [], ρ => some (.nx ρ)
  | d :: ds, ρ => (g d ρ).bind fun ρ1 => (b ρ1).bind (oLoop (loopD g b ds))
def fFor (its : LFn) (g : GFn) (b : SFn) : SFn := fun ρ => (its ρ).bind fun x => loopD g b x.1 x.2
def loopW (c : TFn) (b : SFn) : Nat → SFn
  | 0, _ => none
  | n + 1, ρ => (c ρ).bind fun x => if x.1 then (b x.2).bind (oLoop (loopW c b n)) else some (.nx x.2)
def fWhile (μ : DEnv → Nat) (c : TFn) (b : SFn) : SFn := fun ρ => loopW c b (μ ρ) ρ
/-! comprehensions -/
def wipeD (ρ : DEnv) : List Nat → DEnv
  | [] => ρ
  | v :: vs => (wipeD ρ vs).set v none
def compD (g : GFn) (c : TFn) (e : DFn) (ρ : DEnv) : List D → Option (List D)
  | [] => some []
  | d :: ds => (g d ρ).bind fun ρ1 => (c ρ1).bind fun b => if b.1 then (e b.2).bind fun y => (compD g c e ρ ds).map (y.1 :: ·) else compD g c e ρ ds
def fYes : TFn := fun ρ => some (true, ρ)
def fComp (its : LFn) (g : GFn) (c : TFn) (e : DFn) (vs : List Nat) : LFn := fun ρ => (its ρ).bind fun x => if x.1.length ≤ sizeLine then (compD g c e (wipeD x.2 vs) x.1).map fun ys => (ys, x.2) else none

section
variable {X : Cx} {F : Fx} {K : PySem.W.Frag} {p q p1 p2 p3 st st1 st2 st3 : Bool} {e a b c : Expr} {es rest : List Expr} {f f1 f2 f3 : DFn} {fs : LFn} {t1 t2 : TFn} {pos : Pos} {s1 s2 : SFn} {s : Stmt} {ss : List Stmt}
variable {σ σ1 σ2 : St} {H H1 H2 : Hp} {A : ASet}
theorem kit_int : ∀ d : D, PySem.W.kitOne K (.type (tyOf d)) (.type "int") = some (isInt d)
  | .non => kit_ty (by show kitB "NoneType" "int" = some false; decide +kernel)
  | .bl _ => kit_ty (by show kitB "bool" "int" = some true; decide +kernel)
  | .int _ => kit_ty (by show kitB "int" "int" = some true; decide +kernel)
  | .str _ => kit_ty (by show kitB "str" "int" = some false; decide +kernel)
  | .tup _ => kit_ty (by show kitB "tuple" "int" = some false; decide +kernel)
  | .lst _ => kit_ty (by show kitB "list" "int" = some false; decide +kernel)
  | .scr _ => kit_ty (by show kitB "list" "int" = some false; decide +kernel)
  | .dct => kit_ty (by show kitB "dict" "int" = some false; decide +kernel)
theorem kit_bool : ∀ d : D, PySem.W.kitOne K (.type (tyOf d)) (.type "bool") = some (isBool d)
  | .non => kit_ty (by show kitB "NoneType" "bool" = some false; decide +kernel)
  | .bl _ => kit_ty (by show kitB "bool" "bool" = some true; decide +kernel)
  | .int _ => kit_ty (by show kitB "int" "bool" = some false; decide +kernel)
  | .str _ => kit_ty (by show kitB "str" "bool" = some false; decide +kernel)
  | .tup _ => kit_ty (by show kitB "tuple" "bool" = some false; decide +kernel)
  | .lst _ => kit_ty (by show kitB "list" "bool" = some false; decide +kernel)
  | .scr _ => kit_ty (by show kitB "list" "bool" = some false; decide +kernel)
  | .dct => kit_ty (by show kitB "dict" "bool" = some false; decide +kernel)
theorem kit_tup : ∀ d : D, PySem.W.kitOne K (.type (tyOf d)) (.type "tuple") = some (isTup d)
  | .non => kit_ty (by show kitB "NoneType" "tuple" = some false; decide +kernel)
  | .bl _ => kit_ty (by show kitB "bool" "tuple" = some false; decide +kernel)
  | .int _ => kit_ty (by show kitB "int" "tuple" = some false; decide +kernel)
  | .str _ => kit_ty (by show kitB "str" "tuple" = some false; decide +kernel)
  | .tup _ => kit_ty (by show kitB "tuple" "tuple" = some true; decide +kernel)
  | .lst _ => kit_ty (by show kitB "list" "tuple" = some false; decide +kernel)
  | .scr _ => kit_ty (by show kitB "list" "tuple" = some false; decide +kernel)
  | .dct => kit_ty (by show kitB "dict" "tuple" = some false; decide +kernel)
theorem kit_lst : ∀ d : D, PySem.W.kitOne K (.type (tyOf d)) (.type "list") = some (isLst d)
  | .non => kit_ty (by show kitB "NoneType" "list" = some false; decide +kernel)
  | .bl _ => kit_ty (by show kitB "bool" "list" = some false; decide +kernel)
  | .int _ => kit_ty (by show kitB "int" "list" = some false; decide +kernel)
  | .str _ => kit_ty (by show kitB "str" "list" = some false; decide +kernel)
  | .tup _ => kit_ty (by show kitB "tuple" "list" = some false; decide +kernel)
  | .lst _ => kit_ty (by show kitB "list" "list" = some true; decide +kernel)
  | .scr _ => kit_ty (by show kitB "list" "list" = some true; decide +kernel)
  | .dct => kit_ty (by show kitB "dict" "list" = some false; decide +kernel)
theorem d_isi {T : String} {x : Str} {g : D → Bool} {px p2' : Pos} (hk : ∀ d, PySem.W.kitOne X.K (.type (tyOf d)) (.type T) = some (g d)) (hg : Gl X "isinstance") (hm : X.mg "isinstance" = none) (hv : bootBuiltins "isinstance" = some (.builtin "isinstance")) (ha : PE X a (tD X.K F p st f))
    (hT : PE X (.Name x p2') (tC (.ty T))) (he : starEach (a :: [.Name x p2']) X.env = (false, eval a X.env) :: starEach [.Name x p2'] X.env := by rfl) (hs : starEach [.Name x p2'] X.env = (false, eval (.Name x p2') X.env) :: starEach [] X.env := by rfl) (hpl : (backTo pos (starEach [.Name x p2'] X.env)).any (·.1) = false := by rfl) :
    PE X (.Call (.Name "isinstance" px) [a, .Name x p2'] [] pos) (tD X.K F p true (fIsi g f)) :=
  (pe_callB call_isi hg hm hv (pa_cons ha (pa_cons hT pa_nil hs) he) (by decide) (by decide) he hpl).impD fun σ H Q ⟨ρ, R, d, ρ', ef, k⟩ => by
    unfold fIsi at ef
    rw [Option.map_eq_some_iff] at ef
    obtain ⟨⟨d1, ρ1⟩, e1, e2⟩ := ef
    cases e2
    exact ⟨ρ, R, d1, _, e1, fun v H1 s R1 x => ⟨v, .ty T, .type (tyOf d1), .type T, g d1, rfl, .ty T, x.tyX, hk d1, k _ H1 s R1 (.of (.bl _))⟩⟩

/-! ### steps of statements -/
theorem StpS.refl : StpS F σ H σ H := ⟨Keep.refl _ _, fun _ h => .inl h⟩
theorem StpS.trans {σ3 : St} {H3 : Hp} (a : StpS F σ1 H1 σ2 H2) (b : StpS F σ2 H2 σ3 H3) : StpS F σ1 H1 σ3 H3 := by
  refine ⟨⟨fun c o e n => ?_, fun c xs z e => ?_⟩, fun c z => ?_⟩
  · have e2 := a.k.st c o e n
    refine b.k.st c o e2 fun z => ?_
    rcases a.n c z with z | z
    · exact n z
    · rw [e] at z; cases z
  · obtain ⟨y, e2⟩ := a.k.ls c xs z e
    by_cases q : F.Own σ2 c
    · exact b.k.ls c y q e2
    · exact ⟨y, b.k.st c _ e2 fun z => absurd z q⟩
  · rcases b.n c z with z | z
    · exact a.n c z
    · cases e : H1 c with
      | none => exact .inr rfl
      | some o => exact absurd z (a.k.tr (by rw [e]; intro y; cases y))
theorem StpS.of {H' : Hp} (k : Stp p F σ H H') : StpS F σ H σ H' := ⟨k.mono fun _ z => z.2, fun _ h => .inl h⟩
theorem Post.mono {D : Ends} {σ' : St} {H' : Hp} {o : Out} (s : StpS F σ H σ' H') (h : Post K F D σ H o) : Post K F D σ' H' o := by
  cases o with
  | nx ρ => exact fun σ2 H2 s2 R => h σ2 H2 (s.trans s2) R
  | ct ρ => exact fun σ2 H2 s2 R => h σ2 H2 (s.trans s2) R
  | bk ρ => exact fun σ2 H2 s2 R => h σ2 H2 (s.trans s2) R
  | rt d ρ => exact fun v σ2 H2 s2 R r => h v σ2 H2 (s.trans s2) R r

/-- a slot that is not one's own list is stored -/
theorem own_set {i : Nat} {v : V} (ho : F.own.contains i = false) (a : Addr) : F.Own (σ.set i (some v)) a ↔ F.Own σ a := by
  constructor
  · rintro ⟨j, hj, e⟩
    have hne : i ≠ j := by rintro rfl; rw [List.contains_iff_mem.mpr hj] at ho; cases ho
    rw [List.getElem?_set_ne hne] at e
    exact ⟨j, hj, e⟩
  · rintro ⟨j, hj, e⟩
    have hne : i ≠ j := by rintro rfl; rw [List.contains_iff_mem.mpr hj] at ho; cases ho
    exact ⟨j, hj, by rw [List.getElem?_set_ne hne]; exact e⟩
theorem W_set {i : Nat} {v : V} (ho : F.own.contains i = false) : F.W (σ.set i (some v)) = F.W σ := by
  funext a
  unfold Fx.W
  rw [propext (own_set (σ := σ) (v := v) ho a)]
theorem not_own {i : Nat} (ho : F.own.contains i = false) : decide (i ∉ F.own) = true := by
  simp only [decide_eq_true_eq]
  intro z
  rw [List.contains_iff_mem.mpr z] at ho
  cases ho
theorem EnvR.set {ρ : DEnv} {i : Nat} {v : V} {d : D} (R : EnvR K F σ H ρ) (ho : F.own.contains i = false) (hi : i < ρ.length) (h : VR K (F.W σ) H v d) : EnvR K F (σ.set i (some v)) H (ρ.set i (some d)) where
  len := by rw [List.length_set, List.length_set]; exact R.len
  val := fun j d' e => by
    rw [W_set ho]
    by_cases hj : i = j
    · subst hj
      rw [List.getElem?_set_self hi] at e
      cases e
      exact ⟨v, by rw [List.getElem?_set_self (by rw [← R.len]; exact hi)], by rw [not_own ho]; exact .of h⟩
    · rw [List.getElem?_set_ne hj] at e
      obtain ⟨w, h1, h2⟩ := R.val j d' e
      exact ⟨w, by rw [List.getElem?_set_ne hj]; exact h1, h2⟩
  lst := fun j hj w e => by
    have hne : i ≠ j := by rintro rfl; rw [List.contains_iff_mem.mpr hj] at ho; cases ho
    rw [List.getElem?_set_ne hne] at e
    exact R.lst j hj w e
  lsD := fun j hj w e => by
    have hne : i ≠ j := by rintro rfl; rw [List.contains_iff_mem.mpr hj] at ho; cases ho
    rw [List.getElem?_set_ne hne] at e
    exact R.lsD j hj w e
  ap := fun j l a hj hl e1 e2 => by
    have hne : i ≠ j := by rintro rfl; rw [List.contains_iff_mem.mpr hj] at ho; cases ho
    have hne2 : i ≠ l := by rintro rfl; rw [List.contains_iff_mem.mpr hl] at ho; cases ho
    rw [List.getElem?_set_ne hne] at e1
    rw [List.getElem?_set_ne hne2] at e2
    exact R.ap j l a hj hl e1 e2
  tr := R.tr
  fr := R.fr
  iop := fun p hp => by
    obtain ⟨h1, h2, h3⟩ := R.iop p hp
    have hne : i ≠ p.1 := by rintro rfl; rw [List.contains_iff_mem.mpr h1] at ho; cases ho
    exact ⟨h1, h2, by rw [List.getElem?_set_ne hne]; exact h3⟩
  loc := fun j hj hn a e => by
    have hne : i ≠ j := by rintro rfl; rw [List.contains_iff_mem.mpr hj] at ho; cases ho
    rw [List.getElem?_set_ne hne] at e
    exact R.loc j hj hn a e
  exT := fun a h => ⟨(R.exT a h).1, (R.exT a h).2.1, fun z => (R.exT a h).2.2 ((own_set ho a).mp z)⟩
/-- a new list goes to a slot of one's own -/
theorem EnvR.setL {ρ : DEnv} {i : Nat} {a : Addr} {xs : List V} {ds : List D} (R : EnvR K (F.add a) σ H ρ) (ho : F.own.contains i = true) (hio : F.io.any (fun p => p.1 == i) = false) (hi : i < ρ.length) (hx : ¬ F.ex a) (e : H a = some (.lst xs)) (h : VRs K ((F.add a).W σ) H xs ds) :
    EnvR K F (σ.set i (some (.ref a))) H (ρ.set i (some (.lst ds))) := by
  have hiσ : i < σ.length := by rw [← R.len]; exact hi
  have ho' : i ∈ F.own := List.contains_iff_mem.mp ho
  have hOwn : ∀ b, F.Own (σ.set i (some (.ref a))) b → F.Own σ b ∨ b = a := fun b ⟨j, hj, e⟩ => by
    by_cases hji : i = j
    · subst hji
      rw [List.getElem?_set_self hiσ] at e
      cases e
      exact .inr rfl
    · rw [List.getElem?_set_ne hji] at e
      exact .inl ⟨j, hj, e⟩
  have hW : ∀ b, F.W (σ.set i (some (.ref a))) b → (F.add a).W σ b ∨ H b = none := fun b z => by
    rcases z with z | z | z
    · exact .inl (.inl z)
    · rcases hOwn b z with z | z
      · exact .inl (.inr (.inl z))
      · exact .inl (.inr (.inr (.inr z)))
    · exact .inl (.inr (.inr (.inl z)))
  have ax : H a ≠ none ∧ F.H0 a = none ∧ ¬ F.Own σ a := R.exT a (.inr rfl)
  refine ⟨by rw [List.length_set, List.length_set]; exact R.len, fun j d e' => ?_, fun j hj v e' => ?_, fun j hj d e' => ?_, fun j l b hj hl e1 e2 => ?_, R.tr, R.fr, fun p hp => ?_, fun j hj hn b e' => ?_, fun b z => ?_⟩
  · by_cases hj : i = j
    · subst hj
      rw [List.getElem?_set_self hi] at e'
      cases e'
      refine ⟨_, by rw [List.getElem?_set_self hiσ], .inr ⟨?_, a, xs, ds, rfl, rfl, e, h.avoid hW⟩⟩
      simp [ho']
    · rw [List.getElem?_set_ne hj] at e'
      obtain ⟨w, h1, h2⟩ := R.val j d e'
      refine ⟨w, by rw [List.getElem?_set_ne hj]; exact h1, ?_⟩
      rcases h2 with h2 | ⟨q, b, ys, es, e1, e2, e3, e4⟩
      · exact .inl (h2.avoid hW)
      · exact .inr ⟨q, b, ys, es, e1, e2, e3, e4.avoid hW⟩
  · by_cases hji : i = j
    · subst hji
      rw [List.getElem?_set_self hiσ] at e'
      cases e'
      exact ⟨a, xs, rfl, e⟩
    · rw [List.getElem?_set_ne hji] at e'
      exact R.lst j hj v e'
  · by_cases hji : i = j
    · subst hji
      rw [List.getElem?_set_self hi] at e'
      cases e'
      exact ⟨ds, rfl⟩
    · rw [List.getElem?_set_ne hji] at e'
      exact R.lsD j hj d e'
  · by_cases hji : i = j
    · subst hji
      rw [List.getElem?_set_self hiσ] at e1
      cases e1
      by_cases hli : i = l
      · exact hli
      · rw [List.getElem?_set_ne hli] at e2
        exact absurd ⟨l, hl, e2⟩ ax.2.2
    · rw [List.getElem?_set_ne hji] at e1
      by_cases hli : i = l
      · subst hli
        rw [List.getElem?_set_self hiσ] at e2
        cases e2
        exact absurd ⟨j, hj, e1⟩ ax.2.2
      · rw [List.getElem?_set_ne hli] at e2
        exact R.ap j l b hj hl e1 e2
  · obtain ⟨h1, h2, h3⟩ := R.iop p hp
    have hne : i ≠ p.1 := by
      rintro rfl
      have hp' : p ∈ F.io := hp
      rw [List.any_eq_true.mpr ⟨p, hp', by simp⟩] at hio
      cases hio
    exact ⟨h1, h2, by rw [List.getElem?_set_ne hne]; exact h3⟩
  · by_cases hji : i = j
    · subst hji
      rw [List.getElem?_set_self hiσ] at e'
      cases e'
      exact ax.2.1
    · rw [List.getElem?_set_ne hji] at e'
      exact R.loc j hj hn b e'
  · obtain ⟨z1, z2, z3⟩ := R.exT b (.inl z)
    refine ⟨z1, z2, fun y => ?_⟩
    rcases hOwn b y with y | y
    · exact z3 y
    · subst y
      exact hx z
/-- a list of one's own is changed -/
theorem EnvR.chg {ρ : DEnv} {i : Nat} {a : Addr} {ys : List V} {ds : List D} {H' : Hp} (R : EnvR K F σ H ρ) (ho : F.own.contains i = true) (hi : i < ρ.length) (eσ : σ[i]? = some (some (.ref a))) (ka : Keep (fun b => b = a) H H') (e' : H' a = some (.lst ys)) (h : VRs K (F.W σ) H' ys ds) :
    EnvR K F σ H' (ρ.set i (some (.lst ds))) ∧ Keep (F.Own σ) H H' := by
  have ho' : i ∈ F.own := List.contains_iff_mem.mp ho
  have oa : F.Own σ a := ⟨i, ho', eσ⟩
  have k : Keep (F.Own σ) H H' := ka.mono fun b z => z ▸ oa
  refine ⟨⟨by rw [List.length_set]; exact R.len, fun j d e2 => ?_, fun j hj v e2 => ?_, fun j hj d e2 => ?_, R.ap, R.tr, fun b o e1 n => ?_, R.iop, R.loc, fun b z => ⟨k.tr (R.exT b z).1, (R.exT b z).2⟩⟩, k⟩
  · by_cases hj : i = j
    · subst hj
      rw [List.getElem?_set_self hi] at e2
      cases e2
      exact ⟨_, eσ, .inr ⟨by simp [ho'], a, ys, ds, rfl, rfl, e', h⟩⟩
    · rw [List.getElem?_set_ne hj] at e2
      obtain ⟨w, h1, h2⟩ := R.val j d e2
      refine ⟨w, h1, ?_⟩
      rcases h2 with h2 | ⟨q, b, zs, es, e1, e2, e3, e4⟩
      · exact .inl (h2.keep k fun _ z => Fx.own_W z)
      · subst e1
        have hjo : j ∈ F.own := by
          have q' : ¬ (j ∉ F.own) := of_decide_eq_false q
          exact Classical.byContradiction q'
        have hba : b ≠ a := by
          rintro rfl
          exact hj (R.ap i j b ho' hjo eσ h1)
        exact .inr ⟨q, b, zs, es, rfl, e2, ka.st _ _ e3 fun z => absurd z hba, e4.keep k fun _ z => Fx.own_W z⟩
  · obtain ⟨b, zs, e1, e3⟩ := R.lst j hj v e2
    by_cases hb : b = a
    · subst hb; exact ⟨b, ys, e1, e'⟩
    · exact ⟨b, zs, e1, ka.st _ _ e3 fun z => absurd z hb⟩
  · by_cases hji : i = j
    · subst hji
      rw [List.getElem?_set_self hi] at e2
      cases e2
      exact ⟨ds, rfl⟩
    · rw [List.getElem?_set_ne hji] at e2
      exact R.lsD j hj d e2
  · have e2 := R.fr b o e1 n
    have hb : b ≠ a := by
      rintro rfl
      by_cases q : ∀ p, p ∈ F.io → p.1 ≠ i
      · rw [R.loc i ho' q b eσ] at e1; cases e1
      · have q2 : ∃ p, p ∈ F.io ∧ p.1 = i := Classical.byContradiction fun z => q fun p hp e => z ⟨p, hp, e⟩
        obtain ⟨p, hp, rfl⟩ := q2
        obtain ⟨_, _, h3⟩ := R.iop p hp
        rw [eσ] at h3
        cases h3
        exact n p hp rfl
    exact ka.st _ _ e2 fun z => absurd z hb
theorem keep_at {a : Addr} {xs ys : List V} (e : H a = some (.lst xs)) : Keep (fun b => b = a) H (upd H a (.lst ys)) :=
  ⟨fun b o e1 n => by
      by_cases hb : b = a
      · subst hb
        rw [e] at e1
        cases e1
        exact absurd rfl (n rfl xs)
      · rw [upd_ne hb]; exact e1,
    fun b zs z _ => ⟨ys, by rw [z]; exact upd_same⟩⟩
end
end Dl

namespace Dl
open PySem PySem.Spec PyProof.Rows L2
section
variable {X : Cx} {F : Fx} {K : PySem.W.Frag} {p q p1 p2 p3 st st1 st2 st3 : Bool} {e a b c : Expr} {es rest : List Expr} {f f1 f2 f3 : DFn} {fs : LFn} {t1 t2 : TFn} {pos : Pos} {s1 s2 : SFn} {s : Stmt} {ss : List Stmt}
variable {σ σ1 σ2 : St} {H H1 H2 : Hp} {A : ASet}

/-! ### all that is one's own, but the parameters, is given away -/
theorem frz_own {i : Nat} (h : i ∈ F.frz.own) : i ∈ F.own ∧ ∃ p, p ∈ F.io ∧ p.1 = i := by
  have h' := List.mem_filter.mp h
  refine ⟨h'.1, ?_⟩
  obtain ⟨p, hp, e⟩ := List.any_eq_true.mp h'.2
  exact ⟨p, hp, by simpa using e⟩
theorem frz_W {a : Addr} (h : F.frz.W σ a) : F.W σ a := by
  rcases h with h | ⟨i, hi, e⟩ | h
  · exact .inl h
  · exact .inr (.inl ⟨i, (frz_own hi).1, e⟩)
  · exact .inr (.inr h)
theorem EnvR.frz {ρ : DEnv} (R : EnvR K F σ H ρ) : EnvR K F.frz σ H ρ := by
  have hW : ∀ b, F.frz.W σ b → F.W σ b ∨ H b = none := fun b z => .inl (frz_W z)
  refine ⟨R.len, fun i d e => ?_, fun i hi => R.lst i (frz_own hi).1, fun i hi => R.lsD i (frz_own hi).1, fun i j a hi hj => R.ap i j a (frz_own hi).1 (frz_own hj).1, R.tr, R.fr, fun p hp => ?_, fun i hi hn => ?_, fun a z => ⟨(R.exT a z).1, (R.exT a z).2.1, fun y => (R.exT a z).2.2 ?_⟩⟩
  · obtain ⟨v, h1, h2⟩ := R.val i d e
    refine ⟨v, h1, ?_⟩
    by_cases hi : i ∈ F.frz.own
    · have : decide (i ∉ F.own) = false := by simp [(frz_own hi).1]
      rw [this] at h2
      have : decide (i ∉ F.frz.own) = false := by simp [hi]
      rw [this]
      rcases h2 with h2 | ⟨q, b, xs, ds, e1, e2, e3, e4⟩
      · exact .inl (h2.avoid hW)
      · exact .inr ⟨q, b, xs, ds, e1, e2, e3, e4.avoid hW⟩
    · refine .of ?_
      by_cases ho : i ∈ F.own
      · obtain ⟨a, xs, e1, e2⟩ := R.lst i ho v h1
        obtain ⟨ds, e3⟩ := R.lsD i ho d e
        subst e1 e3
        obtain ⟨a', ys, e4, e5, e6⟩ := h2.lst_inv
        cases e4
        have nio : ∀ p, p ∈ F.io → p.1 ≠ i := fun p hp z => hi (List.mem_filter.mpr ⟨ho, List.any_eq_true.mpr ⟨p, hp, by simp [z]⟩⟩)
        refine .lst ?_ e5 (e6.avoid hW)
        rintro (z | ⟨j, hj, z⟩ | z)
        · exact R.tr a z (R.loc i ho nio a h1)
        · have := R.ap i j a ho (frz_own hj).1 h1 z
          subst this
          exact hi hj
        · exact (R.exT a z).2.2 ⟨i, ho, h1⟩
      · have : decide (i ∉ F.own) = true := by simp [ho]
        rw [this] at h2
        exact h2.stable.avoid hW
  · obtain ⟨h1, h2, h3⟩ := R.iop p hp
    exact ⟨List.mem_filter.mpr ⟨h1, List.any_eq_true.mpr ⟨p, hp, by simp⟩⟩, h2, h3⟩
  · obtain ⟨_, p, hp, e⟩ := frz_own hi
    exact absurd e (hn p hp)
  · obtain ⟨i, hi, e⟩ := y
    exact ⟨i, (frz_own hi).1, e⟩
theorem frz_Own {a : Addr} (h : F.frz.Own σ a) : F.Own σ a := let ⟨i, hi, e⟩ := h; ⟨i, (frz_own hi).1, e⟩

/-! ### statements -/
theorem ds_skip (h : PS X s tNext) : PS X s (tS X.K F fSkip) := h.impD fun D σ H ⟨ρ, R, o, e, k⟩ => by
  cases e
  exact k σ H .refl R
theorem ds_never : PS X s (tS X.K F fNo) := ps_never.impD fun D σ H ⟨ρ, R, o, e, k⟩ => by cases e
theorem ds_break : PS X (.Break pos) (tS X.K F fBrk) := ps_break.impD fun D σ H ⟨ρ, R, o, e, k⟩ => by
  cases e
  exact k σ H .refl R
theorem ds_cont : PS X (.Continue pos) (tS X.K F fCnt) := ps_continue.impD fun D σ H ⟨ρ, R, o, e, k⟩ => by
  cases e
  exact k σ H .refl R
theorem dss_nil : PSs X [] (tS X.K F fSkip) := pss_nil.impD fun D σ H ⟨ρ, R, o, e, k⟩ => by
  cases e
  exact k σ H .refl R
theorem dss_one (h : PS X s (tS X.K F s1)) : PSs X [s] (tS X.K F s1) := pss_one h
theorem Post.with {D : Ends} {nx' : St → Hp → Prop} {o : Out} (h : Post K F D σ H o) (hn : ∀ ρ, o = .nx ρ → ∀ σ' H', StpS F σ H σ' H' → EnvR K F σ' H' ρ → nx' σ' H') : Post K F { D with nx := nx' } σ H o := by
  cases o with
  | nx ρ => exact hn ρ rfl
  | ct ρ => exact h
  | bk ρ => exact h
  | rt d ρ => exact h
theorem dss_cons (h1 : PS X s (tS X.K F s1)) (h2 : PSs X ss (tS X.K F s2)) : PSs X (s :: ss) (tS X.K F (fSeq s1 s2)) :=
  (pss_cons h1 h2).impD fun D σ H ⟨ρ, R, o, e, k⟩ => by
    unfold fSeq at e
    rw [Option.bind_eq_some_iff] at e
    obtain ⟨o1, e1, e2⟩ := e
    refine ⟨ρ, R, o1, e1, ?_⟩
    cases o1 with
    | nx ρ1 => exact fun σ' H' s' R' => ⟨ρ1, R', o, e2, k.mono s'⟩
    | ct ρ1 => cases e2; exact k
    | bk ρ1 => cases e2; exact k
    | rt d ρ1 => cases e2; exact k
theorem ds_if {a b : List Stmt} (hc : PT X c (tT X.K F p t1)) (ha : PSs X a (tS X.K F s1)) (hb : PSs X b (tS X.K F s2)) : PS X (.If c a b pos) (tS X.K F (fIfS t1 s1 s2)) :=
  (ps_if hc ha hb).impD fun D σ H ⟨ρ, R, o, e, k⟩ => by
    unfold fIfS at e
    rw [Option.bind_eq_some_iff] at e
    obtain ⟨⟨d, ρ1⟩, e1, e2⟩ := e
    refine ⟨ρ, R, d, ρ1, e1, fun H1 s' R1 => ?_⟩
    cases d with
    | true => exact iteT ⟨ρ1, R1, o, e2, k.mono (.of s')⟩
    | false => exact iteF ⟨ρ1, R1, o, e2, k.mono (.of s')⟩
theorem StpS.frz {H' : Hp} (k : Stp p F.frz σ H H') : StpS F σ H σ H' := ⟨k.mono fun _ z => frz_Own z.2, fun _ h => .inl h⟩
theorem ds_ret (h : PE X e (tD X.K F.frz p st f)) (hf : F.fresh = false := by rfl) (hst : st = true := by rfl) : PS X (.Return (some e) pos) (tS X.K F (fRet f)) := by
  subst hst
  exact (ps_ret h).impD fun D σ H ⟨ρ, R, o, e, k⟩ => by
    unfold fRet at e
    rw [Option.map_eq_some_iff] at e
    obtain ⟨⟨d, ρ1⟩, e1, e2⟩ := e
    cases e2
    refine ⟨ρ, R.frz, d, ρ1, e1, fun v H' s' R' x => k v σ H' (.frz s') R' ?_⟩
    unfold RetR
    rw [hf]
    exact x.stable.avoid fun b z => .inl (.inl z)
theorem ds_retN (hf : F.fresh = false := by rfl) : PS X (.Return none pos) (tS X.K F (fRet (fC .non))) :=
  ps_retN.impD fun D σ H ⟨ρ, R, o, e, k⟩ => by
    cases e
    refine k _ σ H .refl R.frz ?_
    unfold RetR
    rw [hf]
    exact .non
theorem ds_retL (h : PE X e (tL X.K F.frz p fs)) (hf : F.fresh = true := by rfl) : PS X (.Return (some e) pos) (tS X.K F (fRetL fs)) :=
  (ps_ret h).impD fun D σ H ⟨ρ, R, o, e, k⟩ => by
    unfold fRetL at e
    rw [Option.map_eq_some_iff] at e
    obtain ⟨⟨d, ρ1⟩, e1, e2⟩ := e
    cases e2
    refine ⟨ρ, R.frz, d, ρ1, e1, fun a xs H' s' R' n e v => k _ σ H' (.frz s') R'.drop ?_⟩
    unfold RetR
    rw [hf]
    exact ⟨a, xs, d, rfl, rfl, (R'.exT a (.inr rfl)).2.1, e, v.avoid fun b z => .inl (z.elim .inl fun z => .inr (.inr (.inr z)))⟩
theorem ds_retOwn {i : Nat} {x : Str} {px : Pos} (h : PE X (.Name x px) (tVar i)) (ho : F.own.contains i = true := by rfl) (hio : F.io.any (fun p => p.1 == i) = false := by rfl) (hf : F.fresh = true := by rfl) : PS X (.Return (some (.Name x px)) pos) (tS X.K F (fRet (fVar i))) :=
  (ps_ret h).impD fun D σ H ⟨ρ, R, o, e, k⟩ => by
    unfold fRet fVar at e
    simp only [Option.map_eq_some_iff] at e
    obtain ⟨⟨d, ρ1⟩, ⟨d', e1, e2⟩, e3⟩ := e
    cases e2
    cases e3
    obtain ⟨v, h1, h2⟩ := R.val i d (by simpa [Option.join_eq_some_iff] using e1)
    have ho' : i ∈ F.own := List.contains_iff_mem.mp ho
    obtain ⟨ds, e3⟩ := R.lsD i ho' d (by simpa [Option.join_eq_some_iff] using e1)
    subst e3
    obtain ⟨a, xs, rfl, e4, e5⟩ := h2.lst_inv
    refine ⟨_, h1, k _ σ H .refl R.frz ?_⟩
    unfold RetR
    rw [hf]
    have nio : ∀ p, p ∈ F.io → p.1 ≠ i := fun p hp z => by
      rw [List.any_eq_true.mpr ⟨p, hp, by simp [z]⟩] at hio
      cases hio
    exact ⟨a, xs, ds, rfl, rfl, R.loc i ho' nio a h1, e4, e5.avoid fun b z => .inl (z.elim .inl fun z => .inr (.inl ⟨i, ho', by rw [z]; exact h1⟩))⟩
theorem ds_drop (he : PE X e (tD X.K F p st f)) (hs : swapsWith e none pos.line X.env = pure false := by rfl) : PS X (.Expr e pos) (tS X.K F (fDrop f)) :=
  (ps_expr he hs).impD fun D σ H ⟨ρ, R, o, e, k⟩ => by
    unfold fDrop at e
    rw [Option.map_eq_some_iff] at e
    obtain ⟨⟨d, ρ1⟩, e1, e2⟩ := e
    cases e2
    exact ⟨ρ, R, d, ρ1, e1, fun v H' s' R' _ => k σ H' (.of s') R'⟩
theorem set_len {i : Nat} {x : Str} (hi : X.N[i]? = some x) : True := trivial
/-- x = e -/
theorem ds_set {i : Nat} {x : Str} {pos' : Pos} (hN : X.N.Nodup) (hi : X.N[i]? = some x) (hx : Loc X.env.scope x) (he : PE X e (tD X.K F p st f)) (ho : F.own.contains i = false := by rfl) (hs : swapsWith e (some (.Name x pos')) pos.line X.env = pure false := by rfl)
    (hf : X.fn x = true ∨ X.env.scope.names.lookup x = some .local := by first | exact .inl rfl | exact .inr rfl | assumption) (hst : st = true := by rfl) : PS X (.Assign [.Name x pos'] e pos) (tS X.K F (fSet i f)) := by
  subst hst
  exact (ps_set hN hi hx he hs hf).impD fun D σ H ⟨ρ, R, o, e, k⟩ => by
    unfold fSet at e
    rw [Option.bind_eq_some_iff] at e
    obtain ⟨⟨d, ρ1⟩, e1, e2⟩ := e
    dsimp only at e2
    split at e2
    · rename_i hl
      cases e2
      refine ⟨ρ, R, d, ρ1, e1, fun v H' s' R' x => ?_⟩
      have s2 : StpS F σ H (σ.set i (some v)) H' := ⟨s'.mono fun _ z => z.2, fun a z => .inl ((own_set ho a).mp z)⟩
      exact k _ H' s2 (R'.set ho hl x.stable)
    · cases e2
/-- x = a new list, x one's own -/
theorem StpS.new {a : Addr} {i : Nat} {H' : Hp} (k : Keep (F.Own σ) H H') (n : H a = none) : StpS F σ H (σ.set i (some (.ref a))) H' := ⟨k, fun b ⟨j, hj, e⟩ => by
  by_cases hji : i = j
  · subst hji
    by_cases hl : i < σ.length
    · rw [List.getElem?_set_self hl] at e
      cases e
      exact .inr n
    · rw [List.getElem?_eq_none (by simpa using hl)] at e
      cases e
  · rw [List.getElem?_set_ne hji] at e
    exact .inl ⟨j, hj, e⟩⟩
theorem ex_new {ρ : DEnv} {a : Addr} (R : EnvR K F σ H ρ) (n : H a = none) : ¬ F.ex a := fun z => (R.exT a z).1 n
theorem ds_setL {i : Nat} {x : Str} {pos' : Pos} (hN : X.N.Nodup) (hi : X.N[i]? = some x) (hx : Loc X.env.scope x) (he : PE X e (tL X.K F p fs)) (ho : F.own.contains i = true := by rfl) (hio : F.io.any (fun p => p.1 == i) = false := by rfl) (hs : swapsWith e (some (.Name x pos')) pos.line X.env = pure false := by rfl)
    (hf : X.fn x = true ∨ X.env.scope.names.lookup x = some .local := by first | exact .inl rfl | exact .inr rfl | assumption) : PS X (.Assign [.Name x pos'] e pos) (tS X.K F (fSetL i fs)) :=
  (ps_set hN hi hx he hs hf).impD fun D σ H ⟨ρ, R, o, e, k⟩ => by
    unfold fSetL at e
    rw [Option.bind_eq_some_iff] at e
    obtain ⟨⟨d, ρ1⟩, e1, e2⟩ := e
    dsimp only at e2
    split at e2
    · rename_i hl
      cases e2
      exact ⟨ρ, R, d, ρ1, e1, fun a xs H' s' R' n e v => k _ H' (.new (s'.mono fun _ z => z.2) n) (R'.setL ho hio hl (ex_new R n) e v)⟩
    · cases e2
/-! ### targets -/
structure GStp (is : List Nat) (σ σ' : St) : Prop where
  len : σ'.length = σ.length
  out : ∀ (j : Nat), j ∉ is → σ'[j]? = σ[j]?
def gD (K : PySem.W.Frag) (F : Fx) (is : List Nat) (g : GFn) : TG := fun v σ H Q => ∃ d ρ, EnvR K F σ H ρ ∧ VR K (F.W σ) H v d ∧ ∃ ρ', g d ρ = some ρ' ∧ ∀ σ', GStp is σ σ' → (∀ a, F.Own σ' a → F.Own σ a) → F.W σ' = F.W σ → EnvR K F σ' H ρ' → Q σ' H
def gDs (K : PySem.W.Frag) (F : Fx) (is : List Nat) (g : GsFn) : TGs := fun vs σ H Q => ∃ ds ρ, EnvR K F σ H ρ ∧ VRs K (F.W σ) H vs ds ∧ ∃ ρ', g ds ρ = some ρ' ∧ ∀ σ', GStp is σ σ' → (∀ a, F.Own σ' a → F.Own σ a) → F.W σ' = F.W σ → EnvR K F σ' H ρ' → Q σ' H
theorem _root_.L2.PG.impD {X : Cx} {e : Expr} {t t' : TG} (h : PG X e t) (i : ∀ v σ H Q, t' v σ H Q → t v σ H Q) : PG X e t' := ⟨fun pins s σ H v u Q I r hw => h.run pins s σ H v u Q I r (i v σ H Q hw)⟩
theorem _root_.L2.PGs.impD {X : Cx} {e : List Expr} {t t' : TGs} (h : PGs X e t) (i : ∀ v σ H Q, t' v σ H Q → t v σ H Q) : PGs X e t' := ⟨fun pins s σ H v u Q I r hw => h.run pins s σ H v u Q I r (i v σ H Q hw)⟩
theorem dg_name {i : Nat} {x : Str} (hN : X.N.Nodup) (hi : X.N[i]? = some x) (hx : Loc X.env.scope x) (ho : F.own.contains i = false := by rfl) (hf : X.fn x = true ∨ X.env.scope.names.lookup x = some .local := by first | exact .inl rfl | exact .inr rfl | assumption) : PG X (.Name x pos) (gD X.K F [i] (gNm i)) :=
  (pg_name hN hi hx hf).impD fun v σ H Q ⟨d, ρ, R, hv, ρ', e, k⟩ => by
    unfold gNm at e
    split at e
    · rename_i hl
      cases e
      refine k _ ⟨by rw [List.length_set], fun j hj => ?_⟩ (fun a z => (own_set ho a).mp z) (W_set ho) (R.set ho hl hv)
      rw [List.getElem?_set_ne (by simpa using Ne.symm (List.ne_of_not_mem_cons hj))]
    · cases e
theorem dg_nil : PGs X [] (gDs X.K F [] gsNil) := pgs_nil.impD fun v σ H Q ⟨d, ρ, R, hv, ρ', e, k⟩ => by
  unfold gsNil at e
  split at e
  · cases e
    cases hv
    exact ⟨rfl, k σ ⟨rfl, fun _ _ => rfl⟩ (fun _ z => z) rfl R⟩
  · cases e
theorem dg_cons {t : Expr} {ts : List Expr} {is js : List Nat} {g : GFn} {gs : GsFn} (h1 : PG X t (gD X.K F is g)) (h2 : PGs X ts (gDs X.K F js gs)) (hs : (assignEach (t :: ts) X.env).map (·.2) = assign t X.env :: (assignEach ts X.env).map (·.2) := by rfl) :
    PGs X (t :: ts) (gDs X.K F (is ++ js) (gsCons g gs)) :=
  (pgs_cons h1 h2 hs).impD fun v σ H Q ⟨d, ρ, R, hv, ρ', e, k⟩ => by
    unfold gsCons at e
    split at e
    · rw [Option.bind_eq_some_iff] at e
      obtain ⟨ρ1, e1, e2⟩ := e
      cases hv with
      | cons hv hvs =>
        refine ⟨_, _, rfl, _, ρ, R, hv, ρ1, e1, fun σ1 g1 o1 w1 R1 => ⟨_, ρ1, R1, by rw [w1]; exact hvs, ρ', e2, fun σ2 g2 o2 w2 R2 => k σ2 ⟨g2.len.trans g1.len, fun j hj => ?_⟩ (fun a z => o1 a (o2 a z)) (w2.trans w1) R2⟩⟩
        rw [g2.out j fun z => hj (List.mem_append_right _ z), g1.out j fun z => hj (List.mem_append_left _ z)]
    · cases e
theorem dg_tup {ts : List Expr} {k n : Nat} {is : List Nat} {gs : GsFn} (hc : X.calm = true) (h : PGs X ts (gDs X.K F is gs)) (hn : (assignEach ts X.env).length = n := by rfl) (hst : (assignEach ts X.env).findIdx? (·.1) = none := by rfl) :
    PG X (.Tuple ts k pos) (gD X.K F is (gTp n gs)) :=
  (pg_tup hc h hn hst).impD fun v σ H Q ⟨d, ρ, R, hv, ρ', e, kk⟩ => by
    unfold gTp at e
    split at e
    · split at e
      · rename_i hl
        cases hv with
        | tup hX hxs => exact ⟨_, _, rfl, hX, by rw [hxs.length]; exact hl, _, ρ, R, hxs, ρ', e, kk⟩
      · cases e
    · cases e
/-- targets = e -/
theorem StpS.tgt {σ' : St} {H' : Hp} (k : Keep (F.Own σ) H H') (o : ∀ a, F.Own σ' a → F.Own σ a) : StpS F σ H σ' H' := ⟨k, fun a z => .inl (o a z)⟩
theorem ds_asg {tg : Expr} {is : List Nat} {g : GFn} (he : PE X e (tD X.K F p st f)) (hg : PG X tg (gD X.K F is g)) (hs : swapsWithSole [tg] e pos.line X.env = pure false := by rfl) (hw : swappedStores [tg] e X.env = pure none := by rfl)
    (h1 : (assignEach [tg] X.env).map (·.2) = [assign tg X.env] := by rfl) (hst : st = true := by rfl) : PS X (.Assign [tg] e pos) (tS X.K F (fAsg g f)) := by
  subst hst
  exact (ps_asg he hg hs hw h1).impD fun D σ H ⟨ρ, R, o, e, k⟩ => by
    unfold fAsg at e
    simp only [Option.bind_eq_some_iff, Option.map_eq_some_iff] at e
    obtain ⟨⟨d, ρ1⟩, e1, ρ2, e2, e3⟩ := e
    cases e3
    exact ⟨ρ, R, d, ρ1, e1, fun v H' s' R' x => ⟨d, ρ1, R', x.stable, ρ2, e2, fun σ' _ o' _ R2 => k σ' H' (.tgt (s'.mono fun _ z => z.2) o') R2⟩⟩
/-- a, b = e1, e2, both plain values -/
def fPar (i j : Nat) (fs : LFn) : SFn := fun ρ => (fs ρ).bind fun x => match x.1 with
  | [d, e] => if i < x.2.length ∧ j < x.2.length then some (.nx ((x.2.set i (some d)).set j (some e))) else none
  | _ => none
theorem ds_par {i j : Nat} {x y : Str} {px py pt : Pos} {kt k2 pt2} (hc : X.calm = true) (hN : X.N.Nodup) (hi : X.N[i]? = some x) (hj : X.N[j]? = some y) (hx : X.env.scope.names.lookup x = some .local) (hy : X.env.scope.names.lookup y = some .local)
    (ha : PA X [a, b] (tAs X.K F p st fs)) (hw : swappedStores [.Tuple [.Name x px, .Name y py] kt pt] (.Tuple [a, b] k2 pt2) X.env = pure (some [x, y])) (hij : i ≠ j := by decide) (ho : F.own.contains i = false := by rfl) (ho2 : F.own.contains j = false := by rfl)
    (hs : swapsWithSole [.Tuple [.Name x px, .Name y py] kt pt] (.Tuple [a, b] k2 pt2) pos.line X.env = pure false := by rfl) (hst : st = true := by rfl) :
    PS X (.Assign [.Tuple [.Name x px, .Name y py] kt pt] (.Tuple [a, b] k2 pt2) pos) (tS X.K F (fPar i j fs)) := by
  subst hst
  exact (ps_par hc hN hi hj hij hx hy ha hw hs).impD fun D σ H ⟨ρ, R, o, e, k⟩ => by
    unfold fPar at e
    rw [Option.bind_eq_some_iff] at e
    obtain ⟨⟨ds, ρ1⟩, e1, e2⟩ := e
    dsimp only at e2
    split at e2
    · split at e2
      · rename_i hl
        cases e2
        refine ⟨ρ, R, _, ρ1, e1, fun vs H' s' R' v => ?_⟩
        obtain ⟨v1, v2, rfl, h1, h2⟩ := v.two
        refine ⟨v1, v2, rfl, k _ H' (.tgt (s'.mono fun _ z => z.2) fun a z => (own_set ho a).mp ((own_set ho2 a).mp z)) ?_⟩
        refine (R'.set ho hl.1 h1.stable).set ho2 (by rw [List.length_set]; exact hl.2) ?_
        rw [W_set ho]
        exact h2.stable
      · cases e2
    · cases e2
def fPar3 (i j l : Nat) (fs : LFn) : SFn := fun ρ => (fs ρ).bind fun x => match x.1 with
  | [d, e, f] => if i < x.2.length ∧ j < x.2.length ∧ l < x.2.length then some (.nx (((x.2.set i (some d)).set j (some e)).set l (some f))) else none
  | _ => none
end
end Dl

namespace Dl
open PySem PySem.Spec PyProof.Rows L2
section
variable {X : Cx} {F : Fx} {K : PySem.W.Frag} {p q p1 p2 p3 st st1 st2 st3 : Bool} {e a b c : Expr} {es rest : List Expr} {f f1 f2 f3 : DFn} {fs fs1 fs2 its : LFn} {t1 t2 : TFn} {pos : Pos} {s1 s2 : SFn} {s : Stmt} {ss : List Stmt}
variable {σ σ1 σ2 : St} {H H1 H2 : Hp} {A : ASet}

theorem VTs.three {st : Bool} {vs : List V} {d e g : D} (h : VTs st K A H vs [d, e, g]) : ∃ v w u, vs = [v, w, u] ∧ VT st K A H v d ∧ VT st K A H w e ∧ VT st K A H u g := by
  cases h with
  | cons h t =>
    obtain ⟨w, u, rfl, h2, h3⟩ := t.two
    exact ⟨_, _, _, rfl, h, h2, h3⟩
theorem ds_par3 {i j l : Nat} {x y z : Str} {px py pz pt : Pos} {kt k2 pt2} (hc : X.calm = true) (hN : X.N.Nodup) (hi : X.N[i]? = some x) (hj : X.N[j]? = some y) (hl : X.N[l]? = some z) (hx : X.env.scope.names.lookup x = some .local) (hy : X.env.scope.names.lookup y = some .local) (hz : X.env.scope.names.lookup z = some .local)
    (ha : PA X [a, b, c] (tAs X.K F p st fs)) (hw : swappedStores [.Tuple [.Name x px, .Name y py, .Name z pz] kt pt] (.Tuple [a, b, c] k2 pt2) X.env = pure (some [x, y, z])) (hij : i ≠ j := by decide) (hil : i ≠ l := by decide) (hjl : j ≠ l := by decide)
    (ho : F.own.contains i = false := by rfl) (ho2 : F.own.contains j = false := by rfl) (ho3 : F.own.contains l = false := by rfl)
    (hs : swapsWithSole [.Tuple [.Name x px, .Name y py, .Name z pz] kt pt] (.Tuple [a, b, c] k2 pt2) pos.line X.env = pure false := by rfl) (hst : st = true := by rfl) :
    PS X (.Assign [.Tuple [.Name x px, .Name y py, .Name z pz] kt pt] (.Tuple [a, b, c] k2 pt2) pos) (tS X.K F (fPar3 i j l fs)) := by
  subst hst
  exact (ps_par3 hc hN hi hj hl hij hil hjl hx hy hz ha hw hs).impD fun D σ H ⟨ρ, R, o, e, k⟩ => by
    unfold fPar3 at e
    rw [Option.bind_eq_some_iff] at e
    obtain ⟨⟨ds, ρ1⟩, e1, e2⟩ := e
    dsimp only at e2
    split at e2
    · split at e2
      · rename_i hl
        cases e2
        refine ⟨ρ, R, _, ρ1, e1, fun vs H' s' R' v => ?_⟩
        obtain ⟨v1, v2, v3, rfl, h1, h2, h3⟩ := v.three
        refine ⟨v1, v2, v3, rfl, k _ H' (.tgt (s'.mono fun _ z => z.2) fun a z => (own_set ho a).mp ((own_set ho2 a).mp ((own_set ho3 a).mp z))) ?_⟩
        refine ((R'.set ho hl.1 h1.stable).set ho2 (by rw [List.length_set]; exact hl.2.1) ?_).set ho3 (by rw [List.length_set, List.length_set]; exact hl.2.2) ?_
        · rw [W_set ho]; exact h2.stable
        · rw [W_set ho2, W_set ho]; exact h3.stable
      · cases e2
    · cases e2

/-! ### two new lists at once -/
def fLL (i j : Nat) (f1 f2 : LFn) : SFn := fun ρ => (f1 ρ).bind fun x => (f2 x.2).bind fun y => if i < y.2.length ∧ j < y.2.length then some (.nx ((y.2.set i (some (.lst x.1))).set j (some (.lst y.1)))) else none
def fLD (i j : Nat) (f1 : LFn) (f2 : DFn) : SFn := fun ρ => (f1 ρ).bind fun x => (f2 x.2).bind fun y => if i < y.2.length ∧ j < y.2.length then some (.nx ((y.2.set i (some (.lst x.1))).set j (some y.1))) else none
def fDL (i j : Nat) (f1 : DFn) (f2 : LFn) : SFn := fun ρ => (f1 ρ).bind fun x => (f2 x.2).bind fun y => if i < y.2.length ∧ j < y.2.length then some (.nx ((y.2.set i (some x.1)).set j (some (.lst y.1)))) else none
/-- the arguments' readings in a row: a new list, then one more with the first avoided -/
def tLLs (K : PySem.W.Frag) (F : Fx) (p1 p2 : Bool) (f1 f2 : LFn) : TA := fun σ H Q => ∃ ρ, EnvR K F σ H ρ ∧ ∃ ds ρ1 es ρ2, f1 ρ = some (ds, ρ1) ∧ f2 ρ1 = some (es, ρ2) ∧
  ∀ a b xs ys H', Stp (p1 && p2) F σ H H' → EnvR K ((F.add a).add b) σ H' ρ2 → H a = none → H b = none → a ≠ b → H' a = some (.lst xs) → H' b = some (.lst ys) → VRs K (((F.add a).add b).W σ) H' xs ds → VRs K (((F.add a).add b).W σ) H' ys es → Q [.ref a, .ref b] H'
theorem add_own : (F.add d1).Own σ = F.Own σ := rfl
theorem VRs.up {B : ASet} {xs : List V} {ds : List D} (h : VRs K A H xs ds) (k : Keep B H H1) (s : ∀ x, B x → A x) (t : ∀ x, A1 x → A x ∨ H x = none) : VRs K A1 H1 xs ds := by
  have h1 : VRs K (fun x => A x ∨ A1 x) H xs ds := h.avoid fun x z => z.elim .inl (t x)
  exact (h1.keep k fun x z => .inl (s x z)).avoid fun x z => .inl (.inr z)
theorem da_LL (ha : PE X a (tL X.K F p1 fs1)) (hb : ∀ d, PE X b (tL X.K (F.add d) p2 fs2)) (hs : starEach [a, b] X.env = (false, eval a X.env) :: starEach [b] X.env := by rfl) (hs2 : starEach [b] X.env = (false, eval b X.env) :: starEach [] X.env := by rfl) :
    PA X [a, b] (tLLs X.K F p1 p2 fs1 fs2) := by
  have hb' : PE X b (fun σ H Q => ∃ d, tL X.K (F.add d) p2 fs2 σ H Q) := ⟨fun pins s σ H Q I ⟨d, h⟩ => (hb d).run pins s σ H Q I h⟩
  refine (pa_cons ha (pa_cons hb' pa_nil hs2) hs).impD fun σ H Q ⟨ρ, R, ds, ρ1, es, ρ2, e1, e2, k⟩ => ?_
  refine ⟨ρ, R, ds, ρ1, e1, fun a xs H1 s1 R1 n1 h1 v1 => ⟨a, ρ1, R1, es, ρ2, e2, fun b ys H2 s2 R2 n2 h2 v2 => ?_⟩⟩
  have hab : a ≠ b := by rintro rfl; rw [h1] at n2; cases n2
  have ha2 : H2 a = some (.lst xs) := s2.st a _ h1 fun z => absurd z.2 (R1.exT a (.inr rfl)).2.2
  have hn : H b = none := by
    cases e : H b with
    | none => rfl
    | some o => exact absurd n2 (s1.tr (by rw [e]; intro z; cases z))
  refine k a b xs ys H2 (s1.trans (p := p1) (q := p2) s2) R2 n1 hn hab ha2 h2 ?_ v2
  refine v1.up s2 (fun x z => .inr (.inl z.2)) fun x z => ?_
  rcases z with z | z | (z | z) | z
  · exact .inl (.inl z)
  · exact .inl (.inr (.inl z))
  · exact .inl (.inr (.inr (.inl z)))
  · exact .inl (.inr (.inr (.inr z)))
  · exact .inr (z ▸ n2)
theorem EnvR.setLL {ρ : DEnv} {i j : Nat} {a b : Addr} {xs ys : List V} {ds es : List D} (R : EnvR K ((F.add a).add b) σ H ρ) (hij : i ≠ j) (ho : F.own.contains i = true) (hio : F.io.any (fun p => p.1 == i) = false) (ho2 : F.own.contains j = true) (hio2 : F.io.any (fun p => p.1 == j) = false) (hi : i < ρ.length) (hj : j < ρ.length)
    (hab : a ≠ b) (hx : ¬ F.ex a) (hy : ¬ F.ex b) (e : H a = some (.lst xs)) (e2 : H b = some (.lst ys)) (h : VRs K (((F.add a).add b).W σ) H xs ds) (h2 : VRs K (((F.add a).add b).W σ) H ys es) :
    EnvR K F ((σ.set i (some (.ref a))).set j (some (.ref b))) H ((ρ.set i (some (.lst ds))).set j (some (.lst es))) := by
  have sw : EnvR K ((F.add b).add a) σ H ρ := by
    have hW : ((F.add b).add a).W σ = ((F.add a).add b).W σ := by
      funext x
      show (_ ∨ _ ∨ ((F.ex x ∨ x = b) ∨ x = a)) = (_ ∨ _ ∨ ((F.ex x ∨ x = a) ∨ x = b))
      have : ((F.ex x ∨ x = b) ∨ x = a) = ((F.ex x ∨ x = a) ∨ x = b) := propext ⟨fun z => by rcases z with (z | z) | z <;> simp [z], fun z => by rcases z with (z | z) | z <;> simp [z]⟩
      rw [this]
      rfl
    refine ⟨R.len, fun i d e => ?_, R.lst, R.lsD, R.ap, R.tr, R.fr, R.iop, R.loc, fun x z => R.exT x ?_⟩
    · rw [hW]; exact R.val i d e
    · rcases z with (z | z) | z
      · exact .inl (.inl z)
      · exact .inr z
      · exact .inl (.inr z)
  have hW : ∀ x, ((F.add b).add a).W σ x → ((F.add a).add b).W σ x ∨ H x = none := fun x z => by
    rcases z with z | z | (z | z) | z
    · exact .inl (.inl z)
    · exact .inl (.inr (.inl z))
    · exact .inl (.inr (.inr (.inl (.inl z))))
    · exact .inl (.inr (.inr (.inr z)))
    · exact .inl (.inr (.inr (.inl (.inr z))))
  have R1 : EnvR K (F.add b) (σ.set i (some (.ref a))) H (ρ.set i (some (.lst ds))) := EnvR.setL (F := F.add b) sw ho hio hi (fun z => z.elim hx fun z => hab z) e (h.avoid hW)
  refine EnvR.setL R1 ho2 hio2 (by rw [List.length_set]; exact hj) hy e2 (h2.avoid fun x z => ?_)
  rcases z with z | ⟨l, hl, z⟩ | z | z
  · exact .inl (.inl z)
  · by_cases hli : i = l
    · subst hli
      by_cases hil : i < σ.length
      · rw [List.getElem?_set_self hil] at z
        cases z
        exact .inl (.inr (.inr (.inl (.inr rfl))))
      · rw [List.getElem?_eq_none (by simpa using hil)] at z
        cases z
    · rw [List.getElem?_set_ne hli] at z
      exact .inl (.inr (.inl ⟨l, hl, z⟩))
  · exact .inl (.inr (.inr (.inl (.inl z))))
  · exact .inl (.inr (.inr (.inr z)))
theorem StpS.new2 {a b : Addr} {i j : Nat} {H' : Hp} (k : Keep (F.Own σ) H H') (n : H a = none) (n2 : H b = none) : StpS F σ H ((σ.set i (some (.ref a))).set j (some (.ref b))) H' := ⟨k, fun x z => by
  have h1 := (StpS.new (F := F) (σ := σ.set i (some (.ref a))) (H := H) (H' := H) (a := b) (i := j) (Keep.refl _ _) n2).n x z
  rcases h1 with h1 | h1
  · exact (StpS.new (F := F) (σ := σ) (H := H) (H' := H) (a := a) (i := i) (Keep.refl _ _) n).n x h1
  · exact .inr h1⟩
theorem ds_parLL {i j : Nat} {x y : Str} {px py pt : Pos} {kt k2 pt2} (hc : X.calm = true) (hN : X.N.Nodup) (hi : X.N[i]? = some x) (hj : X.N[j]? = some y) (hx : X.env.scope.names.lookup x = some .local) (hy : X.env.scope.names.lookup y = some .local)
    (ha : PA X [a, b] (tLLs X.K F p1 p2 fs1 fs2)) (hw : swappedStores [.Tuple [.Name x px, .Name y py] kt pt] (.Tuple [a, b] k2 pt2) X.env = pure (some [x, y])) (hij : i ≠ j := by decide) (ho : F.own.contains i = true := by rfl) (ho2 : F.own.contains j = true := by rfl)
    (hio : F.io.any (fun p => p.1 == i) = false := by rfl) (hio2 : F.io.any (fun p => p.1 == j) = false := by rfl)
    (hs : swapsWithSole [.Tuple [.Name x px, .Name y py] kt pt] (.Tuple [a, b] k2 pt2) pos.line X.env = pure false := by rfl) :
    PS X (.Assign [.Tuple [.Name x px, .Name y py] kt pt] (.Tuple [a, b] k2 pt2) pos) (tS X.K F (fLL i j fs1 fs2)) :=
  (ps_par hc hN hi hj hij hx hy ha hw hs).impD fun D σ H ⟨ρ, R, o, e, k⟩ => by
    unfold fLL at e
    simp only [Option.bind_eq_some_iff] at e
    obtain ⟨⟨ds, ρ1⟩, e1, ⟨es, ρ2⟩, e2, e3⟩ := e
    split at e3
    · rename_i hl
      cases e3
      refine ⟨ρ, R, ds, ρ1, es, ρ2, e1, e2, fun a b xs ys H' s' R' n1 n2 hab h1 h2 v1 v2 => ⟨_, _, rfl, k _ H' (.new2 (s'.mono fun _ z => z.2) n1 n2) ?_⟩⟩
      exact R'.setLL hij ho hio ho2 hio2 hl.1 hl.2 hab (ex_new R n1) (ex_new R n2) h1 h2 v1 v2
    · cases e3
/-- .. through a tuple (a name among the targets is captured) -/
theorem ds_asgLL {i j : Nat} {x y : Str} {px py pt : Pos} {kt k2 pt2} (hc : X.calm = true) (hN : X.N.Nodup) (hi : X.N[i]? = some x) (hj : X.N[j]? = some y) (hx : Loc X.env.scope x) (hy : Loc X.env.scope y)
    (ha : PA X [a, b] (tLLs X.K F p1 p2 fs1 fs2)) (hs : swapsWithSole [.Tuple [.Name x px, .Name y py] kt pt] (.Tuple [a, b] k2 pt2) pos.line X.env = pure false := by rfl) (hw : swappedStores [.Tuple [.Name x px, .Name y py] kt pt] (.Tuple [a, b] k2 pt2) X.env = pure none := by rfl)
    (h1 : (assignEach [.Tuple [.Name x px, .Name y py] kt pt] X.env).map (·.2) = [assign (.Tuple [.Name x px, .Name y py] kt pt) X.env] := by rfl) (hn : (assignEach [.Name x px, .Name y py] X.env).length = 2 := by rfl) (hst : (assignEach [.Name x px, .Name y py] X.env).findIdx? (·.1) = none := by rfl)
    (hq : (assignEach [.Name x px, .Name y py] X.env).map (·.2) = assign (.Name x px) X.env :: (assignEach [.Name y py] X.env).map (·.2) := by rfl) (hq2 : (assignEach [.Name y py] X.env).map (·.2) = assign (.Name y py) X.env :: (assignEach [] X.env).map (·.2) := by rfl)
    (hij : i ≠ j := by decide) (ho : F.own.contains i = true := by rfl) (ho2 : F.own.contains j = true := by rfl)
    (hio : F.io.any (fun p => p.1 == i) = false := by rfl) (hio2 : F.io.any (fun p => p.1 == j) = false := by rfl)
    (hf : X.fn x = true ∨ X.env.scope.names.lookup x = some .local := by first | exact .inl rfl | exact .inr rfl | assumption) (hf2 : X.fn y = true ∨ X.env.scope.names.lookup y = some .local := by first | exact .inl rfl | exact .inr rfl | assumption) :
    PS X (.Assign [.Tuple [.Name x px, .Name y py] kt pt] (.Tuple [a, b] k2 pt2) pos) (tS X.K F (fLL i j fs1 fs2)) :=
  (ps_asg (pe_tup ha) (pg_tup hc (pgs_cons (pg_name hN hi hx hf) (pgs_cons (pg_name hN hj hy hf2) pgs_nil hq2) hq) hn hst) hs hw h1).impD fun D σ H ⟨ρ, R, o, e, k⟩ => by
    unfold fLL at e
    simp only [Option.bind_eq_some_iff] at e
    obtain ⟨⟨ds, ρ1⟩, e1, ⟨es, ρ2⟩, e2, e3⟩ := e
    split at e3
    · rename_i hl
      cases e3
      refine ⟨ρ, R, ds, ρ1, es, ρ2, e1, e2, fun a b xs ys H' s' R' n1 n2 hab h1 h2 v1 v2 => ⟨by show 2 ≤ sizeLine; decide, fun t nt => ?_⟩⟩
      have kt : Keep0 H' (upd H' t (.tup [.ref a, .ref b])) := keep_upd nt
      have s2 : Keep (F.Own σ) H (upd H' t (.tup [.ref a, .ref b])) := (s'.mono fun _ z => z.2).trans kt.any
      refine ⟨t, _, rfl, .inl (.inl upd_same), rfl, _, _, rfl, _, _, rfl, rfl, k _ _ (.new2 s2 n1 n2) ?_⟩
      exact (R'.keep kt).setLL hij ho hio ho2 hio2 hl.1 hl.2 hab (ex_new R n1) (ex_new R n2) (kt.st _ _ h1 fun z => z.elim) (kt.st _ _ h2 fun z => z.elim) (v1.keep kt fun _ z => z.elim) (v2.keep kt fun _ z => z.elim)
    · cases e3
/-! ### a list of one's own changes -/
theorem VRs.snoc {xs : List V} {ds : List D} {v : V} {d : D} (h : VRs K A H xs ds) (g : VR K A H v d) : VRs K A H (xs ++ [v]) (ds ++ [d]) := h.append (.cons g .nil)
theorem own_at {ρ : DEnv} {i : Nat} {ds : List D} (R : EnvR K F σ H ρ) (ho : F.own.contains i = true) (e : ρ[i]?.join = some (.lst ds)) : i < ρ.length ∧ ∃ a xs, σ[i]? = some (some (.ref a)) ∧ H a = some (.lst xs) ∧ VRs K (F.W σ) H xs ds := by
  have e' : ρ[i]? = some (some (.lst ds)) := by simpa [Option.join_eq_some_iff] using e
  obtain ⟨v, h1, h2⟩ := R.val i _ e'
  obtain ⟨a, xs, rfl, e4, e5⟩ := h2.lst_inv
  exact ⟨(List.getElem?_eq_some_iff.mp e').1, a, xs, h1, e4, e5⟩
theorem StpS.chg {H' : Hp} (k : Keep (F.Own σ) H H') : StpS F σ H σ H' := ⟨k, fun _ z => .inl z⟩
theorem ownV {ρ : DEnv} {i : Nat} {d : D} (R : EnvR K F σ H ρ) (ho : F.own.contains i = true) (e : ρ[i]?.join = some d) : ∃ a xs, σ[i]? = some (some (.ref a)) ∧ H a = some (.lst xs) := by
  obtain ⟨v, h1, _⟩ := R.val i d (by simpa [Option.join_eq_some_iff] using e)
  obtain ⟨a, xs, rfl, e2⟩ := R.lst i (List.contains_iff_mem.mp ho) v h1
  exact ⟨a, xs, h1, e2⟩
theorem ds_app {i : Nat} {x : Str} {px apos cpos : Pos} (hv : PE X (.Name x px) (tVar i)) (he : PE X e (tD X.K F p st f)) (ho : F.own.contains i = true := by rfl)
    (hbase : attributeBase (.Name x px) "append" X.env (eval (.Name x px) X.env) = eval (.Name x px) X.env := by rfl)
    (hfew : ((backTo cpos (starEach [e] X.env)).all (fun x => !x.1) && (backToKw cpos (keywordEach [] X.env)).all (fun x => x.1.isSome)
      && decide (([e] : List Expr).length + ([] : List Keyword).length + (if ([] : List Keyword).isEmpty then 0 else 1) < 30)) = true := by rfl)
    (hline : (apos.endLine == cpos.line) = true := by rfl) (hs : starEach [e] X.env = (false, eval e X.env) :: starEach [] X.env := by rfl) (hplain : (backTo cpos (starEach [] X.env)).any (·.1) = false := by rfl)
    (hsw : swapsWith (.Call (.Attribute (.Name x px) "append" apos) [e] [] cpos) none pos.line X.env = pure false := by rfl) (hst : st = true := by rfl) :
    PS X (.Expr (.Call (.Attribute (.Name x px) "append" apos) [e] [] cpos) pos) (tS X.K F (fApp i f)) := by
  subst hst
  exact (ps_expr (pe_bm PySem.F.plainAttrs_list PySem.F.slot_list_append PySem.F.type_list_append mt_append hv (pa_cons he pa_nil hs) hbase hfew hline hs hplain) hsw).impD fun D σ H ⟨ρ, R, o, e, k⟩ => by
    unfold fApp at e
    rw [Option.bind_eq_some_iff] at e
    obtain ⟨d0, e0, e⟩ := e
    rw [Option.bind_eq_some_iff] at e
    obtain ⟨⟨d, ρ1⟩, e1, e2⟩ := e
    dsimp only at e2
    split at e2
    · rename_i ds el
      split at e2
      · rename_i hl
        cases e2
        obtain ⟨a, xs, h1, h2⟩ := ownV R ho e0
        refine ⟨_, h1, .inl ⟨rfl, xs, .inl (.inl h2)⟩, ρ, R, d, ρ1, e1, fun v H1 s R1 x => ?_⟩
        obtain ⟨hi, a', ys, h3, h4, h5⟩ := own_at R1 ho el
        rw [h1] at h3
        cases h3
        refine ⟨a, ys, v, rfl, rfl, h4, by rw [h5.length]; exact hl, ?_⟩
        have ka : Keep (fun b => b = a) H1 (upd H1 a (.lst (ys ++ [v]))) := keep_at h4
        obtain ⟨R2, k2⟩ := R1.chg ho hi h1 ka upd_same ((h5.snoc x.stable).keep (ka.mono fun b z => (z ▸ ⟨i, List.contains_iff_mem.mp ho, h1⟩ : F.Own σ b)) fun _ z => Fx.own_W z)
        exact k σ _ (.chg ((s.mono fun _ z => z.2).trans k2)) R2
      · cases e2
    · cases e2
/-- x[e] = v -/
theorem ds_setIx {i : Nat} {x : Str} {px tpos : Pos} {iv ev : Expr} {fi fv : DFn} (hx : PE X (.Name x px) (tVar i)) (hi : PE X iv (tD X.K F p1 st fi)) (hv : PE X ev (tD X.K F p2 st2 fv)) (ho : F.own.contains i = true := by rfl)
    (ha : ∀ v, assign (.Subscript (.Name x px) iv tpos) X.env v = (do
      let ov ← holding [v] (eval (.Name x px) X.env)
      let iv ← holding [v, ov] (eval iv X.env)
      standAt tpos
      holding [v, ov, iv] (setItem ov iv v)
      release [v, ov, iv] []) := by intro _; rfl)
    (hs : swapsWithSole [.Subscript (.Name x px) iv tpos] ev pos.line X.env = pure false := by rfl) (hw : swappedStores [.Subscript (.Name x px) iv tpos] ev X.env = pure none := by rfl)
    (h1 : (assignEach [.Subscript (.Name x px) iv tpos] X.env).map (·.2) = [assign (.Subscript (.Name x px) iv tpos) X.env] := by rfl) (hst : st2 = true := by rfl) :
    PS X (.Assign [.Subscript (.Name x px) iv tpos] ev pos) (tS X.K F (fSetIx i fv fi)) := by
  subst hst
  exact (ps_asg hv (pg_sub hx hi set_list ha) hs hw h1).impD fun D σ H ⟨ρ, R, o, e, k⟩ => by
    unfold fSetIx at e
    rw [Option.bind_eq_some_iff] at e
    obtain ⟨⟨dv, ρ1⟩, e1, e⟩ := e
    simp only [Option.bind_eq_some_iff] at e
    obtain ⟨d0, e0, ⟨di, ρ2⟩, e2, kk, e3, e4⟩ := e
    have := asI_some e3
    subst this
    dsimp only at e4
    split at e4
    · rename_i ds el
      rw [Option.map_eq_some_iff] at e4
      obtain ⟨j, e5, e6⟩ := e4
      cases e6
      refine ⟨ρ, R, dv, ρ1, e1, fun v H1 s R1 x => ?_⟩
      obtain ⟨a, xs, g1, g2⟩ := ownV R1 ho e0
      refine ⟨_, g1, ρ1, R1, .int kk, ρ2, e2, fun vi H2 s2 R2 x2 => ?_⟩
      obtain ⟨hi, a', ys, h3, h4, h5⟩ := own_at R2 ho el
      rw [g1] at h3
      cases h3
      have x' : VR X.K (F.W σ) H2 v dv := x.stable.keep s2 fun _ z => Fx.own_W z.2
      refine ⟨a, ys, kk, j, rfl, x2.int_inv, h4, by rw [h5.length]; exact e5, ?_⟩
      have ka : Keep (fun b => b = a) H2 (upd H2 a (.lst (ys.set j v))) := keep_at h4
      obtain ⟨R3, k3⟩ := R2.chg ho hi g1 ka upd_same ((h5.set j x').keep (ka.mono fun b z => (z ▸ ⟨i, List.contains_iff_mem.mp ho, g1⟩ : F.Own σ b)) fun _ z => Fx.own_W z)
      exact k σ _ (.chg (((s.mono fun _ z => z.2).trans (s2.mono fun _ z => z.2)).trans k3)) R3
    · cases e4

/-! ### what is walked -/
/-- from H0 on, while nothing but C changes: J yields ds -/
def ItD (K : PySem.W.Frag) (C A0 : ASet) (H0 : Hp) (J : It) (ds : List D) : Prop := ∀ (A : ASet) (H : Hp), (∀ a, C a → A a) → (∀ a, A a → A0 a ∨ H0 a = none) → Keep C H0 H →
  (∀ i d, ds[i]? = some d → J.go i H ∧ ∀ x H', J.yld i H x H' → Keep0 H H' ∧ VR K A H' x d) ∧ J.stop ds.length H
def tI (K : PySem.W.Frag) (F : Fx) (p st : Bool) (f : LFn) : TI := fun σ H R => ∃ ρ, EnvR K F σ H ρ ∧ ∃ ds ρ', f ρ = some (ds, ρ') ∧
  ∀ J H', Stp p F σ H H' → EnvR K F σ H' ρ' → ItD K (fun a => st = true ∧ F.Chg σ a) (F.W σ) H' J ds → R J H'
theorem _root_.L2.PI.impD {X : Cx} {tg e : Expr} {t t' : TI} (h : PI X tg e t) (i : ∀ σ H R, t' σ H R → t σ H R) : PI X tg e t' := ⟨fun pins s σ H R I hw => h.run pins s σ H R I (i σ H R hw)⟩
theorem _root_.L2.PI.orD {X : Cx} {tg e : Expr} {t u : TI} (h : PI X tg e t) (g : PI X tg e u) : PI X tg e (fun σ H R => t σ H R ∨ u σ H R) := ⟨fun pins s σ H R I hw => hw.elim (h.run pins s σ H R I) (g.run pins s σ H R I)⟩
/-- items of a sequence -/
def itemsD : D → Option (List D)
  | .tup ds => some ds
  | .lst ds => some ds
  | _ => none
def fItems (f : DFn) : LFn := fun ρ => (f ρ).bind fun x => (itemsD x.1).map fun ds => (ds, x.2)
theorem ItD.of {C A0 : ASet} {J : It} {ds : List D} (h : ∀ (A : ASet) (H1 : Hp), (∀ a, C a → A a) → (∀ a, A a → A0 a ∨ H a = none) → Keep C H H1 →
    (∀ i d, ds[i]? = some d → J.go i H1 ∧ ∀ x H', J.yld i H1 x H' → Keep0 H1 H' ∧ VR K A H' x d) ∧ J.stop ds.length H1) : ItD K C A0 H J ds := h
theorem VRs.upC {C A0 : ASet} {xs : List V} {ds : List D} (v : VRs K A0 H xs ds) {A : ASet} (hC : ∀ a, C a → A a) (hA : ∀ a, A a → A0 a ∨ H a = none) (k : Keep C H H1) : VRs K A H1 xs ds :=
  (v.avoid hA).keep k hC
theorem it_tup {C A0 : ASet} {a : Addr} {xs : List V} {ds : List D} (h : SqT K H a xs) (v : VRs K A0 H xs ds) : ItD K C A0 H (Itt K a) ds := fun A H1 hC hA k => by
  have h1 : SqT K H1 a xs := SqT.keep k h
  have v1 := v.upC hC hA k
  refine ⟨fun i d e => ?_, xs, h1, by rw [v.length]; exact Nat.le_refl _⟩
  obtain ⟨w, e1, e2⟩ := v1.get e
  refine ⟨⟨xs, w, h1, e1⟩, fun x H' y => ?_⟩
  obtain ⟨rfl, y⟩ := y
  have := y xs h1
  rw [e1] at this
  cases this
  exact ⟨Keep.refl _ _, e2⟩
theorem it_lst {C A0 : ASet} {a : Addr} {xs : List V} {ds : List D} (h : H a = some (.lst xs)) (n : ¬ C a) (v : VRs K A0 H xs ds) : ItD K C A0 H (Itl K a) ds := fun A H1 hC hA k => by
  have h1 : SqL K H1 a xs := .inl (.inl (k.st _ _ h fun z => absurd z n))
  have v1 := v.upC hC hA k
  refine ⟨fun i d e => ?_, xs, h1, by rw [v.length]; exact Nat.le_refl _⟩
  obtain ⟨w, e1, e2⟩ := v1.get e
  refine ⟨⟨xs, w, h1, e1⟩, fun x H' y => ?_⟩
  obtain ⟨rfl, y⟩ := y
  have := y xs h1
  rw [e1] at this
  cases this
  exact ⟨Keep.refl _ _, e2⟩
def rangeD (lo : Int) (n : Nat) : List D := (List.range n).map fun (i : Nat) => D.int (lo + (i : Int))
theorem it_range {C A0 : ASet} {lo : Int} {n : Nat} : ItD K C A0 H (Itr lo n) (rangeD lo n) := fun A H1 hC hA k => by
  unfold rangeD
  refine ⟨fun i d e => ?_, ?_⟩
  · rw [List.getElem?_map, Option.map_eq_some_iff] at e
    obtain ⟨j, e1, rfl⟩ := e
    obtain ⟨hj, e2⟩ := List.getElem?_eq_some_iff.mp e1
    rw [List.length_range] at hj
    rw [List.getElem_range] at e2
    subst e2
    refine ⟨hj, fun x H' y => ?_⟩
    obtain ⟨rfl, rfl⟩ := y
    exact ⟨Keep.refl _ _, .int _⟩
  · show n ≤ _
    simp
theorem VT.cases_lst {st : Bool} {x : V} {ds : List D} (h : VT st K A H x (.lst ds)) : ∃ a xs, x = .ref a ∧ H a = some (.lst xs) ∧ VRs K A H xs ds ∧ (st = true → ¬ A a) := by
  rcases h with h | ⟨q, a, xs, es, e1, e, e2, e3⟩
  · cases h with
    | lst n h hs => exact ⟨_, _, rfl, h, hs, fun _ => n⟩
  · cases e
    exact ⟨a, xs, e1, e2, e3, fun z => by rw [q] at z; cases z⟩
theorem di_seq {tg : Expr} (h : PE X e (tD X.K F p st f)) : PI X tg e (tI X.K F p st (fItems f)) :=
  ((pi_tup h).orD (pi_list h)).impD fun σ H Q ⟨ρ, R, ds, ρ', ef, k⟩ => by
    unfold fItems at ef
    simp only [Option.bind_eq_some_iff, Option.map_eq_some_iff] at ef
    obtain ⟨⟨d, ρ1⟩, e1, es, e2, e3⟩ := ef
    cases e3
    dsimp only at e2
    unfold itemsD at e2
    split at e2
    · cases e2
      refine .inl ⟨ρ, R, _, _, e1, fun v H1 s R1 x => ?_⟩
      obtain ⟨a, xs, rfl, hX, hxs⟩ := x.tup_inv
      exact ⟨a, rfl, ⟨xs, hX⟩, k _ H1 s R1 (it_tup hX hxs)⟩
    · cases e2
      refine .inr ⟨ρ, R, _, _, e1, fun v H1 s R1 x => ?_⟩
      obtain ⟨a, xs, rfl, hX, hxs, n⟩ := x.cases_lst
      exact ⟨a, rfl, ⟨xs, .inl (.inl hX)⟩, k _ H1 s R1 (it_lst hX (fun z => n z.1 (Fx.chg_W z.2)) hxs)⟩
    · cases e2
/-! ranges -/
def fRng1 (fs : LFn) : LFn := fun ρ => (fs ρ).bind fun x => match x.1 with
  | [.int j] => if -(2 ^ 62) ≤ j ∧ j < 2 ^ 62 then some (rangeD 0 j.toNat, x.2) else none
  | _ => none
def fRng2 (fs : LFn) : LFn := fun ρ => (fs ρ).bind fun x => match x.1 with
  | [.int i, .int j] => if -(2 ^ 62) ≤ i ∧ i < 2 ^ 62 ∧ -(2 ^ 62) ≤ j ∧ j < 2 ^ 62 then some (rangeD i (j - i).toNat, x.2) else none
  | _ => none
theorem di_range1 {tg : Expr} {px : Pos} (hg : Gl X "range") (hm : X.mg "range" = none) (ha : PA X [a] (tAs X.K F p st fs)) (hs : starEach [a] X.env = [(false, eval a X.env)] := by rfl) : PI X tg (.Call (.Name "range" px) [a] [] pos) (tI X.K F p true (fRng1 fs)) :=
  (pi_range1 hg hm ha hs).impD fun σ H Q ⟨ρ, R, ds, ρ', ef, k⟩ => by
    unfold fRng1 at ef
    rw [Option.bind_eq_some_iff] at ef
    obtain ⟨⟨es, ρ1⟩, e1, e2⟩ := ef
    dsimp only at e2
    split at e2
    · split at e2
      · rename_i hb
        cases e2
        refine ⟨ρ, R, _, _, e1, fun vs H1 s R1 x => ?_⟩
        obtain ⟨v, rfl, h⟩ := x.one
        exact ⟨_, by rw [h.int_inv], hb.1, hb.2, k _ H1 s R1 it_range⟩
      · cases e2
    · cases e2
theorem di_range2 {tg : Expr} {px : Pos} (hg : Gl X "range") (hm : X.mg "range" = none) (ha : PA X [a, b] (tAs X.K F p st fs)) (hs : starEach [a, b] X.env = [(false, eval a X.env), (false, eval b X.env)] := by rfl) (hs2 : starEach [b] X.env = [(false, eval b X.env)] := by rfl) :
    PI X tg (.Call (.Name "range" px) [a, b] [] pos) (tI X.K F p true (fRng2 fs)) :=
  (pi_range2 hg hm ha hs hs2).impD fun σ H Q ⟨ρ, R, ds, ρ', ef, k⟩ => by
    unfold fRng2 at ef
    rw [Option.bind_eq_some_iff] at ef
    obtain ⟨⟨es, ρ1⟩, e1, e2⟩ := ef
    dsimp only at e2
    split at e2
    · split at e2
      · rename_i hb
        cases e2
        refine ⟨ρ, R, _, _, e1, fun vs H1 s R1 x => ?_⟩
        obtain ⟨v, w, rfl, h, h'⟩ := x.two
        exact ⟨_, _, by rw [h.int_inv, h'.int_inv], hb, k _ H1 s R1 it_range⟩
      · cases e2
    · cases e2
end
end Dl

namespace Dl
open PySem PySem.Spec PyProof.Rows L2
section
variable {X : Cx} {F : Fx} {K : PySem.W.Frag} {p q p1 p2 p3 st st1 st2 st3 : Bool} {e a b c : Expr} {es rest : List Expr} {f f1 f2 f3 fe : DFn} {fs fs1 fs2 its : LFn} {t1 t2 tc : TFn} {pos : Pos} {s1 s2 : SFn} {s : Stmt} {ss : List Stmt} {g : GFn}
variable {σ σ1 σ2 : St} {H H1 H2 : Hp} {A : ASet}

/-! ### for -/
theorem StpS.own_up {A0 : ASet} {σ' : St} {H' : Hp} (s : StpS F σ H σ' H') : ∀ a, (F.W σ' a ∨ F.W σ a) → F.W σ a ∨ H a = none := fun a z => by
  rcases z with (z | z | z) | z
  · exact .inl (.inl z)
  · exact (s.n a z).imp (fun z => .inr (.inl z)) id
  · exact .inl (.inr (.inr z))
  · exact .inl z
theorem drop_cons {α : Type} {ds : List α} {i : Nat} (h : i < ds.length) : ds.drop i = ds[i] :: ds.drop (i + 1) := (List.drop_eq_getElem_cons h)
theorem ds_for {tg iter : Expr} {body : List Stmt} {is : List Nat} (hp : PassesOwn (model X.prog X.w) X.A X.env X.xe) (hc : X.calm = true) (hi : PI X tg iter (tI X.K F p st its)) (hg : PG X tg (gD X.K F is g)) (hb : PSs X body (tS X.K F s1))
    (hs : ∀ x, foldedSetIterable iter X.env x = pure x := by intro _; rfl) (hst : st = true := by rfl) : PS X (.For tg iter body [] pos) (tS X.K F (fFor its g s1)) := by
  subst hst
  exact (ps_for hp hc hi hg hb hs).impD fun D σ H ⟨ρ, R, o, e, k⟩ => by
    unfold fFor at e
    rw [Option.bind_eq_some_iff] at e
    obtain ⟨⟨ds, ρ1⟩, e1, e2⟩ := e
    refine ⟨ρ, R, ds, ρ1, e1, fun J H1 s R1 it => ?_⟩
    have k1 : Post X.K F D σ H1 o := k.mono (.of s)
    let W : Nat → Nat → St → Hp → Prop := fun i m σ' H' => m = ds.length - i ∧ i ≤ ds.length ∧ StpS F σ H1 σ' H' ∧ ∃ ρ', EnvR X.K F σ' H' ρ' ∧ loopD g s1 (ds.drop i) ρ' = some o
    refine ⟨W, ⟨ds.length, by simp, Nat.zero_le _, .refl, ρ1, R1, by simpa using e2⟩, fun i m σ' H' w => ?_⟩
    obtain ⟨em, hi, sS, ρ', R', el⟩ := w
    obtain ⟨go, stop⟩ := it (fun a => F.W σ' a ∨ F.W σ a) H' (fun a z => .inr (Fx.chg_W z.2)) (sS.own_up (A0 := fun _ => False)) (sS.k.mono fun a z => ⟨rfl, .inl z⟩)
    by_cases hlt : i < ds.length
    · rw [drop_cons hlt] at el
      unfold loopD at el
      simp only [Option.bind_eq_some_iff] at el
      obtain ⟨ρ2, e3, o1, e4, e5⟩ := el
      obtain ⟨g1, g2⟩ := go i ds[i] (List.getElem?_eq_getElem hlt)
      refine .inr ⟨g1, W (i + 1) (ds.length - (i + 1)), fun σ3 H3 w3 => ⟨_, by omega, w3⟩, fun x H'' y => ?_⟩
      obtain ⟨k0, vx⟩ := g2 x H'' y
      refine ⟨ds[i], ρ', R'.keep k0, vx.avoid fun a z => .inl (.inl z), ρ2, e3, fun σ2 _ o2 _ R2 => ⟨ρ2, R2, o1, e4, ?_⟩⟩
      have sA : StpS F σ H1 σ2 H'' := (sS.trans (.chg k0.any)).trans (.tgt (Keep.refl _ _) o2)
      cases o1 with
      | nx ρ3 => exact fun σ3 H3 s3 R3 => ⟨rfl, hlt, sA.trans s3, ρ3, R3, e5⟩
      | ct ρ3 => exact fun σ3 H3 s3 R3 => ⟨rfl, hlt, sA.trans s3, ρ3, R3, e5⟩
      | bk ρ3 =>
        cases e5
        exact fun σ3 H3 s3 R3 => k1 σ3 H3 (sA.trans s3) R3
      | rt d ρ3 =>
        cases e5
        exact fun v σ3 H3 s3 R3 r => k1 v σ3 H3 (sA.trans s3) R3 r
    · have hie : i = ds.length := by omega
      subst hie
      rw [List.drop_length] at el
      cases el
      exact .inl ⟨stop, k1 σ' H' sS R'⟩
/-! ### while -/
theorem ds_while {body : List Stmt} {μ : DEnv → Nat} (hp : PassesOwn (model X.prog X.w) X.A X.env X.xe) (hc : PT X c (tT X.K F p tc)) (hb : PSs X body (tS X.K F s1)) : PS X (.While c body [] pos) (tS X.K F (fWhile μ tc s1)) :=
  (ps_while hp hc hb).impD fun D σ H ⟨ρ, R, o, e, k⟩ => by
    unfold fWhile at e
    let W : Nat → St → Hp → Prop := fun m σ' H' => StpS F σ H σ' H' ∧ ∃ ρ', EnvR X.K F σ' H' ρ' ∧ loopW tc s1 m ρ' = some o
    refine ⟨W, ⟨μ ρ, .refl, ρ, R, e⟩, fun m σ' H' w => ?_⟩
    obtain ⟨sS, ρ', R', el⟩ := w
    cases m with
    | zero => cases el
    | succ n =>
      unfold loopW at el
      rw [Option.bind_eq_some_iff] at el
      obtain ⟨⟨b, ρ2⟩, e1, e2⟩ := el
      refine ⟨ρ', R', b, ρ2, e1, fun H2 s2 R2 => ?_⟩
      have sA : StpS F σ H σ' H2 := sS.trans (.of s2)
      cases b with
      | true =>
        simp only [if_true, Option.bind_eq_some_iff] at e2
        obtain ⟨o1, e3, e4⟩ := e2
        refine iteT ⟨W n, fun σ3 H3 w3 => ⟨n, Nat.lt_succ_self _, w3⟩, ρ2, R2, o1, e3, ?_⟩
        cases o1 with
        | nx ρ3 => exact fun σ3 H3 s3 R3 => ⟨sA.trans s3, ρ3, R3, e4⟩
        | ct ρ3 => exact fun σ3 H3 s3 R3 => ⟨sA.trans s3, ρ3, R3, e4⟩
        | bk ρ3 =>
          cases e4
          exact fun σ3 H3 s3 R3 => k σ3 H3 (sA.trans s3) R3
        | rt d ρ3 =>
          cases e4
          exact fun v σ3 H3 s3 R3 r => k v σ3 H3 (sA.trans s3) R3 r
      | false =>
        simp only [Bool.false_eq_true, if_false] at e2
        cases e2
        exact iteF (k σ' H2 sA R2)
/-! ### comprehensions -/
theorem EnvR.keepEx {ρ : DEnv} {H' : Hp} (R : EnvR K F σ H ρ) (k : Keep F.ex H H') : EnvR K F σ H' ρ where
  len := R.len
  val := fun i d e => by
    obtain ⟨v, h1, h2⟩ := R.val i d e
    refine ⟨v, h1, ?_⟩
    rcases h2 with h2 | ⟨q, a, xs, ds, e1, e2, e3, e4⟩
    · exact .inl (h2.keep k fun a z => .inr (.inr z))
    · subst e1
      have hi : i ∈ F.own := Classical.byContradiction (of_decide_eq_false q)
      exact .inr ⟨q, a, xs, ds, rfl, e2, k.st _ _ e3 fun z => absurd ⟨i, hi, h1⟩ (R.exT a z).2.2, e4.keep k fun a z => .inr (.inr z)⟩
  lst := fun i hi v e => by
    obtain ⟨a, xs, e1, e2⟩ := R.lst i hi v e
    subst e1
    exact ⟨a, xs, rfl, k.st _ _ e2 fun z => absurd ⟨i, hi, e⟩ (R.exT a z).2.2⟩
  lsD := R.lsD
  ap := R.ap
  tr := R.tr
  fr := fun a o e n => k.st _ _ (R.fr a o e n) fun z => by have := (R.exT a z).2.1; rw [e] at this; cases this
  iop := R.iop
  loc := R.loc
  exT := fun a h => ⟨k.tr (R.exT a h).1, (R.exT a h).2⟩
theorem wipe_get {i : Nat} : ∀ {vs : List Nat}, i ∉ vs → (wipe σ vs)[i]? = σ[i]?
  | [], _ => rfl
  | v :: vs, h => by
    unfold wipe
    rw [List.getElem?_set_ne (by rintro rfl; exact h List.mem_cons_self)]
    exact wipe_get fun z => h (List.mem_cons_of_mem _ z)
theorem wipeD_get {ρ : DEnv} {i : Nat} : ∀ {vs : List Nat}, i ∉ vs → (wipeD ρ vs)[i]? = ρ[i]?
  | [], _ => rfl
  | v :: vs, h => by
    unfold wipeD
    rw [List.getElem?_set_ne (by rintro rfl; exact h List.mem_cons_self)]
    exact wipeD_get fun z => h (List.mem_cons_of_mem _ z)
theorem wipeD_len {ρ : DEnv} : ∀ vs : List Nat, (wipeD ρ vs).length = ρ.length
  | [] => rfl
  | v :: vs => by unfold wipeD; rw [List.length_set, wipeD_len vs]
theorem wipeD_some {ρ : DEnv} {i : Nat} {x : D} : ∀ {vs : List Nat}, (wipeD ρ vs)[i]? = some (some x) → ρ[i]? = some (some x) ∧ i ∉ vs
  | [], h => ⟨h, by simp⟩
  | v :: vs, h => by
    unfold wipeD at h
    by_cases hi : v = i
    · subst hi
      by_cases hv : v < (wipeD ρ vs).length
      · rw [List.getElem?_set_self hv] at h; cases h
      · rw [List.getElem?_eq_none (by simpa using hv)] at h; cases h
    · rw [List.getElem?_set_ne hi] at h
      obtain ⟨h1, h2⟩ := wipeD_some h
      exact ⟨h1, by simp only [List.mem_cons, not_or]; exact ⟨fun e => hi e.symm, h2⟩⟩
theorem own_out {vs : List Nat} (hv : (vs.any fun i => F.own.contains i) = false) {i : Nat} (hi : i ∈ F.own) : i ∉ vs := fun z => by
  rw [List.any_eq_true.mpr ⟨i, z, List.contains_iff_mem.mpr hi⟩] at hv
  cases hv
theorem own_eq {vs : List Nat} {σ' : St} (hv : (vs.any fun i => F.own.contains i) = false) (h : ∀ (j : Nat), j ∉ vs → σ'[j]? = σ[j]?) : F.Own σ' = F.Own σ := by
  funext a
  refine propext ⟨fun ⟨i, hi, e⟩ => ⟨i, hi, ?_⟩, fun ⟨i, hi, e⟩ => ⟨i, hi, ?_⟩⟩
  · rw [← h i (own_out hv hi)]; exact e
  · rw [h i (own_out hv hi)]; exact e
theorem W_eq {vs : List Nat} {σ' : St} (hv : (vs.any fun i => F.own.contains i) = false) (h : ∀ (j : Nat), j ∉ vs → σ'[j]? = σ[j]?) : F.W σ' = F.W σ := by
  funext a
  unfold Fx.W
  rw [own_eq hv h]
theorem EnvR.wipe {ρ : DEnv} {vs : List Nat} (R : EnvR K F σ H ρ) (hv : (vs.any fun i => F.own.contains i) = false) : EnvR K F (wipe σ vs) H (wipeD ρ vs) := by
  have hW : F.W (L2.wipe σ vs) = F.W σ := W_eq hv fun j hj => wipe_get hj
  have hO : F.Own (L2.wipe σ vs) = F.Own σ := own_eq hv fun j hj => wipe_get hj
  refine ⟨by rw [wipeD_len, wipe_length]; exact R.len, fun i d e => ?_, fun i hi v e => ?_, fun i hi d e => ?_, fun i j a hi hj e1 e2 => ?_, R.tr, R.fr, fun p hp => ?_, fun i hi hn a e => ?_, fun a z => ?_⟩
  · obtain ⟨e1, e2⟩ := wipeD_some e
    obtain ⟨v, h1, h2⟩ := R.val i d e1
    exact ⟨v, by rw [wipe_get e2]; exact h1, by rw [hW]; exact h2⟩
  · rw [wipe_get (own_out hv hi)] at e
    exact R.lst i hi v e
  · rw [wipeD_get (own_out hv hi)] at e
    exact R.lsD i hi d e
  · rw [wipe_get (own_out hv hi)] at e1
    rw [wipe_get (own_out hv hj)] at e2
    exact R.ap i j a hi hj e1 e2
  · obtain ⟨h1, h2, h3⟩ := R.iop p hp
    exact ⟨h1, h2, by rw [wipe_get (own_out hv h1)]; exact h3⟩
  · rw [wipe_get (own_out hv hi)] at e
    exact R.loc i hi hn a e
  · rw [hO]; exact R.exT a z
theorem wipe_eq {is vs : List Nat} {σ' : St} (gs : GStp is (wipe σ vs) σ') (h : ∀ i, i ∈ is → i ∈ vs) : wipe σ' vs = wipe σ vs := by
  have hlen : σ'.length = σ.length := by rw [gs.len, wipe_length]
  apply List.ext_getElem?
  intro j
  by_cases hj : j ∈ vs
  · have aux : ∀ (τ : St), τ.length = σ.length → (L2.wipe τ vs)[j]? = if j < σ.length then some none else none := by
      intro τ hτ
      clear gs
      induction vs with
      | nil => cases hj
      | cons v vs ih =>
        unfold L2.wipe
        by_cases hv : v = j
        · subst hv
          split
          · rename_i hl
            rw [List.getElem?_set_self (by rw [wipe_length, hτ]; exact hl)]
          · rename_i hl
            rw [List.getElem?_eq_none (by rw [List.length_set, wipe_length, hτ]; omega)]
        · rw [List.getElem?_set_ne hv]
          have hj' : j ∈ vs := by
            rcases List.mem_cons.mp hj with z | z
            · exact absurd z.symm hv
            · exact z
          by_cases hvs : ∀ i, i ∈ is → i ∈ vs
          · exact ih hvs hj'
          · have : ∀ (vs : List Nat), j ∈ vs → (L2.wipe τ vs)[j]? = if j < σ.length then some none else none := by
              intro us hus
              induction us with
              | nil => cases hus
              | cons u us ih2 =>
                unfold L2.wipe
                by_cases hu : u = j
                · subst hu
                  split
                  · rename_i hl
                    rw [List.getElem?_set_self (by rw [wipe_length, hτ]; exact hl)]
                  · rename_i hl
                    rw [List.getElem?_eq_none (by rw [List.length_set, wipe_length, hτ]; omega)]
                · rw [List.getElem?_set_ne hu]
                  rcases List.mem_cons.mp hus with z | z
                  · exact absurd z.symm hu
                  · exact ih2 z
            exact this vs hj'
    rw [aux σ' hlen, aux σ rfl]
  · rw [wipe_get hj, gs.out j fun z => hj (h j z), wipe_get hj]
/-- the readings within a comprehension: the list in the making is avoided -/
def gX (K : PySem.W.Frag) (F : Fx) (is : List Nat) (g : GFn) : TG := fun v σ H Q => ∃ d, gD K (F.add d) is g v σ H Q
def tTX (K : PySem.W.Frag) (F : Fx) (f : TFn) : TT := fun σ H Q => ∃ d, tT K (F.add d) true f σ H Q
def tDX (K : PySem.W.Frag) (F : Fx) (f : DFn) : TE := fun σ H Q => ∃ d, tD K (F.add d) true true f σ H Q
theorem pg_X {tg : Expr} {is : List Nat} (h : ∀ d, PG X tg (gD X.K (F.add d) is g)) : PG X tg (gX X.K F is g) := ⟨fun pins s σ H v u Q I r ⟨d, hw⟩ => (h d).run pins s σ H v u Q I r hw⟩
theorem pts_X {ifs : List Expr} (h : ∀ d, PTs X ifs (tT X.K (F.add d) true tc)) : PTs X ifs (tTX X.K F tc) := ⟨fun pins s σ H Q I ⟨d, hw⟩ => (h d).run pins s σ H Q I hw⟩
theorem pe_X (h : ∀ d, PE X e (tD X.K (F.add d) true true f)) : PE X e (tDX X.K F f) := ⟨fun pins s σ H Q I ⟨d, hw⟩ => (h d).run pins s σ H Q I hw⟩
theorem dts_nil : PTs X [] (tT X.K F true fYes) := ⟨fun pins s σ H Q I ⟨ρ, R, b, ρ', e, k⟩ => by
  cases e
  exact pts_nil.run pins s σ H Q I (k H (Keep.refl _ _) R)⟩
theorem dts_one (h : PT X c (tT X.K F p tc)) : PTs X [c] (tT X.K F p tc) := pts_one h
theorem add_own_any {d : Addr} {vs : List Nat} (hv : (vs.any fun i => F.own.contains i) = false) : (vs.any fun i => (F.add d).own.contains i) = false := hv
theorem compD_len {g : GFn} {c : TFn} {e : DFn} {ρ : DEnv} : ∀ {ds ys : List D}, compD g c e ρ ds = some ys → ys.length ≤ ds.length
  | [], ys, h => by cases h; exact Nat.le_refl _
  | d :: ds, ys, h => by
    unfold compD at h
    simp only [Option.bind_eq_some_iff] at h
    obtain ⟨ρ1, _, b, _, h⟩ := h
    split at h
    · simp only [Option.bind_eq_some_iff, Option.map_eq_some_iff] at h
      obtain ⟨y, _, zs, e, rfl⟩ := h
      exact Nat.succ_le_succ (compD_len e)
    · exact Nat.le_succ_of_le (compD_len h)
theorem tLc_of {is vs : List Nat} (hv : (vs.any fun i => F.own.contains i) = false) (his : (is.all fun i => vs.contains i) = true) :
    ∀ (σ : St) (H : Hp) (Q : VK), tL K F p (fComp its g tc fe vs) σ H Q → tLc (tI K F p st its) (gX K F is g) (tTX K F tc) (tDX K F fe) vs σ H Q :=
  fun σ H Q ⟨ρ, R, ys, ρ', ef, k⟩ => by
    unfold fComp at ef
    rw [Option.bind_eq_some_iff] at ef
    obtain ⟨⟨ds, ρ1⟩, e1, e2⟩ := ef
    dsimp only at e2
    split at e2
    · rename_i hz
      rw [Option.map_eq_some_iff] at e2
      obtain ⟨zs, e3, e4⟩ := e2
      cases e4
      refine ⟨ρ, R, ds, _, e1, fun J H1 s R1 it d nd => ?_⟩
      have k1 : Keep0 H1 (upd H1 d (.lst [])) := keep_upd nd
      have Rd : EnvR K (F.add d) σ (upd H1 d (.lst [])) ρ' := R1.add k1 nd (by rw [upd_same]; intro z; cases z)
      have hvd := add_own_any (F := F) (d := d) hv
      let W : Nat → Nat → Hp → Prop := fun i m H' => m = ds.length - i ∧ i ≤ ds.length ∧ Keep0 H1 H' ∧ EnvR K (F.add d) σ H' ρ' ∧
        ∃ acc as rest, H' d = some (.lst acc) ∧ VRs K ((F.add d).W σ) H' acc as ∧ as.length ≤ i ∧ compD g tc fe (wipeD ρ' vs) (ds.drop i) = some rest ∧ ys = as ++ rest
      refine ⟨W, ⟨ds.length, by simp, Nat.zero_le _, k1, Rd, [], [], ys, upd_same, .nil, Nat.zero_le _, by simpa using e3, rfl⟩, fun i m H' w => ?_⟩
      obtain ⟨em, hi, kk, R', acc, as, rest, hd, va, hla, ec, ey⟩ := w
      obtain ⟨go, stop⟩ := it ((F.add d).W (wipe σ vs)) H' (fun a z => by rw [W_eq hvd fun j hj => wipe_get hj]; exact z.2.elim (fun y => .inr (.inl y)) fun y => .inr (.inr (.inl y))) (fun a z => by
        rw [W_eq hvd fun j hj => wipe_get hj] at z
        rcases z with z | z | z | z
        · exact .inl (.inl z)
        · exact .inl (.inr (.inl z))
        · exact .inl (.inr (.inr z))
        · exact .inr (z ▸ nd)) kk.any
      by_cases hlt : i < ds.length
      · rw [drop_cons hlt] at ec
        unfold compD at ec
        simp only [Option.bind_eq_some_iff] at ec
        obtain ⟨ρ2, e5, ⟨b, ρ3⟩, e6, e7⟩ := ec
        obtain ⟨g1, g2⟩ := go i ds[i] (List.getElem?_eq_getElem hlt)
        refine .inr ⟨g1, W (i + 1) (ds.length - (i + 1)), fun H3 w3 => ⟨_, by omega, w3⟩, fun x H2 y => ?_⟩
        obtain ⟨k2, vx⟩ := g2 x H2 y
        have R2 := R'.keep k2
        refine ⟨d, ds[i], wipeD ρ' vs, R2.wipe hvd, vx, ρ2, e5, fun σ2 gs o2 w2 R3 => ⟨wipe_eq gs fun j hj => ?_, d, ρ2, R3, b, ρ3, e6, fun H3 s3 R4 => ?_⟩⟩
        · have := List.all_eq_true.mp his j hj
          exact List.contains_iff_mem.mp this
        have k3 : Keep0 H' H3 := k2.trans (Stp.pure s3)
        have RR := R'.keep k3
        have kF : Keep0 H1 H3 := kk.trans k3
        have hd3 : H3 d = some (.lst acc) := k3.st _ _ hd fun z => z.elim
        have va3 := va.keep k3 fun _ z => z.elim
        cases b with
        | false =>
          simp only [Bool.false_eq_true, if_false] at e7
          exact iteF ⟨rfl, hlt, kF, RR, acc, as, rest, hd3, va3, by omega, e7, ey⟩
        | true =>
          simp only [if_true, Option.bind_eq_some_iff, Option.map_eq_some_iff] at e7
          obtain ⟨⟨dy, ρ4⟩, e8, r2, e9, rfl⟩ := e7
          refine iteT ⟨d, ρ3, R4, dy, ρ4, e8, fun yv H4 s4 R5 vy => ?_⟩
          have k4 : Keep0 H3 H4 := Stp.pure s4
          have RR4 := RR.keep k4
          have hd4 : H4 d = some (.lst acc) := k4.st _ _ hd3 fun z => z.elim
          have va4 := va3.keep k4 fun _ z => z.elim
          have hW2 : (F.add d).W σ2 = (F.add d).W σ := by
            rw [w2]
            exact W_eq hvd fun j hj => wipe_get hj
          have vy4 : VR K ((F.add d).W σ) H4 yv dy := by rw [← hW2]; exact vy.stable
          have kd : Keep (fun a => a = d) H4 (upd H4 d (.lst (acc ++ [yv]))) := keep_at hd4
          have kdx : Keep (F.add d).ex H4 (upd H4 d (.lst (acc ++ [yv]))) := kd.mono fun a z => .inr z
          refine ⟨acc, hd4, ?_, rfl, hlt, ?_, RR4.keepEx kdx, acc ++ [yv], as ++ [dy], r2, upd_same, (va4.snoc vy4).keep kdx fun a z => .inr (.inr z), by simp; omega, e9, by simp [ey]⟩
          · rw [va4.length]; omega
          · refine ⟨fun a o e _ => ?_, fun _ _ z => z.elim⟩
            have hne : a ≠ d := by rintro rfl; rw [nd] at e; cases e
            rw [upd_ne hne]
            exact k4.st _ _ (kF.st _ _ e fun z => z.elim) fun z => z.elim
      · have hie : i = ds.length := by omega
        subst hie
        rw [List.drop_length] at ec
        cases ec
        rw [List.append_nil] at ey
        subst ey
        refine .inl ⟨stop, k d acc H' ((s.trans (q := true) (Stp.of kk)).weak (by simp)) R' ?_ hd va⟩
        cases e : H d with
        | none => rfl
        | some o => exact absurd nd (s.tr (by rw [e]; intro z; cases z))
    · cases e2
theorem l_comp {elt tg iter : Expr} {ifs : List Expr} {scope : Scope} {own : List (Str × Nat)} {is : List Nat} (hc : X.calm = true) (hN : X.N.Nodup) (hi : PI X tg iter (tI X.K F p st its)) (ok : BlkOk X.N X.env.scope scope own)
    (hg : ∀ (s : Shared) (H : Hp) (C : Addr) (cl : List (Str × Addr)) (fp : List Addr) (d : Addr), PG (X.blk s H scope (compEnvC scope cl C X.env) fp) tg (gD X.K (F.add d) is g))
    (ht : ∀ (s : Shared) (H : Hp) (C : Addr) (cl : List (Str × Addr)) (fp : List Addr) (d : Addr), PTs (X.blk s H scope (compEnvC scope cl C X.env) fp) ifs (tT X.K (F.add d) p1 tc))
    (he : ∀ (s : Shared) (H : Hp) (C : Addr) (cl : List (Str × Addr)) (fp : List Addr) (d : Addr), PE (X.blk s H scope (compEnvC scope cl C X.env) fp) elt (tD X.K (F.add d) p2 st2 fe))
    {vs : List Nat} (hvs : own.map (·.2) = vs := by rfl) (hv : (vs.any fun i => F.own.contains i) = false := by rfl) (his : (is.all fun i => vs.contains i) = true := by rfl) (hs : ∀ x, foldedSetIterable iter X.env x = pure x := by intro _; rfl)
    (hp1 : p1 = true := by rfl) (hp2 : p2 = true := by rfl) (hst2 : st2 = true := by rfl) :
    PE X (.ListComp elt [⟨tg, iter, ifs, 0⟩] scope pos) (tL X.K F p (fComp its g tc fe vs)) := by
  subst hvs hp1 hp2 hst2
  exact (pe_lc hc hN hi ok (fun s H C cl fp => pg_X (X := X.blk s H scope (compEnvC scope cl C X.env) fp) (hg s H C cl fp)) (fun s H C cl fp => pts_X (X := X.blk s H scope (compEnvC scope cl C X.env) fp) (ht s H C cl fp))
    (fun s H C cl fp => pe_X (X := X.blk s H scope (compEnvC scope cl C X.env) fp) (he s H C cl fp)) hs).impD (tLc_of hv his)
end
end Dl

namespace Dl
open PySem PySem.Spec PyProof.Rows L2
section
variable {X : Cx} {F : Fx} {K : PySem.W.Frag} {p q p1 p2 p3 st st1 st2 st3 : Bool} {e a b c : Expr} {es rest : List Expr} {f f1 f2 f3 fe : DFn} {fs fs1 fs2 its : LFn} {t1 t2 tc : TFn} {pos : Pos} {s1 s2 : SFn} {s : Stmt} {ss : List Stmt} {g : GFn}
variable {σ σ1 σ2 : St} {H H1 H2 : Hp} {A : ASet}

/-! ### y = [..] on one line -/
theorem ds_compL {i : Nat} {y : Str} {py : Pos} {elt tg iter : Expr} {ifs : List Expr} {scope : Scope} {own : List (Str × Nat)} {is : List Nat} {spos : Pos} (hc : X.calm = true) (hN : X.N.Nodup) (hy : X.N[i]? = some y) (hyl : X.env.scope.names.lookup y = some .local)
    (hsw : swapsWith (.ListComp elt [⟨tg, iter, ifs, 0⟩] scope pos) (some (.Name y py)) spos.line X.env = pure true) (hi : PI X tg iter (tI X.K F p st its)) (ok : BlkOk X.N X.env.scope scope own)
    (hg : ∀ (s : Shared) (H : Hp) (C : Addr) (cl : List (Str × Addr)) (fp : List Addr) (d : Addr), PG (X.blk s H scope (compEnvC scope cl C X.env) fp) tg (gD X.K (F.add d) is g))
    (ht : ∀ (s : Shared) (H : Hp) (C : Addr) (cl : List (Str × Addr)) (fp : List Addr) (d : Addr), PTs (X.blk s H scope (compEnvC scope cl C X.env) fp) ifs (tT X.K (F.add d) p1 tc))
    (he : ∀ (s : Shared) (H : Hp) (C : Addr) (cl : List (Str × Addr)) (fp : List Addr) (d : Addr), PE (X.blk s H scope (compEnvC scope cl C X.env) fp) elt (tD X.K (F.add d) p2 st2 fe))
    {vs : List Nat} (hvs : own.map (·.2) = vs := by rfl) (hv : (vs.any fun i => F.own.contains i) = false := by rfl) (his : (is.all fun i => vs.contains i) = true := by rfl) (hs : ∀ x, foldedSetIterable iter X.env x = pure x := by intro _; rfl)
    (hp1 : p1 = true := by rfl) (hp2 : p2 = true := by rfl) (hst2 : st2 = true := by rfl)
    (ho : F.own.contains i = true := by rfl) (hio : F.io.any (fun p => p.1 == i) = false := by rfl) :
    PS X (.Assign [.Name y py] (.ListComp elt [⟨tg, iter, ifs, 0⟩] scope pos) spos) (tS X.K F (fSetL i (fComp its g tc fe vs))) := by
  subst hvs hp1 hp2 hst2
  exact (ps_setLc hc hN hy hyl hsw hi ok (fun s H C cl fp => pg_X (X := X.blk s H scope (compEnvC scope cl C X.env) fp) (hg s H C cl fp)) (fun s H C cl fp => pts_X (X := X.blk s H scope (compEnvC scope cl C X.env) fp) (ht s H C cl fp))
    (fun s H C cl fp => pe_X (X := X.blk s H scope (compEnvC scope cl C X.env) fp) (he s H C cl fp)) hs).impD fun D σ H ⟨ρ, R, o, e, k⟩ => by
    refine tLc_of (g := g) (tc := tc) (fe := fe) (its := its) (is := is) (p := p) (st := st) hv his σ H _ ?_
    unfold fSetL at e
    rw [Option.bind_eq_some_iff] at e
    obtain ⟨⟨d, ρ1⟩, e1, e2⟩ := e
    dsimp only at e2
    split at e2
    · rename_i hl
      cases e2
      exact ⟨ρ, R, d, ρ1, e1, fun a xs H' s' R' n e v => k _ H' (.new (s'.mono fun _ z => z.2) n) (R'.setL ho hio hl (ex_new R n) e v)⟩
    · cases e2
theorem ds_comp {i : Nat} {y : Str} {py : Pos} {elt tg iter : Expr} {ifs : List Expr} {scope : Scope} {own : List (Str × Nat)} {is : List Nat} {spos : Pos} (hc : X.calm = true) (hN : X.N.Nodup) (hy : X.N[i]? = some y) (hyl : X.env.scope.names.lookup y = some .local)
    (hsw : swapsWith (.ListComp elt [⟨tg, iter, ifs, 0⟩] scope pos) (some (.Name y py)) spos.line X.env = pure true) (hi : PI X tg iter (tI X.K F p st its)) (ok : BlkOk X.N X.env.scope scope own)
    (hg : ∀ (s : Shared) (H : Hp) (C : Addr) (cl : List (Str × Addr)) (fp : List Addr) (d : Addr), PG (X.blk s H scope (compEnvC scope cl C X.env) fp) tg (gD X.K (F.add d) is g))
    (ht : ∀ (s : Shared) (H : Hp) (C : Addr) (cl : List (Str × Addr)) (fp : List Addr) (d : Addr), PTs (X.blk s H scope (compEnvC scope cl C X.env) fp) ifs (tT X.K (F.add d) p1 tc))
    (he : ∀ (s : Shared) (H : Hp) (C : Addr) (cl : List (Str × Addr)) (fp : List Addr) (d : Addr), PE (X.blk s H scope (compEnvC scope cl C X.env) fp) elt (tD X.K (F.add d) p2 st2 fe))
    {vs : List Nat} (hvs : own.map (·.2) = vs := by rfl) (hv : (vs.any fun i => F.own.contains i) = false := by rfl) (his : (is.all fun i => vs.contains i) = true := by rfl) (hs : ∀ x, foldedSetIterable iter X.env x = pure x := by intro _; rfl)
    (hp1 : p1 = true := by rfl) (hp2 : p2 = true := by rfl) (hst2 : st2 = true := by rfl)
    (ho : F.own.contains i = false := by rfl) :
    PS X (.Assign [.Name y py] (.ListComp elt [⟨tg, iter, ifs, 0⟩] scope pos) spos) (tS X.K F (fSet i (fOfL (fComp its g tc fe vs)))) := by
  subst hvs hp1 hp2 hst2
  exact (ps_setLc hc hN hy hyl hsw hi ok (fun s H C cl fp => pg_X (X := X.blk s H scope (compEnvC scope cl C X.env) fp) (hg s H C cl fp)) (fun s H C cl fp => pts_X (X := X.blk s H scope (compEnvC scope cl C X.env) fp) (ht s H C cl fp))
    (fun s H C cl fp => pe_X (X := X.blk s H scope (compEnvC scope cl C X.env) fp) (he s H C cl fp)) hs).impD fun D σ H ⟨ρ, R, o, e, k⟩ => by
    refine tLc_of (g := g) (tc := tc) (fe := fe) (its := its) (is := is) (p := p) (st := st) hv his σ H _ ?_
    unfold fSet fOfL at e
    simp only [Option.bind_eq_some_iff, Option.map_eq_some_iff] at e
    obtain ⟨⟨d, ρ1⟩, ⟨⟨ds, ρ2⟩, e0, e1⟩, e2⟩ := e
    cases e1
    dsimp only at e2
    split at e2
    · rename_i hl
      cases e2
      refine ⟨ρ, R, ds, ρ2, e0, fun a xs H' s' R' n e v => k _ H' ⟨s'.mono fun _ z => z.2, fun a z => .inl ((own_set ho a).mp z)⟩ (R'.drop.set ho hl ?_)⟩
      refine .lst (fun z => R.trk z n) e (v.avoid fun b z => ?_)
      rcases z with z | z | z
      · exact .inl (.inl z)
      · exact .inl (.inr (.inl z))
      · exact .inl (.inr (.inr (.inl z)))
    · cases e2

/-! ### zip, enumerate, reversed -/
def zipD : List D → Option (List D)
  | [.tup xs, .tup ys] => some ((xs.zip ys).map fun z => .tup [z.1, z.2])
  | [.lst xs, .lst ys] => some ((xs.zip ys).map fun z => .tup [z.1, z.2])
  | _ => none
def fZip (fs : LFn) : LFn := fun ρ => (fs ρ).bind fun x => (zipD x.1).map fun ds => (ds, x.2)
theorem zip_get {xs ys : List D} {i : Nat} {d : D} (h : ((xs.zip ys).map fun z => D.tup [z.1, z.2])[i]? = some d) : ∃ x y, xs[i]? = some x ∧ ys[i]? = some y ∧ d = .tup [x, y] := by
  rw [List.getElem?_map, Option.map_eq_some_iff] at h
  obtain ⟨⟨x, y⟩, h1, rfl⟩ := h
  rw [List.getElem?_zip_eq_some] at h1
  exact ⟨x, y, h1.1, h1.2, rfl⟩
theorem it_zipT {C A0 : ASet} {a b : Addr} {xs ys : List V} {ds es : List D} (h : SqT K H a xs) (v : VRs K A0 H xs ds) (h' : SqT K H b ys) (v' : VRs K A0 H ys es) : ItD K C A0 H (RZ.ItzT K a b) ((ds.zip es).map fun z => .tup [z.1, z.2]) := fun A H1 hC hA k => by
  have h1 : SqT K H1 a xs := SqT.keep k h
  have h2 : SqT K H1 b ys := SqT.keep k h'
  have v1 := v.upC hC hA k
  have v2 := v'.upC hC hA k
  refine ⟨fun i d e => ?_, xs, ys, h1, h2, by
    rw [List.length_map, List.length_zip, v.length, v'.length]
    rcases Nat.le_total ds.length es.length with z | z
    · exact .inl (by rw [Nat.min_eq_left z]; exact Nat.le_refl _)
    · exact .inr (by rw [Nat.min_eq_right z]; exact Nat.le_refl _)⟩
  obtain ⟨dx, dy, e1, e2, rfl⟩ := zip_get e
  obtain ⟨w, f1, f2⟩ := v1.get e1
  obtain ⟨u, f3, f4⟩ := v2.get e2
  refine ⟨⟨xs, ys, w, u, h1, h2, f1, f3⟩, fun x H' y => ?_⟩
  obtain ⟨T, x', y', rfl, nT, rfl, g1, g2⟩ := y
  have := g1 xs h1
  rw [f1] at this
  cases this
  have := g2 ys h2
  rw [f3] at this
  cases this
  exact ⟨keep_upd nT, new_tup nT (.cons f2 (.cons f4 .nil))⟩
theorem it_zipL {C A0 : ASet} {a b : Addr} {xs ys : List V} {ds es : List D} (h : H a = some (.lst xs)) (n : ¬ C a) (v : VRs K A0 H xs ds) (h' : H b = some (.lst ys)) (n' : ¬ C b) (v' : VRs K A0 H ys es) : ItD K C A0 H (Itz K a b) ((ds.zip es).map fun z => .tup [z.1, z.2]) := fun A H1 hC hA k => by
  have h1 : SqL K H1 a xs := .inl (.inl (k.st _ _ h fun z => absurd z n))
  have h2 : SqL K H1 b ys := .inl (.inl (k.st _ _ h' fun z => absurd z n'))
  have v1 := v.upC hC hA k
  have v2 := v'.upC hC hA k
  refine ⟨fun i d e => ?_, xs, ys, h1, h2, by
    rw [List.length_map, List.length_zip, v.length, v'.length]
    rcases Nat.le_total ds.length es.length with z | z
    · exact .inl (by rw [Nat.min_eq_left z]; exact Nat.le_refl _)
    · exact .inr (by rw [Nat.min_eq_right z]; exact Nat.le_refl _)⟩
  obtain ⟨dx, dy, e1, e2, rfl⟩ := zip_get e
  obtain ⟨w, f1, f2⟩ := v1.get e1
  obtain ⟨u, f3, f4⟩ := v2.get e2
  refine ⟨⟨xs, ys, w, u, h1, h2, f1, f3⟩, fun x H' y => ?_⟩
  obtain ⟨T, x', y', rfl, nT, rfl, g1, g2⟩ := y
  have := g1 xs h1
  rw [f1] at this
  cases this
  have := g2 ys h2
  rw [f3] at this
  cases this
  exact ⟨keep_upd nT, new_tup nT (.cons f2 (.cons f4 .nil))⟩
theorem di_zip {elts : List Expr} {kk : Nat} {px tpos : Pos} (hg : Gl X "zip") (hm : X.mg "zip" = none) (ha : PA X [a, b] (tAs X.K F p st fs)) (hs : starEach [a, b] X.env = (false, eval a X.env) :: starEach [b] X.env := by rfl) (hpl : (backTo pos (starEach [b] X.env)).any (·.1) = false := by rfl) :
    PI X (.Tuple elts kk tpos) (.Call (.Name "zip" px) [a, b] [] pos) (tI X.K F p st (fZip fs)) :=
  (RZ.pi_zipA hg hm ha hs hpl).impD fun σ H Q ⟨ρ, R, ds, ρ', ef, k⟩ => by
    unfold fZip at ef
    simp only [Option.bind_eq_some_iff, Option.map_eq_some_iff] at ef
    obtain ⟨⟨es, ρ1⟩, e1, zs, e2, e3⟩ := ef
    cases e3
    dsimp only at e2
    unfold zipD at e2
    split at e2
    · cases e2
      refine ⟨ρ, R, _, _, e1, fun vs H1 s R1 x => ?_⟩
      obtain ⟨v, w, rfl, h1, h2⟩ := x.two
      obtain ⟨a', xs, rfl, hX, hxs⟩ := h1.tup_inv
      obtain ⟨b', ys, rfl, hY, hys⟩ := h2.tup_inv
      exact ⟨a', b', xs, ys, rfl, .inr ⟨hX, hY, k _ H1 s R1 (it_zipT hX hxs hY hys)⟩⟩
    · cases e2
      refine ⟨ρ, R, _, _, e1, fun vs H1 s R1 x => ?_⟩
      obtain ⟨v, w, rfl, h1, h2⟩ := x.two
      obtain ⟨a', xs, rfl, hX, hxs, n1⟩ := h1.cases_lst
      obtain ⟨b', ys, rfl, hY, hys, n2⟩ := h2.cases_lst
      exact ⟨a', b', xs, ys, rfl, .inl ⟨.inl (.inl hX), .inl (.inl hY), k _ H1 s R1 (it_zipL hX (fun z => n1 z.1 (Fx.chg_W z.2)) hxs hY (fun z => n2 z.1 (Fx.chg_W z.2)) hys)⟩⟩
    · cases e2

/-! ### calls of one's own defs -/
def RetP (K : PySem.W.Frag) (A : ASet) (fresh : Bool) (H H' : Hp) (v : V) (d : D) : Prop := match fresh with
  | true => ∃ a xs es, v = .ref a ∧ d = .lst es ∧ H a = none ∧ H' a = some (.lst xs) ∧ VRs K (fun b => A b ∨ b = a) H' xs es
  | false => VR K A H' v d
/-- a def that changes nothing of its caller's -/
def spP (K : PySem.W.Frag) (n : Nat) (fresh : Bool) (m : List D → Option D) : Sp := fun vs H Q _ => ∃ (A : ASet) (ds : List D), (∀ a, A a → H a ≠ none) ∧ vs.length = n ∧ VRs K A H vs ds ∧ ∃ d, m ds = some d ∧
  ∀ v H', Keep0 H H' → RetP K A fresh H H' v d → Q v H'
/-- a def whose first parameter is a list that it may change -/
def spU (K : PySem.W.Frag) (n : Nat) (m : List D → List D → Option (D × List D)) : Sp := fun vs H Q _ => ∃ (A : ASet) (a : Addr) (us : List V) (xs : List V) (es ds : List D), (∀ a, A a → H a ≠ none) ∧ A a ∧ vs = .ref a :: us ∧ vs.length = n ∧
  H a = some (.lst xs) ∧ VRs K A H xs es ∧ VRs K A H us ds ∧ ∃ d es', m es ds = some (d, es') ∧ ∀ v H' xs', Keep (fun b => b = a) H H' → H' a = some (.lst xs') → VRs K A H' xs' es' → VR K A H' v d → Q v H'
structure Has (P : Program) (w : World) (K : PySem.W.Frag) (mg : Str → Option Value) (base : Heap) (k : Nat) (x : Str) (sp : Sp) : Prop where
  ex : ∃ (f : Addr) (fd : FuncData) (ps : List Str), FnOk P w K mg base CX0 k f fd ps sp ∧ mg x = some (.ref f) ∧ PySem.W.keepIn K (.ref f) = true ∧ Binds K fd ps []
theorem Has.mono {P : Program} {w : World} {mg : Str → Option Value} {base : Heap} {j k : Nat} {x : Str} {sp : Sp} (h : Has P w K mg base j x sp) (l : j ≤ k) : Has P w K mg base k x sp :=
  let ⟨f, fd, ps, F, m, kp, b⟩ := h.ex
  ⟨f, fd, ps, F.mono l, m, kp, b⟩
theorem d_call {x : Str} {px : Pos} {k j n : Nat} {m : List D → Option D} (h : Has X.prog X.w X.K X.mg X.base k x (spP X.K n false m)) (hr : Room j X.A) (hk : k ≤ j) (hg : Gl X x) (ha : PA X (e :: es) (tAs X.K F p st fs)) (hn : (e :: es).length = n := by rfl)
    (hl : ∀ ρ ds ρ', fs ρ = some (ds, ρ') → ds.length = (e :: es).length) (hdb : (x == ("__debug__" : Str)) = false := by decide) (he : starEach (e :: es) X.env = (false, eval e X.env) :: starEach es X.env := by rfl) (hpl : (backTo pos (starEach es X.env)).any (·.1) = false := by rfl) (hst : st = true := by rfl) :
    PE X (.Call (.Name x px) (e :: es) [] pos) (tD X.K F p true (fCall m fs)) := by
  subst hst
  obtain ⟨f, fd, ps, Fk, hm, kp, b⟩ := h.ex
  refine (pe_call Fk (hr.mono hk) hg hm kp b .nil pass0 ha hdb he hpl).impD fun σ H Q ⟨ρ, R, d, ρ', ef, k⟩ => ?_
  obtain ⟨ds, e1, e2⟩ := fCall_some ef
  refine ⟨ρ, R, ds, ρ', e1, fun vs H1 s R1 v1 => ⟨F.W σ, ds, R1.trk', ?_, by rw [List.append_nil]; exact v1.stable, d, e2, fun v H2 k2 r => k v H2 ((s.trans (q := true) (Stp.of k2)).weak (by simp)) (R1.keep k2) (.of r)⟩⟩
  rw [List.append_nil, v1.stable.length, hl _ _ _ e1, hn]
def asL : D → Option (List D)
  | .lst ds => some ds
  | _ => none
theorem asL_some {d : D} {ds : List D} (h : asL d = some ds) : d = .lst ds := by
  cases d <;> first | (cases h; rfl) | cases h
def fCallF (m : List D → Option D) (fs : LFn) : LFn := fun ρ => (fs ρ).bind fun x => (m x.1).bind fun d => (asL d).map fun ds => (ds, x.2)
theorem l_call {x : Str} {px : Pos} {k j n : Nat} {m : List D → Option D} (h : Has X.prog X.w X.K X.mg X.base k x (spP X.K n true m)) (hr : Room j X.A) (hk : k ≤ j) (hg : Gl X x) (ha : PA X (e :: es) (tAs X.K F p st fs)) (hn : (e :: es).length = n := by rfl)
    (hl : ∀ ρ ds ρ', fs ρ = some (ds, ρ') → ds.length = (e :: es).length) (hdb : (x == ("__debug__" : Str)) = false := by decide) (he : starEach (e :: es) X.env = (false, eval e X.env) :: starEach es X.env := by rfl) (hpl : (backTo pos (starEach es X.env)).any (·.1) = false := by rfl) (hst : st = true := by rfl) :
    PE X (.Call (.Name x px) (e :: es) [] pos) (tL X.K F p (fCallF m fs)) := by
  subst hst
  obtain ⟨f, fd, ps, Fk, hm, kp, b⟩ := h.ex
  refine (pe_call Fk (hr.mono hk) hg hm kp b .nil pass0 ha hdb he hpl).impD fun σ H Q ⟨ρ, R, d, ρ', ef, k⟩ => ?_
  unfold fCallF at ef
  simp only [Option.bind_eq_some_iff, Option.map_eq_some_iff] at ef
  obtain ⟨⟨ds, ρ1⟩, e1, dl, e2, es', e3, e4⟩ := ef
  have := asL_some e3
  subst this
  cases e4
  refine ⟨ρ, R, ds, _, e1, fun vs H1 s R1 v1 => ⟨F.W σ, ds, R1.trk', ?_, by rw [List.append_nil]; exact v1.stable, _, e2, fun v H2 k2 r => ?_⟩⟩
  · rw [List.append_nil, v1.stable.length, hl _ _ _ e1, hn]
  · obtain ⟨a, xs, es2, rfl, q, n1, h2, vv⟩ := r
    cases q
    refine k a xs H2 ((s.trans (q := true) (Stp.of k2)).weak (by simp)) (R1.add k2 n1 (by rw [h2]; intro z; cases z)) ?_ h2 (vv.avoid fun b z => ?_)
    · cases e : H a with
      | none => rfl
      | some o => exact absurd n1 (s.tr (by rw [e]; intro z; cases z))
    · rcases z with z | z | z | z
      · exact .inl (.inl (.inl z))
      · exact .inl (.inl (.inr (.inl z)))
      · exact .inl (.inl (.inr (.inr z)))
      · exact .inl (.inr z)
def fCallU (i : Nat) (m : List D → List D → Option (D × List D)) (fs : LFn) : DFn := fun ρ => (ρ[i]?.join).bind fun _ => (fs ρ).bind fun x => match x.2[i]?.join with
  | some (.lst es) => (m es x.1).map fun r => (r.1, x.2.set i (some (.lst r.2)))
  | _ => none
theorem d_callU {x u : Str} {px pu : Pos} {i k j n : Nat} {m : List D → List D → Option (D × List D)} (h : Has X.prog X.w X.K X.mg X.base k x (spU X.K n m)) (hr : Room j X.A) (hk : k ≤ j) (hg : Gl X x) (hu : PE X (.Name u pu) (tVar i)) (ha : PA X es (tAs X.K F p st fs))
    (ho : F.own.contains i = true := by rfl) (hn : es.length + 1 = n := by rfl) (hl : ∀ ρ ds ρ', fs ρ = some (ds, ρ') → ds.length = es.length) (hdb : (x == ("__debug__" : Str)) = false := by decide)
    (he : starEach (.Name u pu :: es) X.env = (false, eval (.Name u pu) X.env) :: starEach es X.env := by rfl) (hpl : (backTo pos (starEach es X.env)).any (·.1) = false := by rfl) (hst : st = true := by rfl) :
    PE X (.Call (.Name x px) (.Name u pu :: es) [] pos) (tD X.K F false true (fCallU i m fs)) := by
  subst hst
  obtain ⟨f, fd, ps, Fk, hm, kp, b⟩ := h.ex
  refine (pe_call Fk (hr.mono hk) hg hm kp b .nil pass0 (pa_cons hu ha he) hdb he hpl).impD fun σ H Q ⟨ρ, R, d, ρ', ef, k⟩ => ?_
  unfold fCallU at ef
  rw [Option.bind_eq_some_iff] at ef
  obtain ⟨d0, e0, ef⟩ := ef
  rw [Option.bind_eq_some_iff] at ef
  obtain ⟨⟨ds, ρ1⟩, e1, e2⟩ := ef
  dsimp only at e2
  split at e2
  · rename_i es' el
    rw [Option.map_eq_some_iff] at e2
    obtain ⟨⟨dr, es2⟩, e3, e4⟩ := e2
    cases e4
    obtain ⟨a, xs0, h1, h2⟩ := ownV R ho e0
    refine ⟨_, h1, ρ, R, ds, ρ1, e1, fun vs H1 s R1 v1 => ?_⟩
    obtain ⟨hi, a', ys, h3, h4, h5⟩ := own_at R1 ho el
    rw [h1] at h3
    cases h3
    have oa : F.Own σ a := ⟨i, List.contains_iff_mem.mp ho, h1⟩
    have vs1 := v1.stable
    refine ⟨F.W σ, a, vs, ys, es', ds, R1.trk', Fx.own_W oa, by rw [List.append_nil], ?_, h4, h5, vs1, dr, es2, e3, fun v H2 xs' k2 h6 h7 h8 => ?_⟩
    · rw [List.append_nil, List.length_cons, vs1.length, hl _ _ _ e1, hn]
    · obtain ⟨R3, k3⟩ := R1.chg ho hi h1 k2 h6 h7
      exact k v H2 ((s.mono fun _ z => ⟨rfl, z.2⟩).trans (k3.mono fun _ z => ⟨rfl, z⟩)) R3 (.of h8)
  · cases e2

/-! ### a def keeps its promise -/
def startD (N : Nat) (ds : List D) : DEnv := ds.map some ++ List.replicate (N - ds.length) none
def outP (fresh : Bool) (N : Nat) (b : SFn) (ds : List D) : Option D := (b (startD N ds)).bind fun o => match o with
  | .rt d _ => some d
  | .nx _ => if fresh then none else some .non
  | _ => none
def outU (N : Nat) (b : SFn) (es ds : List D) : Option (D × List D) := (b (startD N (.lst es :: ds))).bind fun o => match o with
  | .rt d ρ => (ρ[0]?.join).bind fun u => (asL u).map fun xs => (d, xs)
  | .nx ρ => (ρ[0]?.join).bind fun u => (asL u).map fun xs => (.non, xs)
  | _ => none
theorem start_get {N : List Str} {vs : List V} {i : Nat} {v : V} (h : (L2.start N vs)[i]? = some (some v)) : vs[i]? = some v := by
  unfold L2.start at h
  by_cases hi : i < vs.length
  · rw [List.getElem?_append_left (by simpa using hi), List.getElem?_map] at h
    cases e : vs[i]? with
    | none => rw [e] at h; cases h
    | some a => rw [e] at h; cases h; rfl
  · rw [List.getElem?_append_right (by simpa using hi), List.getElem?_replicate] at h
    split at h <;> cases h
theorem startD_get {N : Nat} {ds : List D} {i : Nat} {d : D} (h : (startD N ds)[i]? = some (some d)) : ds[i]? = some d := by
  unfold startD at h
  by_cases hi : i < ds.length
  · rw [List.getElem?_append_left (by simpa using hi), List.getElem?_map] at h
    cases e : ds[i]? with
    | none => rw [e] at h; cases h
    | some a => rw [e] at h; cases h; rfl
  · rw [List.getElem?_append_right (by simpa using hi), List.getElem?_replicate] at h
    split at h <;> cases h
theorem start_of {N : List Str} {vs : List V} {i : Nat} {v : V} (h : vs[i]? = some v) : (L2.start N vs)[i]? = some (some v) := by
  obtain ⟨hi, e⟩ := List.getElem?_eq_some_iff.mp h
  unfold L2.start
  rw [List.getElem?_append_left (by simpa using hi), List.getElem?_map, h]
  rfl
theorem start_len {N : List Str} {vs : List V} {ds : List D} (h : vs.length = ds.length) : (startD N.length ds).length = (L2.start N vs).length := by
  unfold L2.start startD
  simp [h]
/-- the entry of a def without lists of its caller's -/
theorem env_P {N : List Str} {vs : List V} {ds : List D} {own : List Nat} {fresh : Bool} {A : ASet} (t : ∀ a, A a → H a ≠ none) (v : VRs K A H vs ds) (ho : (own.all fun i => decide (vs.length ≤ i)) = true) :
    EnvR K ⟨own, [], H, A, fun _ => False, fresh⟩ (L2.start N vs) H (startD N.length ds) := by
  have no : ∀ (i : Nat), i ∈ own → ∀ w : V, (L2.start N vs)[i]? ≠ some (some w) := fun i hi w e => by
    have h1 := start_get e
    have h2 : vs.length ≤ i := by simpa using List.all_eq_true.mp ho i hi
    rw [List.getElem?_eq_none h2] at h1
    cases h1
  refine ⟨start_len v.length, fun i d e => ?_, fun i hi w e => absurd e (no i hi w), fun i hi d e => ?_, fun i j a hi _ e => absurd e (no i hi _), t, fun a o e _ => e, fun p hp => (by cases hp), fun i hi _ a e => absurd e (no i hi _), fun a z => z.elim⟩
  · obtain ⟨w, e1, e2⟩ := v.get (startD_get e)
    refine ⟨w, start_of e1, .of (e2.avoid fun b z => ?_)⟩
    rcases z with z | ⟨j, hj, z⟩ | z
    · exact .inl z
    · exact absurd z (no j hj _)
    · exact z.elim
  · have h1 := startD_get e
    have h2 : vs.length ≤ i := by simpa using List.all_eq_true.mp ho i hi
    rw [List.getElem?_eq_none (by rw [← v.length]; exact h2)] at h1
    cases h1
end
section
variable {P : Program} {w : World} {K : PySem.W.Frag} {mg : Str → Option Value} {base : Heap}
/-- the entry of a def whose first parameter is a list that it may change -/
theorem env_U {N : List Str} {a : Addr} {us xs : List V} {es ds : List D} {own : List Nat} {A : ASet} {H : Hp} (t : ∀ a, A a → H a ≠ none) (ha : A a) (hH : H a = some (.lst xs)) (vx : VRs K A H xs es) (v : VRs K A H us ds) (ho : (own.all fun i => decide (us.length + 1 ≤ i)) = true) :
    EnvR K ⟨0 :: own, [(0, a)], H, A, fun _ => False, false⟩ (L2.start N (.ref a :: us)) H (startD N.length (.lst es :: ds)) := by
  have z0 : (L2.start N (.ref a :: us))[0]? = some (some (.ref a)) := start_of rfl
  have no : ∀ (i : Nat), i ∈ own → ∀ w : V, (L2.start N (.ref a :: us))[i]? ≠ some (some w) := fun i hi w e => by
    have h1 := start_get e
    have h2 : us.length + 1 ≤ i := by simpa using List.all_eq_true.mp ho i hi
    rw [List.getElem?_eq_none (by simpa using h2)] at h1
    cases h1
  have own0 : ∀ (i : Nat), i ∈ 0 :: own → ∀ w : V, (L2.start N (.ref a :: us))[i]? = some (some w) → i = 0 ∧ w = .ref a := fun i hi w e => by
    rcases List.mem_cons.mp hi with z | z
    · subst z
      rw [z0] at e
      cases e
      exact ⟨rfl, rfl⟩
    · exact absurd e (no i z w)
  have hW : ∀ b, Fx.W ⟨0 :: own, [(0, a)], H, A, fun _ => False, false⟩ (L2.start N (.ref a :: us)) b → A b ∨ H b = none := fun b z => by
    rcases z with z | ⟨j, hj, z⟩ | z
    · exact .inl z
    · obtain ⟨_, q⟩ := own0 j hj _ z
      cases q
      exact .inl ha
    · exact z.elim
  refine ⟨start_len (by simp [v.length]), fun i d e => ?_, fun i hi w e => ?_, fun i hi d e => ?_, fun i j b hi hj e1 e2 => ?_, t, fun b o e _ => e, fun p hp => ?_, fun i hi hn b e => ?_, fun b z => z.elim⟩
  · have h1 := startD_get e
    cases i with
    | zero =>
      cases h1
      refine ⟨_, z0, .inr ⟨by simp, a, xs, es, rfl, rfl, hH, vx.avoid hW⟩⟩
    | succ i =>
      obtain ⟨w, e1, e2⟩ := v.get (i := i) (by simpa using h1)
      refine ⟨w, start_of (by simpa using e1), .of (e2.avoid hW)⟩
  · obtain ⟨_, q⟩ := own0 i hi w e
    exact ⟨a, xs, q, hH⟩
  · rcases List.mem_cons.mp hi with z | z
    · subst z
      have h1 := startD_get e
      cases h1
      exact ⟨es, rfl⟩
    · have h1 := startD_get e
      have h2 : us.length + 1 ≤ i := by simpa using List.all_eq_true.mp ho i z
      rw [List.getElem?_eq_none (by simp [← v.length]; omega)] at h1
      cases h1
  · rw [(own0 i hi _ e1).1, (own0 j hj _ e2).1]
  · have : p = (0, a) := by simpa using hp
    subst this
    exact ⟨List.mem_cons_self, ha, z0⟩
  · obtain ⟨q, _⟩ := own0 i hi _ e
    exact absurd q.symm (hn (0, a) (by simp))
theorem fn_io {x : Str} {st : Stmt} {f : Addr} {fd : FuncData} {N ps : List Str} {own : List Nat} {b : SFn} {k : Nat} (F : FunD K x x (defArgs st) (defBody st) (defScope st) [] [] f fd) (S : FnScope N ps (defScope st)) (ho : (own.all fun i => decide (ps.length ≤ i)) = true)
    (body : ∀ (cdv : Value) (A : Around) (outer : List Env) (s : Shared) (H : Hp) (E : XK) (W0 : ASet) (a : Addr), Room k (A.deeper (envOfC x (defScope st) s.heap.objs.size f cdv)) →
      PSs (cxOf CX0 P w K mg base N x (defScope st) f cdv A outer s H E).nox (defBody st) (tS K ⟨0 :: own, [(0, a)], H, W0, fun _ => False, false⟩ b)) : FnOk P w K mg base CX0 (k + 1) f fd ps (spU K ps.length (outU N.length b)) := by
  refine F.ok S (fun vs H Q E h => ?_) (fun cdv A outer s H vs Q E hr h => ?_)
  · obtain ⟨A, a, us, xs, es, ds, _, _, _, h, _⟩ := h
    exact h
  · obtain ⟨W0, a, us, xs, es, ds, t, ha, rfl, hl, hH, vx, v, d, es', hm, q⟩ := h
    have hl' : us.length + 1 = ps.length := hl
    refine ⟨_, (body cdv A outer s H E W0 a hr).nox, startD N.length (.lst es :: ds), env_U t ha hH vx v (by rw [hl']; exact ho), ?_⟩
    unfold outU at hm
    rw [Option.bind_eq_some_iff] at hm
    obtain ⟨o, e1, e2⟩ := hm
    refine ⟨o, e1, ?_⟩
    have fin : ∀ {v' : V} {σ' : St} {H' : Hp} {ρ : DEnv} {d' : D} {own' : List Nat}, EnvR K ⟨own', [(0, a)], H, W0, fun _ => False, false⟩ σ' H' ρ → VR K W0 H' v' d' → (ρ[0]?.join).bind (fun u => (asL u).map fun xs => (d', xs)) = some (d, es') → Q v' H' := by
      intro v' σ' H' ρ d' own' R' r e
      simp only [Option.bind_eq_some_iff, Option.map_eq_some_iff] at e
      obtain ⟨u, e3, xs2, e4, e5⟩ := e
      cases e5
      have := asL_some e4
      subst this
      obtain ⟨h0, _, h3⟩ := R'.iop (0, a) (by simp)
      obtain ⟨_, a2, ys, g1, g2, g3⟩ := own_at (i := 0) R' (List.contains_iff_mem.mpr h0) e3
      rw [show σ'[0]? = some (some (.ref a)) from h3] at g1
      cases g1
      refine q v' H' ys ⟨fun b o e n => ?_, fun b zs z _ => ⟨ys, by rw [z]; exact g2⟩⟩ g2 (g3.avoid fun b z => .inl (.inl z)) r
      by_cases hb : b = a
      · subst hb
        rw [hH] at e
        cases e
        exact absurd rfl (n rfl xs)
      · exact R'.fr b o e fun p hp => by
          have : p = (0, a) := by simpa using hp
          subst this
          exact fun z => hb z.symm
    cases o with
    | nx ρ =>
      intro σ' H' s' R'
      exact fin R' .non e2
    | rt d' ρ =>
      intro v' σ' H' s' R' r
      exact fin R' r e2
    | bk ρ => cases e2
    | ct ρ => cases e2
theorem fn_pure {x : Str} {st : Stmt} {f : Addr} {fd : FuncData} {N ps : List Str} {own : List Nat} {fresh : Bool} {b : SFn} {k : Nat} (F : FunD K x x (defArgs st) (defBody st) (defScope st) [] [] f fd) (S : FnScope N ps (defScope st)) (ho : (own.all fun i => decide (ps.length ≤ i)) = true)
    (body : ∀ (cdv : Value) (A : Around) (outer : List Env) (s : Shared) (H : Hp) (E : XK) (W0 : ASet), Room k (A.deeper (envOfC x (defScope st) s.heap.objs.size f cdv)) →
      PSs (cxOf CX0 P w K mg base N x (defScope st) f cdv A outer s H E).nox (defBody st) (tS K ⟨own, [], H, W0, fun _ => False, fresh⟩ b)) : FnOk P w K mg base CX0 (k + 1) f fd ps (spP K ps.length fresh (outP fresh N.length b)) := by
  refine F.ok S (fun vs H Q E h => ?_) (fun cdv A outer s H vs Q E hr h => ?_)
  · obtain ⟨A, ds, _, h, _⟩ := h
    exact h
  · obtain ⟨W0, ds, t, hl, v, d, hm, q⟩ := h
    refine ⟨_, (body cdv A outer s H E W0 hr).nox, startD N.length ds, env_P t v (by rw [hl]; exact ho), ?_⟩
    unfold outP at hm
    rw [Option.bind_eq_some_iff] at hm
    obtain ⟨o, e1, e2⟩ := hm
    refine ⟨o, e1, ?_⟩
    cases o with
    | nx ρ =>
      cases fresh with
      | true => cases e2
      | false =>
      cases e2
      intro σ' H' s' R'
      have k0 : Keep0 H H' := ⟨fun a u e _ => R'.fr a u e (fun p hp => by cases hp), fun _ _ z => z.elim⟩
      exact q _ H' k0 .non
    | rt d' ρ =>
      cases e2
      intro v' σ' H' s' R' r
      have k0 : Keep0 H H' := ⟨fun a u e _ => R'.fr a u e (fun p hp => by cases hp), fun _ _ z => z.elim⟩
      refine q _ H' k0 ?_
      cases fresh with
      | false => exact r
      | true => exact r
    | bk ρ => cases e2
    | ct ρ => cases e2
end
end Dl

namespace Dl
open PySem PySem.Spec PyProof.Rows L2
theorem tuple_mul1 (l : Addr) (items : Array Value) (n : Nat) (dd : Option Addr) (sl : Array (Option Value)) (u : Tok) :
    Meets (Builtin.«tuple.__mul__» ⟨[.ref l, .int 1 u], []⟩) (fun _ R s => s.heap.get? l = some { cls := .type "tuple", dict := dd, data := .seq items n, slots := sl } ∧
      R (.ok (.ret (Value.ref l))) s) :=
  .of_wp fun prog w A R s h => by
    obtain ⟨hp, g, d, tk, os⟩ := s
    obtain ⟨hl, h⟩ := h
    have f1 := AutoSeq1.idx_int
    wp_walk using wpAny_loadPart' hl
    exact ⟨_, rfl, h⟩
theorem tuple_mul0 (l : Addr) (items : Array Value) (n : Nat) (dd : Option Addr) (sl : Array (Option Value)) (u : Tok) (he : items.isEmpty = false) :
    Meets (Builtin.«tuple.__mul__» ⟨[.ref l, .int 0 u], []⟩) (fun _ R s => s.heap.get? l = some { cls := .type "tuple", dict := dd, data := .seq items n, slots := sl } ∧
      R (.ok (.ret (Value.ref s.heap.objs.size))) { s with heap := s.heap.push { cls := Value.type "tuple", data := Data.seq #[] } }) :=
  .of_wp fun prog w A R s h => by
    obtain ⟨hp, g, d, tk, os⟩ := s
    obtain ⟨hl, h⟩ := h
    have f1 := AutoSeq1.idx_int
    have c1 : (items.isEmpty || (0 : Int) == 1) = false := by rw [he]; rfl
    wp_walk using wpAny_loadPart' hl
    repeat (first
      | (refine wpAny_ite_false (decide_eq_false (by rw [c1]; exact Bool.false_ne_true)) ?_; wp_walk using wpAny_loadPart' hl))
    exact ⟨_, rfl, h⟩
def rRep1 (K : PySem.W.Frag) : R2 := fun x y H Q => ∃ l xs, x = .ref l ∧ y = .int 1 ∧ SqT K H l xs ∧ Q (.ref l) H
def rRep0 (K : PySem.W.Frag) : R2 := fun x y H Q => ∃ l xs, x = .ref l ∧ y = .int 0 ∧ SqT K H l xs ∧ xs ≠ [] ∧ ∀ p, H p = none → Q (.ref p) (upd H p (.tup []))
theorem op_rep1 {X : Cx} : OpR X (binaryOp .Mult) (rRep1 X.K) := by
  intro pins s σ H x y v u Q I rx ry h
  obtain ⟨l, xs, rfl, rfl, hT, q⟩ := h
  cases rx
  obtain ⟨t, rfl⟩ := ry
  obtain ⟨its, r, ⟨⟨cls, dd, data, sl⟩, ho, hc, n, hd⟩, hs⟩ := I.tuple hT
  simp only at hc hd
  subst hc hd
  refine wpAny_binaryOp_repeat_ref (T := "tuple") (U := "int") (by decide) ⟨_, ho, rfl⟩ (fun s' => typeIs_int s' 1 t) noFill_tuple_mul F.fills_int_mul F.slot_int_rmul repeat_tuple F.slot_int_index.lookup
    (call_meets F.slot_int_rmul (typeIs_int s 1 t) F.entry_int_rmul (F.args_int_rmul_2 _ _) (int_rmul_tuple 1 t l its.toArray n dd sl)
      ⟨ho, rfl, ⟨_, ho, rfl⟩, call_meets F.slot_tuple_mul ⟨_, ho, rfl⟩ F.entry_tuple_mul (F.args_tuple_mul_2 _ _) (tuple_mul1 l its.toArray n dd sl t) ⟨ho, ?_⟩⟩)
  exact ⟨.ref l, H, I, rfl, q⟩
theorem op_rep0 {X : Cx} : OpR X (binaryOp .Mult) (rRep0 X.K) := by
  intro pins s σ H x y v u Q I rx ry h
  obtain ⟨l, xs, rfl, rfl, hT, hne, q⟩ := h
  cases rx
  obtain ⟨t, rfl⟩ := ry
  obtain ⟨its, r, ⟨⟨cls, dd, data, sl⟩, ho, hc, n, hd⟩, hs⟩ := I.tuple hT
  simp only at hc hd
  subst hc hd
  have hi : its.toArray.isEmpty = false := by
    cases its with
    | nil => cases r; exact absurd rfl hne
    | cons a b => rfl
  refine wpAny_binaryOp_repeat_ref (T := "tuple") (U := "int") (by decide) ⟨_, ho, rfl⟩ (fun s' => typeIs_int s' 0 t) noFill_tuple_mul F.fills_int_mul F.slot_int_rmul repeat_tuple F.slot_int_index.lookup
    (call_meets F.slot_int_rmul (typeIs_int s 0 t) F.entry_int_rmul (F.args_int_rmul_2 _ _) (int_rmul_tuple 0 t l its.toArray n dd sl)
      ⟨ho, rfl, ⟨_, ho, rfl⟩, call_meets F.slot_tuple_mul ⟨_, ho, rfl⟩ F.entry_tuple_mul (F.args_tuple_mul_2 _ _) (tuple_mul0 l its.toArray n dd sl t hi) ⟨ho, ?_⟩⟩)
  refine ⟨.ref s.heap.objs.size, _, I.laid (t' := s.toks) (o := .tup []) (fun b ob q => Heap.get?_push_of_some _ q) (Nat.le_refl _) ?_, rfl, q _ (I.hok.fresh (Nat.le_refl _))⟩
  exact ⟨Nat.zero_le _, [], .nil, IsTup.new _ _⟩
def rMulD (K : PySem.W.Frag) : R2 := fun x y H Q => rI CMulX (fun i j => .int (i * j)) x y H Q ∨ rRep x y H Q ∨ rRepT K x y H Q ∨ rRep1 K x y H Q ∨ rRep0 K x y H Q ∨ rIB (fun i j => i * j) x y H Q
theorem op_mulD {X : Cx} : OpR X (binaryOp .Mult) (rMulD X.K) := op_mulX.or (op_rep.or (op_repT.or (op_rep1.or (op_rep0.or (opIB fun _ _ _ _ _ _ q => IntBool.mul_int_bool q)))))
theorem VRs.rep {K : PySem.W.Frag} {A : ASet} {H : Hp} {xs : List V} {ds : List D} (h : VRs K A H xs ds) : ∀ k : Nat, VRs K A H (List.replicate k xs).flatten (List.replicate k ds).flatten
  | 0 => .nil
  | k + 1 => by
    rw [List.replicate_succ, List.replicate_succ, List.flatten_cons, List.flatten_cons]
    exact h.append (VRs.rep h k)
theorem od_mul {K : PySem.W.Frag} : OpD K (rMulD K) gMul := by
  intro A H x y dx dy d Q t hx hy e q
  unfold gMul at e
  split at e
  · split at e
    · rename_i hm
      cases e
      exact .inl ⟨_, _, hx.int_inv, hy.int_inv, by simpa [mulOk, CMulX] using hm, q _ H (Keep.refl _ _) (.int _)⟩
    · cases e
  · split at e
    · rename_i hm
      cases e
      obtain ⟨a, xs, rfl, hX, hxs⟩ := hx.lst_inv
      exact .inr (.inl ⟨a, _, xs, rfl, hy.int_inv, hX, by omega, by omega, by rw [hxs.length]; exact hm.2.2, fun p hp => q _ _ (keep_upd hp) (new_lst hp t (hxs.rep _))⟩)
    · cases e
  · split at e
    · rename_i k hm
      cases e
      obtain ⟨a, xs, rfl, hX, hxs⟩ := hx.tup_inv
      have hne : xs ≠ [] := fun z => hm.1 (hxs.nil_iff.mp z)
      by_cases k0 : k = 0
      · subst k0
        exact .inr (.inr (.inr (.inr (.inl ⟨a, xs, rfl, hy.int_inv, hX, hne, fun p hp => q _ _ (keep_upd hp) (new_tup hp (hxs.rep 0))⟩))))
      · by_cases k1 : k = 1
        · subst k1
          refine .inr (.inr (.inr (.inl ⟨a, xs, rfl, hy.int_inv, hX, q _ H (Keep.refl _ _) (.tup hX ?_)⟩)))
          simpa using hxs
        · exact .inr (.inr (.inl ⟨a, k, xs, rfl, hy.int_inv, hX, hne, by omega, hm.2.2.1, by rw [hxs.length]; exact hm.2.2.2, fun p hp => q _ _ (keep_upd hp) (new_tup hp (hxs.rep _))⟩))
    · cases e
  · cases e
    exact .inr (.inr (.inr (.inr (.inr ⟨_, _, hx.int_inv, hy.bl_inv, q _ H (Keep.refl _ _) (.int _)⟩))))
  · cases e
/-! ### [x] * n as a new list -/
def asLI : D → D → Option (List D)
  | .lst xs, .int k => if 0 ≤ k ∧ k < 2 ^ 20 ∧ xs.length * k.toNat ≤ sizeLine then some (List.replicate k.toNat xs).flatten else none
  | _, _ => none
section
variable {X : Cx} {F : Fx} {K : PySem.W.Frag} {p q p1 p2 p3 st st1 st2 st3 : Bool} {e a b c : Expr} {es rest : List Expr} {f f1 f2 f3 fe : DFn} {fs fs1 fs2 its : LFn} {t1 t2 tc : TFn} {pos : Pos} {s1 s2 : SFn} {s : Stmt} {ss : List Stmt} {g : GFn}
variable {σ σ1 σ2 : St} {H H1 H2 : Hp} {A : ASet}
/-! ### in, not in (flat items) -/
def flatD : D → Bool
  | .non => true
  | .bl _ => true
  | .int _ => true
  | .str _ => true
  | _ => false
theorem VR.flat {v : V} {d : D} (h : VR K A H v d) (f : flatD d = true) : flatV v = true := by
  cases h <;> first | rfl | cases f
theorem VRs.flat : ∀ {vs : List V} {ds : List D}, VRs K A H vs ds → ds.all flatD = true → vs.all flatV = true
  | _, _, .nil, _ => rfl
  | _, _, .cons h t, f => by
    rw [List.all_cons, Bool.and_eq_true] at f ⊢
    exact ⟨h.flat f.1, VRs.flat t f.2⟩
def toV : D → V
  | .non => .non
  | .bl b => .bl b
  | .int i => .int i
  | .str s => .str s
  | _ => .non
theorem VR.toV {v : V} {d : D} (h : VR K A H v d) (f : flatD d = true) : v = Dl.toV d := by
  cases h <;> first | rfl | cases f
theorem VRs.toV : ∀ {vs : List V} {ds : List D}, VRs K A H vs ds → ds.all flatD = true → vs = ds.map Dl.toV
  | _, _, .nil, _ => rfl
  | _, _, .cons h t, f => by
    rw [List.all_cons, Bool.and_eq_true] at f
    rw [List.map_cons, ← h.toV f.1, ← VRs.toV t f.2]
def gIn : D → D → Option D
  | x, .lst ds => if flatD x && ds.all flatD then some (.bl (inV (toV x) (ds.map toV))) else none
  | x, .tup ds => if flatD x && ds.all flatD then some (.bl (inV (toV x) (ds.map toV))) else none
  | _, _ => none
def gNotIn : D → D → Option D
  | x, .lst ds => if flatD x && ds.all flatD then some (.bl (!inV (toV x) (ds.map toV))) else none
  | x, .tup ds => if flatD x && ds.all flatD then some (.bl (!inV (toV x) (ds.map toV))) else none
  | _, _ => none
theorem VT.flatR {st : Bool} {v : V} {d : D} (h : VT st K A H v d) (f : flatD d = true) : VR K A H v d := by
  rcases h with h | ⟨_, _, _, _, _, e, _⟩
  · exact h
  · subst e; cases f
theorem od_in : OpD K (rIn K false) gIn := by
  intro A H x y dx dy d Q t hx hy e q
  unfold gIn at e
  split at e
  · split at e
    · rename_i hf
      rw [Bool.and_eq_true] at hf
      cases e
      obtain ⟨a, xs, rfl, hX, hxs⟩ := hy.lst_inv
      have h1 := hx.flatR hf.1
      refine ⟨a, xs, rfl, .inl (.inl (.inl hX)), h1.flat hf.1, hxs.flat hf.2, ?_⟩
      rw [h1.toV hf.1, hxs.toV hf.2]
      exact q _ H (Keep.refl _ _) (.bl _)
    · cases e
  · split at e
    · rename_i hf
      rw [Bool.and_eq_true] at hf
      cases e
      obtain ⟨a, xs, rfl, hX, hxs⟩ := hy.tup_inv
      have h1 := hx.flatR hf.1
      refine ⟨a, xs, rfl, .inr hX, h1.flat hf.1, hxs.flat hf.2, ?_⟩
      rw [h1.toV hf.1, hxs.toV hf.2]
      exact q _ H (Keep.refl _ _) (.bl _)
    · cases e
  · cases e
theorem od_notIn : OpD K (rIn K true) gNotIn := by
  intro A H x y dx dy d Q t hx hy e q
  unfold gNotIn at e
  split at e
  · split at e
    · rename_i hf
      rw [Bool.and_eq_true] at hf
      cases e
      obtain ⟨a, xs, rfl, hX, hxs⟩ := hy.lst_inv
      have h1 := hx.flatR hf.1
      refine ⟨a, xs, rfl, .inl (.inl (.inl hX)), h1.flat hf.1, hxs.flat hf.2, ?_⟩
      rw [h1.toV hf.1, hxs.toV hf.2]
      exact q _ H (Keep.refl _ _) (.bl _)
    · cases e
  · split at e
    · rename_i hf
      rw [Bool.and_eq_true] at hf
      cases e
      obtain ⟨a, xs, rfl, hX, hxs⟩ := hy.tup_inv
      have h1 := hx.flatR hf.1
      refine ⟨a, xs, rfl, .inr hX, h1.flat hf.1, hxs.flat hf.2, ?_⟩
      rw [h1.toV hf.1, hxs.toV hf.2]
      exact q _ H (Keep.refl _ _) (.bl _)
    · cases e
  · cases e
/-! ### a call whose first argument is a new list that the def may change -/
def fCallUF (m : List D → List D → Option (D × List D)) (f1 : LFn) : DFn := fun ρ => (f1 ρ).bind fun x => (m x.1 []).map fun r => (r.1, x.2)
theorem d_callUF {x : Str} {px : Pos} {k j : Nat} {m : List D → List D → Option (D × List D)} (h : Has X.prog X.w X.K X.mg X.base k x (spU X.K 1 m)) (hr : Room j X.A) (hk : k ≤ j) (hg : Gl X x) (h1 : PE X e (tL X.K F p fs)) (hdb : (x == ("__debug__" : Str)) = false := by decide)
    (he : starEach [e] X.env = (false, eval e X.env) :: starEach [] X.env := by rfl) (hpl : (backTo pos (starEach [] X.env)).any (·.1) = false := by rfl) :
    PE X (.Call (.Name x px) [e] [] pos) (tD X.K F p true (fCallUF m fs)) := by
  obtain ⟨f, fd, ps, Fk, hm, kp, b⟩ := h.ex
  refine (pe_call Fk (hr.mono hk) hg hm kp b .nil pass0 (pa_cons h1 pa_nil he) hdb he hpl).impD fun σ H Q ⟨ρ, R, d, ρ', ef, k⟩ => ?_
  unfold fCallUF at ef
  simp only [Option.bind_eq_some_iff, Option.map_eq_some_iff] at ef
  obtain ⟨⟨es, ρ1⟩, e1, ⟨dr, es2⟩, e2, e3⟩ := ef
  cases e3
  refine ⟨ρ, R, es, _, e1, fun a xs H1 s R1 n h2 v => ⟨(F.add a).W σ, a, [], xs, es, [], R1.trk', .inr (.inr (.inr rfl)), rfl, rfl, h2, v, .nil, dr, es2, e2, fun w H2 xs' k2 h3 h4 h5 => ?_⟩⟩
  have kx : Keep (F.add a).ex H1 H2 := k2.mono fun b z => .inr z
  refine k w H2 ?_ (R1.keepEx kx).drop (.of (h5.avoid fun b z => ?_))
  · refine ⟨fun b o e nn => ?_, fun b ys z e => ?_⟩
    · have e4 := s.st b o e nn
      refine k2.st b o e4 fun z => ?_
      subst z
      rw [n] at e; cases e
    · obtain ⟨ys', e4⟩ := s.ls b ys z e
      have hb : b ≠ a := by rintro rfl; rw [n] at e; cases e
      exact ⟨ys', k2.st b _ e4 fun z => absurd z hb⟩
  · rcases z with z | z | z
    · exact .inl (.inl z)
    · exact .inl (.inr (.inl z))
    · exact .inl (.inr (.inr (.inl z)))
/-! ### targets that change a list of one's own: x[e] -/
def gE (K : PySem.W.Frag) (F : Fx) (g : GFn) : TG := fun v σ H Q => ∃ d ρ, EnvR K F σ H ρ ∧ VR K (F.W σ) H v d ∧ ∃ ρ', g d ρ = some ρ' ∧ ∀ σ' H', Keep (F.Own σ) H H' → F.Own σ' = F.Own σ → F.W σ' = F.W σ → EnvR K F σ' H' ρ' → Q σ' H'
def gEs (K : PySem.W.Frag) (F : Fx) (g : GsFn) : TGs := fun vs σ H Q => ∃ ds ρ, EnvR K F σ H ρ ∧ VRs K (F.W σ) H vs ds ∧ ∃ ρ', g ds ρ = some ρ' ∧ ∀ σ' H', Keep (F.Own σ) H H' → F.Own σ' = F.Own σ → F.W σ' = F.W σ → EnvR K F σ' H' ρ' → Q σ' H'
theorem dge_name {i : Nat} {x : Str} (hN : X.N.Nodup) (hi : X.N[i]? = some x) (hx : Loc X.env.scope x) (ho : F.own.contains i = false := by rfl) (hf : X.fn x = true ∨ X.env.scope.names.lookup x = some .local := by first | exact .inl rfl | exact .inr rfl | assumption) : PG X (.Name x pos) (gE X.K F (gNm i)) :=
  (pg_name hN hi hx hf).impD fun v σ H Q ⟨d, ρ, R, hv, ρ', e, k⟩ => by
    unfold gNm at e
    split at e
    · rename_i hl
      cases e
      exact k _ H (Keep.refl _ _) (funext fun a => propext (own_set ho a)) (W_set ho) (R.set ho hl hv)
    · cases e
def gIxT (i : Nat) (fi : DFn) : GFn := fun d ρ => (ρ[i]?.join).bind fun _ => (fi ρ).bind fun y => (asI y.1).bind fun k => match y.2[i]?.join with
  | some (.lst ds) => (ixN ds.length k).map fun j => y.2.set i (some (.lst (ds.set j d)))
  | _ => none
theorem dge_sub {i : Nat} {x : Str} {px : Pos} {iv : Expr} {fi : DFn} (hx : PE X (.Name x px) (tVar i)) (hi : PE X iv (tD X.K F p st fi)) (ho : F.own.contains i = true := by rfl)
    (ha : ∀ v, assign (.Subscript (.Name x px) iv pos) X.env v = (do
      let ov ← holding [v] (eval (.Name x px) X.env)
      let iv ← holding [v, ov] (eval iv X.env)
      standAt pos
      holding [v, ov, iv] (setItem ov iv v)
      release [v, ov, iv] []) := by intro _; rfl) : PG X (.Subscript (.Name x px) iv pos) (gE X.K F (gIxT i fi)) :=
  (pg_sub hx hi set_list ha).impD fun v σ H Q ⟨d, ρ, R, hv, ρ', e, k⟩ => by
    unfold gIxT at e
    simp only [Option.bind_eq_some_iff] at e
    obtain ⟨d0, e0, ⟨di, ρ2⟩, e2, kk, e3, e4⟩ := e
    have := asI_some e3
    subst this
    dsimp only at e4
    split at e4
    · rename_i ds el
      rw [Option.map_eq_some_iff] at e4
      obtain ⟨j, e5, e6⟩ := e4
      cases e6
      obtain ⟨a, xs, g1, g2⟩ := ownV R ho e0
      refine ⟨_, g1, ρ, R, .int kk, ρ2, e2, fun vi H2 s2 R2 x2 => ?_⟩
      obtain ⟨hi, a', ys, h3, h4, h5⟩ := own_at R2 ho el
      rw [g1] at h3
      cases h3
      have x' : VR X.K (F.W σ) H2 v d := hv.keep s2 fun _ z => Fx.own_W z.2
      refine ⟨a, ys, kk, j, rfl, x2.int_inv, h4, by rw [h5.length]; exact e5, ?_⟩
      have ka : Keep (fun b => b = a) H2 (upd H2 a (.lst (ys.set j v))) := keep_at h4
      obtain ⟨R3, k3⟩ := R2.chg ho hi g1 ka upd_same ((h5.set j x').keep (ka.mono fun b z => (z ▸ ⟨i, List.contains_iff_mem.mp ho, g1⟩ : F.Own σ b)) fun _ z => Fx.own_W z)
      exact k σ _ ((s2.mono fun _ z => z.2).trans k3) rfl rfl R3
    · cases e4
theorem dge_nil : PGs X [] (gEs X.K F gsNil) := pgs_nil.impD fun v σ H Q ⟨d, ρ, R, hv, ρ', e, k⟩ => by
  unfold gsNil at e
  split at e
  · cases e
    cases hv
    exact ⟨rfl, k σ H (Keep.refl _ _) rfl rfl R⟩
  · cases e
theorem dge_cons {t : Expr} {ts : List Expr} {g : GFn} {gs : GsFn} (h1 : PG X t (gE X.K F g)) (h2 : PGs X ts (gEs X.K F gs)) (hs : (assignEach (t :: ts) X.env).map (·.2) = assign t X.env :: (assignEach ts X.env).map (·.2) := by rfl) :
    PGs X (t :: ts) (gEs X.K F (gsCons g gs)) :=
  (pgs_cons h1 h2 hs).impD fun v σ H Q ⟨d, ρ, R, hv, ρ', e, k⟩ => by
    unfold gsCons at e
    split at e
    · rw [Option.bind_eq_some_iff] at e
      obtain ⟨ρ1, e1, e2⟩ := e
      cases hv with
      | cons hv hvs =>
        refine ⟨_, _, rfl, _, ρ, R, hv, ρ1, e1, fun σ1 H1 k1 o1 w1 R1 => ⟨_, ρ1, R1, by rw [w1]; exact hvs.keep k1 fun _ z => Fx.own_W z, ρ', e2, fun σ2 H2 k2 o2 w2 R2 => k σ2 H2 (k1.trans (by rw [← o1]; exact k2)) (o2.trans o1) (w2.trans w1) R2⟩⟩
    · cases e
theorem dge_tup {ts : List Expr} {k n : Nat} {gs : GsFn} (hc : X.calm = true) (h : PGs X ts (gEs X.K F gs)) (hn : (assignEach ts X.env).length = n := by rfl) (hst : (assignEach ts X.env).findIdx? (·.1) = none := by rfl) :
    PG X (.Tuple ts k pos) (gE X.K F (gTp n gs)) :=
  (pg_tup hc h hn hst).impD fun v σ H Q ⟨d, ρ, R, hv, ρ', e, kk⟩ => by
    unfold gTp at e
    split at e
    · split at e
      · rename_i hl
        cases hv with
        | tup hX hxs => exact ⟨_, _, rfl, hX, by rw [hxs.length]; exact hl, _, ρ, R, hxs, ρ', e, kk⟩
      · cases e
    · cases e
theorem ds_asgE {tg : Expr} {g : GFn} (he : PE X e (tD X.K F p st f)) (hg : PG X tg (gE X.K F g)) (hs : swapsWithSole [tg] e pos.line X.env = pure false := by rfl) (hw : swappedStores [tg] e X.env = pure none := by rfl)
    (h1 : (assignEach [tg] X.env).map (·.2) = [assign tg X.env] := by rfl) (hst : st = true := by rfl) : PS X (.Assign [tg] e pos) (tS X.K F (fAsg g f)) := by
  subst hst
  exact (ps_asg he hg hs hw h1).impD fun D σ H ⟨ρ, R, o, e, k⟩ => by
    unfold fAsg at e
    simp only [Option.bind_eq_some_iff, Option.map_eq_some_iff] at e
    obtain ⟨⟨d, ρ1⟩, e1, ρ2, e2, e3⟩ := e
    cases e3
    exact ⟨ρ, R, d, ρ1, e1, fun v H' s' R' x => ⟨d, ρ1, R', x.stable, ρ2, e2, fun σ' H2 k2 o' _ R2 => k σ' H2 ⟨(s'.mono fun _ z => z.2).trans k2, fun a z => .inl (by rw [← o']; exact z)⟩ R2⟩⟩
end
/-- the measure of a while loop -/
def intAbs : Option D → Nat
  | some (.int i) => i.natAbs
  | _ => 0
def mu (ρ : DEnv) : Nat := 64 + (ρ.map intAbs).sum
end Dl

namespace Dl
open PySem PySem.Spec PyProof.Rows L2
/-! ### built-ins -/
theorem bt_isinstance : bootBuiltins "isinstance" = some (.builtin "isinstance") := by decide +kernel
theorem bt_len : bootBuiltins "len" = some (.builtin "len") := by decide +kernel
theorem bt_abs : bootBuiltins "abs" = some (.builtin "abs") := by decide +kernel
theorem bt_divmod : bootBuiltins "divmod" = some (.builtin "divmod") := by decide +kernel
theorem bt_all : bootBuiltins "all" = some (.builtin "all") := by decide +kernel
theorem bt_any : bootBuiltins "any" = some (.builtin "any") := by decide +kernel
theorem bt_sum : bootBuiltins "sum" = some (.builtin "sum") := by decide +kernel
theorem bt_max : bootBuiltins "max" = some (.builtin "max") := by decide +kernel
theorem bt_min : bootBuiltins "min" = some (.builtin "min") := by decide +kernel
theorem bt_tuple : bootBuiltins "tuple" = some (.type "tuple") := by decide +kernel
theorem bt_list : bootBuiltins "list" = some (.type "list") := by decide +kernel
theorem bt_int : bootBuiltins "int" = some (.type "int") := by decide +kernel
theorem bt_bool : bootBuiltins "bool" = some (.type "bool") := by decide +kernel
/-! ### a def's text -/
def Dv0 (ns : List Int) : List He.Dv := ns.map He.Dv.int
/-! ### the head's facts, with tuples of ints -/
structure Say where
  fa : List He.Fa
  fn : List He.DefD
  tu : List (Str × List Int)
  gc : Bool
abbrev AlX : Type := Bool × List He.FnW
def gcdOk (K : PySem.W.Frag) (b : Bool) : Bool := !b || decide (PySem.W.nsIn K mainGlobals "gcd" = some (some (.builtin "math.gcd")))
def obsX (S : Say) (K : PySem.W.Frag) : AlX := ((S.fa.all fun f => f.ok K) && (S.fn.all fun d => d.ok K) && (S.tu.all fun t => He.tupB K t.1 (Dv0 t.2)) && gcdOk K S.gc, S.fn.map fun d => He.fnW K d.at_)
def valX (S : Say) : AlX := (true, S.fn.map He.DefD.val)
def Says (S : Say) (K : PySem.W.Frag) : Prop := obsX S K = valX S
def obsXG (n : Nat) (S : Say) (g : Addr → Option Obj) : AlX := obsX S (He.frG g (He.asD g n))
def hookX (n : Nat) (S : Say) : PySem.W.Hook where
  α := AlX
  obs := fun s => obsXG n S s.heap.get?
  val := fun _ => valX S
  says := fun _ h => ∃ K : PySem.W.Frag, K.In h ∧ Says S K
  of := fun _ _ e => ⟨_, He.frG_in, e⟩
  keeps := fun _ _ _ ⟨K, hK, c⟩ k => ⟨K, PySem.W.Frag.In.keeps hK k, c⟩
theorem obsXG_eq {n : Nat} {S : Say} {g : Addr → Option Obj} {s : Shared} (h : ∀ a, g a = s.heap.get? a) : obsXG n S g = (hookX n S).obs s := by
  have e : g = s.heap.get? := funext h
  rw [e] <;> rfl
section
variable {S : Say} {K : PySem.W.Frag}
theorem Says.b (c : Says S K) : (S.fa.all fun f => f.ok K) = true ∧ (S.fn.all fun d => d.ok K) = true ∧ (S.tu.all fun t => He.tupB K t.1 (Dv0 t.2)) = true ∧ gcdOk K S.gc = true := by
  have h : ((S.fa.all fun f => f.ok K) && (S.fn.all fun d => d.ok K) && (S.tu.all fun t => He.tupB K t.1 (Dv0 t.2)) && gcdOk K S.gc) = true := congrArg (fun z : AlX => z.1) c
  rw [Bool.and_eq_true, Bool.and_eq_true, Bool.and_eq_true] at h
  exact ⟨h.1.1.1, h.1.1.2, h.1.2, h.2⟩
theorem Says.fact (c : Says S K) (i : Nat) {f : He.Fa} (h : S.fa[i]? = some f := by rfl) : f.ok K = true := List.all_eq_true.mp c.b.1 f (List.mem_of_getElem? h)
theorem Says.tup (c : Says S K) (i : Nat) {x : Str} {ns : List Int} (H : Hp) (h : S.tu[i]? = some (x, ns) := by rfl) : SqT K H (He.ga K x) (ns.map V.int) := by
  have h1 := He.tupB_ok (List.all_eq_true.mp c.b.2.2.1 _ (List.mem_of_getElem? h)) H
  have e : (Dv0 ns).map (He.Dv.v K) = ns.map V.int := by
    unfold Dv0
    rw [List.map_map]
    rfl
  rw [← e]
  exact h1
theorem Says.gcd {h : Heap} {mg : Str → Option Value} (c : Says S K) (X : K.In h) (G : h.Ns mainGlobals mg) (hg : S.gc = true) : mg "gcd" = some (.builtin "math.gcd") := by
  have h1 := c.b.2.2.2
  unfold gcdOk at h1
  rw [hg] at h1
  exact PySem.W.mg_of X G (of_decide_eq_true (by simpa using h1))
theorem Says.def_ (c : Says S K) (i : Nat) {d : He.DefD} (h : S.fn[i]? = some d := by rfl) : ∃ fd, FunD K d.name d.qual d.params d.body d.scope (d.dvs K) (d.kws K) (He.fAd K d.at_) fd := by
  have e : S.fn.map (fun d => He.fnW K d.at_) = S.fn.map He.DefD.val := congrArg (fun z : AlX => z.2) c
  have e2 : (S.fn.map fun d => He.fnW K d.at_)[i]? = (S.fn.map He.DefD.val)[i]? := by rw [e]
  rw [List.getElem?_map, List.getElem?_map, h] at e2
  exact He.DefD.funD (Option.some.inj e2) (List.all_eq_true.mp c.b.2.1 d (List.mem_of_getElem? h))
end
section
variable {X : Cx} {F : Fx} {pos : Pos}
/-- a module's tuple of ints, a module's int -/
theorem d_gtup {x : Str} {a : Addr} {ns : List Int} (hg : Gl X x) (hm : X.mg x = some (.ref a)) (ht : ∀ H, SqT X.K H a (ns.map V.int)) {ds : List D} (hds : ns.map D.int = ds := by rfl) (hd : (x == ("__debug__" : Str)) = false := by decide) : PE X (.Name x pos) (tD X.K F true true (fC (.tup ds))) := by
  subst hds
  exact d_C (pe_glob hg hm (v := .ref a) rfl hd) fun A H => .tup (ht H) (VRs.ints ns)
theorem d_gint {x : Str} {i : Int} {t : Tok} (hg : Gl X x) (hm : X.mg x = some (.int i t)) (hd : (x == ("__debug__" : Str)) = false := by decide) : PE X (.Name x pos) (tD X.K F true true (fC (.int i))) :=
  d_C (pe_glob hg hm (v := .int i) ⟨t, rfl⟩ hd) fun A H => .int i
theorem fNil_len : ∀ ρ ds ρ', fNil ρ = some (ds, ρ') → ds.length = 0 := fun ρ ds ρ' h => by cases h; rfl
theorem fCons_len {f : DFn} {fs : LFn} {n : Nat} (h : ∀ ρ ds ρ', fs ρ = some (ds, ρ') → ds.length = n) : ∀ ρ ds ρ', fCons f fs ρ = some (ds, ρ') → ds.length = n + 1 := fun ρ ds ρ' e => by
  unfold fCons at e
  simp only [Option.bind_eq_some_iff, Option.map_eq_some_iff] at e
  obtain ⟨⟨d1, ρ1⟩, e1, ⟨es, ρ2⟩, e2, e3⟩ := e
  cases e3
  show es.length + 1 = n + 1
  rw [h _ _ _ e2]
end
end Dl

namespace Dl
open PySem PySem.Spec PyProof.Rows L2
open Sem (wp)
/-! ### enumerate -/
set_option maxHeartbeats 1000000 in
theorem meets_en1 {v : Value} {o : Obj} {H : Heap → Prop} (B : Begins v o H) :
    Meets (Builtin.«enumerate.__new__» ⟨[.type "enumerate", v], []⟩) (fun _ R s => H s.heap ∧
      R (.ok (.ret (.ref (s.heap.push o).objs.size))) { s with heap := (s.heap.push o).push { cls := .type "enumerate", data := .fields #[.none, .bool false, .ref s.heap.objs.size, rawInt 0, .none, .none] } }) :=
  .of_wp fun prog w A R s h => by
    obtain ⟨hp, g, d, tk, os⟩ := s
    obtain ⟨h1, h⟩ := h
    have hs := sub_enumerate
    have q1 : ∀ {A' : Around} {E Q : Value → Shared → Prop}, Q (.ref hp.objs.size) ⟨hp.push o, g, d, tk, os⟩ → wpAny (model prog w) A' (pyIter v) Q E ⟨hp, g, d, tk, os⟩ := fun q => B.iter prog w _ _ ⟨hp, g, d, tk, os⟩ _ h1 q
    wp_walk using q1
    refine wpAny_stack_any fun st => wpAny_pure ?_
    split
    · rename_i c _ _ _ _ _
      cases (c == Value.type "enumerate") <;> (wp_walk using q1; exact ⟨_, rfl, h⟩)
    · wp_walk using q1
      exact ⟨_, rfl, h⟩
theorem call_en1 {prog : Program} {w : World} {A : Around} {E : Value → Shared → Prop} {s : Shared} {v : Value} {o : Obj} {H : Heap → Prop} {Q : Value → Shared → Prop} (B : Begins v o H) (h1 : H s.heap)
    (h : ∀ h', IsEnum h' (s.heap.objs.size + 1) s.heap.objs.size 0 .none → h'.get? s.heap.objs.size = some o → (∀ b o, s.heap.get? b = some o → h'.get? b = some o) → Q (.ref (s.heap.objs.size + 1)) { s with heap := h' }) :
    wpAny (model prog w) A (call (.type "enumerate") [v]) Q E s := by
  refine callType_new F.called_enumerate (by decide) (F.typeCall_enumerate_1 _) (F.newCall_enumerate_1 _) (fun obj => F.args_object_init_2 obj _) F.entry_enumerate_new (meets_en1 B) ⟨h1, ?_⟩
  have hz : (s.heap.push o).objs.size = s.heap.objs.size + 1 := Heap.size_push ..
  show _ ∧ _
  rw [hz]
  have he : IsEnum ((s.heap.push o).push { cls := .type "enumerate", data := .fields #[.none, .bool false, .ref s.heap.objs.size, rawInt 0, .none, .none] }) (s.heap.objs.size + 1) s.heap.objs.size 0 .none := by
    have q := Heap.get?_push_size (s.heap.push o) (o := { cls := .type "enumerate", data := .fields #[.none, .bool false, .ref s.heap.objs.size, rawInt 0, .none, .none] }) rfl
    rw [hz] at q
    exact q
  exact ⟨⟨_, he, rfl⟩, h _ he (Heap.get?_push_of_some _ (Heap.get?_push_size _ B.free)) fun b o x => Heap.get?_push_of_some _ (Heap.get?_push_of_some _ x)⟩
/-- the tuple at a, each item in a new pair -/
def IteT (K : PySem.W.Frag) (a : Addr) : It :=
  ⟨fun i H => ∃ (xs : List V) (x : V), SqT K H a xs ∧ xs[i]? = some x, fun i H v H' => ∃ T x, v = .ref T ∧ H T = none ∧ H' = upd H T (.tup [.int (i : Nat), x]) ∧ ∀ xs, SqT K H a xs → xs[i]? = some x, fun i H => ∃ xs : List V, SqT K H a xs ∧ xs.length ≤ i⟩
theorem turn_enumT {P : Program} {w : World} {K : PySem.W.Frag} {elts : List Expr} {kk : Nat} {tpos : Pos} (a e it : Addr) :
    Turn P w K (.Tuple elts kk tpos) (IteT K a) [e, it] e (fun i h => (∃ old, IsEnum h e it ((i : Nat) : Int) old) ∧ h.IsTupleIter it a i ∧ e ≠ it ∧ a ≠ e ∧ a ≠ it) where
  mem := by simp
  obj := fun i h st b hb => by
    obtain ⟨⟨old, he⟩, ⟨o, ho, hc, hd⟩, _⟩ := st
    have e' : b = e ∨ b = it := by simpa using hb
    rcases e' with z | z
    · rw [z]; exact ⟨_, he, fun v q => nomatch q⟩
    · rw [z]; exact ⟨o, ho, fun v q => by rw [hd] at q; cases q⟩
  keep := fun i h h' st k => let ⟨⟨old, he⟩, hi, hne⟩ := st; ⟨⟨old, k e (by simp) _ he⟩, hi.at fun o q => k it (by simp) o q, hne⟩
  item := by
    intro X hP hw hK hc i pins s σ H E I hf st hg
    subst hP hw hK
    obtain ⟨⟨old, he⟩, hit, hne, hae, hai⟩ := st
    obtain ⟨xs, x, hq, hx⟩ := hg
    obtain ⟨its, rv, p, hz⟩ := I.tuple hq
    obtain ⟨u, hu, ru⟩ := rv.get hx
    have hel : e < s.heap.objs.size := Heap.lt_size he
    have hil : it < s.heap.objs.size := by obtain ⟨_, q, _⟩ := hit; exact Heap.lt_size q
    have pt : s.heap.IsTuple a its.toArray := p
    refine wpAny_pyNext_enum_itemD (n := its.toArray.size) (i := i) (Draws.tuple (A := X.A.in1) (I.ok.hd hc) it a hai its.toArray) he ⟨hit, pt⟩ (by simpa using (List.getElem?_eq_some_iff.mp hu).1) hne (by simp only [List.mem_cons, List.not_mem_nil, or_false, not_or]; exact ⟨hne, fun z => hae z.symm⟩)
      fun y h' tk hy ho hst' hT hsz hk => ?_
    have ey : y = u := by
      have : its[i]? = some y := by simpa using hy
      rw [hu] at this
      exact (Option.some.inj this).symm
    subst ey
    refine ⟨_, rfl, wpAny_letOwnedTupleGo_enum (s := { s with heap := h', toks := tk + 1 }) ho fun h'' he' sb => ?_⟩
    have hT2 : h''.get? s.heap.objs.size = some { cls := .type "tuple", data := .seq #[.int i tk, y] } := (sb.2 _ (Nat.ne_of_gt hel)).trans hT
    have new : ObjOk X.prog X.w (upd H s.heap.objs.size (.tup [.int (i : Nat), x])) h'' s.heap.objs.size (.tup [.int (i : Nat), x]) :=
      ⟨by show 2 ≤ sizeLine; decide, [.int i tk, y], .cons ⟨_, rfl⟩ (.cons ru .nil), ⟨_, hT2, rfl, _, rfl⟩⟩
    have I1 : Inv X pins σ (upd H s.heap.objs.size (.tup [.int (i : Nat), x])) { s with heap := h'', toks := tk + 1 } :=
      I.turnedNew (ch := [e, it]) (fun b ob hb q => (sb.2 b (fun z => hb (by simp [z]))).trans (hk b ob (fun z => hb (by simp [z])) (fun z => hb (by simp [z])) q)) hf (Nat.le_refl _) new
    refine ⟨.ref s.heap.objs.size, _, I1, rfl, ⟨_, x, rfl, I.hok.fresh (Nat.le_refl _), rfl, fun ys hy => by rw [I.tuple_inj hy hq]; exact hx⟩, ⟨⟨y, ?_⟩, hst'.1.at fun o q => (sb.2 it (Ne.symm hne)).trans q, hne, hae, hai⟩, fun b hb => ?_⟩
    · have e1 : ((i + 1 : Nat) : Int) = (i : Int) + 1 := by omega
      rw [e1]; exact he'
    · have hb' : b < s.heap.objs.size := by
        have e' : b = e ∨ b = it := by simpa using hb
        rcases e' with z | z
        · rw [z]; exact hel
        · rw [z]; exact hil
      rw [upd_ne (Nat.ne_of_lt hb')]
      exact (hf b hb).1
  done := by
    intro X hP hw hK hc i pins s σ H E I hf st hg
    subst hP hw hK
    obtain ⟨⟨old, he⟩, hit, hne, hae, hai⟩ := st
    obtain ⟨xs, hq, hx⟩ := hg
    obtain ⟨its, rv, p, hz⟩ := I.tuple hq
    obtain ⟨f0, f1, f2, f3, f4, f5⟩ := hf it (by simp)
    have hl := rv.length
    have pt : s.heap.IsTuple a its.toArray := p
    have hT : s.TypeIs (.ref e) "enumerate" := ⟨_, he, rfl⟩
    unfold pyNext
    refine wpAny_bind (wpAny_attempt (wpAny_callSpecial?_slot (name := Str.ofString "__next__") hT F.slot_enumerate_next (wpAny_call_entry F.slot_enumerate_next hT F.entry_enumerate_next ?_ (F.args_enumerate_next_1 _))))
    show wpAny _ _ (field (.ref e) 2 >>= _) _ _ _
    refine wpAny_bind (wpAny_field he rfl (x := .ref it) rfl ?_)
    refine wpAny_bind (wpAny_nextOf_tuple_end (I.ok.hd hc) hit pt (by simp; omega) fun h' x eb ⟨o, ho, hcl⟩ => ?_)
    refine wpAny_bind (wpAny_isInstance (T := "StopIteration") (b := true) ⟨o, ho, hcl⟩ isSubtype_stop ?_)
    exact wpAny_pure ⟨rfl, I.turned (t' := s.toks) (fun b o hb q => eb b o hb q) f0 f1 f3 f4 f5⟩
  self := fun A i s Q E st h => let ⟨⟨_, he⟩, _⟩ := st; wpAny_pyIter_enum he h
def iEnA (K : PySem.W.Frag) (ta : TA) : TI := fun σ H R => ta σ H fun vs H1 => ∃ a xs, vs = [.ref a] ∧ ((SqL K H1 a xs ∧ R (Ite K a) H1) ∨ (SqT K H1 a xs ∧ R (IteT K a) H1))
theorem pi_enA {X : Cx} {e : Expr} {ta : TA} {p pos tpos : Pos} {elts : List Expr} {kk : Nat} (hg : Gl X "enumerate") (hm : X.mg "enumerate" = none) (ha : PA X [e] ta) (hs : starEach [e] X.env = [(false, eval e X.env)] := by rfl) :
    PI X (.Tuple elts kk tpos) (.Call (.Name "enumerate" p) [e] [] pos) (iEnA X.K ta) := by
  refine ⟨fun pins s σ H R I h => ?_⟩
  refine Call_ (ld_blt I hg hm boot_enumerate (PyProof.Rows.callWith_type1 (thn (ha.run pos pins s σ H _ I h) fun us s1 ⟨vs, H1, I1, r1, q1⟩ => ?_) hs rfl))
  obtain ⟨a, xs, ex, q1⟩ := q1
  subst ex
  cases r1 with
  | cons r rr =>
    cases rr
    cases r
    have fresh2 : ∀ b, b ∈ [s1.heap.objs.size + 1, s1.heap.objs.size] → FpOk X pins H1 b := fun b hb => by
      have e' : b = s1.heap.objs.size + 1 ∨ b = s1.heap.objs.size := by simpa using hb
      have hle : s1.heap.objs.size ≤ b := by
        rcases e' with z | z
        · rw [z]; exact Nat.le_add_right _ _
        · rw [z]; exact Nat.le_refl _
      exact I1.fpOk hle (I1.hok.fresh hle)
    rcases q1 with ⟨hq, q⟩ | ⟨hq, q⟩
    · obtain ⟨its, rv, p', hz⟩ := I1.list hq
      refine call_enumerate_list p'.isList fun h' he hit hsz hk => wpAny_pyIter_enum he ?_
      have I2 : Inv X pins σ H1 { s1 with heap := h' } := I1.kept (t' := s1.toks) hk
      exact ⟨s1.heap.objs.size + 1, _, _, _, H1, rfl, I2, turn_enum a (s1.heap.objs.size + 1) s1.heap.objs.size, ⟨⟨.none, he⟩, hit, Nat.succ_ne_self _⟩, fresh2, q⟩
    · obtain ⟨its, rv, p', hz⟩ := I1.tuple hq
      have pt : s1.heap.IsTuple a its.toArray := p'
      have hal : a < s1.heap.objs.size := by obtain ⟨_, q, _⟩ := pt; exact Heap.lt_size q
      refine call_en1 (begins_tuple a its.toArray) pt fun h' he hit hk => wpAny_pyIter_enum he ?_
      have I2 : Inv X pins σ H1 { s1 with heap := h' } := I1.kept (t' := s1.toks) hk
      exact ⟨s1.heap.objs.size + 1, _, _, _, H1, rfl, I2, turn_enumT a (s1.heap.objs.size + 1) s1.heap.objs.size, ⟨⟨.none, he⟩, ⟨_, hit, rfl, rfl⟩, Nat.succ_ne_self _, Nat.ne_of_lt (Nat.lt_succ_of_lt hal), Nat.ne_of_lt hal⟩, fresh2, q⟩
section
variable {X : Cx} {F : Fx} {K : PySem.W.Frag} {p q p1 p2 p3 st st1 st2 st3 : Bool} {e a b c : Expr} {es rest : List Expr} {f f1 f2 f3 fe : DFn} {fs fs1 fs2 its its1 : LFn} {t1 t2 tc tc1 : TFn} {pos : Pos} {s1 s2 : SFn} {s : Stmt} {ss : List Stmt} {g g1 : GFn}
variable {σ σ1 σ2 : St} {H H1 H2 : Hp} {A : ASet}
def enumD (ds : List D) : List D := ds.zipIdx.map fun z => .tup [.int (z.2 : Nat), z.1]
def fEnum (fs : LFn) : LFn := fun ρ => (fs ρ).bind fun x => match x.1 with
  | [.tup ds] => some (enumD ds, x.2)
  | [.lst ds] => some (enumD ds, x.2)
  | _ => none
theorem enum_get {ds : List D} {i : Nat} {d : D} (h : (enumD ds)[i]? = some d) : ∃ x, ds[i]? = some x ∧ d = .tup [.int (i : Nat), x] := by
  unfold enumD at h
  rw [List.getElem?_map, Option.map_eq_some_iff] at h
  obtain ⟨⟨x, j⟩, h1, rfl⟩ := h
  rw [List.getElem?_zipIdx, Option.map_eq_some_iff] at h1
  obtain ⟨y, h2, h3⟩ := h1
  cases h3
  exact ⟨x, h2, by simp⟩
theorem enum_len (ds : List D) : (enumD ds).length = ds.length := by simp [enumD]
theorem it_enT {C A0 : ASet} {a : Addr} {xs : List V} {ds : List D} (h : SqT K H a xs) (v : VRs K A0 H xs ds) : ItD K C A0 H (IteT K a) (enumD ds) := fun A H1 hC hA k => by
  have h1 : SqT K H1 a xs := SqT.keep k h
  have v1 := v.upC hC hA k
  refine ⟨fun i d e => ?_, xs, h1, by rw [enum_len, v.length]; exact Nat.le_refl _⟩
  obtain ⟨dx, e1, rfl⟩ := enum_get e
  obtain ⟨w, e2, e3⟩ := v1.get e1
  refine ⟨⟨xs, w, h1, e2⟩, fun x H' y => ?_⟩
  obtain ⟨T, x', rfl, nT, rfl, g1⟩ := y
  have := g1 xs h1
  rw [e2] at this
  cases this
  exact ⟨keep_upd nT, new_tup nT (.cons (.int _) (.cons e3 .nil))⟩
theorem it_enL {C A0 : ASet} {a : Addr} {xs : List V} {ds : List D} (h : H a = some (.lst xs)) (n : ¬ C a) (v : VRs K A0 H xs ds) : ItD K C A0 H (Ite K a) (enumD ds) := fun A H1 hC hA k => by
  have h1 : SqL K H1 a xs := .inl (.inl (k.st _ _ h fun z => absurd z n))
  have v1 := v.upC hC hA k
  refine ⟨fun i d e => ?_, xs, h1, by rw [enum_len, v.length]; exact Nat.le_refl _⟩
  obtain ⟨dx, e1, rfl⟩ := enum_get e
  obtain ⟨w, e2, e3⟩ := v1.get e1
  refine ⟨⟨xs, w, h1, e2⟩, fun x H' y => ?_⟩
  obtain ⟨T, x', rfl, nT, rfl, g1⟩ := y
  have := g1 xs h1
  rw [e2] at this
  cases this
  exact ⟨keep_upd nT, new_tup nT (.cons (.int _) (.cons e3 .nil))⟩
theorem di_enum {elts : List Expr} {kk : Nat} {px tpos : Pos} (hg : Gl X "enumerate") (hm : X.mg "enumerate" = none) (ha : PA X [a] (tAs X.K F p st fs)) (hs : starEach [a] X.env = [(false, eval a X.env)] := by rfl) :
    PI X (.Tuple elts kk tpos) (.Call (.Name "enumerate" px) [a] [] pos) (tI X.K F p st (fEnum fs)) :=
  (pi_enA hg hm ha hs).impD fun σ H Q ⟨ρ, R, ds, ρ', ef, k⟩ => by
    unfold fEnum at ef
    rw [Option.bind_eq_some_iff] at ef
    obtain ⟨⟨es, ρ1⟩, e1, e2⟩ := ef
    dsimp only at e2
    split at e2
    · cases e2
      refine ⟨ρ, R, _, _, e1, fun vs H1 s R1 x => ?_⟩
      obtain ⟨v, rfl, h⟩ := x.one
      obtain ⟨a', xs, rfl, hX, hxs⟩ := h.tup_inv
      exact ⟨a', xs, rfl, .inr ⟨hX, k _ H1 s R1 (it_enT hX hxs)⟩⟩
    · cases e2
      refine ⟨ρ, R, _, _, e1, fun vs H1 s R1 x => ?_⟩
      obtain ⟨v, rfl, h⟩ := x.one
      obtain ⟨a', xs, rfl, hX, hxs, n1⟩ := h.cases_lst
      exact ⟨a', xs, rfl, .inl ⟨.inl (.inl hX), k _ H1 s R1 (it_enL hX (fun z => n1 z.1 (Fx.chg_W z.2)) hxs)⟩⟩
    · cases e2
end
end Dl

namespace Dl
open PySem PySem.Spec PyProof.Rows L2
section
variable {X : Cx} {F : Fx} {K : PySem.W.Frag} {p q p1 p2 p3 p4 st st1 st2 st3 : Bool} {e a b c : Expr} {es rest : List Expr} {f f1 f2 f3 fe : DFn} {fs fs1 fs2 its its1 : LFn} {t1 t2 tc tc1 : TFn} {pos : Pos} {s1 s2 : SFn} {s : Stmt} {ss : List Stmt} {g g1 : GFn}
variable {σ σ1 σ2 : St} {H H1 H2 : Hp} {A : ASet}
/-! ### comprehensions of two clauses -/
def compD2 (g : GFn) (c : TFn) (its1 : LFn) (g1 : GFn) (c1 : TFn) (e : DFn) (vs1 : List Nat) (ρ : DEnv) : List D → Option (List D)
  | [] => some []
  | d :: ds => (g d ρ).bind fun ρ1 => (c ρ1).bind fun b => if b.1 then (its1 b.2).bind fun x => (compD g1 c1 e (wipeD x.2 vs1) x.1).bind fun ys => (compD2 g c its1 g1 c1 e vs1 ρ ds).map (ys ++ ·) else compD2 g c its1 g1 c1 e vs1 ρ ds
def fComp2 (its : LFn) (g : GFn) (c : TFn) (its1 : LFn) (g1 : GFn) (c1 : TFn) (e : DFn) (vs vs1 : List Nat) : LFn := fun ρ => (its ρ).bind fun x => (compD2 g c its1 g1 c1 e vs1 (wipeD x.2 vs) x.1).bind fun ys => if ys.length ≤ sizeLine then some (ys, x.2) else none
def tIX (K : PySem.W.Frag) (F : Fx) (f : LFn) : TI := fun σ H R => ∃ d, tI K (F.add d) true true f σ H R
theorem pi_X {tg : Expr} (h : ∀ d, PI X tg e (tI X.K (F.add d) true true its)) : PI X tg e (tIX X.K F its) := ⟨fun pins s σ H R I ⟨d, hw⟩ => (h d).run pins s σ H R I hw⟩
theorem wipe_sub {is vs : List Nat} {σ' : St} (gs : GStp is (wipe σ vs) σ') (h : ∀ i, i ∈ is → i ∈ vs) : wipe σ' vs = wipe σ vs := wipe_eq gs h
theorem tLc2_of {is is1 vs vs1 : List Nat} (hv : (vs.any fun i => F.own.contains i) = false) (hv1 : (vs1.any fun i => F.own.contains i) = false) (his : (is.all fun i => vs.contains i) = true) (his1 : (is1.all fun i => vs1.contains i) = true) :
    ∀ (σ : St) (H : Hp) (Q : VK), tL K F p (fComp2 its g tc its1 g1 tc1 fe vs vs1) σ H Q → tLc2 (tI K F p st its) (gX K F is g) (tTX K F tc) (tIX K F its1) (gX K F is1 g1) (tTX K F tc1) (tDX K F fe) vs vs1 σ H Q :=
  fun σ H Q ⟨ρ, R, ys, ρ', ef, k⟩ => by
    unfold fComp2 at ef
    rw [Option.bind_eq_some_iff] at ef
    obtain ⟨⟨ds, ρ1⟩, e1, e2⟩ := ef
    rw [Option.bind_eq_some_iff] at e2
    obtain ⟨zs, e3, e2⟩ := e2
    dsimp only at e3 e2
    split at e2
    · rename_i hz
      cases e2
      refine ⟨ρ, R, ds, _, e1, fun J H1 s R1 it d nd => ?_⟩
      have k1 : Keep0 H1 (upd H1 d (.lst [])) := keep_upd nd
      have Rd : EnvR K (F.add d) σ (upd H1 d (.lst [])) ρ' := R1.add k1 nd (by rw [upd_same]; intro z; cases z)
      have hvd := add_own_any (F := F) (d := d) hv
      have hvd1 := add_own_any (F := F) (d := d) hv1
      let W : Nat → Nat → Hp → Prop := fun i m H' => m = ds.length - i ∧ i ≤ ds.length ∧ Keep0 H1 H' ∧ EnvR K (F.add d) σ H' ρ' ∧
        ∃ acc as rest, H' d = some (.lst acc) ∧ VRs K ((F.add d).W σ) H' acc as ∧ compD2 g tc its1 g1 tc1 fe vs1 (wipeD ρ' vs) (ds.drop i) = some rest ∧ ys = as ++ rest
      refine ⟨W, ⟨ds.length, by simp, Nat.zero_le _, k1, Rd, [], [], ys, upd_same, .nil, by simpa using e3, rfl⟩, fun i m H' w => ?_⟩
      obtain ⟨em, hi, kk, R', acc, as, rest, hd, va, ec, ey⟩ := w
      have hWv : (F.add d).W (wipe σ vs) = (F.add d).W σ := W_eq hvd fun j hj => wipe_get hj
      obtain ⟨go, stop⟩ := it ((F.add d).W (wipe σ vs)) H' (fun a z => by rw [hWv]; exact z.2.elim (fun y => .inr (.inl y)) fun y => .inr (.inr (.inl y))) (fun a z => by
        rw [hWv] at z
        rcases z with z | z | z | z
        · exact .inl (.inl z)
        · exact .inl (.inr (.inl z))
        · exact .inl (.inr (.inr z))
        · exact .inr (z ▸ nd)) kk.any
      by_cases hlt : i < ds.length
      · rw [drop_cons hlt] at ec
        unfold compD2 at ec
        simp only [Option.bind_eq_some_iff] at ec
        obtain ⟨ρ2, e5, ⟨b, ρ3⟩, e6, e7⟩ := ec
        obtain ⟨h1, h2⟩ := go i ds[i] (List.getElem?_eq_getElem hlt)
        refine .inr ⟨h1, W (i + 1) (ds.length - (i + 1)), fun H3 w3 => ⟨_, by omega, w3⟩, fun x H2 y => ?_⟩
        obtain ⟨k2, vx⟩ := h2 x H2 y
        have R2 := R'.keep k2
        refine ⟨d, ds[i], wipeD ρ' vs, R2.wipe hvd, vx, ρ2, e5, fun σ2 gs o2 w2 R3 => ⟨wipe_eq gs fun j hj => List.contains_iff_mem.mp (List.all_eq_true.mp his j hj), d, ρ2, R3, b, ρ3, e6, fun H3 s3 R4 => ?_⟩⟩
        have k3 : Keep0 H' H3 := k2.trans (Stp.pure s3)
        have RR := R'.keep k3
        have kF : Keep0 H1 H3 := kk.trans k3
        have hd3 : H3 d = some (.lst acc) := k3.st _ _ hd fun z => z.elim
        have va3 := va.keep k3 fun _ z => z.elim
        have hW2 : (F.add d).W σ2 = (F.add d).W σ := w2.trans hWv
        cases b with
        | false =>
          simp only [Bool.false_eq_true, if_false] at e7
          exact iteF ⟨rfl, hlt, kF, RR, acc, as, rest, hd3, va3, e7, ey⟩
        | true =>
          simp only [if_true, Option.bind_eq_some_iff, Option.map_eq_some_iff] at e7
          obtain ⟨⟨es, ρ4⟩, e8, in1, e9, r2, e10, rfl⟩ := e7
          dsimp only at e9
          refine iteT ⟨d, ρ3, R4, es, ρ4, e8, fun J1 H4 s4 R5 it1 => ?_⟩
          have k4 : Keep0 H3 H4 := Stp.pure s4
          have hW2v : (F.add d).W (wipe σ2 vs1) = (F.add d).W σ2 := W_eq hvd1 fun j hj => wipe_get hj
          let W1 : Nat → Nat → Hp → Prop := fun j m H' => m = es.length - j ∧ j ≤ es.length ∧ Keep (fun a => a = d) H4 H' ∧ Keep0 H1 H' ∧ EnvR K (F.add d) σ H' ρ' ∧ EnvR K (F.add d) σ2 H' ρ4 ∧
            ∃ acc as rest, H' d = some (.lst acc) ∧ VRs K ((F.add d).W σ) H' acc as ∧ compD g1 tc1 fe (wipeD ρ4 vs1) (es.drop j) = some rest ∧ ys = as ++ (rest ++ r2)
          refine ⟨W1, ⟨es.length, by simp, Nat.zero_le _, Keep.refl _ _, kF.trans k4, RR.keep k4, R5, acc, as, in1, k4.st _ _ hd3 fun z => z.elim, va3.keep k4 fun _ z => z.elim, by simpa using e9, by rw [ey]⟩, fun j m1 H5 w1 => ?_⟩
          obtain ⟨em1, hj, kd5, k05, RS, RS2, acc1, as1, rest1, hd5, va5, ec1, ey1⟩ := w1
          obtain ⟨go1, stop1⟩ := it1 ((F.add d).W (wipe σ2 vs1)) H5 (fun a z => by rw [hW2v]; exact Fx.chg_W z.2) (fun a z => .inl (by rw [hW2v] at z; exact z)) (kd5.mono fun a z => ⟨rfl, .inr (.inr z)⟩)
          by_cases hlt1 : j < es.length
          · rw [drop_cons hlt1] at ec1
            unfold compD at ec1
            simp only [Option.bind_eq_some_iff] at ec1
            obtain ⟨ρ5, f5, ⟨b1, ρ6⟩, f6, f7⟩ := ec1
            obtain ⟨h3, h4⟩ := go1 j es[j] (List.getElem?_eq_getElem hlt1)
            refine .inr ⟨h3, W1 (j + 1) (es.length - (j + 1)), fun H6 w6 => ⟨_, by omega, w6⟩, fun x1 H6 y1 => ?_⟩
            obtain ⟨k6, vx1⟩ := h4 x1 H6 y1
            have R6 := RS2.keep k6
            refine ⟨d, es[j], wipeD ρ4 vs1, R6.wipe hvd1, vx1, ρ5, f5, fun σ3 gs3 o3 w3 R7 => ⟨wipe_eq gs3 fun l hl => List.contains_iff_mem.mp (List.all_eq_true.mp his1 l hl), d, ρ5, R7, b1, ρ6, f6, fun H7 s7 R8 => ?_⟩⟩
            have k7 : Keep0 H5 H7 := k6.trans (Stp.pure s7)
            have hd7 : H7 d = some (.lst acc1) := k7.st _ _ hd5 fun z => z.elim
            have va7 := va5.keep k7 fun _ z => z.elim
            have hW3 : (F.add d).W σ3 = (F.add d).W σ := (w3.trans hW2v).trans hW2
            cases b1 with
            | false =>
              simp only [Bool.false_eq_true, if_false] at f7
              exact iteF ⟨rfl, hlt1, kd5.trans k7.any, k05.trans k7, RS.keep k7, RS2.keep k7, acc1, as1, rest1, hd7, va7, f7, ey1⟩
            | true =>
              simp only [if_true, Option.bind_eq_some_iff, Option.map_eq_some_iff] at f7
              obtain ⟨⟨dy, ρ7⟩, f8, r3, f9, rfl⟩ := f7
              refine iteT ⟨d, ρ6, R8, dy, ρ7, f8, fun yv H8 s8 R9 vy => ?_⟩
              have k8 : Keep0 H7 H8 := Stp.pure s8
              have k58 : Keep0 H5 H8 := k7.trans k8
              have hd8 : H8 d = some (.lst acc1) := k8.st _ _ hd7 fun z => z.elim
              have va8 := va7.keep k8 fun _ z => z.elim
              have vy8 : VR K ((F.add d).W σ) H8 yv dy := by rw [← hW3]; exact vy.stable
              have kd : Keep (fun a => a = d) H8 (upd H8 d (.lst (acc1 ++ [yv]))) := keep_at hd8
              have kdx : Keep (F.add d).ex H8 (upd H8 d (.lst (acc1 ++ [yv]))) := kd.mono fun a z => .inr z
              have hly : as1.length < ys.length := by rw [ey1]; simp only [List.length_append, List.length_cons]; omega
              refine ⟨acc1, hd8, by rw [va8.length]; omega, rfl, hlt1, (kd5.trans k58.any).trans kd, ?_, (RS.keep k58).keepEx kdx, (RS2.keep k58).keepEx kdx, acc1 ++ [yv], as1 ++ [dy], r3, upd_same, (va8.snoc vy8).keep kdx fun a z => .inr (.inr z), f9, by simp [ey1]⟩
              refine ⟨fun a o e _ => ?_, fun _ _ z => z.elim⟩
              have hne : a ≠ d := by rintro rfl; rw [nd] at e; cases e
              rw [upd_ne hne]
              exact k58.st _ _ (k05.st _ _ e fun z => z.elim) fun z => z.elim
          · have hje : j = es.length := by omega
            subst hje
            rw [List.drop_length] at ec1
            cases ec1
            exact .inl ⟨stop1, rfl, hlt, k05, RS, acc1, as1, r2, hd5, va5, e10, by simpa using ey1⟩
      · have hie : i = ds.length := by omega
        subst hie
        rw [List.drop_length] at ec
        cases ec
        rw [List.append_nil] at ey
        subst ey
        refine .inl ⟨stop, k d acc H' ((s.trans (q := true) (Stp.of kk)).weak (by simp)) R' ?_ hd va⟩
        cases e : H d with
        | none => rfl
        | some o => exact absurd nd (s.tr (by rw [e]; intro z; cases z))
    · cases e2
theorem l_comp2 {elt tg iter tg1 iter1 : Expr} {ifs ifs1 : List Expr} {scope : Scope} {own : List (Str × Nat)} {is is1 : List Nat} (vs1 : List Nat) (hc : X.calm = true) (hN : X.N.Nodup) (hi : PI X tg iter (tI X.K F p st its)) (ok : BlkOk X.N X.env.scope scope own)
    (hg : ∀ (s : Shared) (H : Hp) (C : Addr) (cl : List (Str × Addr)) (fp : List Addr) (d : Addr), PG (X.blk s H scope (compEnvC scope cl C X.env) fp) tg (gD X.K (F.add d) is g))
    (ht : ∀ (s : Shared) (H : Hp) (C : Addr) (cl : List (Str × Addr)) (fp : List Addr) (d : Addr), PTs (X.blk s H scope (compEnvC scope cl C X.env) fp) ifs (tT X.K (F.add d) p1 tc))
    (hi1 : ∀ (s : Shared) (H : Hp) (C : Addr) (cl : List (Str × Addr)) (fp : List Addr) (d : Addr), PI (X.blk s H scope (compEnvC scope cl C X.env) fp) tg1 iter1 (tI X.K (F.add d) p3 st3 its1))
    (hg1 : ∀ (s : Shared) (H : Hp) (C : Addr) (cl : List (Str × Addr)) (fp : List Addr) (d : Addr), PG (X.blk s H scope (compEnvC scope cl C X.env) fp) tg1 (gD X.K (F.add d) is1 g1))
    (ht1 : ∀ (s : Shared) (H : Hp) (C : Addr) (cl : List (Str × Addr)) (fp : List Addr) (d : Addr), PTs (X.blk s H scope (compEnvC scope cl C X.env) fp) ifs1 (tT X.K (F.add d) p4 tc1))
    (he : ∀ (s : Shared) (H : Hp) (C : Addr) (cl : List (Str × Addr)) (fp : List Addr) (d : Addr), PE (X.blk s H scope (compEnvC scope cl C X.env) fp) elt (tD X.K (F.add d) p2 st2 fe))
    {vs : List Nat} (hvs : own.map (·.2) = vs := by rfl) (hv1s : (vs1.all fun i => vs.contains i) = true := by rfl) (hv : (vs.any fun i => F.own.contains i) = false := by rfl) (hv1 : (vs1.any fun i => F.own.contains i) = false := by rfl) (his : (is.all fun i => vs.contains i) = true := by rfl) (his1 : (is1.all fun i => vs1.contains i) = true := by rfl)
    (hs : ∀ x, foldedSetIterable iter X.env x = pure x := by intro _; rfl) (hs1 : ∀ env x, foldedSetIterable iter1 env x = pure x := by intro _ _; rfl)
    (hp1 : p1 = true := by rfl) (hp2 : p2 = true := by rfl) (hst2 : st2 = true := by rfl) (hp3 : p3 = true := by rfl) (hst3 : st3 = true := by rfl) (hp4 : p4 = true := by rfl) :
    PE X (.ListComp elt [⟨tg, iter, ifs, 0⟩, ⟨tg1, iter1, ifs1, 0⟩] scope pos) (tL X.K F p (fComp2 its g tc its1 g1 tc1 fe vs vs1)) := by
  subst hvs hp1 hp2 hst2 hp3 hst3 hp4
  exact (pe_lc2 hc hN hi ok (fun i hi => by
      have := List.all_eq_true.mp hv1s i hi
      exact List.contains_iff_mem.mp this) (fun s H C cl fp => pg_X (X := X.blk s H scope (compEnvC scope cl C X.env) fp) (hg s H C cl fp)) (fun s H C cl fp => pts_X (X := X.blk s H scope (compEnvC scope cl C X.env) fp) (ht s H C cl fp))
    (fun s H C cl fp => pi_X (X := X.blk s H scope (compEnvC scope cl C X.env) fp) (hi1 s H C cl fp)) (fun s H C cl fp => pg_X (X := X.blk s H scope (compEnvC scope cl C X.env) fp) (hg1 s H C cl fp)) (fun s H C cl fp => pts_X (X := X.blk s H scope (compEnvC scope cl C X.env) fp) (ht1 s H C cl fp))
    (fun s H C cl fp => pe_X (X := X.blk s H scope (compEnvC scope cl C X.env) fp) (he s H C cl fp)) hs hs1).impD (tLc2_of hv hv1 his his1)
theorem ds_compL2 {i : Nat} {y : Str} {py : Pos} {spos : Pos} {elt tg iter tg1 iter1 : Expr} {ifs ifs1 : List Expr} {scope : Scope} {own : List (Str × Nat)} {is is1 : List Nat} (vs1 : List Nat) (hc : X.calm = true) (hN : X.N.Nodup) (hy : X.N[i]? = some y) (hyl : X.env.scope.names.lookup y = some .local)
    (hsw : swapsWith (.ListComp elt [⟨tg, iter, ifs, 0⟩, ⟨tg1, iter1, ifs1, 0⟩] scope pos) (some (.Name y py)) spos.line X.env = pure true) (hi : PI X tg iter (tI X.K F p st its)) (ok : BlkOk X.N X.env.scope scope own)
    (hg : ∀ (s : Shared) (H : Hp) (C : Addr) (cl : List (Str × Addr)) (fp : List Addr) (d : Addr), PG (X.blk s H scope (compEnvC scope cl C X.env) fp) tg (gD X.K (F.add d) is g))
    (ht : ∀ (s : Shared) (H : Hp) (C : Addr) (cl : List (Str × Addr)) (fp : List Addr) (d : Addr), PTs (X.blk s H scope (compEnvC scope cl C X.env) fp) ifs (tT X.K (F.add d) p1 tc))
    (hi1 : ∀ (s : Shared) (H : Hp) (C : Addr) (cl : List (Str × Addr)) (fp : List Addr) (d : Addr), PI (X.blk s H scope (compEnvC scope cl C X.env) fp) tg1 iter1 (tI X.K (F.add d) p3 st3 its1))
    (hg1 : ∀ (s : Shared) (H : Hp) (C : Addr) (cl : List (Str × Addr)) (fp : List Addr) (d : Addr), PG (X.blk s H scope (compEnvC scope cl C X.env) fp) tg1 (gD X.K (F.add d) is1 g1))
    (ht1 : ∀ (s : Shared) (H : Hp) (C : Addr) (cl : List (Str × Addr)) (fp : List Addr) (d : Addr), PTs (X.blk s H scope (compEnvC scope cl C X.env) fp) ifs1 (tT X.K (F.add d) p4 tc1))
    (he : ∀ (s : Shared) (H : Hp) (C : Addr) (cl : List (Str × Addr)) (fp : List Addr) (d : Addr), PE (X.blk s H scope (compEnvC scope cl C X.env) fp) elt (tD X.K (F.add d) p2 st2 fe))
    {vs : List Nat} (hvs : own.map (·.2) = vs := by rfl) (hv1s : (vs1.all fun i => vs.contains i) = true := by rfl) (hv : (vs.any fun i => F.own.contains i) = false := by rfl) (hv1 : (vs1.any fun i => F.own.contains i) = false := by rfl) (his : (is.all fun i => vs.contains i) = true := by rfl) (his1 : (is1.all fun i => vs1.contains i) = true := by rfl)
    (hs : ∀ x, foldedSetIterable iter X.env x = pure x := by intro _; rfl) (hs1 : ∀ env x, foldedSetIterable iter1 env x = pure x := by intro _ _; rfl)
    (hp1 : p1 = true := by rfl) (hp2 : p2 = true := by rfl) (hst2 : st2 = true := by rfl) (hp3 : p3 = true := by rfl) (hst3 : st3 = true := by rfl) (hp4 : p4 = true := by rfl)
    (ho : F.own.contains i = true := by rfl) (hio : F.io.any (fun p => p.1 == i) = false := by rfl) :
    PS X (.Assign [.Name y py] (.ListComp elt [⟨tg, iter, ifs, 0⟩, ⟨tg1, iter1, ifs1, 0⟩] scope pos) spos) (tS X.K F (fSetL i (fComp2 its g tc its1 g1 tc1 fe vs vs1))) := by
  subst hvs hp1 hp2 hst2 hp3 hst3 hp4
  exact (ps_setLc2 hc hN hy hyl hsw hi ok (fun i hi => by
      have := List.all_eq_true.mp hv1s i hi
      exact List.contains_iff_mem.mp this) (fun s H C cl fp => pg_X (X := X.blk s H scope (compEnvC scope cl C X.env) fp) (hg s H C cl fp)) (fun s H C cl fp => pts_X (X := X.blk s H scope (compEnvC scope cl C X.env) fp) (ht s H C cl fp))
    (fun s H C cl fp => pi_X (X := X.blk s H scope (compEnvC scope cl C X.env) fp) (hi1 s H C cl fp)) (fun s H C cl fp => pg_X (X := X.blk s H scope (compEnvC scope cl C X.env) fp) (hg1 s H C cl fp)) (fun s H C cl fp => pts_X (X := X.blk s H scope (compEnvC scope cl C X.env) fp) (ht1 s H C cl fp))
    (fun s H C cl fp => pe_X (X := X.blk s H scope (compEnvC scope cl C X.env) fp) (he s H C cl fp)) hs hs1).impD fun D σ H ⟨ρ, R, o, e, k⟩ => by
    refine tLc2_of (g := g) (tc := tc) (fe := fe) (its := its) (is := is) (its1 := its1) (g1 := g1) (tc1 := tc1) (is1 := is1) (p := p) (st := st) hv hv1 his his1 σ H _ ?_
    unfold fSetL at e
    rw [Option.bind_eq_some_iff] at e
    obtain ⟨⟨d, ρ1⟩, e1, e2⟩ := e
    dsimp only at e2
    split at e2
    · rename_i hl
      cases e2
      exact ⟨ρ, R, d, ρ1, e1, fun a xs H' s' R' n e v => k _ H' (.new (s'.mono fun _ z => z.2) n) (R'.setL ho hio hl (ex_new R n) e v)⟩
    · cases e2
theorem ds_comp2 {i : Nat} {y : Str} {py : Pos} {spos : Pos} {elt tg iter tg1 iter1 : Expr} {ifs ifs1 : List Expr} {scope : Scope} {own : List (Str × Nat)} {is is1 : List Nat} (vs1 : List Nat) (hc : X.calm = true) (hN : X.N.Nodup) (hy : X.N[i]? = some y) (hyl : X.env.scope.names.lookup y = some .local)
    (hsw : swapsWith (.ListComp elt [⟨tg, iter, ifs, 0⟩, ⟨tg1, iter1, ifs1, 0⟩] scope pos) (some (.Name y py)) spos.line X.env = pure true) (hi : PI X tg iter (tI X.K F p st its)) (ok : BlkOk X.N X.env.scope scope own)
    (hg : ∀ (s : Shared) (H : Hp) (C : Addr) (cl : List (Str × Addr)) (fp : List Addr) (d : Addr), PG (X.blk s H scope (compEnvC scope cl C X.env) fp) tg (gD X.K (F.add d) is g))
    (ht : ∀ (s : Shared) (H : Hp) (C : Addr) (cl : List (Str × Addr)) (fp : List Addr) (d : Addr), PTs (X.blk s H scope (compEnvC scope cl C X.env) fp) ifs (tT X.K (F.add d) p1 tc))
    (hi1 : ∀ (s : Shared) (H : Hp) (C : Addr) (cl : List (Str × Addr)) (fp : List Addr) (d : Addr), PI (X.blk s H scope (compEnvC scope cl C X.env) fp) tg1 iter1 (tI X.K (F.add d) p3 st3 its1))
    (hg1 : ∀ (s : Shared) (H : Hp) (C : Addr) (cl : List (Str × Addr)) (fp : List Addr) (d : Addr), PG (X.blk s H scope (compEnvC scope cl C X.env) fp) tg1 (gD X.K (F.add d) is1 g1))
    (ht1 : ∀ (s : Shared) (H : Hp) (C : Addr) (cl : List (Str × Addr)) (fp : List Addr) (d : Addr), PTs (X.blk s H scope (compEnvC scope cl C X.env) fp) ifs1 (tT X.K (F.add d) p4 tc1))
    (he : ∀ (s : Shared) (H : Hp) (C : Addr) (cl : List (Str × Addr)) (fp : List Addr) (d : Addr), PE (X.blk s H scope (compEnvC scope cl C X.env) fp) elt (tD X.K (F.add d) p2 st2 fe))
    {vs : List Nat} (hvs : own.map (·.2) = vs := by rfl) (hv1s : (vs1.all fun i => vs.contains i) = true := by rfl) (hv : (vs.any fun i => F.own.contains i) = false := by rfl) (hv1 : (vs1.any fun i => F.own.contains i) = false := by rfl) (his : (is.all fun i => vs.contains i) = true := by rfl) (his1 : (is1.all fun i => vs1.contains i) = true := by rfl)
    (hs : ∀ x, foldedSetIterable iter X.env x = pure x := by intro _; rfl) (hs1 : ∀ env x, foldedSetIterable iter1 env x = pure x := by intro _ _; rfl)
    (hp1 : p1 = true := by rfl) (hp2 : p2 = true := by rfl) (hst2 : st2 = true := by rfl) (hp3 : p3 = true := by rfl) (hst3 : st3 = true := by rfl) (hp4 : p4 = true := by rfl)
    (ho : F.own.contains i = false := by rfl) :
    PS X (.Assign [.Name y py] (.ListComp elt [⟨tg, iter, ifs, 0⟩, ⟨tg1, iter1, ifs1, 0⟩] scope pos) spos) (tS X.K F (fSet i (fOfL (fComp2 its g tc its1 g1 tc1 fe vs vs1)))) := by
  subst hvs hp1 hp2 hst2 hp3 hst3 hp4
  exact (ps_setLc2 hc hN hy hyl hsw hi ok (fun i hi => by
      have := List.all_eq_true.mp hv1s i hi
      exact List.contains_iff_mem.mp this) (fun s H C cl fp => pg_X (X := X.blk s H scope (compEnvC scope cl C X.env) fp) (hg s H C cl fp)) (fun s H C cl fp => pts_X (X := X.blk s H scope (compEnvC scope cl C X.env) fp) (ht s H C cl fp))
    (fun s H C cl fp => pi_X (X := X.blk s H scope (compEnvC scope cl C X.env) fp) (hi1 s H C cl fp)) (fun s H C cl fp => pg_X (X := X.blk s H scope (compEnvC scope cl C X.env) fp) (hg1 s H C cl fp)) (fun s H C cl fp => pts_X (X := X.blk s H scope (compEnvC scope cl C X.env) fp) (ht1 s H C cl fp))
    (fun s H C cl fp => pe_X (X := X.blk s H scope (compEnvC scope cl C X.env) fp) (he s H C cl fp)) hs hs1).impD fun D σ H ⟨ρ, R, o, e, k⟩ => by
    refine tLc2_of (g := g) (tc := tc) (fe := fe) (its := its) (is := is) (its1 := its1) (g1 := g1) (tc1 := tc1) (is1 := is1) (p := p) (st := st) hv hv1 his his1 σ H _ ?_
    unfold fSet fOfL at e
    simp only [Option.bind_eq_some_iff, Option.map_eq_some_iff] at e
    obtain ⟨⟨d, ρ1⟩, ⟨⟨ds, ρ2⟩, e0, e1⟩, e2⟩ := e
    cases e1
    dsimp only at e2
    split at e2
    · rename_i hl
      cases e2
      refine ⟨ρ, R, ds, ρ2, e0, fun a xs H' s' R' n e v => k _ H' ⟨s'.mono fun _ z => z.2, fun a z => .inl ((own_set ho a).mp z)⟩ (R'.drop.set ho hl ?_)⟩
      refine .lst (fun z => R.trk z n) e (v.avoid fun b z => ?_)
      rcases z with z | z | z
      · exact .inl (.inl z)
      · exact .inl (.inr (.inl z))
      · exact .inl (.inr (.inr (.inl z)))
    · cases e2
end
end Dl

namespace Dl
open PySem PySem.Spec PyProof.Rows L2
section
variable {X : Cx} {F : Fx} {K : PySem.W.Frag} {p q p1 p2 p3 p4 st st1 st2 st3 : Bool} {e a b c : Expr} {es rest : List Expr} {f f1 f2 f3 fe : DFn} {fs fs1 fs2 its its1 : LFn} {t1 t2 tc tc1 : TFn} {pos : Pos} {s1 s2 : SFn} {s : Stmt} {ss : List Stmt} {g g1 : GFn}
variable {σ σ1 σ2 : St} {H H1 H2 : Hp} {A : ASet}
/-! ### several targets, some of them lists of one's own -/
def MR (K : PySem.W.Frag) (σ : St) (H' : Hp) (ρ' : DEnv) : List Bool → Fx → Hp → List V → List D → Prop
  | [], F, H1, vs, ds => vs = [] ∧ ds = [] ∧ EnvR K F σ H' ρ' ∧ Keep (F.Own σ) H1 H'
  | false :: ks, F, H1, vs, ds => ∃ v vs' d ds' H2, vs = v :: vs' ∧ ds = d :: ds' ∧ Keep (F.Own σ) H1 H2 ∧ VR K (F.W σ) H2 v d ∧ MR K σ H' ρ' ks F H2 vs' ds'
  | true :: ks, F, H1, vs, ds => ∃ a xs vs' es ds' H2, vs = .ref a :: vs' ∧ ds = .lst es :: ds' ∧ Keep (F.Own σ) H1 H2 ∧ H1 a = none ∧ H2 a = some (.lst xs) ∧ VRs K ((F.add a).W σ) H2 xs es ∧ ¬ F.ex a ∧ ¬ F.Own σ a ∧ MR K σ H' ρ' ks (F.add a) H2 vs' ds'
def tM (K : PySem.W.Frag) (F : Fx) (ks : List Bool) (fs : LFn) : TA := fun σ H Q => ∃ ρ, EnvR K F σ H ρ ∧ ∃ ds ρ', fs ρ = some (ds, ρ') ∧ ∀ vs H', MR K σ H' ρ' ks F H vs ds → Q vs H'
theorem dm_nil : PA X [] (tM X.K F [] fNil) := pa_nil.impD fun σ H Q ⟨ρ, R, ds, ρ', e, k⟩ => by
  cases e
  exact k [] H ⟨rfl, rfl, R, Keep.refl _ _⟩
theorem fCons_some {ρ ρ' : DEnv} {ds : List D} (h : fCons f fs ρ = some (ds, ρ')) : ∃ d ρ1 es, f ρ = some (d, ρ1) ∧ fs ρ1 = some (es, ρ') ∧ ds = d :: es := by
  unfold fCons at h
  simp only [Option.bind_eq_some_iff, Option.map_eq_some_iff] at h
  obtain ⟨⟨d, ρ1⟩, e1, ⟨es, ρ2⟩, e2, e3⟩ := h
  cases e3
  exact ⟨d, ρ1, es, e1, e2, rfl⟩
theorem dm_D {ks : List Bool} (ha : PE X a (tD X.K F p st f)) (hr : PA X es (tM X.K F ks fs)) (hst : st = true := by rfl) (hs : starEach (a :: es) X.env = (false, eval a X.env) :: starEach es X.env := by rfl) : PA X (a :: es) (tM X.K F (false :: ks) (fCons f fs)) := by
  subst hst
  exact (pa_cons ha hr hs).impD fun σ H Q ⟨ρ, R, ds, ρ', e, k⟩ => by
    obtain ⟨d, ρ1, es', e1, e2, rfl⟩ := fCons_some e
    exact ⟨ρ, R, d, ρ1, e1, fun v H1 s R1 x => ⟨ρ1, R1, es', ρ', e2, fun vs H' m => k (v :: vs) H' ⟨v, vs, d, es', H1, rfl, rfl, s.mono fun _ z => z.2, x.stable, m⟩⟩⟩
theorem dm_L {ks : List Bool} (ha : PE X a (tL X.K F p fs1)) (hr : ∀ d, PA X es (tM X.K (F.add d) ks fs)) (hs : starEach (a :: es) X.env = (false, eval a X.env) :: starEach es X.env := by rfl) : PA X (a :: es) (tM X.K F (true :: ks) (fCons (fOfL fs1) fs)) := by
  have hr' : PA X es (fun σ H Q => ∃ d, tM X.K (F.add d) ks fs σ H Q) := ⟨fun pos pins s σ H Q I ⟨d, h⟩ => (hr d).run pos pins s σ H Q I h⟩
  exact (pa_cons ha hr' hs).impD fun σ H Q ⟨ρ, R, ds, ρ', e, k⟩ => by
    obtain ⟨d, ρ1, es', e1, e2, rfl⟩ := fCons_some e
    unfold fOfL at e1
    rw [Option.map_eq_some_iff] at e1
    obtain ⟨⟨xs', ρ2⟩, e3, e4⟩ := e1
    cases e4
    refine ⟨ρ, R, xs', ρ2, e3, fun a xs H1 s R1 n h v => ⟨a, ρ2, R1, es', ρ', e2, fun vs H' m => k (.ref a :: vs) H' ⟨a, xs, vs, xs', es', H1, rfl, rfl, s.mono fun _ z => z.2, n, h, v, fun z => (R.exT a z).1 n, fun z => ?_, m⟩⟩⟩
    obtain ⟨ys, e⟩ := R.ownT z
    rw [n] at e
    cases e
def setV (σ : St) : List Nat → List V → St
  | i :: is, v :: vs => (setV σ is vs).set i (some v)
  | _, _ => σ
def setD (ρ : DEnv) : List Nat → List D → DEnv
  | i :: is, d :: ds => (setD ρ is ds).set i (some d)
  | _, _ => ρ
theorem setD_len {ρ : DEnv} : ∀ (is : List Nat) (ds : List D), (setD ρ is ds).length = ρ.length
  | [], _ => by simp [setD]
  | _ :: _, [] => by simp [setD]
  | i :: is, d :: ds => by simp [setD, setD_len is ds]
/-- how the targets must lie -/
def okT (F : Fx) (n : Nat) : List Bool → List Nat → Bool
  | [], [] => true
  | k :: ks, i :: is => decide (i < n) && (F.own.contains i == k) && !(F.io.any fun p => p.1 == i) && okT F n ks is
  | _, _ => false
theorem VR.up {B A1 : ASet} {v : V} {d : D} (h : VR K A H v d) (k : Keep B H H1) (s : ∀ x, B x → A x) (t : ∀ x, A1 x → A x ∨ H x = none) : VR K A1 H1 v d := by
  have h1 : VR K (fun x => A x ∨ A1 x) H v d := h.avoid fun x z => z.elim .inl (t x)
  exact (h1.keep k fun x z => .inl (s x z)).avoid fun x z => .inl (.inr z)
theorem none_back {B : ASet} {x : Addr} (k : Keep B H H1) (h : H1 x = none) : H x = none := by
  cases e : H x with
  | none => rfl
  | some o => exact absurd h (k.tr (by rw [e]; intro z; cases z))
theorem MR.fin {H' : Hp} {ρ' : DEnv} : ∀ {ks : List Bool} {F : Fx} {H : Hp} {vs : List V} {ds : List D} {is : List Nat}, MR K σ H' ρ' ks F H vs ds → okT F ρ'.length ks is = true →
    EnvR K F (setV σ is vs) H' (setD ρ' is ds) ∧ Keep (F.Own σ) H H' ∧ ∀ x, F.Own (setV σ is vs) x → F.Own σ x ∨ H x = none
  | [], F, H, vs, ds, is, m, ok => by
    obtain ⟨rfl, rfl, R, k⟩ := m
    cases is with
    | nil => exact ⟨by simpa [setV, setD] using R, k, fun x z => .inl (by simpa [setV] using z)⟩
    | cons i is => cases ok
  | false :: ks, F, H, vs, ds, is, m, ok => by
    obtain ⟨v, vs', d, ds', H2, rfl, rfl, k, x, m⟩ := m
    cases is with
    | nil => cases ok
    | cons i is =>
      simp only [okT, Bool.and_eq_true, decide_eq_true_eq, beq_iff_eq] at ok
      obtain ⟨⟨⟨hl, ho⟩, hio⟩, ok⟩ := ok
      obtain ⟨R, k2, o⟩ := MR.fin m ok
      have hx : VR K (F.W (setV σ is vs')) H' v d := x.up k2 (fun y z => .inr (.inl z)) fun y z => by
        rcases z with z | z | z
        · exact .inl (.inl z)
        · exact (o y z).imp (fun z => .inr (.inl z)) id
        · exact .inl (.inr (.inr z))
      refine ⟨R.set ho (by rw [setD_len]; exact hl) hx, k.trans k2, fun y z => ?_⟩
      exact (o y ((own_set ho y).mp z)).imp id (none_back k)
  | true :: ks, F, H, vs, ds, is, m, ok => by
    obtain ⟨a, xs, vs', es, ds', H2, rfl, rfl, k, n, h, x, nx, no, m⟩ := m
    cases is with
    | nil => cases ok
    | cons i is =>
      simp only [okT, Bool.and_eq_true, decide_eq_true_eq, beq_iff_eq] at ok
      obtain ⟨⟨⟨hl, ho⟩, hio⟩, ok⟩ := ok
      obtain ⟨R, k2, o⟩ := MR.fin (F := F.add a) m (by
        have e : ∀ (ks : List Bool) (is : List Nat), okT (F.add a) ρ'.length ks is = okT F ρ'.length ks is := fun ks => by
          induction ks with
          | nil => intro is; cases is <;> rfl
          | cons k ks ih => intro is; cases is with
            | nil => rfl
            | cons i is => show (_ && _) = (_ && _); rw [ih]; rfl
        rw [e]; exact ok)
      have hx : VRs K ((F.add a).W (setV σ is vs')) H' xs es := x.up k2 (fun y z => .inr (.inl z)) fun y z => by
        rcases z with z | z | z
        · exact .inl (.inl z)
        · exact (o y z).imp (fun z => .inr (.inl z)) id
        · exact .inl (.inr (.inr z))
      have h2 : H' a = some (.lst xs) := k2.st a _ h fun z => absurd z no
      refine ⟨EnvR.setL R ho (by simpa using hio) (by rw [setD_len]; exact hl) nx h2 hx, k.trans k2, fun y ⟨j, hj, e⟩ => ?_⟩
      replace e : ((setV σ is vs').set i (some (V.ref a)))[j]? = some (some (V.ref y)) := e
      by_cases hji : i = j
      · subst hji
        by_cases hl2 : i < (setV σ is vs').length
        · rw [List.getElem?_set_self hl2] at e
          cases e
          exact .inr n
        · rw [List.getElem?_eq_none (by simpa using hl2)] at e
          cases e
      · rw [List.getElem?_set_ne hji] at e
        exact (o y ⟨j, hj, e⟩).imp id (none_back k)
theorem MR.len {H' : Hp} {ρ' : DEnv} : ∀ {ks : List Bool} {F : Fx} {H : Hp} {vs : List V} {ds : List D}, MR K σ H' ρ' ks F H vs ds → vs.length = ks.length ∧ ds.length = ks.length
  | [], F, H, vs, ds, m => by
    obtain ⟨rfl, rfl, _⟩ := m
    exact ⟨rfl, rfl⟩
  | false :: ks, F, H, vs, ds, m => by
    obtain ⟨v, vs', d, ds', H2, rfl, rfl, k, x, m⟩ := m
    exact ⟨congrArg (· + 1) m.len.1, congrArg (· + 1) m.len.2⟩
  | true :: ks, F, H, vs, ds, m => by
    obtain ⟨a, xs, vs', es, ds', H2, rfl, rfl, k, n, h, x, nx, no, m⟩ := m
    exact ⟨congrArg (· + 1) m.len.1, congrArg (· + 1) m.len.2⟩
theorem MR.post {ρ' : DEnv} {ks : List Bool} {is : List Nat} {vs : List V} {ds : List D} {H' : Hp} (m : MR K σ H' ρ' ks F H vs ds) (ok : okT F ρ'.length ks is = true) : StpS F σ H (setV σ is vs) H' ∧ EnvR K F (setV σ is vs) H' (setD ρ' is ds) :=
  ⟨⟨(m.fin ok).2.1, (m.fin ok).2.2⟩, (m.fin ok).1⟩
def okI (F : Fx) : List Bool → List Nat → Bool
  | [], [] => true
  | k :: ks, i :: is => (F.own.contains i == k) && !(F.io.any fun p => p.1 == i) && okI F ks is
  | _, _ => false
theorem okT_of {n : Nat} : ∀ {ks : List Bool} {is : List Nat}, okI F ks is = true → (∀ i, i ∈ is → i < n) → okT F n ks is = true
  | [], [], _, _ => rfl
  | k :: ks, i :: is, h, l => by
    simp only [okI, Bool.and_eq_true] at h
    simp only [okT, Bool.and_eq_true, decide_eq_true_eq]
    exact ⟨⟨⟨l i List.mem_cons_self, h.1.1⟩, h.1.2⟩, okT_of h.2 fun j hj => l j (List.mem_cons_of_mem _ hj)⟩
  | [], _ :: _, h, _ => by cases h
  | _ :: _, [], h, _ => by cases h
theorem ds_m2 {i j : Nat} {x y : Str} {px py pt : Pos} {kt k2 pt2} {k1 k2' : Bool} (hc : X.calm = true) (hN : X.N.Nodup) (hi : X.N[i]? = some x) (hj : X.N[j]? = some y) (hx : X.env.scope.names.lookup x = some .local) (hy : X.env.scope.names.lookup y = some .local)
    (ha : PA X [a, b] (tM X.K F [k1, k2'] fs)) (hw : swappedStores [.Tuple [.Name x px, .Name y py] kt pt] (.Tuple [a, b] k2 pt2) X.env = pure (some [x, y])) (hij : i ≠ j := by decide) (hok : okI F [k1, k2'] [i, j] = true := by rfl)
    (hs : swapsWithSole [.Tuple [.Name x px, .Name y py] kt pt] (.Tuple [a, b] k2 pt2) pos.line X.env = pure false := by rfl) :
    PS X (.Assign [.Tuple [.Name x px, .Name y py] kt pt] (.Tuple [a, b] k2 pt2) pos) (tS X.K F (fPar i j fs)) :=
  (ps_par hc hN hi hj hij hx hy ha hw hs).impD fun D σ H ⟨ρ, R, o, e, k⟩ => by
    unfold fPar at e
    rw [Option.bind_eq_some_iff] at e
    obtain ⟨⟨ds, ρ1⟩, e1, e2⟩ := e
    dsimp only at e2
    split at e2
    · split at e2
      · rename_i hl
        cases e2
        refine ⟨ρ, R, _, ρ1, e1, fun vs H' m => ?_⟩
        have hlen := m.len.1
        match vs, hlen with
        | [v1, v2], _ =>
          obtain ⟨q1, q2⟩ := m.post (is := [i, j]) (okT_of hok (by simp [hl]))
          refine ⟨v1, v2, rfl, ?_⟩
          have e1 : setV σ [i, j] [v1, v2] = (σ.set i (some v1)).set j (some v2) := List.set_comm _ _ (Ne.symm hij)
          have e2 : ∀ d e, setD ρ1 [i, j] [d, e] = (ρ1.set i (some d)).set j (some e) := fun d e => List.set_comm _ _ (Ne.symm hij)
          rw [e1] at q1 q2
          rw [e2] at q2
          exact k _ H' q1 q2
      · cases e2
    · cases e2
theorem ds_m3 {i j l : Nat} {x y z : Str} {px py pz pt : Pos} {kt k2 pt2} {ks : List Bool} (hc : X.calm = true) (hN : X.N.Nodup) (hi : X.N[i]? = some x) (hj : X.N[j]? = some y) (hl : X.N[l]? = some z) (hx : X.env.scope.names.lookup x = some .local) (hy : X.env.scope.names.lookup y = some .local) (hz : X.env.scope.names.lookup z = some .local)
    (ha : PA X [a, b, c] (tM X.K F ks fs)) (hw : swappedStores [.Tuple [.Name x px, .Name y py, .Name z pz] kt pt] (.Tuple [a, b, c] k2 pt2) X.env = pure (some [x, y, z])) (hij : i ≠ j := by decide) (hil : i ≠ l := by decide) (hjl : j ≠ l := by decide)
    (hok : okI F ks [i, j, l] = true := by rfl) (hks : ks.length = 3 := by rfl)
    (hs : swapsWithSole [.Tuple [.Name x px, .Name y py, .Name z pz] kt pt] (.Tuple [a, b, c] k2 pt2) pos.line X.env = pure false := by rfl) :
    PS X (.Assign [.Tuple [.Name x px, .Name y py, .Name z pz] kt pt] (.Tuple [a, b, c] k2 pt2) pos) (tS X.K F (fPar3 i j l fs)) :=
  (ps_par3 hc hN hi hj hl hij hil hjl hx hy hz ha hw hs).impD fun D σ H ⟨ρ, R, o, e, k⟩ => by
    unfold fPar3 at e
    rw [Option.bind_eq_some_iff] at e
    obtain ⟨⟨ds, ρ1⟩, e1, e2⟩ := e
    dsimp only at e2
    split at e2
    · split at e2
      · rename_i hl
        cases e2
        refine ⟨ρ, R, _, ρ1, e1, fun vs H' m => ?_⟩
        have hlen := m.len.1.trans hks
        match vs, hlen with
        | [v1, v2, v3], _ =>
          obtain ⟨q1, q2⟩ := m.post (is := [i, j, l]) (okT_of hok (by simp [hl]))
          refine ⟨v1, v2, v3, rfl, ?_⟩
          have e1 : setV σ [i, j, l] [v1, v2, v3] = ((σ.set i (some v1)).set j (some v2)).set l (some v3) := by
            show ((σ.set l (some v3)).set j (some v2)).set i (some v1) = _
            rw [List.set_comm _ _ (Ne.symm hij), List.set_comm _ _ (Ne.symm hil), List.set_comm _ _ (Ne.symm hjl)]
          have e2 : ∀ d e f, setD ρ1 [i, j, l] [d, e, f] = ((ρ1.set i (some d)).set j (some e)).set l (some f) := fun d e f => by
            show ((ρ1.set l (some f)).set j (some e)).set i (some d) = _
            rw [List.set_comm _ _ (Ne.symm hij), List.set_comm _ _ (Ne.symm hil), List.set_comm _ _ (Ne.symm hjl)]
          rw [e1] at q1 q2
          rw [e2] at q2
          exact k _ H' q1 q2
      · cases e2
    · cases e2
/-! through a tuple: a name among the targets is captured -/
theorem ds_n2 {i j : Nat} {x y : Str} {px py pt : Pos} {kt k2 pt2} {k1 k2' : Bool} (hc : X.calm = true) (hN : X.N.Nodup) (hi : X.N[i]? = some x) (hj : X.N[j]? = some y) (hx : Loc X.env.scope x) (hy : Loc X.env.scope y)
    (ha : PA X [a, b] (tM X.K F [k1, k2'] fs)) (hs : swapsWithSole [.Tuple [.Name x px, .Name y py] kt pt] (.Tuple [a, b] k2 pt2) pos.line X.env = pure false := by rfl) (hw : swappedStores [.Tuple [.Name x px, .Name y py] kt pt] (.Tuple [a, b] k2 pt2) X.env = pure none := by rfl)
    (h1 : (assignEach [.Tuple [.Name x px, .Name y py] kt pt] X.env).map (·.2) = [assign (.Tuple [.Name x px, .Name y py] kt pt) X.env] := by rfl) (hn : (assignEach [.Name x px, .Name y py] X.env).length = 2 := by rfl) (hst : (assignEach [.Name x px, .Name y py] X.env).findIdx? (·.1) = none := by rfl)
    (hq : (assignEach [.Name x px, .Name y py] X.env).map (·.2) = assign (.Name x px) X.env :: (assignEach [.Name y py] X.env).map (·.2) := by rfl) (hq2 : (assignEach [.Name y py] X.env).map (·.2) = assign (.Name y py) X.env :: (assignEach [] X.env).map (·.2) := by rfl)
    (hij : i ≠ j := by decide) (hok : okI F [k1, k2'] [i, j] = true := by rfl)
    (hf : X.fn x = true ∨ X.env.scope.names.lookup x = some .local := by first | exact .inl rfl | exact .inr rfl | assumption) (hf2 : X.fn y = true ∨ X.env.scope.names.lookup y = some .local := by first | exact .inl rfl | exact .inr rfl | assumption) :
    PS X (.Assign [.Tuple [.Name x px, .Name y py] kt pt] (.Tuple [a, b] k2 pt2) pos) (tS X.K F (fPar i j fs)) :=
  (ps_asg (pe_tup ha) (pg_tup hc (pgs_cons (pg_name hN hi hx hf) (pgs_cons (pg_name hN hj hy hf2) pgs_nil hq2) hq) hn hst) hs hw h1).impD fun D σ H ⟨ρ, R, o, e, k⟩ => by
    unfold fPar at e
    rw [Option.bind_eq_some_iff] at e
    obtain ⟨⟨ds, ρ1⟩, e1, e2⟩ := e
    dsimp only at e2
    split at e2
    · split at e2
      · rename_i hl
        cases e2
        refine ⟨ρ, R, _, ρ1, e1, fun vs H' m => ?_⟩
        have hlen := m.len.1
        match vs, hlen with
        | [v1, v2], _ =>
          obtain ⟨q1, q2⟩ := m.post (is := [i, j]) (okT_of hok (by simp [hl]))
          refine ⟨by show 2 ≤ sizeLine; decide, fun t nt => ?_⟩
          have kt : Keep0 H' (upd H' t (.tup [v1, v2])) := keep_upd nt
          refine ⟨t, _, rfl, .inl (.inl upd_same), rfl, _, _, rfl, _, _, rfl, rfl, ?_⟩
          have e1 : setV σ [i, j] [v1, v2] = (σ.set i (some v1)).set j (some v2) := List.set_comm _ _ (Ne.symm hij)
          have e2 : ∀ d e, setD ρ1 [i, j] [d, e] = (ρ1.set i (some d)).set j (some e) := fun d e => List.set_comm _ _ (Ne.symm hij)
          rw [e1] at q1 q2
          rw [e2] at q2
          exact k _ _ (q1.trans (.chg kt.any)) (q2.keep kt)
      · cases e2
    · cases e2
theorem ds_n3 {i j l : Nat} {x y z : Str} {px py pz pt : Pos} {kt k2 pt2} {ks : List Bool} (hc : X.calm = true) (hN : X.N.Nodup) (hi : X.N[i]? = some x) (hj : X.N[j]? = some y) (hl : X.N[l]? = some z) (hx : Loc X.env.scope x) (hy : Loc X.env.scope y) (hz : Loc X.env.scope z)
    (ha : PA X [a, b, c] (tM X.K F ks fs)) (hs : swapsWithSole [.Tuple [.Name x px, .Name y py, .Name z pz] kt pt] (.Tuple [a, b, c] k2 pt2) pos.line X.env = pure false := by rfl) (hw : swappedStores [.Tuple [.Name x px, .Name y py, .Name z pz] kt pt] (.Tuple [a, b, c] k2 pt2) X.env = pure none := by rfl)
    (h1 : (assignEach [.Tuple [.Name x px, .Name y py, .Name z pz] kt pt] X.env).map (·.2) = [assign (.Tuple [.Name x px, .Name y py, .Name z pz] kt pt) X.env] := by rfl) (hn : (assignEach [.Name x px, .Name y py, .Name z pz] X.env).length = 3 := by rfl) (hst : (assignEach [.Name x px, .Name y py, .Name z pz] X.env).findIdx? (·.1) = none := by rfl)
    (hq : (assignEach [.Name x px, .Name y py, .Name z pz] X.env).map (·.2) = assign (.Name x px) X.env :: (assignEach [.Name y py, .Name z pz] X.env).map (·.2) := by rfl) (hq2 : (assignEach [.Name y py, .Name z pz] X.env).map (·.2) = assign (.Name y py) X.env :: (assignEach [.Name z pz] X.env).map (·.2) := by rfl) (hq3 : (assignEach [.Name z pz] X.env).map (·.2) = assign (.Name z pz) X.env :: (assignEach [] X.env).map (·.2) := by rfl)
    (hij : i ≠ j := by decide) (hil : i ≠ l := by decide) (hjl : j ≠ l := by decide) (hok : okI F ks [i, j, l] = true := by rfl) (hks : ks.length = 3 := by rfl)
    (hf : X.fn x = true ∨ X.env.scope.names.lookup x = some .local := by first | exact .inl rfl | exact .inr rfl | assumption) (hf2 : X.fn y = true ∨ X.env.scope.names.lookup y = some .local := by first | exact .inl rfl | exact .inr rfl | assumption) (hf3 : X.fn z = true ∨ X.env.scope.names.lookup z = some .local := by first | exact .inl rfl | exact .inr rfl | assumption) :
    PS X (.Assign [.Tuple [.Name x px, .Name y py, .Name z pz] kt pt] (.Tuple [a, b, c] k2 pt2) pos) (tS X.K F (fPar3 i j l fs)) :=
  (ps_asg (pe_tup ha) (pg_tup hc (pgs_cons (pg_name hN hi hx hf) (pgs_cons (pg_name hN hj hy hf2) (pgs_cons (pg_name hN hl hz hf3) pgs_nil hq3) hq2) hq) hn hst) hs hw h1).impD fun D σ H ⟨ρ, R, o, e, k⟩ => by
    unfold fPar3 at e
    rw [Option.bind_eq_some_iff] at e
    obtain ⟨⟨ds, ρ1⟩, e1, e2⟩ := e
    dsimp only at e2
    split at e2
    · split at e2
      · rename_i hl
        cases e2
        refine ⟨ρ, R, _, ρ1, e1, fun vs H' m => ?_⟩
        have hlen := m.len.1.trans hks
        match vs, hlen with
        | [v1, v2, v3], _ =>
          obtain ⟨q1, q2⟩ := m.post (is := [i, j, l]) (okT_of hok (by simp [hl]))
          refine ⟨by show 3 ≤ sizeLine; decide, fun t nt => ?_⟩
          have kt : Keep0 H' (upd H' t (.tup [v1, v2, v3])) := keep_upd nt
          refine ⟨t, _, rfl, .inl (.inl upd_same), rfl, _, _, rfl, _, _, rfl, _, _, rfl, rfl, ?_⟩
          have e1 : setV σ [i, j, l] [v1, v2, v3] = ((σ.set i (some v1)).set j (some v2)).set l (some v3) := by
            show ((σ.set l (some v3)).set j (some v2)).set i (some v1) = _
            rw [List.set_comm _ _ (Ne.symm hij), List.set_comm _ _ (Ne.symm hil), List.set_comm _ _ (Ne.symm hjl)]
          have e2 : ∀ d e f, setD ρ1 [i, j, l] [d, e, f] = ((ρ1.set i (some d)).set j (some e)).set l (some f) := fun d e f => by
            show ((ρ1.set l (some f)).set j (some e)).set i (some d) = _
            rw [List.set_comm _ _ (Ne.symm hij), List.set_comm _ _ (Ne.symm hil), List.set_comm _ _ (Ne.symm hjl)]
          rw [e1] at q1 q2
          rw [e2] at q2
          exact k _ _ (q1.trans (.chg kt.any)) (q2.keep kt)
      · cases e2
    · cases e2
/-! ### a star among items -/
def fStar (f : DFn) (fs : LFn) : LFn := fun ρ => (f ρ).bind fun x => (itemsD x.1).bind fun ds => (fs x.2).map fun y => (ds ++ y.1, y.2)
theorem VTs.app {st : Bool} : ∀ {xs ys : List V} {ds es : List D}, VTs st K A H xs ds → VTs st K A H ys es → VTs st K A H (xs ++ ys) (ds ++ es)
  | _, _, _, _, .nil, h => h
  | _, _, _, _, .cons h t, g => .cons h (VTs.app t g)
theorem da_star {sp : Pos} (he : PE X e (tD X.K F p1 st1 f)) (hr : PA X es (tAs X.K F p2 st fs)) (hs : starEach (.Starred e sp :: es) X.env = (true, eval e X.env) :: starEach es X.env := by rfl) : PA X (.Starred e sp :: es) (tAs X.K F (p1 && p2) st (fStar f fs)) :=
  (_root_.StX.pa_star he hr hs).impD fun σ H Q ⟨ρ, R, ds, ρ', e, k⟩ => by
    unfold fStar at e
    simp only [Option.bind_eq_some_iff, Option.map_eq_some_iff] at e
    obtain ⟨⟨d, ρ1⟩, e1, ds', e2, ⟨ys, ρ2⟩, e3, e4⟩ := e
    cases e4
    refine ⟨ρ, R, d, ρ1, e1, fun x H1 s1 R1 v => ?_⟩
    have get : ∃ a xs, x = .ref a ∧ (SqT X.K H1 a xs ∨ SqL X.K H1 a xs) ∧ VRs X.K (F.W σ) H1 xs ds' := by
      dsimp only at e2
      unfold itemsD at e2
      split at e2
      · cases e2
        obtain ⟨a, xs, rfl, hX, hxs⟩ := v.tup_inv
        exact ⟨a, xs, rfl, .inl hX, hxs⟩
      · cases e2
        obtain ⟨a, xs, rfl, hX, hxs⟩ := v.lst_inv
        exact ⟨a, xs, rfl, .inr (.inl (.inl hX)), hxs⟩
      · cases e2
    obtain ⟨a, xs, rfl, hX, hxs⟩ := get
    exact ⟨a, xs, rfl, hX, ρ1, R1, ys, _, e3, fun vs H2 s2 R2 vv => k (xs ++ vs) H2 (s1.trans s2) R2 (VTs.app (.of (hxs.keep s2 fun _ z => Fx.own_W z.2)) vv)⟩
end
end Dl

namespace Dl
open PySem PySem.Spec PyProof.Rows L2 HT
section
variable {prog : Program} {w : World} {A : Around} {E : Value → Shared → Prop} {s : Shared}
theorem rev_places (n : Nat) : Builtin.Slice.slicePlaces ((n : Int) - 1) (-1) (-1) = n := by
  unfold Builtin.Slice.slicePlaces
  rw [if_neg (by decide)]
  split
  · show (((n : Int) - 1 - -1 - 1) / 1 + 1).toNat = n
    rw [Int.ediv_one]
    omega
  · show (0 : Int).toNat = n
    omega
theorem fm_all {α β : Type} {f : α → Option β} {g : α → β} : ∀ {l : List α}, (∀ a, a ∈ l → f a = some (g a)) → l.filterMap f = l.map g
  | [], _ => rfl
  | a :: r, h => by rw [List.filterMap_cons, h a List.mem_cons_self, List.map_cons, fm_all fun b hb => h b (List.mem_cons_of_mem _ hb)]
theorem rev_pick (xs : Array Value) : ((List.range xs.size).filterMap fun (m : Nat) => xs[(((xs.size : Int) - 1) + (m : Int) * (-1)).toNat]?).toArray = xs.toList.reverse.toArray := by
  have h : (List.range xs.size).filterMap (fun (m : Nat) => xs[(((xs.size : Int) - 1) + (m : Int) * (-1)).toNat]?) = (List.range xs.size).map (fun m => xs.toList.reverse[m]?.getD .none) := by
    refine fm_all fun m hm => ?_
    have hm : m < xs.size := List.mem_range.mp hm
    have e : (((xs.size : Int) - 1) + (m : Int) * (-1)).toNat = xs.size - 1 - m := by omega
    rw [e]
    have h1 : xs.size - 1 - m < xs.size := by omega
    rw [Array.getElem?_eq_getElem h1, List.getElem?_reverse (by simpa using hm), List.getElem?_eq_getElem (by simpa using h1)]
    simp
  rw [h]
  congr 1
  apply List.ext_getElem
  · simp
  · intro i h1 h2
    simp only [List.getElem_map, List.getElem_range]
    rw [List.getElem?_eq_getElem h2]
    rfl
theorem getItem_tup_rev {t sl : Addr} {items : Array Value} {vl vu vs : Value} {Q : Value → Shared → Prop} (ht : IsTup s.heap t items) (hs : s.heap.IsSliceOf sl vl vu vs) (pl : IsPart vl none) (pu : IsPart vu none) (ps : IsPart vs (some (-1)))
    (h : Q (.ref s.heap.objs.size) { s with heap := s.heap.push { cls := .type "tuple", data := .seq items.toList.reverse.toArray } })
    (hsz : items.size ≤ sizeLine) : wpAny (model prog w) A (getItem (.ref t) (.ref sl)) Q E s := by
  have hz : sizeOk (.seq items.toList.reverse.toArray) := by
    show items.toList.reverse.toArray.size ≤ sizeLine
    rw [List.size_toArray, List.length_reverse, Array.length_toList]
    exact hsz
  obtain ⟨os, hos, hcs, hds⟩ := id hs
  have hTs : s.TypeIs (.ref sl) "slice" := ⟨os, hos, hcs⟩
  unfold getItem
  try with_reducible refine wpAny_holding ?_
  first | refine wpAny_bind (wpAny_pure ?_) | skip
  refine wpAny_bind (wpAny_sequenceKey ht.typeIs (by decide) ?_)
  refine wpAny_bind (wpAny_callSpecial?_slot (name := Str.ofString "__getitem__") ht.typeIs PyProof.Rows.slot_tuple_getitem
    (wpAny_call_entry PyProof.Rows.slot_tuple_getitem ht.typeIs entry_tuple_getitem ?_ (args_tuple_getitem _ _)))
  show wpAny _ _ (Builtin.Tuple.tupleItemsOf (.ref t) >>= _) _ _ s
  refine wpAny_bind (tupleItemsOf_ ht ?_)
  refine wpAny_bind (wpAny_typeOf hTs ?_)
  rw [if_pos (by decide)]
  have app : ∀ {Q : Int × Int × Nat → Shared → Prop}, Q ((items.size : Int) - 1, -1, items.size) s → wpAny (model prog w) A.in1 (Builtin.Slice.sliceApplied (.ref sl) (pure (items.size : Int))) Q (fun e s' => E e s') s := by
    intro Q q
    unfold Builtin.Slice.sliceApplied Builtin.Slice.sliceFields
    refine wpAny_bind (wpAny_bind (wpAny_field hos hds (x := vl) rfl (wpAny_bind (wpAny_field hos hds (x := vu) rfl (wpAny_bind (wpAny_field hos hds (x := vs) rfl (wpAny_pure ?_)))))))
    refine wpAny_bind (slicePart_ ps ?_)
    show wpAny _ _ (if ((-1 : Int) == 0) = true then _ else _) _ _ s
    rw [if_neg (by decide)]
    refine wpAny_bind (slicePart_ pl (wpAny_bind (slicePart_ pu (wpAny_bind (wpAny_pure ?_)))))
    show wpAny _ _ (pure ((items.size : Int) - 1, (-1 : Int), Builtin.Slice.slicePlaces ((items.size : Int) - 1) (-1) (-1))) _ _ s
    rw [rev_places]
    exact wpAny_pure q
  refine wpAny_bind (app ?_)
  have hno : ¬ ((((items.size : Int) - 1) == 0 && (-1 : Int) == 1 && items.size == items.size) = true) := by
    intro q
    rw [Bool.and_eq_true, Bool.and_eq_true] at q
    exact absurd q.1.2 (by decide)
  show wpAny _ _ (if (((items.size : Int) - 1) == 0 && (-1 : Int) == 1 && items.size == items.size) = true then _ else _) _ _ s
  rw [if_neg hno, rev_pick]
  first
    | exact wpAny_bind (m := Builtin.Tuple.tupleExact _) (wpAny_newObj_type (wpAny_pure ⟨_, rfl, wpAny_pure h⟩) hz)
    | exact wpAny_bind (m := Builtin.Tuple.tupleExact _) (wpAny_newObj_type (wpAny_bind (wpAny_pure (wpAny_pure ⟨_, rfl, wpAny_pure h⟩))) hz)
    | exact wpAny_bind (wpAny_bind (m := Builtin.Tuple.tupleExact _) (wpAny_newObj_type (wpAny_pure (wpAny_pure ⟨_, rfl, wpAny_pure h⟩)) hz))
    | exact wpAny_bind (wpAny_bind (m := Builtin.Tuple.tupleExact _) (wpAny_newObj_type (wpAny_pure ⟨_, rfl, wpAny_pure h⟩) hz))
end
section
variable {X : Cx} {F : Fx} {K : PySem.W.Frag} {p q p1 p2 p3 p4 st st1 st2 st3 : Bool} {e a b c : Expr} {es rest : List Expr} {f f1 f2 f3 fe : DFn} {fs fs1 fs2 its its1 : LFn} {t1 t2 tc tc1 : TFn} {pos : Pos} {s1 s2 : SFn} {s : Stmt} {ss : List Stmt} {g g1 : GFn}
variable {σ σ1 σ2 : St} {H H1 H2 : Hp} {A : ASet}
/-! ### [::-1] -/
def tRevTL (K : PySem.W.Frag) (te : TE) : TE := fun σ H Q => te σ H fun x H1 => ∃ a xs, x = .ref a ∧ ((SqL K H1 a xs ∧ ∀ p, H1 p = none → Q (.ref p) (upd H1 p (.lst xs.reverse))) ∨ (SqT K H1 a xs ∧ ∀ p, H1 p = none → Q (.ref p) (upd H1 p (.tup xs.reverse))))
theorem pe_rev1 {te : TE} {k : Nat} {p1 p2 p3 pos : Pos} (he : PE X e te) : PE X (.Subscript e (.Slice none none (some (.UnaryOp .USub (.Constant (.int 1) k p1) p2)) p3) pos) (tRevTL X.K te) := by
  refine ⟨fun pins s σ H Q I h => ?_⟩
  refine Subscript_ (thn (he.run pins s σ H _ I h) fun v s1 ⟨x, H1, I1, r1, q1⟩ => ?_)
  obtain ⟨a, xs, ex, q1⟩ := q1
  subst ex
  cases r1
  have hst : PO X (some (.UnaryOp .USub (.Constant (.int 1) k p1) p2)) (tPart (tUn (rU fun i => .int (-i)) (tC (.int 1)))) := po_some (pe_un un_neg pe_int)
  refine wpAny_Slice (thn (po_none.run pins s1 σ H1 (fun o H2 => o = none ∧ H2 = H1) I1 ⟨rfl, rfl⟩) fun vl s2 ⟨l, H2, I2, pl, el, e2⟩ => ?_)
  subst el e2
  refine thn (po_none.run pins s2 σ H2 (fun o H3 => o = none ∧ H3 = H2) I2 ⟨rfl, rfl⟩) fun vu s3 ⟨u, H3, I3, pu, eu, e3⟩ => ?_
  subst eu e3
  refine thn (hst.run pins s3 σ H3 (fun o H4 => o = some (-1) ∧ H4 = H3) I3 ⟨1, rfl, -1, rfl, rfl, rfl⟩) fun vs s4 ⟨o, H4, I4, ps, eo, e4⟩ => ?_
  subst eo e4
  have I5 : Inv X pins σ H4 { s4 with heap := s4.heap.push { cls := .type "slice", data := .fields #[vl, vu, vs] } } := I4.kept (t' := s4.toks) fun b ob q => Heap.get?_push_of_some _ q
  show wpAny (model X.prog X.w) X.A (subscriptTail e (.Slice none none (some (.UnaryOp .USub (.Constant (.int 1) k p1) p2)) p3) (.ref a) (.ref s4.heap.objs.size)) (EP X pins σ Q) X.xe { s4 with heap := s4.heap.push { cls := .type "slice", data := .fields #[vl, vu, vs] } }
  rcases q1 with ⟨hx, q⟩ | ⟨hx, q⟩
  · obtain ⟨its, r, ht, hz⟩ := I5.list hx
    have hlen := r.length
    refine tail_any (ops := [.ref a, .ref s4.heap.objs.size]) ht.isList.typeIs (PySem.slot_list_getitem.lookup) ?_ (by with_unfolding_all rfl)
    refine wpAny_getItem_list_slice ht.isList (Heap.IsSliceOf.new _ vl vu vs) pl pu ps (by decide) ?_ (by rw [List.size_toArray]; omega)
    rw [PySem.W.krv_pick]
    refine ⟨.ref _, _, I5.laid (t' := s4.toks) (o := .lst xs.reverse) (fun b ob q => Heap.get?_push_of_some _ q) (Nat.le_refl _) ?_, rfl, q _ (I5.hok.fresh (Nat.le_refl _))⟩
    exact ⟨by rw [List.length_reverse]; exact hz, _, 0, r.reverse, Heap.get?_push_size _ rfl⟩
  · obtain ⟨its, r, ht, hz⟩ := I5.tuple hx
    have hlen := r.length
    refine tail_any (ops := [.ref a, .ref s4.heap.objs.size]) ht.typeIs (PyProof.Rows.slot_tuple_getitem.lookup) ?_ (by with_unfolding_all rfl)
    refine getItem_tup_rev ht (Heap.IsSliceOf.new _ vl vu vs) pl pu ps ?_ (by rw [List.size_toArray]; omega)
    refine ⟨.ref _, _, I5.laid (t' := s4.toks) (o := .tup xs.reverse) (fun b ob q => Heap.get?_push_of_some _ q) (Nat.le_refl _) ?_, rfl, q _ (I5.hok.fresh (Nat.le_refl _))⟩
    exact ⟨by rw [List.length_reverse]; exact hz, _, r.reverse, IsTup.new _ _⟩
def gRev : D → Option D
  | .tup ds => some (.tup ds.reverse)
  | .lst ds => some (.lst ds.reverse)
  | _ => none
theorem d_rev {k : Nat} {q1 q2 q3 : Pos} (he : PE X e (tD X.K F p st f)) : PE X (.Subscript e (.Slice none none (some (.UnaryOp .USub (.Constant (.int 1) k q1) q2)) q3) pos) (tD X.K F p true (fUn gRev f)) :=
  (pe_rev1 he).impD fun σ H Q ⟨ρ, R, d, ρ', ef, k⟩ => by
    unfold fUn at ef
    simp only [Option.bind_eq_some_iff, Option.map_eq_some_iff] at ef
    obtain ⟨⟨d1, ρ1⟩, e1, d', e2, e3⟩ := ef
    cases e3
    refine ⟨ρ, R, d1, _, e1, fun v H1 s R1 x => ?_⟩
    dsimp only at e2
    unfold gRev at e2
    split at e2
    · cases e2
      obtain ⟨a, xs, rfl, hX, hxs⟩ := x.tup_inv
      exact ⟨a, xs, rfl, .inr ⟨hX, fun l hl => k _ _ ((s.trans (q := true) (Stp.of (keep_upd hl))).weak (by simp)) (R1.keep (keep_upd hl)) (.of (new_tup hl hxs.rev))⟩⟩
    · cases e2
      obtain ⟨a, xs, rfl, hX, hxs⟩ := x.lst_inv
      exact ⟨a, xs, rfl, .inl ⟨.inl (.inl hX), fun l hl => k _ _ ((s.trans (q := true) (Stp.of (keep_upd hl))).weak (by simp)) (R1.keep (keep_upd hl)) (.of (new_lst hl R1.trk' hxs.rev))⟩⟩
    · cases e2
/-! ### {}, bit_length, count -/
theorem d_dict0 : PE X (.Dict [] [] pos) (tD X.K F true true (fC .dct)) :=
  pe_dnewK.impD fun σ H Q ⟨ρ, R, d, ρ', ef, k⟩ => fun l hl => by
    cases ef
    exact k _ _ (Stp.of (keep_upd hl)) (R.keep (keep_upd hl)) (.of (.dct (fun z => R.trk z hl) upd_same))
def gBits : D → Option D
  | .int i => some (.int (Builtin.Int.intBits i : Nat))
  | _ => none
theorem d_bits {apos : Pos} (ho : PE X e (tD X.K F p st f)) (hbase : attributeBase e "bit_length" X.env (eval e X.env) = eval e X.env := by rfl) (hline : (apos.endLine == pos.line) = true := by rfl) : PE X (.Call (.Attribute e "bit_length" apos) [] [] pos) (tD X.K F p true (fUn gBits f)) :=
  (pe_bits ho hbase hline).impD fun σ H Q ⟨ρ, R, d, ρ', ef, k⟩ => by
    unfold fUn at ef
    simp only [Option.bind_eq_some_iff, Option.map_eq_some_iff] at ef
    obtain ⟨⟨d1, ρ1⟩, e1, d', e2, e3⟩ := ef
    cases e3
    refine ⟨ρ, R, d1, _, e1, fun v H1 s R1 x => ?_⟩
    dsimp only at e2
    unfold gBits at e2
    split at e2
    · cases e2
      exact ⟨_, x.int_inv, k _ H1 s R1 (.of (.int _))⟩
    · cases e2
def intsD : List D → Option (List Int)
  | [] => some []
  | .int i :: r => (intsD r).map (i :: ·)
  | _ :: _ => none
theorem intsD_some : ∀ {ds : List D} {is : List Int}, intsD ds = some is → ds = is.map D.int
  | [], is, h => by cases h; rfl
  | .int b :: r, bs, h => by
    unfold intsD at h
    rw [Option.map_eq_some_iff] at h
    obtain ⟨cs, e, rfl⟩ := h
    rw [intsD_some e]; rfl
  | .non :: _, _, h => by cases h
  | .bl _ :: _, _, h => by cases h
  | .str _ :: _, _, h => by cases h
  | .tup _ :: _, _, h => by cases h
  | .lst _ :: _, _, h => by cases h
  | .scr _ :: _, _, h => by cases h
  | .dct :: _, _, h => by cases h
def gCount : D → D → Option D
  | .lst ds, .int k => (intsD ds).map fun is => .int (is.count k : Nat)
  | _, _ => none
theorem d_count {apos : Pos} (ho : PE X e (tD X.K F p1 st1 f1)) (ha : PE X a (tD X.K F p2 st2 f2)) (hp2 : p2 = true := by rfl)
    (hbase : attributeBase e "count" X.env (eval e X.env) = eval e X.env := by rfl)
    (hfew : ((backTo pos (starEach [a] X.env)).all (fun x => !x.1) && (backToKw pos (keywordEach [] X.env)).all (fun x => x.1.isSome)
      && decide (([a] : List Expr).length + ([] : List Keyword).length + (if ([] : List Keyword).isEmpty then 0 else 1) < 30)) = true := by rfl)
    (hline : (apos.endLine == pos.line) = true := by rfl) (hs : starEach [a] X.env = (false, eval a X.env) :: starEach [] X.env := by rfl) (hplain : (backTo pos (starEach [] X.env)).any (·.1) = false := by rfl) :
    PE X (.Call (.Attribute e "count" apos) [a] [] pos) (tD X.K F p1 true (fBin gCount f1 f2)) := by
  subst hp2
  exact (pe_bm PySem.F.plainAttrs_list PySem.F.slot_list_count PySem.F.type_list_count mt_lcount ho (pa_cons ha pa_nil hs) hbase hfew hline hs hplain).impD fun σ H Q ⟨ρ, R, d, ρ', ef, k⟩ => by
    obtain ⟨d1, ρ1, d2, e1, e2, e3⟩ := fBin_some ef
    refine ⟨ρ, R, d1, ρ1, e1, fun v H1 s R1 x => ?_⟩
    unfold gCount at e3
    split at e3
    · rename_i ds kk
      rw [Option.map_eq_some_iff] at e3
      obtain ⟨is, e4, rfl⟩ := e3
      have := intsD_some e4
      subst this
      obtain ⟨a', xs, rfl, hX, hxs⟩ := x.lst_inv
      refine ⟨.inl ⟨rfl, xs, .inl (.inl hX)⟩, ρ1, R1, _, ρ', e2, fun w H2 s2 R2 y => ?_⟩
      have hX2 := s2.pure.st _ _ hX fun z => z.elim
      rw [hxs.intsV] at hX2
      exact ⟨a', is, kk, rfl, by rw [y.int_inv], .inl (.inl hX2), k _ H2 ((s.trans s2).weak (by simp)) R2 (.of (.int _))⟩
    · cases e3
/-! ### [x] * n as a new list -/
def fRep (f1 : LFn) (f2 : DFn) : LFn := fun ρ => (f1 ρ).bind fun x => (f2 x.2).bind fun y => (asLI (.lst x.1) y.1).map fun ds => (ds, y.2)
theorem l_rep (ha : PE X a (tL X.K F p1 fs1)) (hb : ∀ d, PE X b (tD X.K (F.add d) p2 st2 f2)) : PE X (.BinOp a .Mult b pos) (tL X.K F (p1 && p2) (fRep fs1 f2)) := by
  have hb' : PE X b (fun σ H Q => ∃ d, tD X.K (F.add d) p2 st2 f2 σ H Q) := ⟨fun pins s σ H Q I ⟨d, h⟩ => (hb d).run pins s σ H Q I h⟩
  exact (pe_op op_rep ha hb').impD fun σ H Q ⟨ρ, R, ds, ρ', ef, k⟩ => by
    unfold fRep at ef
    simp only [Option.bind_eq_some_iff, Option.map_eq_some_iff] at ef
    obtain ⟨⟨es, ρ1⟩, e1, ⟨dk, ρ2⟩, e2, ds', e3, e4⟩ := ef
    cases e4
    refine ⟨ρ, R, es, ρ1, e1, fun l xs H1 s1 R1 n1 h1 v1 => ⟨l, ρ1, R1, dk, _, e2, fun w H2 s2 R2 y => ?_⟩⟩
    unfold asLI at e3
    split at e3
    · rename_i es' kk e5 e6
      cases e5
      dsimp only at e6
      subst e6
      split at e3
      · rename_i hm
        cases e3
        have h2 : H2 l = some (.lst xs) := s2.st l _ h1 fun z => absurd z.2 (R1.exT l (.inr rfl)).2.2
        have hxs : VRs X.K (F.W σ) H2 xs es := (v1.keep s2 fun x z => .inr (.inl z.2)).avoid fun x z => .inl (z.elim .inl fun z => z.elim (fun z => .inr (.inl z)) fun z => .inr (.inr (.inl z)))
        refine ⟨l, kk, xs, rfl, y.int_inv, h2, by omega, by omega, by rw [v1.length]; exact hm.2.2, fun l2 hl2 => ?_⟩
        exact new_list R (s1.trans s2) R2.drop (hxs.rep _) k l2 hl2
      · cases e3
    · cases e3
/-! ### calls by keywords alone -/
def permV {α : Type} (pi : List Nat) (xs : List α) : List α := pi.filterMap fun i => xs[i]?
theorem _root_.L2.Vals.perm {vs : List V} {us : List Value} (h : Vals vs us) (pi : List Nat) : Vals (permV pi vs) (permV pi us) := by
  induction pi with
  | nil => exact .nil
  | cons i r ih =>
    unfold permV at ih ⊢
    rw [List.filterMap_cons, List.filterMap_cons]
    cases e : vs[i]? with
    | none =>
      have : us[i]? = none := by
        rw [List.getElem?_eq_none_iff] at e ⊢
        rw [← h.length]; exact e
      rw [this]
      exact ih
    | some v =>
      obtain ⟨u, e1, r1⟩ := h.get e
      rw [e1]
      exact .cons r1 ih
theorem VRs.perm {vs : List V} {ds : List D} (h : VRs K A H vs ds) (pi : List Nat) : VRs K A H (permV pi vs) (permV pi ds) := by
  induction pi with
  | nil => exact .nil
  | cons i r ih =>
    unfold permV at ih ⊢
    rw [List.filterMap_cons, List.filterMap_cons]
    cases e : ds[i]? with
    | none =>
      have : vs[i]? = none := by
        rw [List.getElem?_eq_none_iff] at e ⊢
        rw [h.length]; exact e
      rw [this]
      exact ih
    | some v =>
      obtain ⟨u, e1, r1⟩ := h.get e
      rw [e1]
      exact .cons r1 ih
theorem kb0 {x qual : Str} {params : Arguments} {body : List Stmt} {scope : Scope} {kws : List (Str × V)} {f : Addr} {fd : FuncData} {ps ks : List Str} (pi : List Nat) (F : FunD K x qual params body scope [] kws f fd)
    (h : ∀ (kV doc pm : Value) (an : Option Addr) (cdv ct : Value) (ws : List Value), ws.length = ks.length → bindArgs (PySem.W.fnOf x qual params body scope .none kV doc pm an cdv ct) ⟨[], ks.zip ws⟩ = pure (ps.zip (permV pi ws))) :
    KBn K fd ps 0 ks (fun _ ws => permV pi ws) (fun _ zs => permV pi zs) := by
  obtain ⟨oc, od, dV, kV, doc, pm, an, cdv, ct, osl, rfl, lk, hcd, hD, hK⟩ := F.ex
  rcases hD with ⟨_, rfl⟩ | ⟨e, _⟩
  · exact ⟨fun s us ws _ l1 l2 => by
      have : us = [] := List.length_eq_zero_iff.mp l1
      subst this
      exact .of_eq (h kV doc pm an cdv ct ws l2), fun _ r => r.perm pi⟩
  · exact absurd rfl e
structure HasK (P : Program) (w : World) (K : PySem.W.Frag) (mg : Str → Option Value) (base : Heap) (k : Nat) (x : Str) (sp : Sp) (ks : List Str) (pi : List Nat) : Prop where
  ex : ∃ (f : Addr) (fd : FuncData) (ps : List Str), FnOk P w K mg base CX0 k f fd ps sp ∧ mg x = some (.ref f) ∧ PySem.W.keepIn K (.ref f) = true ∧ KBn K fd ps 0 ks (fun _ ws => permV pi ws) (fun _ zs => permV pi zs)
def tCallK0 (m : Nat) (sp : Sp) (pi : List Nat) (E : XK) (tk : TA) : TE := fun σ H Q => tk σ H fun zs H2 => zs.length = m ∧ sp (permV pi zs) H2 Q E
theorem pe_callK0 {CX : CXT} {k : Nat} {f : Addr} {fd : FuncData} {ps ks : List Str} {sp : Sp} {E : XK} {x : Str} {px : Pos} {kws : List Keyword} {tk : TA} {pi : List Nat} (F : FnOk X.prog X.w X.K X.mg X.base CX k f fd ps sp) (hr : Room k X.A) (hg : Gl X x) (hm : X.mg x = some (.ref f)) (hk : PySem.W.keepIn X.K (.ref f) = true)
    (hb : KBn X.K fd ps 0 ks (fun _ ws => permV pi ws) (fun _ zs => permV pi zs)) (hx : Passes CX X E) (hkw : PK X kws tk) (hall : (backToKw pos (keywordEach kws X.env)).all (·.1.isSome) = true := by rfl) (hks : (backToKw pos (keywordEach kws X.env)).filterMap (·.1) = ks := by rfl)
    (hdb : (x == ("__debug__" : Str)) = false := by decide) (hpl : ((backTo pos (starEach [] X.env)).any (·.1) || (backToKw pos (keywordEach kws X.env)).any (·.1.isNone)) = false := by rfl) :
    PE X (.Call (.Name x px) [] kws pos) (tCallK0 ks.length sp pi E tk) := by
  refine ⟨fun pins s σ H Q I h => ?_⟩
  refine wpAny_Call_Name_kw (ld_glob I hg hm ?_ hdb)
  refine PySem.W.callWith_KW0 (h₀ := X.base) I.ok.mod.kin hk hall (thn (hkw.run pos pins s σ H _ I h) fun ws s2 ⟨zs, H2, I2, rz, q1, q2⟩ => ⟨I2.kIn, ?_⟩) hpl
  rw [hks]
  exact run_fnN F hr hb hx I2 .nil rz rfl q1 q2
def fCallK (pi : List Nat) (m : List D → Option D) (fs : LFn) : DFn := fun ρ => (fs ρ).bind fun x => (m (permV pi x.1)).map fun d => (d, x.2)
/-- the values of keywords -/
theorem dk_nil : PK X [] (tAs X.K F true true fNil) := ⟨fun pos pins s σ H Q I ⟨ρ, R, ds, ρ', e, k⟩ => by
  cases e
  exact pk_nil.run pos pins s σ H Q I (k [] H (Keep.refl _ _) R .nil)⟩
theorem dk_cons {nm : Option Str} {kpos : Pos} {kws : List Keyword} (ha : PE X e (tD X.K F p1 st1 f)) (hr : PK X kws (tAs X.K F p2 st2 fs)) (hst : st1 = true := by rfl) (hst2 : st2 = true := by rfl) : PK X (⟨nm, e, kpos⟩ :: kws) (tAs X.K F (p1 && p2) true (fCons f fs)) := by
  subst hst hst2
  exact ⟨fun pos pins s σ H Q I ⟨ρ, R, ds, ρ', ef, k⟩ => by
    obtain ⟨d, ρ1, es', e1, e2, rfl⟩ := fCons_some ef
    refine (pk_cons ha hr).run pos pins s σ H Q I ⟨ρ, R, d, ρ1, e1, fun v H1 s1 R1 x => ⟨ρ1, R1, es', ρ', e2, fun vs H2 s2 R2 vv => k (v :: vs) H2 (s1.trans s2) R2 (.cons ?_ vv)⟩⟩
    exact .of (x.stable.keep s2 fun _ z => Fx.own_W z.2)⟩
theorem d_callK {x : Str} {px : Pos} {k j n : Nat} {m : List D → Option D} {kws : List Keyword} {ks : List Str} {pi : List Nat} (h : HasK X.prog X.w X.K X.mg X.base k x (spP X.K n false m) ks pi) (hr : Room j X.A) (hk : k ≤ j) (hg : Gl X x) (hkw : PK X kws (tAs X.K F p st fs)) (hn : ks.length = n := by rfl)
    (hpi : (pi.all fun i => decide (i < n)) = true := by rfl) (hpl' : pi.length = n := by rfl) (hl : ∀ ρ ds ρ', fs ρ = some (ds, ρ') → ds.length = n)
    (hall : (backToKw pos (keywordEach kws X.env)).all (·.1.isSome) = true := by rfl) (hks : (backToKw pos (keywordEach kws X.env)).filterMap (·.1) = ks := by rfl)
    (hdb : (x == ("__debug__" : Str)) = false := by decide) (hpl : ((backTo pos (starEach [] X.env)).any (·.1) || (backToKw pos (keywordEach kws X.env)).any (·.1.isNone)) = false := by rfl) (hst : st = true := by rfl) :
    PE X (.Call (.Name x px) [] kws pos) (tD X.K F p true (fCallK pi m fs)) := by
  subst hst
  obtain ⟨f, fd, ps, Fk, hm, kp, b⟩ := h.ex
  refine (pe_callK0 Fk (hr.mono hk) hg hm kp b pass0 hkw hall hks hdb hpl).impD fun σ H Q ⟨ρ, R, d, ρ', ef, k⟩ => ?_
  unfold fCallK at ef
  simp only [Option.bind_eq_some_iff, Option.map_eq_some_iff] at ef
  obtain ⟨⟨ds, ρ1⟩, e1, dr, e2, e3⟩ := ef
  cases e3
  refine ⟨ρ, R, ds, _, e1, fun vs H1 s R1 v1 => ⟨by rw [v1.stable.length, hl _ _ _ e1, hn], F.W σ, permV pi ds, R1.trk', ?_, v1.stable.perm pi, _, e2, fun v H2 k2 r => k v H2 ((s.trans (q := true) (Stp.of k2)).weak (by simp)) (R1.keep k2) (.of r)⟩⟩
  have hlen : vs.length = n := by rw [v1.stable.length, hl _ _ _ e1]
  rw [← hpl']
  have : ∀ (l : List Nat), (l.all fun i => decide (i < n)) = true → (permV l vs).length = l.length := fun l => by
    induction l with
    | nil => intro _; rfl
    | cons i r ih =>
      intro hh
      rw [List.all_cons, Bool.and_eq_true, decide_eq_true_eq] at hh
      unfold permV at ih ⊢
      rw [List.filterMap_cons, List.getElem?_eq_getElem (by rw [hlen]; exact hh.1), List.length_cons, List.length_cons, ih hh.2]
  exact this pi hpi
end
section
variable {P : Program} {w : World} {K : PySem.W.Frag} {mg : Str → Option Value} {base : Heap}
/-- a promise of nothing -/
theorem fn_noneP {x : Str} {st : Stmt} {f : Addr} {fd : FuncData} {N ps : List Str} {n k : Nat} {fresh : Bool} (F : FunD K x x (defArgs st) (defBody st) (defScope st) [] [] f fd) (S : FnScope N ps (defScope st)) : FnOk P w K mg base CX0 (k + 1) f fd ps (spP K n fresh fun _ => none) :=
  F.ok S (fun vs H Q E h => by obtain ⟨_, _, _, _, _, _, z, _⟩ := h; cases z) (fun cdv A outer s H vs Q E hr h => by obtain ⟨_, _, _, _, _, _, z, _⟩ := h; cases z)
theorem fn_noneU {x : Str} {st : Stmt} {f : Addr} {fd : FuncData} {N ps : List Str} {n k : Nat} (F : FunD K x x (defArgs st) (defBody st) (defScope st) [] [] f fd) (S : FnScope N ps (defScope st)) : FnOk P w K mg base CX0 (k + 1) f fd ps (spU K n fun _ _ => none) :=
  F.ok S (fun vs H Q E h => by obtain ⟨_, _, _, _, _, _, _, _, _, _, _, _, _, _, _, z, _⟩ := h; cases z) (fun cdv A outer s H vs Q E hr h => by obtain ⟨_, _, _, _, _, _, _, _, _, _, _, _, _, _, _, z, _⟩ := h; cases z)
end
end Dl

namespace Dl
open PySem PySem.Spec PyProof.Rows L2
/-! ### division of any size: what the interpreter looks at -/
def strK (es : Array DictEntry) : Bool := es.toList.all fun e => match e.key with
  | .str _ _ => true
  | _ => false
def dictIn (K : PySem.W.Frag) (a : Addr) : Bool := match K.lookup a with
  | some ⟨_, _, .dict es _, _⟩ => strK es
  | _ => false
def noneIn (K : PySem.W.Frag) (a : Addr) (x : Str) : Bool := match PySem.W.nsIn K a x with
  | some none => true
  | _ => false
def mainIn (K : PySem.W.Frag) : Bool := match PySem.W.nsIn K mainGlobals "__builtins__" with
  | some (some (.ref bm)) => match K.lookup bm with
    | some ⟨.type n, some d, _, _⟩ => n == "module" && d == builtinsNs
    | _ => false
  | _ => false
def seerB (K : PySem.W.Frag) : Bool := noneIn K cStatics "sys.audit-hooks" && noneIn K cStatics "sys.dict" && dictIn K sysModules && noneIn K sysModules "_pylong" && mainIn K
theorem noneIn_ok {K : PySem.W.Frag} {h : Heap} {a : Addr} {m : Str → Option Value} {x : Str} (X : K.In h) (G : h.Ns a m) (c : noneIn K a x = true) : m x = none := by
  have e : PySem.W.nsIn K a x = some none := by
    unfold noneIn at c
    split at c
    · assumption
    · cases c
  obtain ⟨o, es, ep, ho, hd, _, hf⟩ := G
  unfold PySem.W.nsIn at e
  split at e
  · rename_i q
    have := X _ _ q
    rw [ho] at this
    cases this
    cases hd
    split at e
    · cases e
    · rename_i he
      rw [← hf]
      unfold nsFind findBy
      rw [← Array.find?_toList, he]
      rfl
  · cases e
theorem dictIn_ok {K : PySem.W.Frag} {h : Heap} {a : Addr} (X : K.In h) (c : dictIn K a = true) : ∃ m, h.Ns a m := by
  unfold dictIn at c
  split at c
  · rename_i cl d es ep sl q
    refine ⟨fun x => nsFind es x, _, es, ep, X _ _ q, rfl, fun e he => ?_, fun _ => rfl⟩
    have h1 := List.all_eq_true.mp c e (by simpa using he)
    revert h1
    cases hk : e.key <;> intro h1 <;> first | exact ⟨_, _, rfl⟩ | cases h1
  · cases c
theorem noSeer_of {K : PySem.W.Frag} {mg : Str → Option Value} {base : Heap} (M : Mod K mg base) (c : seerB K = true) : base.NoSeer := by
  unfold seerB at c
  rw [Bool.and_eq_true, Bool.and_eq_true, Bool.and_eq_true, Bool.and_eq_true] at c
  obtain ⟨⟨⟨⟨c1, c2⟩, c3⟩, c4⟩, c5⟩ := c
  obtain ⟨mc, nc, _⟩ := M.nolimit
  obtain ⟨mm, nm⟩ := dictIn_ok M.kin c3
  refine ⟨⟨mc, nc, noneIn_ok M.kin nc c1, noneIn_ok M.kin nc c2⟩, ⟨mm, nm, noneIn_ok M.kin nm c4⟩, M.blt, ?_⟩
  unfold mainIn at c5
  split at c5
  · rename_i bm e1
    split at c5
    · rename_i n d dt sl e2
      rw [Bool.and_eq_true, beq_iff_eq, beq_iff_eq] at c5
      refine ⟨mg, bm, _, M.glob, PySem.W.mg_of M.kin M.glob e1, M.kin _ _ e2, ?_, ?_⟩
      · rw [c5.1]
      · rw [c5.2]
    · cases c5
  · cases c5
/-- what a def's text must know of its place, that it may divide by numbers of any size -/
structure Big (X : Cx) : Prop where
  seer : seerB X.K = true
  tree : X.prog.given.tree = none
  dp : X.A.depth + 100 < recursionLimit
  stk : X.stack = X.env :: X.outer
  gen : X.env.scope.isGenerator = false
  co : X.env.scope.isCoroutine = false
theorem big_of {X : Cx} {k : Nat} (c : seerB X.K = true) (ht : X.prog.given.tree = none) (hr : Room k X.A) (hk : 32 ≤ k) (h1 : X.stack = X.env :: X.outer := by rfl) (h2 : X.env.scope.isGenerator = false := by rfl) (h3 : X.env.scope.isCoroutine = false := by rfl) : Big X :=
  ⟨c, ht, by have := hr.dp; omega, h1, h2, h3⟩
theorem op_fdivBig {X : Cx} (b : Big X) : OpR X (binaryOp .FloorDiv) (rI (fun _ j => j ≠ 0) fun i j => .int (i.fdiv j)) := by
  intro pins s σ H x y v u Q I rx ry h
  obtain ⟨i, j, rfl, rfl, hc, q⟩ := h
  obtain ⟨t, rfl⟩ := rx
  obtain ⟨t', rfl⟩ := ry
  refine floordiv_int hc ⟨.int _, H, I.tok _, ⟨_, rfl⟩, q⟩ (.inr ?_)
  have hN : s.heap.NoSeer := (noSeer_of I.ok.mod b.seer).keeps I.bk
  refine PySem.PylongRoom.of I.nolimit b.dp (PySem.SeerAt.of (env := X.env) (l := X.outer) hN b.tree ?_ b.gen b.co I.ok.blt I.ok.glob)
  rw [I.ok.frames, b.stk]
def gFdivB : D → D → Option D
  | .int i, .int j => if j ≠ 0 then some (.int (i.fdiv j)) else none
  | _, _ => none
theorem od_fdivB {K : PySem.W.Frag} : OpD K (rI (fun _ j => j ≠ 0) fun i j => .int (i.fdiv j)) gFdivB := od_intC fun x y d e => by
  unfold gFdivB at e
  split at e
  · split at e
    · rename_i h; cases e; exact ⟨_, _, rfl, rfl, h, rfl⟩
    · cases e
  · cases e
/-! ### the head's facts once more, with what a division looks at -/
def obsY (S : Say) (K : PySem.W.Frag) : AlX := ((obsX S K).1 && seerB K, (obsX S K).2)
def SaysY (S : Say) (K : PySem.W.Frag) : Prop := Says S K ∧ seerB K = true
def asY (g : Addr → Option Obj) (n : Nat) : List Addr := cStatics :: sysModules :: He.asD g n
def obsYG (n : Nat) (S : Say) (g : Addr → Option Obj) : AlX := obsY S (He.frG g (asY g n))
theorem saysY_of {S : Say} {K : PySem.W.Frag} (e : obsY S K = valX S) : SaysY S K := by
  unfold obsY valX at e
  have e1 := congrArg Prod.fst e
  have e2 := congrArg Prod.snd e
  rw [Bool.and_eq_true] at e1
  exact ⟨Prod.ext e1.1 e2, e1.2⟩
def hookY (n : Nat) (S : Say) : PySem.W.Hook where
  α := AlX
  obs := fun s => obsYG n S s.heap.get?
  val := fun _ => valX S
  says := fun _ h => ∃ K : PySem.W.Frag, K.In h ∧ SaysY S K
  of := fun _ _ e => ⟨_, He.frG_in, saysY_of e⟩
  keeps := fun _ _ _ ⟨K, hK, c⟩ k => ⟨K, PySem.W.Frag.In.keeps hK k, c⟩
theorem obsYG_eq {n : Nat} {S : Say} {g : Addr → Option Obj} {s : Shared} (h : ∀ a, g a = s.heap.get? a) : obsYG n S g = (hookY n S).obs s := by
  have e : g = s.heap.get? := funext h
  rw [e] <;> rfl
end Dl

set_option maxHeartbeats 0
namespace W
open PySem PySem.Spec PyProof.Rows L2 Dl
def top (i : Nat) : Stmt := PySem.Challenge.pw_splitcosts_k02_tables_of_anything.main.body.getD i (.Pass ⟨0, 0, 0, 0⟩)
def d_is_whole : He.DefD := ⟨("is_whole", none), "is_whole", "is_whole", defArgs (top 2), defBody (top 2), defScope (top 2), [], []⟩
def d_is_between : He.DefD := ⟨("is_between", none), "is_between", "is_between", defArgs (top 3), defBody (top 3), defScope (top 3), [], []⟩
def d_are_wholes : He.DefD := ⟨("are_wholes", none), "are_wholes", "are_wholes", defArgs (top 4), defBody (top 4), defScope (top 4), [], []⟩
def d_divisor_of : He.DefD := ⟨("divisor_of", none), "divisor_of", "divisor_of", defArgs (top 5), defBody (top 5), defScope (top 5), [], []⟩
def d_is_ratio : He.DefD := ⟨("is_ratio", none), "is_ratio", "is_ratio", defArgs (top 9), defBody (top 9), defScope (top 9), [], []⟩
def d_ratio : He.DefD := ⟨("ratio", none), "ratio", "ratio", defArgs (top 10), defBody (top 10), defScope (top 10), [], []⟩
def d_plus : He.DefD := ⟨("plus", none), "plus", "plus", defArgs (top 11), defBody (top 11), defScope (top 11), [], []⟩
def d_minus : He.DefD := ⟨("minus", none), "minus", "minus", defArgs (top 12), defBody (top 12), defScope (top 12), [], []⟩
def d_times : He.DefD := ⟨("times", none), "times", "times", defArgs (top 13), defBody (top 13), defScope (top 13), [], []⟩
def d_over : He.DefD := ⟨("over", none), "over", "over", defArgs (top 14), defBody (top 14), defScope (top 14), [], []⟩
def d_opposite : He.DefD := ⟨("opposite", none), "opposite", "opposite", defArgs (top 15), defBody (top 15), defScope (top 15), [], []⟩
def d_total : He.DefD := ⟨("total", none), "total", "total", defArgs (top 16), defBody (top 16), defScope (top 16), [], []⟩
def d_products_of : He.DefD := ⟨("products_of", none), "products_of", "products_of", defArgs (top 17), defBody (top 17), defScope (top 17), [], []⟩
def d_is_row : He.DefD := ⟨("is_row", none), "is_row", "is_row", defArgs (top 19), defBody (top 19), defScope (top 19), [], []⟩
def d_is_square : He.DefD := ⟨("is_square", none), "is_square", "is_square", defArgs (top 20), defBody (top 20), defScope (top 20), [], []⟩
def d_unit_rows : He.DefD := ⟨("unit_rows", none), "unit_rows", "unit_rows", defArgs (top 21), defBody (top 21), defScope (top 21), [], []⟩
def d_row_plus : He.DefD := ⟨("row_plus", none), "row_plus", "row_plus", defArgs (top 22), defBody (top 22), defScope (top 22), [], []⟩
def d_row_less : He.DefD := ⟨("row_less", none), "row_less", "row_less", defArgs (top 23), defBody (top 23), defScope (top 23), [], []⟩
def d_row_scaled : He.DefD := ⟨("row_scaled", none), "row_scaled", "row_scaled", defArgs (top 24), defBody (top 24), defScope (top 24), [], []⟩
def d_led : He.DefD := ⟨("led", none), "led", "led", defArgs (top 25), defBody (top 25), defScope (top 25), [], []⟩
def d_flipped : He.DefD := ⟨("flipped", none), "flipped", "flipped", defArgs (top 26), defBody (top 26), defScope (top 26), [], []⟩
def d_table_less : He.DefD := ⟨("table_less", none), "table_less", "table_less", defArgs (top 27), defBody (top 27), defScope (top 27), [], []⟩
def d_stairs : He.DefD := ⟨("stairs", none), "stairs", "stairs", defArgs (top 28), defBody (top 28), defScope (top 28), [], []⟩
def d_rank : He.DefD := ⟨("rank", none), "rank", "rank", defArgs (top 29), defBody (top 29), defScope (top 29), [], []⟩
def d_is_formed : He.DefD := ⟨("is_formed", none), "is_formed", "is_formed", defArgs (top 32), defBody (top 32), defScope (top 32), [], []⟩
def d_product_by : He.DefD := ⟨("product_by", none), "product_by", "product_by", defArgs (top 33), defBody (top 33), defScope (top 33), [], []⟩
def d_worth_by : He.DefD := ⟨("worth_by", none), "worth_by", "worth_by", defArgs (top 34), defBody (top 34), defScope (top 34), [], []⟩
def d_products_table : He.DefD := ⟨("products_table", none), "products_table", "products_table", defArgs (top 35), defBody (top 35), defScope (top 35), [], []⟩
def d_first_pivot : He.DefD := ⟨("first_pivot", none), "first_pivot", "first_pivot", defArgs (top 36), defBody (top 36), defScope (top 36), [], []⟩
def d_pivot_squares : He.DefD := ⟨("pivot_squares", none), "pivot_squares", "pivot_squares", defArgs (top 37), defBody (top 37), defScope (top 37), [], []⟩
def d_free_with : He.DefD := ⟨("free_with", none), "free_with", "free_with", defArgs (top 38), defBody (top 38), defScope (top 38), [], []⟩
def d_squares_by : He.DefD := ⟨("squares_by", none), "squares_by", "squares_by", defArgs (top 39), defBody (top 39), defScope (top 39), [], []⟩
def d_signs_by : He.DefD := ⟨("signs_by", none), "signs_by", "signs_by", defArgs (top 40), defBody (top 40), defScope (top 40), [], []⟩
def d_is_positive : He.DefD := ⟨("is_positive", none), "is_positive", "is_positive", defArgs (top 41), defBody (top 41), defScope (top 41), [], []⟩
def d_is_tabled : He.DefD := ⟨("is_tabled", none), "is_tabled", "is_tabled", defArgs (top 42), defBody (top 42), defScope (top 42), [], []⟩
def d_check_form : He.DefD := ⟨("check_form", none), "check_form", "check_form", defArgs (top 49), defBody (top 49), defScope (top 49), [], []⟩
def d_check_table : He.DefD := ⟨("check_table", none), "check_table", "check_table", defArgs (top 50), defBody (top 50), defScope (top 50), [], []⟩
def d_check_row : He.DefD := ⟨("check_row", none), "check_row", "check_row", defArgs (top 51), defBody (top 51), defScope (top 51), [], []⟩
def d_is_table : He.DefD := ⟨("is_table", none), "is_table", "is_table", defArgs (top 53), defBody (top 53), defScope (top 53), [], []⟩
def d_worth : He.DefD := ⟨("worth", none), "worth", "worth", defArgs (top 54), defBody (top 54), defScope (top 54), [], []⟩
def d_energy_product : He.DefD := ⟨("energy_product", none), "energy_product", "energy_product", defArgs (top 55), defBody (top 55), defScope (top 55), [], []⟩
def d__law_urn : He.DefD := ⟨("_law_urn", none), "_law_urn", "_law_urn", defArgs (top 57), defBody (top 57), defScope (top 57), [], []⟩
def d__law_take : He.DefD := ⟨("_law_take", none), "_law_take", "_law_take", defArgs (top 58), defBody (top 58), defScope (top 58), [], []⟩
def d__law_pick : He.DefD := ⟨("_law_pick", none), "_law_pick", "_law_pick", defArgs (top 59), defBody (top 59), defScope (top 59), [], []⟩
def d__law_frac : He.DefD := ⟨("_law_frac", none), "_law_frac", "_law_frac", defArgs (top 60), defBody (top 60), defScope (top 60), [], []⟩
def d__law_times : He.DefD := ⟨("_law_times", none), "_law_times", "_law_times", defArgs (top 61), defBody (top 61), defScope (top 61), [], []⟩
def d__law_dot : He.DefD := ⟨("_law_dot", none), "_law_dot", "_law_dot", defArgs (top 62), defBody (top 62), defScope (top 62), [], []⟩
def d__law_go : He.DefD := ⟨("_law_go", none), "_law_go", "_law_go", defArgs (top 63), defBody (top 63), defScope (top 63), [], []⟩
def d__law_flip : He.DefD := ⟨("_law_flip", none), "_law_flip", "_law_flip", defArgs (top 64), defBody (top 64), defScope (top 64), [], []⟩
def d__law_mul : He.DefD := ⟨("_law_mul", none), "_law_mul", "_law_mul", defArgs (top 65), defBody (top 65), defScope (top 65), [], []⟩
def d__law_by : He.DefD := ⟨("_law_by", none), "_law_by", "_law_by", defArgs (top 66), defBody (top 66), defScope (top 66), [], []⟩
def d__law_at : He.DefD := ⟨("_law_at", none), "_law_at", "_law_at", defArgs (top 67), defBody (top 67), defScope (top 67), [], []⟩
def d__law_is_frac : He.DefD := ⟨("_law_is_frac", none), "_law_is_frac", "_law_is_frac", defArgs (top 68), defBody (top 68), defScope (top 68), [], []⟩
def d__law_is_line : He.DefD := ⟨("_law_is_line", none), "_law_is_line", "_law_is_line", defArgs (top 69), defBody (top 69), defScope (top 69), [], []⟩
def d__law_is_grid : He.DefD := ⟨("_law_is_grid", none), "_law_is_grid", "_law_is_grid", defArgs (top 70), defBody (top 70), defScope (top 70), [], []⟩
def d__law_number : He.DefD := ⟨("_law_number", none), "_law_number", "_law_number", defArgs (top 71), defBody (top 71), defScope (top 71), [], []⟩
def d__law_line : He.DefD := ⟨("_law_line", none), "_law_line", "_law_line", defArgs (top 72), defBody (top 72), defScope (top 72), [], []⟩
def d__law_of_squares : He.DefD := ⟨("_law_of_squares", none), "_law_of_squares", "_law_of_squares", defArgs (top 73), defBody (top 73), defScope (top 73), [], []⟩
def d__law_table : He.DefD := ⟨("_law_table", none), "_law_table", "_law_table", defArgs (top 74), defBody (top 74), defScope (top 74), [], []⟩
def d__law_size : He.DefD := ⟨("_law_size", none), "_law_size", "_law_size", defArgs (top 75), defBody (top 75), defScope (top 75), [], []⟩
def d__law_same : He.DefD := ⟨("_law_same", none), "_law_same", "_law_same", defArgs (top 76), defBody (top 76), defScope (top 76), [], []⟩
def d__law_odd : He.DefD := ⟨("_law_odd", none), "_law_odd", "_law_odd", defArgs (top 77), defBody (top 77), defScope (top 77), [], []⟩
def d__law_bent : He.DefD := ⟨("_law_bent", none), "_law_bent", "_law_bent", defArgs (top 78), defBody (top 78), defScope (top 78), [], []⟩
def d__law_form : He.DefD := ⟨("_law_form", none), "_law_form", "_law_form", defArgs (top 79), defBody (top 79), defScope (top 79), [], []⟩
def d__law_square : He.DefD := ⟨("_law_square", none), "_law_square", "_law_square", defArgs (top 80), defBody (top 80), defScope (top 80), [], []⟩
def d__law_is_any_right : He.DefD := ⟨("_law_is_any_right", none), "_law_is_any_right", "_law_is_any_right", defArgs (top 81), defBody (top 81), defScope (top 81), [], []⟩
def d__law_right : He.DefD := ⟨("_law_right", none), "_law_right", "_law_right", defArgs (top 82), defBody (top 82), defScope (top 82), [], []⟩
def d_law : He.DefD := ⟨("law", none), "law", "law", defArgs (top 83), defBody (top 83), defScope (top 83), [], []⟩
def SAY : Say := ⟨[.glo "is_whole", .glo "is_between", .glo "are_wholes", .glo "divisor_of", .glo "is_ratio", .glo "ratio", .glo "plus", .glo "minus", .glo "times", .glo "over", .glo "opposite", .glo "total", .glo "products_of", .glo "is_row", .glo "is_square", .glo "unit_rows", .glo "row_plus", .glo "row_less", .glo "row_scaled", .glo "led", .glo "flipped", .glo "table_less", .glo "stairs", .glo "rank", .glo "is_formed", .glo "product_by", .glo "worth_by", .glo "products_table", .glo "first_pivot", .glo "pivot_squares", .glo "free_with", .glo "squares_by", .glo "signs_by", .glo "is_positive", .glo "is_tabled", .glo "check_form", .glo "check_table", .glo "check_row", .glo "is_table", .glo "worth", .glo "energy_product", .glo "_law_urn", .glo "_law_take", .glo "_law_pick", .glo "_law_frac", .glo "_law_times", .glo "_law_dot", .glo "_law_go", .glo "_law_flip", .glo "_law_mul", .glo "_law_by", .glo "_law_at", .glo "_law_is_frac", .glo "_law_is_line", .glo "_law_is_grid", .glo "_law_number", .glo "_law_line", .glo "_law_of_squares", .glo "_law_table", .glo "_law_size", .glo "_law_same", .glo "_law_odd", .glo "_law_bent", .glo "_law_form", .glo "_law_square", .glo "_law_is_any_right", .glo "_law_right", .glo "law", .free "isinstance", .free "int", .free "bool", .free "tuple", .free "len", .free "all", .glo "ZERO", .free "zip", .free "range", .glo "ONE", .int "MOST_ROWS" 5, .free "list", .free "enumerate", .free "abs", .free "divmod", .free "max", .free "min"], [d_is_whole, d_is_between, d_are_wholes, d_divisor_of, d_is_ratio, d_ratio, d_plus, d_minus, d_times, d_over, d_opposite, d_total, d_products_of, d_is_row, d_is_square, d_unit_rows, d_row_plus, d_row_less, d_row_scaled, d_led, d_flipped, d_table_less, d_stairs, d_rank, d_is_formed, d_product_by, d_worth_by, d_products_table, d_first_pivot, d_pivot_squares, d_free_with, d_squares_by, d_signs_by, d_is_positive, d_is_tabled, d_check_form, d_check_table, d_check_row, d_is_table, d_worth, d_energy_product, d__law_urn, d__law_take, d__law_pick, d__law_frac, d__law_times, d__law_dot, d__law_go, d__law_flip, d__law_mul, d__law_by, d__law_at, d__law_is_frac, d__law_is_line, d__law_is_grid, d__law_number, d__law_line, d__law_of_squares, d__law_table, d__law_size, d__law_same, d__law_odd, d__law_bent, d__law_form, d__law_square, d__law_is_any_right, d__law_right, d_law], [("ZERO", [0, 1]), ("ONE", [1, 1])], true⟩
abbrev R : PySem.W.OpenRow := PySem.W.OpenLaw.row PySem.Challenge.rw_splitcosts_k02_tables_of_anything
abbrev hk : PySem.W.Hook := hookY 4 SAY
def ob (s : PySem.W.SharedT) : AlX := obsYG 4 SAY (HandSHeadRun.getT s)
theorem ob_eq (s : PySem.W.SharedT) : ob s = hk.obs s.abs := obsYG_eq (HandSHeadRun.getT_eq s)
def loose : List PySem.Str := (["is_whole", "is_between", "are_wholes", "divisor_of", "ZERO", "ONE", "is_ratio", "ratio", "plus", "minus", "times", "over"] : List PySem.Str) ++ (["opposite", "total", "products_of", "is_row", "is_square", "unit_rows", "row_plus", "row_less", "row_scaled", "led", "flipped", "table_less"] : List PySem.Str) ++ (["stairs", "rank", "MOST_ROWS", "is_formed", "product_by", "worth_by", "products_table", "first_pivot", "pivot_squares", "free_with", "squares_by", "signs_by"] : List PySem.Str) ++ (["is_positive", "is_tabled", "CostError", "ValueError", "InvalidForm", "InvalidTable", "InvalidRow", "check_form", "check_table", "check_row", "is_table", "worth"] : List PySem.Str) ++ (["energy_product", "_law_urn", "_law_take", "_law_pick", "_law_frac", "_law_times", "_law_dot", "_law_go", "_law_flip", "_law_mul", "_law_by", "_law_at"] : List PySem.Str) ++ (["_law_is_frac", "_law_is_line", "_law_is_grid", "_law_number", "_law_line", "_law_of_squares", "_law_table", "_law_size", "_law_same", "_law_odd", "_law_bent", "_law_form"] : List PySem.Str) ++ (["_law_square", "_law_is_any_right", "_law_right"] : List PySem.Str)
theorem run (w : World) : HandSHeadRun.RunEqI R (PySem.W.view R.prog [0, 83]) hk ob 4000 loose w := by
  unfold HandSHeadRun.RunEqI
  kernel_rfl
end W

namespace Dl
/-! fractions as data -/
def Q (q : Rat) : D := .tup [.int q.num, .int q.den]
theorem Q_inj {a b : Rat} (h : Q a = Q b) : a = b := by
  unfold Q at h
  injection h with h
  simp only [List.cons.injEq, D.int.injEq, and_true] at h
  exact Rat.ext h.1 (by exact_mod_cast h.2)
def bl (n : Nat) : Nat := if n = 0 then 0 else n.log2 + 1
theorem bl_le {n k : Nat} : bl n ≤ k ↔ n < 2 ^ k := by
  unfold bl
  split
  · rename_i h; subst h; simp; exact Nat.two_pow_pos k
  · rename_i h
    rw [← Nat.log2_lt h]; omega
theorem intBits_bl (i : Int) : PySem.Builtin.Int.intBits i = bl i.natAbs := by
  unfold PySem.Builtin.Int.intBits bl
  by_cases h : i = 0
  · subst h; rfl
  · have h2 : i.natAbs ≠ 0 := by omega
    simp [h]
theorem bl_mul (a b : Nat) : bl (a * b) ≤ bl a + bl b := by
  rw [bl_le, Nat.pow_add]
  exact Nat.mul_lt_mul'' (bl_le.mp (Nat.le_refl _)) (bl_le.mp (Nat.le_refl _))
theorem bl_mono {a b : Nat} (h : a ≤ b) : bl a ≤ bl b := bl_le.mpr (Nat.lt_of_le_of_lt h (bl_le.mp (Nat.le_refl _)))
theorem bl_add {a b k : Nat} (ha : bl a ≤ k) (hb : bl b ≤ k) : bl (a + b) ≤ k + 1 := by
  rw [bl_le] at *
  rw [Nat.pow_succ]; omega
theorem bl_dvd {a b : Nat} : bl (a / b) ≤ bl a := bl_mono (Nat.div_le_self _ _)
/-- a fraction of at most n bits above and below -/
def Sz (n : Nat) (q : Rat) : Prop := bl q.num.natAbs ≤ n ∧ bl q.den ≤ n
theorem Sz.mono {m n : Nat} {q : Rat} (h : Sz m q) (le : m ≤ n) : Sz n q := ⟨Nat.le_trans h.1 le, Nat.le_trans h.2 le⟩
theorem mulOk_of {i j : Int} {m n : Nat} (hi : bl i.natAbs ≤ m) (hj : bl j.natAbs ≤ n) (h : m + n ≤ 134217728) : mulOk i j = true := by
  unfold mulOk
  rw [intBits_bl, intBits_bl]
  simp only [decide_eq_true_eq]
  omega
/-- what the program's ratio makes of two ints -/
theorem rat_parts (t l : Int) (hl : l ≠ 0) : t.fdiv (if l > 0 then (Nat.gcd t.natAbs l.natAbs : Int) else -(Nat.gcd t.natAbs l.natAbs : Int)) = (Rat.divInt t l).num ∧
    l.fdiv (if l > 0 then (Nat.gcd t.natAbs l.natAbs : Int) else -(Nat.gcd t.natAbs l.natAbs : Int)) = ((Rat.divInt t l).den : Int) := by
  have pos : ∀ (t : Int) (n : Nat), n ≠ 0 → t.fdiv (Nat.gcd t.natAbs n : Int) = (mkRat t n).num ∧ (n : Int).fdiv (Nat.gcd t.natAbs n : Int) = ((mkRat t n).den : Int) := fun t n hn => by
    rw [Int.fdiv_eq_ediv_of_nonneg _ (Int.natCast_nonneg _), Int.fdiv_eq_ediv_of_nonneg _ (Int.natCast_nonneg _), Rat.num_mkRat, Rat.den_mkRat, if_neg hn, if_neg hn, Nat.gcd_comm]
    exact ⟨rfl, (Int.natCast_ediv _ _).symm⟩
  by_cases h : l > 0
  · obtain ⟨n, rfl⟩ := Int.eq_ofNat_of_zero_le (Int.le_of_lt h)
    rw [if_pos h]
    have hn : n ≠ 0 := by omega
    exact pos t n hn
  · rw [if_neg h]
    obtain ⟨n, rfl⟩ : ∃ n : Nat, l = -(n : Int) := ⟨l.natAbs, by omega⟩
    have hn : n ≠ 0 := by omega
    have e : Rat.divInt t (-(n : Int)) = mkRat (-t) n := by
      rw [Rat.divInt_neg']
      exact Rat.divInt_ofNat _ _
    have h1 := pos (-t) n hn
    rw [Int.natAbs_neg] at h1
    rw [e, Int.natAbs_neg, Int.natAbs_natCast]
    refine ⟨?_, ?_⟩
    · rw [← h1.1]
      have := Int.neg_fdiv_neg (-t) (Nat.gcd t.natAbs n : Int)
      rw [Int.neg_neg] at this
      exact this
    · rw [← h1.2]
      exact Int.neg_fdiv_neg _ _
theorem sz_divInt {t l : Int} {n : Nat} (hl : l ≠ 0) (ht : bl t.natAbs ≤ n) (hl' : bl l.natAbs ≤ n) : Sz n (Rat.divInt t l) := by
  have pos : ∀ (t : Int) (m : Nat), m ≠ 0 → bl t.natAbs ≤ n → bl m ≤ n → Sz n (mkRat t m) := fun t m hm h1 h2 => by
    refine ⟨?_, ?_⟩
    · rw [Rat.num_mkRat, if_neg hm]
      exact Nat.le_trans (bl_mono (Int.natAbs_ediv_le_natAbs _ _)) h1
    · rw [Rat.den_mkRat, if_neg hm]
      exact Nat.le_trans bl_dvd h2
  by_cases h : l > 0
  · obtain ⟨m, rfl⟩ := Int.eq_ofNat_of_zero_le (Int.le_of_lt h)
    have e : Rat.divInt t (m : Int) = mkRat t m := Rat.divInt_ofNat _ _
    rw [e]
    exact pos t m (by omega) ht (by simpa using hl')
  · obtain ⟨m, rfl⟩ : ∃ m : Nat, l = -(m : Int) := ⟨l.natAbs, by omega⟩
    have e : Rat.divInt t (-(m : Int)) = mkRat (-t) m := by
      rw [Rat.divInt_neg']
      exact Rat.divInt_ofNat _ _
    rw [e]
    exact pos (-t) m (by omega) (by simpa using ht) (by simpa using hl')
theorem den_ne (q : Rat) : (q.den : Int) ≠ 0 := by exact_mod_cast q.den_nz
theorem add_dI (a b : Rat) : Rat.divInt (a.num * b.den + b.num * a.den) (a.den * b.den) = a + b := by
  rw [Rat.add_def', ← Rat.divInt_ofNat, Int.natCast_mul]
theorem sub_dI (a b : Rat) : Rat.divInt (a.num * b.den - b.num * a.den) (a.den * b.den) = a - b := by
  rw [Rat.sub_def', ← Rat.divInt_ofNat, Int.natCast_mul]
theorem mul_dI (a b : Rat) : Rat.divInt (a.num * b.num) (a.den * b.den) = a * b := by
  rw [Rat.mul_def', ← Rat.divInt_ofNat, Int.natCast_mul]
theorem div_dI (a b : Rat) : Rat.divInt (a.num * b.den) (a.den * b.num) = a / b := by
  rw [Rat.div_def, Rat.inv_def]
  have : a = Rat.divInt a.num a.den := by rw [Rat.divInt_ofNat, Rat.mkRat_self]
  conv => rhs; rw [this]
  rw [Rat.divInt_mul_divInt]
theorem blN (n : Nat) : bl (n : Int).natAbs = bl n := by simp
theorem blM {i j : Int} {m n : Nat} (hi : bl i.natAbs ≤ m) (hj : bl j.natAbs ≤ n) : bl (i * j).natAbs ≤ m + n := by
  rw [Int.natAbs_mul]
  exact Nat.le_trans (bl_mul _ _) (Nat.add_le_add hi hj)
theorem blA {i j : Int} {m : Nat} (hi : bl i.natAbs ≤ m) (hj : bl j.natAbs ≤ m) : bl (i + j).natAbs ≤ m + 1 :=
  Nat.le_trans (bl_mono (Int.natAbs_add_le i j)) (bl_add hi hj)
theorem blS {i j : Int} {m : Nat} (hi : bl i.natAbs ≤ m) (hj : bl j.natAbs ≤ m) : bl (i - j).natAbs ≤ m + 1 := by
  rw [Int.sub_eq_add_neg]
  exact blA hi (by rw [Int.natAbs_neg]; exact hj)
section
variable {a b : Rat} {m n : Nat}
theorem Sz.num (h : Sz n a) : bl a.num.natAbs ≤ n := h.1
theorem Sz.den (h : Sz n a) : bl (a.den : Int).natAbs ≤ n := by rw [blN]; exact h.2
theorem sz_add (ha : Sz m a) (hb : Sz n b) : Sz (m + n + 1) (a + b) := by
  rw [← add_dI]
  refine sz_divInt (Int.mul_ne_zero (den_ne a) (den_ne b)) (blA (blM ha.num hb.den) ?_) (Nat.le_trans (blM ha.den hb.den) (Nat.le_succ _))
  rw [Nat.add_comm]; exact blM hb.num ha.den
theorem sz_sub (ha : Sz m a) (hb : Sz n b) : Sz (m + n + 1) (a - b) := by
  rw [← sub_dI]
  refine sz_divInt (Int.mul_ne_zero (den_ne a) (den_ne b)) (blS (blM ha.num hb.den) ?_) (Nat.le_trans (blM ha.den hb.den) (Nat.le_succ _))
  rw [Nat.add_comm]; exact blM hb.num ha.den
theorem sz_mul (ha : Sz m a) (hb : Sz n b) : Sz (m + n) (a * b) := by
  rw [← mul_dI]
  exact sz_divInt (Int.mul_ne_zero (den_ne a) (den_ne b)) (blM ha.num hb.num) (blM ha.den hb.den)
theorem sz_div (ha : Sz m a) (hb : Sz n b) (h0 : b ≠ 0) : Sz (m + n) (a / b) := by
  rw [← div_dI]
  exact sz_divInt (Int.mul_ne_zero (den_ne a) (by rwa [ne_eq, Rat.num_eq_zero])) (blM ha.num hb.den) (blM ha.den hb.num)
theorem sz_neg (ha : Sz m a) : Sz m (-a) := by
  refine ⟨?_, ?_⟩
  · rw [Rat.neg_num, Int.natAbs_neg]; exact ha.1
  · rw [Rat.neg_den]; exact ha.2
end
/-! evaluation of the mirrors -/
@[simp] theorem ap_var (i : Nat) (ρ : DEnv) : fVar i ρ = (ρ[i]?.join).map fun d => (d, ρ) := rfl
@[simp] theorem ap_C (d : D) (ρ : DEnv) : fC d ρ = some (d, ρ) := rfl
@[simp] theorem ap_bin (g : D → D → Option D) (f1 f2 : DFn) (ρ : DEnv) : fBin g f1 f2 ρ = (f1 ρ).bind fun x => (f2 x.2).bind fun y => (g x.1 y.1).map fun d => (d, y.2) := rfl
@[simp] theorem ap_un (g : D → Option D) (f : DFn) (ρ : DEnv) : fUn g f ρ = (f ρ).bind fun x => (g x.1).map fun d => (d, x.2) := rfl
@[simp] theorem ap_nil (ρ : DEnv) : fNil ρ = some ([], ρ) := rfl
@[simp] theorem ap_cons (f : DFn) (fs : LFn) (ρ : DEnv) : fCons f fs ρ = (f ρ).bind fun x => (fs x.2).map fun y => (x.1 :: y.1, y.2) := rfl
@[simp] theorem ap_call (g : List D → Option D) (fs : LFn) (ρ : DEnv) : fCall g fs ρ = (fs ρ).bind fun x => (g x.1).map fun d => (d, x.2) := rfl
@[simp] theorem ap_ofL (fs : LFn) (ρ : DEnv) : fOfL fs ρ = (fs ρ).map fun x => (.lst x.1, x.2) := rfl
@[simp] theorem ap_B (f : DFn) (ρ : DEnv) : fB f ρ = (f ρ).bind fun x => (asB x.1).map fun b => (b, x.2) := rfl
@[simp] theorem ap_if (c : TFn) (a b : DFn) (ρ : DEnv) : fIf c a b ρ = (c ρ).bind fun x => if x.1 then a x.2 else b x.2 := rfl
@[simp] theorem ap_ret (f : DFn) (ρ : DEnv) : fRet f ρ = (f ρ).map fun x => .rt x.1 x.2 := rfl
@[simp] theorem ap_seq (a b : SFn) (ρ : DEnv) : fSeq a b ρ = (a ρ).bind fun o => match o with
  | .nx ρ1 => b ρ1
  | o => some o := rfl
end Dl

namespace Dl
open PySem L2
/-! rows, tables; loops over encoded lists -/
def Rw (xs : List Rat) : D := .tup (xs.map Q)
def Tb (t : List (List Rat)) : D := .tup (t.map Rw)
def cstep (g : GFn) (c : TFn) (e : DFn) (ρ : DEnv) (d : D) : Option (Option D) := (g d ρ).bind fun ρ1 => (c ρ1).bind fun b => if b.1 then (e b.2).map fun y => some y.1 else some none
theorem compD_step {α : Type} {g : GFn} {c : TFn} {e : DFn} {ρ : DEnv} (enc : α → D) (F : α → Option D) : ∀ {xs : List α}, (∀ x, x ∈ xs → cstep g c e ρ (enc x) = some (F x)) → compD g c e ρ (xs.map enc) = some (xs.filterMap F)
  | [], _ => rfl
  | x :: r, h => by
    have h1 := h x List.mem_cons_self
    have h2 := compD_step enc F fun y hy => h y (List.mem_cons_of_mem _ hy)
    rw [List.map_cons, List.filterMap_cons]
    unfold compD
    unfold cstep at h1
    cases e1 : g (enc x) ρ with
    | none => rw [e1] at h1; cases h1
    | some ρ1 =>
      rw [e1] at h1
      simp only [Option.bind_some] at h1 ⊢
      cases e2 : c ρ1 with
      | none => rw [e2] at h1; cases h1
      | some b =>
        rw [e2] at h1
        simp only [Option.bind_some] at h1 ⊢
        split at h1
        · rename_i hb
          rw [Option.map_eq_some_iff] at h1
          obtain ⟨y, e3, e4⟩ := h1
          rw [if_pos hb, e3, ← e4, h2]
          rfl
        · rename_i hb
          rw [if_neg hb, ← Option.some.inj h1, h2]
theorem compD_all {α : Type} {g : GFn} {c : TFn} {e : DFn} {ρ : DEnv} (enc : α → D) (F : α → D) {xs : List α} (h : ∀ x, x ∈ xs → cstep g c e ρ (enc x) = some (some (F x))) : compD g c e ρ (xs.map enc) = some (xs.map F) := by
  rw [compD_step enc (fun x => some (F x)) h, List.filterMap_eq_map']
theorem zipD_tup {α β : Type} (f : α → D) (g : β → D) (xs : List α) (ys : List β) : zipD [.tup (xs.map f), .tup (ys.map g)] = some ((xs.zip ys).map fun z => .tup [f z.1, g z.2]) := by
  show some (((xs.map f).zip (ys.map g)).map fun z => D.tup [z.1, z.2]) = _
  rw [List.zip_map, List.map_map]
  rfl
theorem zipD_lst {α β : Type} (f : α → D) (g : β → D) (xs : List α) (ys : List β) : zipD [.lst (xs.map f), .lst (ys.map g)] = some ((xs.zip ys).map fun z => .tup [f z.1, g z.2]) := by
  show some (((xs.map f).zip (ys.map g)).map fun z => D.tup [z.1, z.2]) = _
  rw [List.zip_map, List.map_map]
  rfl
@[simp] theorem items_R (xs : List Rat) : itemsD (Rw xs) = some (xs.map Q) := rfl
@[simp] theorem items_T (t : List (List Rat)) : itemsD (Tb t) = some (t.map Rw) := rfl
@[simp] theorem zip_RR (xs ys : List Rat) : zipD [Rw xs, Rw ys] = some ((xs.zip ys).map fun z => .tup [Q z.1, Q z.2]) := zipD_tup Q Q xs ys
@[simp] theorem zip_TT (xs ys : List (List Rat)) : zipD [Tb xs, Tb ys] = some ((xs.zip ys).map fun z => .tup [Rw z.1, Rw z.2]) := zipD_tup Rw Rw xs ys
@[simp] theorem zip_RT (xs : List Rat) (ys : List (List Rat)) : zipD [Rw xs, Tb ys] = some ((xs.zip ys).map fun z => .tup [Q z.1, Rw z.2]) := zipD_tup Q Rw xs ys
@[simp] theorem zip_TR (xs : List (List Rat)) (ys : List Rat) : zipD [Tb xs, Rw ys] = some ((xs.zip ys).map fun z => .tup [Rw z.1, Q z.2]) := zipD_tup Rw Q xs ys
@[simp] theorem len_R (xs : List Rat) : gLen [Rw xs] = some (.int xs.length) := by show some (D.int ((xs.map Q).length : Nat)) = _; rw [List.length_map]
@[simp] theorem len_T (xs : List (List Rat)) : gLen [Tb xs] = some (.int xs.length) := by show some (D.int ((xs.map Rw).length : Nat)) = _; rw [List.length_map]
@[simp] theorem tuple_L (xs : List Rat) : gTuple [.lst (xs.map Q)] = some (Rw xs) := rfl
@[simp] theorem tuple_LT (xs : List (List Rat)) : gTuple [.lst (xs.map Rw)] = some (Tb xs) := rfl
@[simp] theorem tuple_R (xs : List Rat) : gTuple [Rw xs] = some (Rw xs) := rfl
@[simp] theorem tuple_T (xs : List (List Rat)) : gTuple [Tb xs] = some (Tb xs) := rfl
/-- a comprehension over encoded items, without tests -/
theorem comp_all {α : Type} {its : LFn} {g : GFn} {c : TFn} {e : DFn} {vs : List Nat} {ρ : DEnv} (enc : α → D) (F : α → D) {xs : List α} (hi : its ρ = some (xs.map enc, ρ)) (hl : xs.length ≤ sizeLine) (h : ∀ x, x ∈ xs → cstep g c e (wipeD ρ vs) (enc x) = some (some (F x))) :
    fComp its g c e vs ρ = some (xs.map F, ρ) := by
  unfold fComp
  rw [hi]
  simp only [Option.bind_some, List.length_map, hl, if_true]
  rw [compD_all enc F h]
  rfl
theorem comp_step {α : Type} {its : LFn} {g : GFn} {c : TFn} {e : DFn} {vs : List Nat} {ρ : DEnv} (enc : α → D) (F : α → Option D) {xs : List α} (hi : its ρ = some (xs.map enc, ρ)) (hl : xs.length ≤ sizeLine) (h : ∀ x, x ∈ xs → cstep g c e (wipeD ρ vs) (enc x) = some (F x)) :
    fComp its g c e vs ρ = some (xs.filterMap F, ρ) := by
  unfold fComp
  rw [hi]
  simp only [Option.bind_some, List.length_map, hl, if_true]
  rw [compD_step enc F h]
  rfl
theorem len_line {α : Type} {xs : List α} (h : xs.length ≤ 1000) : xs.length ≤ sizeLine := Nat.le_trans h (by decide)
theorem zip_line {α β : Type} {xs : List α} {ys : List β} (h : xs.length ≤ 1000) : (xs.zip ys).length ≤ sizeLine := by
  rw [List.length_zip]
  exact Nat.le_trans (Nat.le_trans (Nat.min_le_left _ _) h) (by decide)
/-- a loop that goes to its end -/
theorem loopD_inv {α S : Type} {g : GFn} {b : SFn} (enc : α → D) (f : S → α → S) (I : S → DEnv → Prop) : ∀ {xs : List α} {s : S} {ρ : DEnv}, I s ρ →
    (∀ x s ρ, x ∈ xs → I s ρ → ∃ ρ', (g (enc x) ρ).bind b = some (.nx ρ') ∧ I (f s x) ρ') → ∃ ρ', loopD g b (xs.map enc) ρ = some (.nx ρ') ∧ I (xs.foldl f s) ρ'
  | [], s, ρ, i, _ => ⟨ρ, rfl, i⟩
  | x :: r, s, ρ, i, h => by
    obtain ⟨ρ1, e1, i1⟩ := h x s ρ List.mem_cons_self i
    obtain ⟨ρ2, e2, i2⟩ := loopD_inv enc f I (xs := r) i1 fun y s ρ hy => h y s ρ (List.mem_cons_of_mem _ hy)
    refine ⟨ρ2, ?_, i2⟩
    rw [List.map_cons]
    unfold loopD
    cases e3 : g (enc x) ρ with
    | none => rw [e3] at e1; cases e1
    | some ρ3 =>
      rw [e3] at e1
      simp only [Option.bind_some] at e1 ⊢
      rw [e1]
      exact e2
/-! sums -/
def qsum (xs : List Rat) : Rat := xs.foldl (· + ·) 0
def dot (xs ys : List Rat) : Rat := qsum ((xs.zip ys).map fun z => z.1 * z.2)
theorem foldl_add (xs : List Rat) (a : Rat) : xs.foldl (· + ·) a = a + qsum xs := by
  unfold qsum
  induction xs generalizing a with
  | nil => simp [Rat.add_zero]
  | cons x r ih =>
    rw [List.foldl_cons, List.foldl_cons, ih, ih (0 + x)]
    rw [Rat.zero_add, Rat.add_assoc]
@[simp] theorem qsum_nil : qsum [] = 0 := rfl
@[simp] theorem qsum_cons (x : Rat) (r : List Rat) : qsum (x :: r) = x + qsum r := by
  unfold qsum
  rw [List.foldl_cons, foldl_add, Rat.zero_add]
  rfl
@[simp] theorem dot_nil (ys : List Rat) : dot [] ys = 0 := rfl
@[simp] theorem dot_nil' (xs : List Rat) : dot xs [] = 0 := by unfold dot; simp
@[simp] theorem dot_cons (x y : Rat) (xs ys : List Rat) : dot (x :: xs) (y :: ys) = x * y + dot xs ys := by
  unfold dot
  rw [List.zip_cons_cons, List.map_cons, qsum_cons]
theorem sz_zero : Sz 1 0 := by refine ⟨?_, ?_⟩ <;> decide
theorem sz_one : Sz 1 1 := by refine ⟨?_, ?_⟩ <;> decide
theorem sz_qsum {n : Nat} : ∀ {xs : List Rat} {a : Rat} {m : Nat}, Sz m a → (∀ x, x ∈ xs → Sz n x) → Sz (m + xs.length * (n + 1)) (xs.foldl (· + ·) a)
  | [], a, m, h, _ => by simpa using h
  | x :: r, a, m, h, hx => by
    rw [List.foldl_cons]
    have h1 := sz_add h (hx x List.mem_cons_self)
    have h2 := sz_qsum (xs := r) h1 fun y hy => hx y (List.mem_cons_of_mem _ hy)
    refine h2.mono ?_
    rw [List.length_cons, Nat.add_mul]
    omega
end Dl

namespace Dl
open PySem L2
/-! data of ints and tuples: == is equality -/
mutual
inductive Nm : Nat → D → Prop
  | int {k : Nat} (i : Int) : Nm k (.int i)
  | tup {k : Nat} {ds : List D} : Nms k ds → Nm (k + 1) (.tup ds)
inductive Nms : Nat → List D → Prop
  | nil {k : Nat} : Nms k []
  | cons {k : Nat} {d : D} {ds : List D} : Nm k d → Nms k ds → Nms k (d :: ds)
end
theorem Nms.of {k : Nat} : ∀ {ds : List D}, (∀ d, d ∈ ds → Nm k d) → Nms k ds
  | [], _ => .nil
  | d :: r, h => .cons (h d List.mem_cons_self) (Nms.of fun e he => h e (List.mem_cons_of_mem _ he))
mutual
theorem Nm.lay {k : Nat} : ∀ {d : D}, Nm k d → (toPy d).canLay0 = true ∧ (toPy d).depth ≤ k
  | _, .int i => ⟨rfl, Nat.zero_le _⟩
  | _, .tup h => by
    obtain ⟨h1, h2⟩ := Nms.lay h
    exact ⟨by simpa [toPy, PyData.canLay0] using h1, by simp only [toPy, PyData.depth]; omega⟩
theorem Nms.lay {k : Nat} : ∀ {ds : List D}, Nms k ds → PyData.canLayAll0 (toPys ds) = true ∧ PyData.depthAll (toPys ds) ≤ k
  | _, .nil => ⟨rfl, Nat.zero_le _⟩
  | _, .cons h t => by
    obtain ⟨h1, h2⟩ := Nm.lay h
    obtain ⟨h3, h4⟩ := Nms.lay t
    exact ⟨by simp only [toPys, PyData.canLayAll0, h1, h3, Bool.and_self], by simp only [toPys, PyData.depthAll]; omega⟩
end
theorem Nm.shaped {k : Nat} {d : D} (h : Nm k d) (hk : k ≤ 64) : SeqAt.shaped (toPy d) = true := by
  unfold SeqAt.shaped
  rw [h.lay.1, Bool.true_and, decide_eq_true_eq]
  exact Nat.le_trans h.lay.2 hk
mutual
theorem Nm.eqv {k : Nat} : ∀ {d : D} {l : Nat} {e : D}, Nm k d → Nm l e → (PyData.eqv (toPy d) (toPy e) = true ↔ d = e)
  | _, _, _, .int i, .int j => by simp [toPy, PyData.eqv]
  | _, _, _, .int i, .tup h => by simp [toPy, PyData.eqv]
  | _, _, _, .tup h, .int j => by simp [toPy, PyData.eqv]
  | _, _, _, .tup h, .tup g => by
    simp only [toPy, PyData.eqv, D.tup.injEq]
    exact Nms.eqv h g
theorem Nms.eqv {k : Nat} : ∀ {d : List D} {l : Nat} {e : List D}, Nms k d → Nms l e → (PyData.eqvAll (toPys d) (toPys e) = true ↔ d = e)
  | _, _, _, .nil, .nil => by simp [toPys, PyData.eqvAll]
  | _, _, _, .nil, .cons h t => by simp [toPys, PyData.eqvAll]
  | _, _, _, .cons h t, .nil => by simp [toPys, PyData.eqvAll]
  | _, _, _, .cons h t, .cons g u => by
    simp only [toPys, PyData.eqvAll, Bool.and_eq_true, List.cons.injEq]
    rw [Nm.eqv h g, Nms.eqv t u]
end
theorem nm_Q (q : Rat) : Nm 1 (Q q) := .tup (.cons (.int _) (.cons (.int _) .nil))
theorem nm_R (xs : List Rat) : Nm 2 (Rw xs) := .tup (.of fun d h => by
  rw [List.mem_map] at h
  obtain ⟨x, _, rfl⟩ := h
  exact nm_Q x)
theorem nm_T (t : List (List Rat)) : Nm 3 (Tb t) := .tup (.of fun d h => by
  rw [List.mem_map] at h
  obtain ⟨x, _, rfl⟩ := h
  exact nm_R x)
theorem gEq_nm {k l : Nat} {d e : D} (h : Nm k d) (g : Nm l e) (hk : k ≤ 64) (hl : l ≤ 64) : gEq d e = some (.bl (PyData.eqv (toPy d) (toPy e))) := by
  unfold gEq eqOk
  rw [h.shaped hk, g.shaped hl]
  rfl
theorem gNe_nm {k l : Nat} {d e : D} (h : Nm k d) (g : Nm l e) (hk : k ≤ 64) (hl : l ≤ 64) : gNe d e = some (.bl (!PyData.eqv (toPy d) (toPy e))) := by
  unfold gNe eqOk
  rw [h.shaped hk, g.shaped hl]
  rfl
@[simp] theorem gEq_int (i j : Int) : gEq (.int i) (.int j) = some (.bl (decide (i = j))) := by
  rw [gEq_nm (k := 0) (l := 0) (.int i) (.int j) (by decide) (by decide)]
  simp only [toPy, PyData.eqv]
  rw [show (i == j) = decide (i = j) from by rw [Bool.eq_iff_iff]; simp]
@[simp] theorem gNe_int (i j : Int) : gNe (.int i) (.int j) = some (.bl (!decide (i = j))) := by
  rw [gNe_nm (k := 0) (l := 0) (.int i) (.int j) (by decide) (by decide)]
  simp only [toPy, PyData.eqv]
  rw [show (i == j) = decide (i = j) from by rw [Bool.eq_iff_iff]; simp]
theorem eqvQ (a b : Rat) : PyData.eqv (toPy (Q a)) (toPy (Q b)) = decide (a = b) := by
  rw [Bool.eq_iff_iff, (nm_Q a).eqv (nm_Q b), decide_eq_true_eq]
  exact ⟨Q_inj, fun h => h ▸ rfl⟩
@[simp] theorem gEq_Q (a b : Rat) : gEq (Q a) (Q b) = some (.bl (decide (a = b))) := by
  rw [gEq_nm (nm_Q a) (nm_Q b) (by decide) (by decide), eqvQ]
@[simp] theorem gNe_Q (a b : Rat) : gNe (Q a) (Q b) = some (.bl (!decide (a = b))) := by
  rw [gNe_nm (nm_Q a) (nm_Q b) (by decide) (by decide), eqvQ]
theorem mapQ_inj : ∀ {xs ys : List Rat}, xs.map Q = ys.map Q → xs = ys
  | [], [], _ => rfl
  | [], _ :: _, h => by simp at h
  | _ :: _, [], h => by simp at h
  | x :: xs, y :: ys, h => by
    rw [List.map_cons, List.map_cons, List.cons.injEq] at h
    rw [Q_inj h.1, mapQ_inj h.2]
theorem Rw_inj {xs ys : List Rat} (h : Rw xs = Rw ys) : xs = ys := by
  unfold Rw at h
  injection h with h
  exact mapQ_inj h
theorem mapR_inj : ∀ {xs ys : List (List Rat)}, xs.map Rw = ys.map Rw → xs = ys
  | [], [], _ => rfl
  | [], _ :: _, h => by simp at h
  | _ :: _, [], h => by simp at h
  | x :: xs, y :: ys, h => by
    rw [List.map_cons, List.map_cons, List.cons.injEq] at h
    rw [Rw_inj h.1, mapR_inj h.2]
theorem Tb_inj {xs ys : List (List Rat)} (h : Tb xs = Tb ys) : xs = ys := by
  unfold Tb at h
  injection h with h
  exact mapR_inj h
@[simp] theorem gEq_T (s t : List (List Rat)) : gEq (Tb s) (Tb t) = some (.bl (decide (s = t))) := by
  rw [gEq_nm (nm_T s) (nm_T t) (by decide) (by decide)]
  congr 2
  rw [Bool.eq_iff_iff, (nm_T s).eqv (nm_T t), decide_eq_true_eq]
  exact ⟨Tb_inj, fun h => h ▸ rfl⟩
@[simp] theorem ix_Q0 (q : Rat) : gIx (Q q) (.int 0) = some (.int q.num) := rfl
@[simp] theorem ix_Q1 (q : Rat) : gIx (Q q) (.int 1) = some (.int q.den) := rfl
theorem atI_nat {α : Type} (xs : List α) (j : Nat) : atI xs (j : Int) = xs[j]? := by
  unfold atI ixN
  rw [if_pos (Int.natCast_nonneg j)]
  by_cases h : j < xs.length
  · rw [if_pos (by exact_mod_cast h)]
    rfl
  · rw [if_neg (by exact_mod_cast h), List.getElem?_eq_none (by omega)]
    rfl
theorem ix_R {xs : List Rat} {j : Nat} (h : j < xs.length) : gIx (Rw xs) (.int (j : Nat)) = some (Q (xs[j]?.getD 0)) := by
  show atI (xs.map Q) ((j : Nat) : Int) = _
  rw [atI_nat, List.getElem?_map, List.getElem?_eq_getElem h]
  rfl
theorem ix_T {t : List (List Rat)} {j : Nat} (h : j < t.length) : gIx (Tb t) (.int (j : Nat)) = some (Rw (t[j]?.getD [])) := by
  show atI (t.map Rw) ((j : Nat) : Int) = _
  rw [atI_nat, List.getElem?_map, List.getElem?_eq_getElem h]
  rfl
@[simp] theorem isT_Q (q : Rat) : isTup (Q q) = true := rfl
@[simp] theorem isT_R (q : List Rat) : isTup (Rw q) = true := rfl
@[simp] theorem isT_T (q : List (List Rat)) : isTup (Tb q) = true := rfl
theorem bls_true {α : Type} (xs : List α) : gAll [.lst (xs.map fun _ => .bl true)] = some (.bl true) := by
  have h : ∀ xs : List α, blsOf (xs.map fun _ => D.bl true) = some (xs.map fun _ => true) := fun xs => by
    induction xs with
    | nil => rfl
    | cons x r ih => show (blsOf (r.map fun _ => D.bl true)).map (true :: ·) = _; rw [ih]; rfl
  unfold gAll
  simp only [h, Option.map_some]
  congr 2
  induction xs with
  | nil => rfl
  | cons x r ih => simpa using ih
/-- what is counted from 0 on -/
def natD (j : Nat) : D := .int (j : Nat)
theorem range_nat (n : Nat) : rangeD 0 n = (List.range n).map natD := by
  unfold rangeD natD
  simp
theorem rng1 {n : Nat} {fs : LFn} {ρ : DEnv} (h : fs ρ = some ([.int (n : Nat)], ρ)) (hn : n ≤ 1000) : fRng1 fs ρ = some ((List.range n).map natD, ρ) := by
  unfold fRng1
  rw [h, Option.bind_some]
  dsimp only
  rw [if_pos]
  · rw [Int.toNat_natCast, range_nat]
  · refine ⟨Int.le_trans (b := 0) (by decide +kernel) (Int.natCast_nonneg n), Int.lt_of_le_of_lt (b := 1000) ?_ (by decide +kernel)⟩
    exact_mod_cast hn
/-! statement by statement -/
theorem seq_nx {a b : SFn} {ρ ρ1 : DEnv} (h : a ρ = some (.nx ρ1)) : fSeq a b ρ = b ρ1 := by rw [ap_seq, h]; rfl
theorem seq_rt {a b : SFn} {ρ ρ1 : DEnv} {d : D} (h : a ρ = some (.rt d ρ1)) : fSeq a b ρ = some (.rt d ρ1) := by rw [ap_seq, h]; rfl
theorem out_rt {fr : Bool} {N : Nat} {b : SFn} {ds : List D} {d : D} {ρ : DEnv} (h : b (startD N ds) = some (.rt d ρ)) : outP fr N b ds = some d := by unfold outP; rw [h]; rfl
theorem out_nx {N : Nat} {b : SFn} {ds : List D} {ρ : DEnv} (h : b (startD N ds) = some (.nx ρ)) : outP false N b ds = some .non := by unfold outP; rw [h]; rfl
theorem outU_rt {N : Nat} {b : SFn} {es ds xs : List D} {d : D} {ρ : DEnv} (h : b (startD N (.lst es :: ds)) = some (.rt d ρ)) (h0 : ρ[0]?.join = some (.lst xs)) : outU N b es ds = some (d, xs) := by
  unfold outU
  rw [h]
  simp only [Option.bind_some, h0]
  rfl
theorem if_t {c : TFn} {a b : SFn} {ρ ρ1 : DEnv} (h : c ρ = some (true, ρ1)) : fIfS c a b ρ = a ρ1 := by unfold fIfS; rw [h]; rfl
theorem if_f {c : TFn} {a b : SFn} {ρ ρ1 : DEnv} (h : c ρ = some (false, ρ1)) : fIfS c a b ρ = b ρ1 := by unfold fIfS; rw [h]; rfl
theorem for_nx {its : LFn} {g : GFn} {b : SFn} {ρ ρ1 : DEnv} {ds : List D} (h : its ρ = some (ds, ρ1)) : fFor its g b ρ = loopD g b ds ρ1 := by unfold fFor; rw [h]; rfl
theorem e_call {g : List D → Option D} {fs : LFn} {ρ ρ1 : DEnv} {ds : List D} {d : D} (h : fs ρ = some (ds, ρ1)) (hg : g ds = some d) : fCall g fs ρ = some (d, ρ1) := by rw [ap_call, h]; simp only [Option.bind_some, hg]; rfl
theorem e_ret {f : DFn} {ρ ρ1 : DEnv} {d : D} (h : f ρ = some (d, ρ1)) : fRet f ρ = some (.rt d ρ1) := by rw [ap_ret, h]; rfl
theorem e_bin {g : D → D → Option D} {f1 f2 : DFn} {ρ ρ1 ρ2 : DEnv} {x y d : D} (h1 : f1 ρ = some (x, ρ1)) (h2 : f2 ρ1 = some (y, ρ2)) (hg : g x y = some d) : fBin g f1 f2 ρ = some (d, ρ2) := by
  rw [ap_bin, h1]; simp only [Option.bind_some, h2, hg]; rfl
theorem e_drop {f : DFn} {ρ ρ1 : DEnv} {d : D} (h : f ρ = some (d, ρ1)) : fDrop f ρ = some (.nx ρ1) := by unfold fDrop; rw [h]; rfl
theorem e_set {i : Nat} {f : DFn} {ρ ρ1 : DEnv} {d : D} (h : f ρ = some (d, ρ1)) (hl : i < ρ1.length) : fSet i f ρ = some (.nx (ρ1.set i (some d))) := by unfold fSet; rw [h]; simp only [Option.bind_some]; rw [if_pos hl]
end Dl

set_option maxHeartbeats 4000000
namespace W
open PySem PySem.Spec PyProof.Rows L2 Dl
abbrev N_is_whole : List Str := ["value"]
theorem sc_is_whole : FnScope N_is_whole ["value"] (defScope (top 2)) := ⟨rfl, rfl, rfl, by decide +kernel, rfl, by decide +kernel, by decide +kernel⟩
abbrev N_is_between : List Str := ["value", "low", "high"]
theorem sc_is_between : FnScope N_is_between ["value", "low", "high"] (defScope (top 3)) := ⟨rfl, rfl, rfl, by decide +kernel, rfl, by decide +kernel, by decide +kernel⟩
abbrev N_are_wholes : List Str := ["value", "many", "each"]
theorem sc_are_wholes : FnScope N_are_wholes ["value", "many"] (defScope (top 4)) := ⟨rfl, rfl, rfl, by decide +kernel, rfl, by decide +kernel, by decide +kernel⟩
abbrev N_divisor_of : List Str := ["numbers", "found", "each"]
theorem sc_divisor_of : FnScope N_divisor_of ["numbers"] (defScope (top 5)) := ⟨rfl, rfl, rfl, by decide +kernel, rfl, by decide +kernel, by decide +kernel⟩
abbrev N_is_ratio : List Str := ["value"]
theorem sc_is_ratio : FnScope N_is_ratio ["value"] (defScope (top 9)) := ⟨rfl, rfl, rfl, by decide +kernel, rfl, by decide +kernel, by decide +kernel⟩
abbrev N_ratio : List Str := ["top", "low", "part"]
theorem sc_ratio : FnScope N_ratio ["top", "low"] (defScope (top 10)) := ⟨rfl, rfl, rfl, by decide +kernel, rfl, by decide +kernel, by decide +kernel⟩
abbrev N_plus : List Str := ["one", "two"]
theorem sc_plus : FnScope N_plus ["one", "two"] (defScope (top 11)) := ⟨rfl, rfl, rfl, by decide +kernel, rfl, by decide +kernel, by decide +kernel⟩
abbrev N_minus : List Str := ["one", "two"]
theorem sc_minus : FnScope N_minus ["one", "two"] (defScope (top 12)) := ⟨rfl, rfl, rfl, by decide +kernel, rfl, by decide +kernel, by decide +kernel⟩
abbrev N_times : List Str := ["one", "two"]
theorem sc_times : FnScope N_times ["one", "two"] (defScope (top 13)) := ⟨rfl, rfl, rfl, by decide +kernel, rfl, by decide +kernel, by decide +kernel⟩
abbrev N_over : List Str := ["one", "two"]
theorem sc_over : FnScope N_over ["one", "two"] (defScope (top 14)) := ⟨rfl, rfl, rfl, by decide +kernel, rfl, by decide +kernel, by decide +kernel⟩
abbrev N_opposite : List Str := ["one"]
theorem sc_opposite : FnScope N_opposite ["one"] (defScope (top 15)) := ⟨rfl, rfl, rfl, by decide +kernel, rfl, by decide +kernel, by decide +kernel⟩
abbrev N_total : List Str := ["fractions", "found", "each"]
theorem sc_total : FnScope N_total ["fractions"] (defScope (top 16)) := ⟨rfl, rfl, rfl, by decide +kernel, rfl, by decide +kernel, by decide +kernel⟩
abbrev N_products_of : List Str := ["ones", "twos", "one", "two"]
theorem sc_products_of : FnScope N_products_of ["ones", "twos"] (defScope (top 17)) := ⟨rfl, rfl, rfl, by decide +kernel, rfl, by decide +kernel, by decide +kernel⟩
abbrev N_is_row : List Str := ["value", "many", "each"]
theorem sc_is_row : FnScope N_is_row ["value", "many"] (defScope (top 19)) := ⟨rfl, rfl, rfl, by decide +kernel, rfl, by decide +kernel, by decide +kernel⟩
abbrev N_is_square : List Str := ["value", "many", "row"]
theorem sc_is_square : FnScope N_is_square ["value", "many"] (defScope (top 20)) := ⟨rfl, rfl, rfl, by decide +kernel, rfl, by decide +kernel, by decide +kernel⟩
abbrev N_unit_rows : List Str := ["many", "place", "at"]
theorem sc_unit_rows : FnScope N_unit_rows ["many"] (defScope (top 21)) := ⟨rfl, rfl, rfl, by decide +kernel, rfl, by decide +kernel, by decide +kernel⟩
abbrev N_row_plus : List Str := ["one", "two", "here", "there"]
theorem sc_row_plus : FnScope N_row_plus ["one", "two"] (defScope (top 22)) := ⟨rfl, rfl, rfl, by decide +kernel, rfl, by decide +kernel, by decide +kernel⟩
abbrev N_row_less : List Str := ["one", "two", "here", "there"]
theorem sc_row_less : FnScope N_row_less ["one", "two"] (defScope (top 23)) := ⟨rfl, rfl, rfl, by decide +kernel, rfl, by decide +kernel, by decide +kernel⟩
abbrev N_row_scaled : List Str := ["row", "number", "each"]
theorem sc_row_scaled : FnScope N_row_scaled ["row", "number"] (defScope (top 24)) := ⟨rfl, rfl, rfl, by decide +kernel, rfl, by decide +kernel, by decide +kernel⟩
abbrev N_led : List Str := ["rows", "row", "each"]
theorem sc_led : FnScope N_led ["rows", "row"] (defScope (top 25)) := ⟨rfl, rfl, rfl, by decide +kernel, rfl, by decide +kernel, by decide +kernel⟩
abbrev N_flipped : List Str := ["rows", "many", "at", "row"]
theorem sc_flipped : FnScope N_flipped ["rows", "many"] (defScope (top 26)) := ⟨rfl, rfl, rfl, by decide +kernel, rfl, by decide +kernel, by decide +kernel⟩
abbrev N_table_less : List Str := ["one", "two", "here", "there"]
theorem sc_table_less : FnScope N_table_less ["one", "two"] (defScope (top 27)) := ⟨rfl, rfl, rfl, by decide +kernel, rfl, by decide +kernel, by decide +kernel⟩
abbrev N_stairs : List Str := ["rows", "width", "found", "steps", "column", "here", "place", "lead", "row", "at"]
theorem sc_stairs : FnScope N_stairs ["rows", "width"] (defScope (top 28)) := ⟨rfl, rfl, rfl, by decide +kernel, rfl, by decide +kernel, by decide +kernel⟩
abbrev N_rank : List Str := ["rows", "width"]
theorem sc_rank : FnScope N_rank ["rows", "width"] (defScope (top 29)) := ⟨rfl, rfl, rfl, by decide +kernel, rfl, by decide +kernel, by decide +kernel⟩
abbrev N_is_formed : List Str := ["value"]
theorem sc_is_formed : FnScope N_is_formed ["value"] (defScope (top 32)) := ⟨rfl, rfl, rfl, by decide +kernel, rfl, by decide +kernel, by decide +kernel⟩
abbrev N_product_by : List Str := ["form", "one", "two"]
theorem sc_product_by : FnScope N_product_by ["form", "one", "two"] (defScope (top 33)) := ⟨rfl, rfl, rfl, by decide +kernel, rfl, by decide +kernel, by decide +kernel⟩
abbrev N_worth_by : List Str := ["form", "row"]
theorem sc_worth_by : FnScope N_worth_by ["form", "row"] (defScope (top 34)) := ⟨rfl, rfl, rfl, by decide +kernel, rfl, by decide +kernel, by decide +kernel⟩
abbrev N_products_table : List Str := ["one", "two", "each"]
theorem sc_products_table : FnScope N_products_table ["one", "two"] (defScope (top 35)) := ⟨rfl, rfl, rfl, by decide +kernel, rfl, by decide +kernel, by decide +kernel⟩
abbrev N_first_pivot : List Str := ["form", "many", "at", "found", "one", "two"]
theorem sc_first_pivot : FnScope N_first_pivot ["form"] (defScope (top 36)) := ⟨rfl, rfl, rfl, by decide +kernel, rfl, by decide +kernel, by decide +kernel⟩
abbrev N_pivot_squares : List Str := ["form", "pivot", "one", "two", "half"]
theorem sc_pivot_squares : FnScope N_pivot_squares ["form", "pivot"] (defScope (top 37)) := ⟨rfl, rfl, rfl, by decide +kernel, rfl, by decide +kernel, by decide +kernel⟩
abbrev N_free_with : List Str := ["rows", "many", "found", "made", "row"]
theorem sc_free_with : FnScope N_free_with ["rows", "many"] (defScope (top 38)) := ⟨rfl, rfl, rfl, by decide +kernel, rfl, by decide +kernel, by decide +kernel⟩
abbrev N_squares_by : List Str := ["form", "left", "found", "many", "pivot", "taken", "number", "row", "_"]
theorem sc_squares_by : FnScope N_squares_by ["form"] (defScope (top 39)) := ⟨rfl, rfl, rfl, by decide +kernel, rfl, by decide +kernel, by decide +kernel⟩
abbrev N_signs_by : List Str := ["form", "tops", "number", "_", "top"]
theorem sc_signs_by : FnScope N_signs_by ["form"] (defScope (top 40)) := ⟨rfl, rfl, rfl, by decide +kernel, rfl, by decide +kernel, by decide +kernel⟩
abbrev N_is_positive : List Str := ["form"]
theorem sc_is_positive : FnScope N_is_positive ["form"] (defScope (top 41)) := ⟨rfl, rfl, rfl, by decide +kernel, rfl, by decide +kernel, by decide +kernel⟩
abbrev N_is_tabled : List Str := ["value"]
theorem sc_is_tabled : FnScope N_is_tabled ["value"] (defScope (top 42)) := ⟨rfl, rfl, rfl, by decide +kernel, rfl, by decide +kernel, by decide +kernel⟩
abbrev N_check_form : List Str := ["value"]
theorem sc_check_form : FnScope N_check_form ["value"] (defScope (top 49)) := ⟨rfl, rfl, rfl, by decide +kernel, rfl, by decide +kernel, by decide +kernel⟩
abbrev N_check_table : List Str := ["value"]
theorem sc_check_table : FnScope N_check_table ["value"] (defScope (top 50)) := ⟨rfl, rfl, rfl, by decide +kernel, rfl, by decide +kernel, by decide +kernel⟩
abbrev N_check_row : List Str := ["many", "value", "index", "each"]
theorem sc_check_row : FnScope N_check_row ["many", "value"] (defScope (top 51)) := ⟨rfl, rfl, rfl, by decide +kernel, rfl, by decide +kernel, by decide +kernel⟩
abbrev N_is_table : List Str := ["value"]
theorem sc_is_table : FnScope N_is_table ["value"] (defScope (top 53)) := ⟨rfl, rfl, rfl, by decide +kernel, rfl, by decide +kernel, by decide +kernel⟩
abbrev N_worth : List Str := ["form", "row"]
theorem sc_worth : FnScope N_worth ["form", "row"] (defScope (top 54)) := ⟨rfl, rfl, rfl, by decide +kernel, rfl, by decide +kernel, by decide +kernel⟩
abbrev N_energy_product : List Str := ["table", "row", "other"]
theorem sc_energy_product : FnScope N_energy_product ["table", "row", "other"] (defScope (top 55)) := ⟨rfl, rfl, rfl, by decide +kernel, rfl, by decide +kernel, by decide +kernel⟩
abbrev N__law_urn : List Str := ["script", "turn", "mixed", "cell", "own"]
theorem sc__law_urn : FnScope N__law_urn ["script", "turn"] (defScope (top 57)) := ⟨rfl, rfl, rfl, by decide +kernel, rfl, by decide +kernel, by decide +kernel⟩
abbrev N__law_take : List Str := ["urn", "limit", "digit", "seed"]
theorem sc__law_take : FnScope N__law_take ["urn", "limit"] (defScope (top 58)) := ⟨rfl, rfl, rfl, by decide +kernel, rfl, by decide +kernel, by decide +kernel⟩
abbrev N__law_pick : List Str := ["urn", "some"]
theorem sc__law_pick : FnScope N__law_pick ["urn", "some"] (defScope (top 59)) := ⟨rfl, rfl, rfl, by decide +kernel, rfl, by decide +kernel, by decide +kernel⟩
abbrev N__law_frac : List Str := ["top", "low", "one", "two"]
theorem sc__law_frac : FnScope N__law_frac ["top", "low"] (defScope (top 60)) := ⟨rfl, rfl, rfl, by decide +kernel, rfl, by decide +kernel, by decide +kernel⟩
abbrev N__law_times : List Str := ["one", "two"]
theorem sc__law_times : FnScope N__law_times ["one", "two"] (defScope (top 61)) := ⟨rfl, rfl, rfl, by decide +kernel, rfl, by decide +kernel, by decide +kernel⟩
abbrev N__law_dot : List Str := ["one", "two", "top", "low", "here", "there", "by"]
theorem sc__law_dot : FnScope N__law_dot ["one", "two"] (defScope (top 62)) := ⟨rfl, rfl, rfl, by decide +kernel, rfl, by decide +kernel, by decide +kernel⟩
abbrev N__law_go : List Str := ["grid", "line", "each"]
theorem sc__law_go : FnScope N__law_go ["grid", "line"] (defScope (top 63)) := ⟨rfl, rfl, rfl, by decide +kernel, rfl, by decide +kernel, by decide +kernel⟩
abbrev N__law_flip : List Str := ["grid", "spot", "line"]
theorem sc__law_flip : FnScope N__law_flip ["grid"] (defScope (top 64)) := ⟨rfl, rfl, rfl, by decide +kernel, rfl, by decide +kernel, by decide +kernel⟩
abbrev N__law_mul : List Str := ["one", "two", "sides", "line", "side"]
theorem sc__law_mul : FnScope N__law_mul ["one", "two"] (defScope (top 65)) := ⟨rfl, rfl, rfl, by decide +kernel, rfl, by decide +kernel, by decide +kernel⟩
abbrev N__law_by : List Str := ["line", "by", "x"]
theorem sc__law_by : FnScope N__law_by ["line", "by"] (defScope (top 66)) := ⟨rfl, rfl, rfl, by decide +kernel, rfl, by decide +kernel, by decide +kernel⟩
abbrev N__law_at : List Str := ["grid", "line"]
theorem sc__law_at : FnScope N__law_at ["grid", "line"] (defScope (top 67)) := ⟨rfl, rfl, rfl, by decide +kernel, rfl, by decide +kernel, by decide +kernel⟩
abbrev N__law_is_frac : List Str := ["thing", "top", "low"]
theorem sc__law_is_frac : FnScope N__law_is_frac ["thing"] (defScope (top 68)) := ⟨rfl, rfl, rfl, by decide +kernel, rfl, by decide +kernel, by decide +kernel⟩
abbrev N__law_is_line : List Str := ["thing", "size", "each"]
theorem sc__law_is_line : FnScope N__law_is_line ["thing", "size"] (defScope (top 69)) := ⟨rfl, rfl, rfl, by decide +kernel, rfl, by decide +kernel, by decide +kernel⟩
abbrev N__law_is_grid : List Str := ["thing", "size", "each"]
theorem sc__law_is_grid : FnScope N__law_is_grid ["thing", "size"] (defScope (top 70)) := ⟨rfl, rfl, rfl, by decide +kernel, rfl, by decide +kernel, by decide +kernel⟩
abbrev N__law_number : List Str := ["urn", "branch"]
theorem sc__law_number : FnScope N__law_number ["urn"] (defScope (top 71)) := ⟨rfl, rfl, rfl, by decide +kernel, rfl, by decide +kernel, by decide +kernel⟩
abbrev N__law_line : List Str := ["urn", "size", "found", "turn"]
theorem sc__law_line : FnScope N__law_line ["urn", "size"] (defScope (top 72)) := ⟨rfl, rfl, rfl, by decide +kernel, rfl, by decide +kernel, by decide +kernel⟩
abbrev N__law_of_squares : List Str := ["heights", "lines", "line", "height"]
theorem sc__law_of_squares : FnScope N__law_of_squares ["heights", "lines"] (defScope (top 73)) := ⟨rfl, rfl, rfl, by decide +kernel, rfl, by decide +kernel, by decide +kernel⟩
abbrev N__law_table : List Str := ["urn", "size", "stairs_v", "heights", "spot"]
theorem sc__law_table : FnScope N__law_table ["urn", "size"] (defScope (top 74)) := ⟨rfl, rfl, rfl, by decide +kernel, rfl, by decide +kernel, by decide +kernel⟩
abbrev N__law_size : List Str := ["urn"]
theorem sc__law_size : FnScope N__law_size ["urn"] (defScope (top 75)) := ⟨rfl, rfl, rfl, by decide +kernel, rfl, by decide +kernel, by decide +kernel⟩
abbrev N__law_same : List Str := ["told", "due", "x", "y"]
theorem sc__law_same : FnScope N__law_same ["told", "due"] (defScope (top 76)) := ⟨rfl, rfl, rfl, by decide +kernel, rfl, by decide +kernel, by decide +kernel⟩
abbrev N__law_odd : List Str := ["urn"]
theorem sc__law_odd : FnScope N__law_odd ["urn"] (defScope (top 77)) := ⟨rfl, rfl, rfl, by decide +kernel, rfl, by decide +kernel, by decide +kernel⟩
abbrev N__law_bent : List Str := ["urn", "thing", "spot", "branch"]
theorem sc__law_bent : FnScope N__law_bent ["urn", "thing"] (defScope (top 78)) := ⟨rfl, rfl, rfl, by decide +kernel, rfl, by decide +kernel, by decide +kernel⟩
abbrev N__law_form : List Str := ["urn", "size", "found", "spot", "heights", "lines", "turn", "line"]
theorem sc__law_form : FnScope N__law_form ["urn", "size"] (defScope (top 79)) := ⟨rfl, rfl, rfl, by decide +kernel, rfl, by decide +kernel, by decide +kernel⟩
abbrev N__law_square : List Str := ["urn", "size", "found", "turn"]
theorem sc__law_square : FnScope N__law_square ["urn", "size"] (defScope (top 80)) := ⟨rfl, rfl, rfl, by decide +kernel, rfl, by decide +kernel, by decide +kernel⟩
abbrev N__law_is_any_right : List Str := ["urn", "thing", "turn", "due"]
theorem sc__law_is_any_right : FnScope N__law_is_any_right ["urn"] (defScope (top 81)) := ⟨rfl, rfl, rfl, by decide +kernel, rfl, by decide +kernel, by decide +kernel⟩
abbrev N__law_right : List Str := ["urn", "turn", "size", "shape", "line", "more", "due", "grid", "told"]
theorem sc__law_right : FnScope N__law_right ["urn"] (defScope (top 82)) := ⟨rfl, rfl, rfl, by decide +kernel, rfl, by decide +kernel, by decide +kernel⟩
abbrev N_law : List Str := ["script", "turn"]
theorem sc_law : FnScope N_law ["script"] (defScope (top 83)) := ⟨rfl, rfl, rfl, by decide +kernel, rfl, by decide +kernel, by decide +kernel⟩
def c_is_whole  : SFn := (fRet (fAndV (fIsi isInt (fVar 0)) (fNotV (fIsi isBool (fVar 0)))))
def b_is_whole : SFn := c_is_whole 
def m_is_whole : List D → Option D := outP false 1 b_is_whole
theorem okF_is_whole {P : Program} {w : World} {K : PySem.W.Frag} {mg : Str → Option Value} {base : Heap} (KX : K.In base) (G : base.Ns mainGlobals mg) (c : SaysY SAY K) (hT : P.given.tree = none) {fd : FuncData} (F : FunD K "is_whole" "is_whole" (defArgs (top 2)) (defBody (top 2)) (defScope (top 2)) [] [] (He.fAd K d_is_whole.at_) fd) : FnOk P w K mg base CX0 1 (He.fAd K d_is_whole.at_) fd ["value"] (spP K 1 false m_is_whole) := by
  have m_isinstance : mg "isinstance" = none := He.free_ok KX G (c.1.fact 68)
  have m_int : mg "int" = none := He.free_ok KX G (c.1.fact 69)
  have m_bool : mg "bool" = none := He.free_ok KX G (c.1.fact 70)
  exact fn_pure (x := "is_whole") (st := top 2) (N := N_is_whole) (ps := ["value"]) (own := []) (fresh := false) (b := b_is_whole) (k := 0) F sc_is_whole (by decide) (fun cdv A outer s H E W0 hr =>
    (dss_one (ds_ret (de_and (d_isi kit_int (by rfl) m_isinstance bt_isinstance (d_var (pe_var (i := 0) (by rfl) (by exact .inl rfl))) (pe_bltn (v := .ty "int") (by rfl) m_int bt_int rfl)) (de_one (de_not (d_isi kit_bool (by rfl) m_isinstance bt_isinstance (d_var (pe_var (i := 0) (by rfl) (by exact .inl rfl))) (pe_bltn (v := .ty "bool") (by rfl) m_bool bt_bool rfl))))))))
theorem ok_is_whole {P : Program} {w : World} {K : PySem.W.Frag} {mg : Str → Option Value} {base : Heap} (KX : K.In base) (G : base.Ns mainGlobals mg) (c : SaysY SAY K) (hT : P.given.tree = none) : Has P w K mg base 1 "is_whole" (spP K 1 false m_is_whole) := by
  obtain ⟨fd, F⟩ := c.1.def_ 0 (d := d_is_whole) rfl
  exact ⟨_, fd, ["value"], okF_is_whole KX G c hT F, He.glo_ok KX G (c.1.fact 0), F.kp, F.bindsN fun _ _ _ _ _ _ us hl => match us, hl with | [_], _ => rfl⟩
def c_is_between (m_is_whole : List D → Option D) : SFn := (fRet (fAndV (fCall m_is_whole (fCons (fVar 0) fNil)) (fChain gLe gLe (fVar 1) (fVar 0) (fVar 2))))
def b_is_between : SFn := c_is_between m_is_whole
def m_is_between : List D → Option D := outP false 3 b_is_between
theorem okF_is_between {P : Program} {w : World} {K : PySem.W.Frag} {mg : Str → Option Value} {base : Heap} (KX : K.In base) (G : base.Ns mainGlobals mg) (c : SaysY SAY K) (hT : P.given.tree = none) {fd : FuncData} (F : FunD K "is_between" "is_between" (defArgs (top 3)) (defBody (top 3)) (defScope (top 3)) [] [] (He.fAd K d_is_between.at_) fd) : FnOk P w K mg base CX0 2 (He.fAd K d_is_between.at_) fd ["value", "low", "high"] (spP K 3 false m_is_between) := by
  have h_is_whole := ok_is_whole (P := P) (w := w) KX G c hT
  exact fn_pure (x := "is_between") (st := top 3) (N := N_is_between) (ps := ["value", "low", "high"]) (own := []) (fresh := false) (b := b_is_between) (k := 1) F sc_is_between (by decide) (fun cdv A outer s H E W0 hr =>
    (dss_one (ds_ret (de_and (d_call h_is_whole hr (by decide) (by rfl) (da_cons (d_var (pe_var (i := 0) (by rfl) (by exact .inl rfl))) da_nil) (hl := (fCons_len fNil_len))) (de_one (d_chain op_le od_le op_le od_le (d_var (pe_var (i := 1) (by rfl) (by exact .inl rfl))) (d_var (pe_var (i := 0) (by rfl) (by exact .inl rfl))) (d_var (pe_var (i := 2) (by rfl) (by exact .inl rfl)))))))))
theorem ok_is_between {P : Program} {w : World} {K : PySem.W.Frag} {mg : Str → Option Value} {base : Heap} (KX : K.In base) (G : base.Ns mainGlobals mg) (c : SaysY SAY K) (hT : P.given.tree = none) : Has P w K mg base 2 "is_between" (spP K 3 false m_is_between) := by
  obtain ⟨fd, F⟩ := c.1.def_ 1 (d := d_is_between) rfl
  exact ⟨_, fd, ["value", "low", "high"], okF_is_between KX G c hT F, He.glo_ok KX G (c.1.fact 1), F.kp, F.bindsN fun _ _ _ _ _ _ us hl => match us, hl with | [_, _, _], _ => rfl⟩
def c_are_wholes (m_is_whole : List D → Option D) : SFn := (fRet (fAndV (fIsi isTup (fVar 0)) (fAndV (fBin gEq (fCall gLen (fCons (fVar 0) fNil)) (fVar 1)) (fCall gAll (fCons (fOfL (fComp (fItems (fVar 0)) (gNm 2) fYes (fCall m_is_whole (fCons (fVar 2) fNil)) [2])) fNil)))))
def b_are_wholes : SFn := c_are_wholes m_is_whole
def m_are_wholes : List D → Option D := outP false 3 b_are_wholes
theorem okF_are_wholes {P : Program} {w : World} {K : PySem.W.Frag} {mg : Str → Option Value} {base : Heap} (KX : K.In base) (G : base.Ns mainGlobals mg) (c : SaysY SAY K) (hT : P.given.tree = none) {fd : FuncData} (F : FunD K "are_wholes" "are_wholes" (defArgs (top 4)) (defBody (top 4)) (defScope (top 4)) [] [] (He.fAd K d_are_wholes.at_) fd) : FnOk P w K mg base CX0 2 (He.fAd K d_are_wholes.at_) fd ["value", "many"] (spP K 2 false m_are_wholes) := by
  have m_isinstance : mg "isinstance" = none := He.free_ok KX G (c.1.fact 68)
  have m_tuple : mg "tuple" = none := He.free_ok KX G (c.1.fact 71)
  have m_len : mg "len" = none := He.free_ok KX G (c.1.fact 72)
  have m_all : mg "all" = none := He.free_ok KX G (c.1.fact 73)
  have h_is_whole := ok_is_whole (P := P) (w := w) KX G c hT
  exact fn_pure (x := "are_wholes") (st := top 4) (N := N_are_wholes) (ps := ["value", "many"]) (own := []) (fresh := false) (b := b_are_wholes) (k := 1) F sc_are_wholes (by decide) (fun cdv A outer s H E W0 hr =>
    (dss_one (ds_ret (de_and (d_isi kit_tup (by rfl) m_isinstance bt_isinstance (d_var (pe_var (i := 0) (by rfl) (by exact .inl rfl))) (pe_bltn (v := .ty "tuple") (by rfl) m_tuple bt_tuple rfl)) (de_and (d_cmp (op_eqD hr.units) od_eq (d_callB call_len_seq cd_len (by rfl) m_len bt_len (da_cons (d_var (pe_var (i := 0) (by rfl) (by exact .inl rfl))) da_nil)) (d_var (pe_var (i := 1) (by rfl) (by exact .inl rfl))) (hm := nomark _)) (de_one (d_callB (cr_all rfl) cd_all (by rfl) m_all bt_all (da_cons (d_ofL (l_comp rfl sc_are_wholes.nd (di_seq (d_var (pe_var (i := 0) (by rfl) (by exact .inl rfl)))) (blkOk_by (N := N_are_wholes) (sc := (defScope (top 4))) (scope := ({ kind := PySem.ScopeKind.function, names := [(PySem.Str.ofString ".0", PySem.NameKind.local), (PySem.Str.ofString "each", PySem.NameKind.local), (PySem.Str.ofString "is_whole", PySem.NameKind.globalImplicit)], isGenerator := false, isCoroutine := false, more := [] } : PySem.Scope)) (own := [("each", 2)]) (by decide +kernel)) (fun _ _ _ _ _ _ => (dg_name (i := 2) sc_are_wholes.nd (by rfl) (by exact .inl rfl))) (fun _ _ _ _ _ _ => dts_nil) (fun _ _ _ _ _ _ => (d_call h_is_whole hr (by decide) (by rfl) (da_cons (d_var (pe_var (i := 2) (by rfl) (by exact .inl rfl))) da_nil) (hl := (fCons_len fNil_len)))))) da_nil))))))))
theorem ok_are_wholes {P : Program} {w : World} {K : PySem.W.Frag} {mg : Str → Option Value} {base : Heap} (KX : K.In base) (G : base.Ns mainGlobals mg) (c : SaysY SAY K) (hT : P.given.tree = none) : Has P w K mg base 2 "are_wholes" (spP K 2 false m_are_wholes) := by
  obtain ⟨fd, F⟩ := c.1.def_ 2 (d := d_are_wholes) rfl
  exact ⟨_, fd, ["value", "many"], okF_are_wholes KX G c hT F, He.glo_ok KX G (c.1.fact 2), F.kp, F.bindsN fun _ _ _ _ _ _ us hl => match us, hl with | [_, _], _ => rfl⟩
def c_divisor_of  : SFn := (fSeq (fSet 1 (fC (.int 0)))
    (fSeq (fFor (fItems (fVar 0)) (gNm 2) (fSet 1 (fCall gGcd (fCons (fVar 1) (fCons (fVar 2) fNil)))))
    (fRet (fVar 1))))
def b_divisor_of : SFn := c_divisor_of 
def m_divisor_of : List D → Option D := outP false 3 b_divisor_of
theorem okF_divisor_of {P : Program} {w : World} {K : PySem.W.Frag} {mg : Str → Option Value} {base : Heap} (KX : K.In base) (G : base.Ns mainGlobals mg) (c : SaysY SAY K) (hT : P.given.tree = none) {fd : FuncData} (F : FunD K "divisor_of" "divisor_of" (defArgs (top 5)) (defBody (top 5)) (defScope (top 5)) [] [] (He.fAd K d_divisor_of.at_) fd) : FnOk P w K mg base CX0 1 (He.fAd K d_divisor_of.at_) fd ["numbers"] (spP K 1 false m_divisor_of) := by
  have m_gcd : mg "gcd" = some (.builtin "math.gcd") := c.1.gcd KX G rfl
  exact fn_pure (x := "divisor_of") (st := top 5) (N := N_divisor_of) (ps := ["numbers"]) (own := []) (fresh := false) (b := b_divisor_of) (k := 0) F sc_divisor_of (by decide) (fun cdv A outer s H E W0 hr =>
    (dss_cons (ds_set (i := 1) sc_divisor_of.nd (by rfl) (by exact .inl rfl) d_int) (dss_cons (ds_for PassesOwn.never rfl (di_seq (d_var (pe_var (i := 0) (by rfl) (by exact .inl rfl)))) (dg_name (i := 2) sc_divisor_of.nd (by rfl) (by exact .inl rfl)) (dss_one (ds_set (i := 1) sc_divisor_of.nd (by rfl) (by exact .inl rfl) (d_callBf cr_gcd cd_gcd (by rfl) m_gcd (da_cons (d_var (pe_var (i := 1) (by rfl) (by exact .inl rfl))) (da_cons (d_var (pe_var (i := 2) (by rfl) (by exact .inl rfl))) da_nil)))))) (dss_one (ds_ret (d_var (pe_var (i := 1) (by rfl) (by exact .inl rfl))))))))
theorem ok_divisor_of {P : Program} {w : World} {K : PySem.W.Frag} {mg : Str → Option Value} {base : Heap} (KX : K.In base) (G : base.Ns mainGlobals mg) (c : SaysY SAY K) (hT : P.given.tree = none) : Has P w K mg base 1 "divisor_of" (spP K 1 false m_divisor_of) := by
  obtain ⟨fd, F⟩ := c.1.def_ 3 (d := d_divisor_of) rfl
  exact ⟨_, fd, ["numbers"], okF_divisor_of KX G c hT F, He.glo_ok KX G (c.1.fact 3), F.kp, F.bindsN fun _ _ _ _ _ _ us hl => match us, hl with | [_], _ => rfl⟩
def c_is_ratio (m_are_wholes : List D → Option D) (m_divisor_of : List D → Option D) : SFn := (fRet (fAndV (fCall m_are_wholes (fCons (fVar 0) (fCons (fC (.int 2)) fNil))) (fAndV (fBin gGt (fBin gIx (fVar 0) (fC (.int 1))) (fC (.int 0))) (fBin gEq (fCall m_divisor_of (fCons (fVar 0) fNil)) (fC (.int 1))))))
def b_is_ratio : SFn := c_is_ratio m_are_wholes m_divisor_of
def m_is_ratio : List D → Option D := outP false 1 b_is_ratio
theorem okF_is_ratio {P : Program} {w : World} {K : PySem.W.Frag} {mg : Str → Option Value} {base : Heap} (KX : K.In base) (G : base.Ns mainGlobals mg) (c : SaysY SAY K) (hT : P.given.tree = none) {fd : FuncData} (F : FunD K "is_ratio" "is_ratio" (defArgs (top 9)) (defBody (top 9)) (defScope (top 9)) [] [] (He.fAd K d_is_ratio.at_) fd) : FnOk P w K mg base CX0 3 (He.fAd K d_is_ratio.at_) fd ["value"] (spP K 1 false m_is_ratio) := by
  have h_are_wholes := ok_are_wholes (P := P) (w := w) KX G c hT
  have h_divisor_of := ok_divisor_of (P := P) (w := w) KX G c hT
  exact fn_pure (x := "is_ratio") (st := top 9) (N := N_is_ratio) (ps := ["value"]) (own := []) (fresh := false) (b := b_is_ratio) (k := 2) F sc_is_ratio (by decide) (fun cdv A outer s H E W0 hr =>
    (dss_one (ds_ret (de_and (d_call h_are_wholes hr (by decide) (by rfl) (da_cons (d_var (pe_var (i := 0) (by rfl) (by exact .inl rfl))) (da_cons d_int da_nil)) (hl := (fCons_len (fCons_len fNil_len)))) (de_and (d_cmp op_gt od_gt (d_ix (d_var (pe_var (i := 0) (by rfl) (by exact .inl rfl))) d_int) d_int (hm := nomark _)) (de_one (d_cmp (op_eqD hr.units) od_eq (d_call h_divisor_of hr (by decide) (by rfl) (da_cons (d_var (pe_var (i := 0) (by rfl) (by exact .inl rfl))) da_nil) (hl := (fCons_len fNil_len))) d_int (hm := nomark _))))))))
theorem ok_is_ratio {P : Program} {w : World} {K : PySem.W.Frag} {mg : Str → Option Value} {base : Heap} (KX : K.In base) (G : base.Ns mainGlobals mg) (c : SaysY SAY K) (hT : P.given.tree = none) : Has P w K mg base 3 "is_ratio" (spP K 1 false m_is_ratio) := by
  obtain ⟨fd, F⟩ := c.1.def_ 4 (d := d_is_ratio) rfl
  exact ⟨_, fd, ["value"], okF_is_ratio KX G c hT F, He.glo_ok KX G (c.1.fact 4), F.kp, F.bindsN fun _ _ _ _ _ _ us hl => match us, hl with | [_], _ => rfl⟩
def c_ratio (m_divisor_of : List D → Option D) : SFn := (fSeq (fSet 2 (fIf (fB (fBin gGt (fVar 1) (fC (.int 0)))) (fCall m_divisor_of (fCons (fTup (fCons (fVar 0) (fCons (fVar 1) fNil))) fNil)) (fUn gNeg (fCall m_divisor_of (fCons (fTup (fCons (fVar 0) (fCons (fVar 1) fNil))) fNil)))))
    (fRet (fTup (fCons (fBin gFdivB (fVar 0) (fVar 2)) (fCons (fBin gFdivB (fVar 1) (fVar 2)) fNil)))))
def b_ratio : SFn := c_ratio m_divisor_of
def m_ratio : List D → Option D := outP false 3 b_ratio
theorem okF_ratio {P : Program} {w : World} {K : PySem.W.Frag} {mg : Str → Option Value} {base : Heap} (KX : K.In base) (G : base.Ns mainGlobals mg) (c : SaysY SAY K) (hT : P.given.tree = none) {fd : FuncData} (F : FunD K "ratio" "ratio" (defArgs (top 10)) (defBody (top 10)) (defScope (top 10)) [] [] (He.fAd K d_ratio.at_) fd) : FnOk P w K mg base CX0 33 (He.fAd K d_ratio.at_) fd ["top", "low"] (spP K 2 false m_ratio) := by
  have h_divisor_of := ok_divisor_of (P := P) (w := w) KX G c hT
  exact fn_pure (x := "ratio") (st := top 10) (N := N_ratio) (ps := ["top", "low"]) (own := []) (fresh := false) (b := b_ratio) (k := 32) F sc_ratio (by decide) (fun cdv A outer s H E W0 hr =>
    (dss_cons (ds_set (i := 2) sc_ratio.nd (by rfl) (by exact .inl rfl) (de_if (dt_cmp op_gt od_gt (d_var (pe_var (i := 1) (by rfl) (by exact .inl rfl))) d_int (hm := nomark _)) (d_call h_divisor_of hr (by decide) (by rfl) (da_cons (d_tup (da_cons (d_var (pe_var (i := 0) (by rfl) (by exact .inl rfl))) (da_cons (d_var (pe_var (i := 1) (by rfl) (by exact .inl rfl))) da_nil))) da_nil) (hl := (fCons_len fNil_len))) (d_neg (d_call h_divisor_of hr (by decide) (by rfl) (da_cons (d_tup (da_cons (d_var (pe_var (i := 0) (by rfl) (by exact .inl rfl))) (da_cons (d_var (pe_var (i := 1) (by rfl) (by exact .inl rfl))) da_nil))) da_nil) (hl := (fCons_len fNil_len)))))) (dss_one (ds_ret (d_tup (da_cons (d_op (op_fdivBig (big_of c.2 hT hr (by decide))) od_fdivB (d_var (pe_var (i := 0) (by rfl) (by exact .inl rfl))) (d_var (pe_var (i := 2) (by rfl) (by exact .inl rfl)))) (da_cons (d_op (op_fdivBig (big_of c.2 hT hr (by decide))) od_fdivB (d_var (pe_var (i := 1) (by rfl) (by exact .inl rfl))) (d_var (pe_var (i := 2) (by rfl) (by exact .inl rfl)))) da_nil)))))))
theorem ok_ratio {P : Program} {w : World} {K : PySem.W.Frag} {mg : Str → Option Value} {base : Heap} (KX : K.In base) (G : base.Ns mainGlobals mg) (c : SaysY SAY K) (hT : P.given.tree = none) : Has P w K mg base 33 "ratio" (spP K 2 false m_ratio) := by
  obtain ⟨fd, F⟩ := c.1.def_ 5 (d := d_ratio) rfl
  exact ⟨_, fd, ["top", "low"], okF_ratio KX G c hT F, He.glo_ok KX G (c.1.fact 5), F.kp, F.bindsN fun _ _ _ _ _ _ us hl => match us, hl with | [_, _], _ => rfl⟩
def c_plus (m_ratio : List D → Option D) : SFn := (fRet (fCall m_ratio (fCons (fBin gAdd (fBin gMul (fBin gIx (fVar 0) (fC (.int 0))) (fBin gIx (fVar 1) (fC (.int 1)))) (fBin gMul (fBin gIx (fVar 1) (fC (.int 0))) (fBin gIx (fVar 0) (fC (.int 1))))) (fCons (fBin gMul (fBin gIx (fVar 0) (fC (.int 1))) (fBin gIx (fVar 1) (fC (.int 1)))) fNil))))
def b_plus : SFn := c_plus m_ratio
def m_plus : List D → Option D := outP false 2 b_plus
theorem okF_plus {P : Program} {w : World} {K : PySem.W.Frag} {mg : Str → Option Value} {base : Heap} (KX : K.In base) (G : base.Ns mainGlobals mg) (c : SaysY SAY K) (hT : P.given.tree = none) {fd : FuncData} (F : FunD K "plus" "plus" (defArgs (top 11)) (defBody (top 11)) (defScope (top 11)) [] [] (He.fAd K d_plus.at_) fd) : FnOk P w K mg base CX0 34 (He.fAd K d_plus.at_) fd ["one", "two"] (spP K 2 false m_plus) := by
  have h_ratio := ok_ratio (P := P) (w := w) KX G c hT
  exact fn_pure (x := "plus") (st := top 11) (N := N_plus) (ps := ["one", "two"]) (own := []) (fresh := false) (b := b_plus) (k := 33) F sc_plus (by decide) (fun cdv A outer s H E W0 hr =>
    (dss_one (ds_ret (d_call h_ratio hr (by decide) (by rfl) (da_cons (d_op op_addD od_add (d_op op_mulD od_mul (d_ix (d_var (pe_var (i := 0) (by rfl) (by exact .inl rfl))) d_int) (d_ix (d_var (pe_var (i := 1) (by rfl) (by exact .inl rfl))) d_int)) (d_op op_mulD od_mul (d_ix (d_var (pe_var (i := 1) (by rfl) (by exact .inl rfl))) d_int) (d_ix (d_var (pe_var (i := 0) (by rfl) (by exact .inl rfl))) d_int))) (da_cons (d_op op_mulD od_mul (d_ix (d_var (pe_var (i := 0) (by rfl) (by exact .inl rfl))) d_int) (d_ix (d_var (pe_var (i := 1) (by rfl) (by exact .inl rfl))) d_int)) da_nil)) (hl := (fCons_len (fCons_len fNil_len)))))))
theorem ok_plus {P : Program} {w : World} {K : PySem.W.Frag} {mg : Str → Option Value} {base : Heap} (KX : K.In base) (G : base.Ns mainGlobals mg) (c : SaysY SAY K) (hT : P.given.tree = none) : Has P w K mg base 34 "plus" (spP K 2 false m_plus) := by
  obtain ⟨fd, F⟩ := c.1.def_ 6 (d := d_plus) rfl
  exact ⟨_, fd, ["one", "two"], okF_plus KX G c hT F, He.glo_ok KX G (c.1.fact 6), F.kp, F.bindsN fun _ _ _ _ _ _ us hl => match us, hl with | [_, _], _ => rfl⟩
def c_minus (m_ratio : List D → Option D) : SFn := (fRet (fCall m_ratio (fCons (fBin gSub (fBin gMul (fBin gIx (fVar 0) (fC (.int 0))) (fBin gIx (fVar 1) (fC (.int 1)))) (fBin gMul (fBin gIx (fVar 1) (fC (.int 0))) (fBin gIx (fVar 0) (fC (.int 1))))) (fCons (fBin gMul (fBin gIx (fVar 0) (fC (.int 1))) (fBin gIx (fVar 1) (fC (.int 1)))) fNil))))
def b_minus : SFn := c_minus m_ratio
def m_minus : List D → Option D := outP false 2 b_minus
theorem okF_minus {P : Program} {w : World} {K : PySem.W.Frag} {mg : Str → Option Value} {base : Heap} (KX : K.In base) (G : base.Ns mainGlobals mg) (c : SaysY SAY K) (hT : P.given.tree = none) {fd : FuncData} (F : FunD K "minus" "minus" (defArgs (top 12)) (defBody (top 12)) (defScope (top 12)) [] [] (He.fAd K d_minus.at_) fd) : FnOk P w K mg base CX0 34 (He.fAd K d_minus.at_) fd ["one", "two"] (spP K 2 false m_minus) := by
  have h_ratio := ok_ratio (P := P) (w := w) KX G c hT
  exact fn_pure (x := "minus") (st := top 12) (N := N_minus) (ps := ["one", "two"]) (own := []) (fresh := false) (b := b_minus) (k := 33) F sc_minus (by decide) (fun cdv A outer s H E W0 hr =>
    (dss_one (ds_ret (d_call h_ratio hr (by decide) (by rfl) (da_cons (d_op op_subD od_sub (d_op op_mulD od_mul (d_ix (d_var (pe_var (i := 0) (by rfl) (by exact .inl rfl))) d_int) (d_ix (d_var (pe_var (i := 1) (by rfl) (by exact .inl rfl))) d_int)) (d_op op_mulD od_mul (d_ix (d_var (pe_var (i := 1) (by rfl) (by exact .inl rfl))) d_int) (d_ix (d_var (pe_var (i := 0) (by rfl) (by exact .inl rfl))) d_int))) (da_cons (d_op op_mulD od_mul (d_ix (d_var (pe_var (i := 0) (by rfl) (by exact .inl rfl))) d_int) (d_ix (d_var (pe_var (i := 1) (by rfl) (by exact .inl rfl))) d_int)) da_nil)) (hl := (fCons_len (fCons_len fNil_len)))))))
theorem ok_minus {P : Program} {w : World} {K : PySem.W.Frag} {mg : Str → Option Value} {base : Heap} (KX : K.In base) (G : base.Ns mainGlobals mg) (c : SaysY SAY K) (hT : P.given.tree = none) : Has P w K mg base 34 "minus" (spP K 2 false m_minus) := by
  obtain ⟨fd, F⟩ := c.1.def_ 7 (d := d_minus) rfl
  exact ⟨_, fd, ["one", "two"], okF_minus KX G c hT F, He.glo_ok KX G (c.1.fact 7), F.kp, F.bindsN fun _ _ _ _ _ _ us hl => match us, hl with | [_, _], _ => rfl⟩
def c_times (m_ratio : List D → Option D) : SFn := (fRet (fCall m_ratio (fCons (fBin gMul (fBin gIx (fVar 0) (fC (.int 0))) (fBin gIx (fVar 1) (fC (.int 0)))) (fCons (fBin gMul (fBin gIx (fVar 0) (fC (.int 1))) (fBin gIx (fVar 1) (fC (.int 1)))) fNil))))
def b_times : SFn := c_times m_ratio
def m_times : List D → Option D := outP false 2 b_times
theorem okF_times {P : Program} {w : World} {K : PySem.W.Frag} {mg : Str → Option Value} {base : Heap} (KX : K.In base) (G : base.Ns mainGlobals mg) (c : SaysY SAY K) (hT : P.given.tree = none) {fd : FuncData} (F : FunD K "times" "times" (defArgs (top 13)) (defBody (top 13)) (defScope (top 13)) [] [] (He.fAd K d_times.at_) fd) : FnOk P w K mg base CX0 34 (He.fAd K d_times.at_) fd ["one", "two"] (spP K 2 false m_times) := by
  have h_ratio := ok_ratio (P := P) (w := w) KX G c hT
  exact fn_pure (x := "times") (st := top 13) (N := N_times) (ps := ["one", "two"]) (own := []) (fresh := false) (b := b_times) (k := 33) F sc_times (by decide) (fun cdv A outer s H E W0 hr =>
    (dss_one (ds_ret (d_call h_ratio hr (by decide) (by rfl) (da_cons (d_op op_mulD od_mul (d_ix (d_var (pe_var (i := 0) (by rfl) (by exact .inl rfl))) d_int) (d_ix (d_var (pe_var (i := 1) (by rfl) (by exact .inl rfl))) d_int)) (da_cons (d_op op_mulD od_mul (d_ix (d_var (pe_var (i := 0) (by rfl) (by exact .inl rfl))) d_int) (d_ix (d_var (pe_var (i := 1) (by rfl) (by exact .inl rfl))) d_int)) da_nil)) (hl := (fCons_len (fCons_len fNil_len)))))))
theorem ok_times {P : Program} {w : World} {K : PySem.W.Frag} {mg : Str → Option Value} {base : Heap} (KX : K.In base) (G : base.Ns mainGlobals mg) (c : SaysY SAY K) (hT : P.given.tree = none) : Has P w K mg base 34 "times" (spP K 2 false m_times) := by
  obtain ⟨fd, F⟩ := c.1.def_ 8 (d := d_times) rfl
  exact ⟨_, fd, ["one", "two"], okF_times KX G c hT F, He.glo_ok KX G (c.1.fact 8), F.kp, F.bindsN fun _ _ _ _ _ _ us hl => match us, hl with | [_, _], _ => rfl⟩
def c_over (m_ratio : List D → Option D) : SFn := (fRet (fCall m_ratio (fCons (fBin gMul (fBin gIx (fVar 0) (fC (.int 0))) (fBin gIx (fVar 1) (fC (.int 1)))) (fCons (fBin gMul (fBin gIx (fVar 0) (fC (.int 1))) (fBin gIx (fVar 1) (fC (.int 0)))) fNil))))
def b_over : SFn := c_over m_ratio
def m_over : List D → Option D := outP false 2 b_over
theorem okF_over {P : Program} {w : World} {K : PySem.W.Frag} {mg : Str → Option Value} {base : Heap} (KX : K.In base) (G : base.Ns mainGlobals mg) (c : SaysY SAY K) (hT : P.given.tree = none) {fd : FuncData} (F : FunD K "over" "over" (defArgs (top 14)) (defBody (top 14)) (defScope (top 14)) [] [] (He.fAd K d_over.at_) fd) : FnOk P w K mg base CX0 34 (He.fAd K d_over.at_) fd ["one", "two"] (spP K 2 false m_over) := by
  have h_ratio := ok_ratio (P := P) (w := w) KX G c hT
  exact fn_pure (x := "over") (st := top 14) (N := N_over) (ps := ["one", "two"]) (own := []) (fresh := false) (b := b_over) (k := 33) F sc_over (by decide) (fun cdv A outer s H E W0 hr =>
    (dss_one (ds_ret (d_call h_ratio hr (by decide) (by rfl) (da_cons (d_op op_mulD od_mul (d_ix (d_var (pe_var (i := 0) (by rfl) (by exact .inl rfl))) d_int) (d_ix (d_var (pe_var (i := 1) (by rfl) (by exact .inl rfl))) d_int)) (da_cons (d_op op_mulD od_mul (d_ix (d_var (pe_var (i := 0) (by rfl) (by exact .inl rfl))) d_int) (d_ix (d_var (pe_var (i := 1) (by rfl) (by exact .inl rfl))) d_int)) da_nil)) (hl := (fCons_len (fCons_len fNil_len)))))))
theorem ok_over {P : Program} {w : World} {K : PySem.W.Frag} {mg : Str → Option Value} {base : Heap} (KX : K.In base) (G : base.Ns mainGlobals mg) (c : SaysY SAY K) (hT : P.given.tree = none) : Has P w K mg base 34 "over" (spP K 2 false m_over) := by
  obtain ⟨fd, F⟩ := c.1.def_ 9 (d := d_over) rfl
  exact ⟨_, fd, ["one", "two"], okF_over KX G c hT F, He.glo_ok KX G (c.1.fact 9), F.kp, F.bindsN fun _ _ _ _ _ _ us hl => match us, hl with | [_, _], _ => rfl⟩
def c_opposite  : SFn := (fRet (fTup (fCons (fUn gNeg (fBin gIx (fVar 0) (fC (.int 0)))) (fCons (fBin gIx (fVar 0) (fC (.int 1))) fNil))))
def b_opposite : SFn := c_opposite 
def m_opposite : List D → Option D := outP false 1 b_opposite
theorem okF_opposite {P : Program} {w : World} {K : PySem.W.Frag} {mg : Str → Option Value} {base : Heap} (KX : K.In base) (G : base.Ns mainGlobals mg) (c : SaysY SAY K) (hT : P.given.tree = none) {fd : FuncData} (F : FunD K "opposite" "opposite" (defArgs (top 15)) (defBody (top 15)) (defScope (top 15)) [] [] (He.fAd K d_opposite.at_) fd) : FnOk P w K mg base CX0 1 (He.fAd K d_opposite.at_) fd ["one"] (spP K 1 false m_opposite) := by
  exact fn_pure (x := "opposite") (st := top 15) (N := N_opposite) (ps := ["one"]) (own := []) (fresh := false) (b := b_opposite) (k := 0) F sc_opposite (by decide) (fun cdv A outer s H E W0 hr =>
    (dss_one (ds_ret (d_tup (da_cons (d_neg (d_ix (d_var (pe_var (i := 0) (by rfl) (by exact .inl rfl))) d_int)) (da_cons (d_ix (d_var (pe_var (i := 0) (by rfl) (by exact .inl rfl))) d_int) da_nil))))))
theorem ok_opposite {P : Program} {w : World} {K : PySem.W.Frag} {mg : Str → Option Value} {base : Heap} (KX : K.In base) (G : base.Ns mainGlobals mg) (c : SaysY SAY K) (hT : P.given.tree = none) : Has P w K mg base 1 "opposite" (spP K 1 false m_opposite) := by
  obtain ⟨fd, F⟩ := c.1.def_ 10 (d := d_opposite) rfl
  exact ⟨_, fd, ["one"], okF_opposite KX G c hT F, He.glo_ok KX G (c.1.fact 10), F.kp, F.bindsN fun _ _ _ _ _ _ us hl => match us, hl with | [_], _ => rfl⟩
def c_total (m_plus : List D → Option D) : SFn := (fSeq (fSet 1 (fC (.tup [.int 0, .int 1])))
    (fSeq (fFor (fItems (fVar 0)) (gNm 2) (fSet 1 (fCall m_plus (fCons (fVar 1) (fCons (fVar 2) fNil)))))
    (fRet (fVar 1))))
def b_total : SFn := c_total m_plus
def m_total : List D → Option D := outP false 3 b_total
theorem okF_total {P : Program} {w : World} {K : PySem.W.Frag} {mg : Str → Option Value} {base : Heap} (KX : K.In base) (G : base.Ns mainGlobals mg) (c : SaysY SAY K) (hT : P.given.tree = none) {fd : FuncData} (F : FunD K "total" "total" (defArgs (top 16)) (defBody (top 16)) (defScope (top 16)) [] [] (He.fAd K d_total.at_) fd) : FnOk P w K mg base CX0 35 (He.fAd K d_total.at_) fd ["fractions"] (spP K 1 false m_total) := by
  have g_ZERO := He.glo_ok KX G (c.1.fact 74)
  have t_ZERO := fun H => c.1.tup 0 H
  have h_plus := ok_plus (P := P) (w := w) KX G c hT
  exact fn_pure (x := "total") (st := top 16) (N := N_total) (ps := ["fractions"]) (own := []) (fresh := false) (b := b_total) (k := 34) F sc_total (by decide) (fun cdv A outer s H E W0 hr =>
    (dss_cons (ds_set (i := 1) sc_total.nd (by rfl) (by exact .inl rfl) (d_gtup (by rfl) g_ZERO t_ZERO)) (dss_cons (ds_for PassesOwn.never rfl (di_seq (d_var (pe_var (i := 0) (by rfl) (by exact .inl rfl)))) (dg_name (i := 2) sc_total.nd (by rfl) (by exact .inl rfl)) (dss_one (ds_set (i := 1) sc_total.nd (by rfl) (by exact .inl rfl) (d_call h_plus hr (by decide) (by rfl) (da_cons (d_var (pe_var (i := 1) (by rfl) (by exact .inl rfl))) (da_cons (d_var (pe_var (i := 2) (by rfl) (by exact .inl rfl))) da_nil)) (hl := (fCons_len (fCons_len fNil_len))))))) (dss_one (ds_ret (d_var (pe_var (i := 1) (by rfl) (by exact .inl rfl))))))))
theorem ok_total {P : Program} {w : World} {K : PySem.W.Frag} {mg : Str → Option Value} {base : Heap} (KX : K.In base) (G : base.Ns mainGlobals mg) (c : SaysY SAY K) (hT : P.given.tree = none) : Has P w K mg base 35 "total" (spP K 1 false m_total) := by
  obtain ⟨fd, F⟩ := c.1.def_ 11 (d := d_total) rfl
  exact ⟨_, fd, ["fractions"], okF_total KX G c hT F, He.glo_ok KX G (c.1.fact 11), F.kp, F.bindsN fun _ _ _ _ _ _ us hl => match us, hl with | [_], _ => rfl⟩
def c_products_of (m_total : List D → Option D) (m_times : List D → Option D) : SFn := (fRet (fCall m_total (fCons (fOfL (fComp (fZip (fCons (fVar 0) (fCons (fVar 1) fNil))) (gTp 2 (gsCons (gNm 2) (gsCons (gNm 3) gsNil))) fYes (fCall m_times (fCons (fVar 2) (fCons (fVar 3) fNil))) [2, 3])) fNil)))
def b_products_of : SFn := c_products_of m_total m_times
def m_products_of : List D → Option D := outP false 4 b_products_of
theorem okF_products_of {P : Program} {w : World} {K : PySem.W.Frag} {mg : Str → Option Value} {base : Heap} (KX : K.In base) (G : base.Ns mainGlobals mg) (c : SaysY SAY K) (hT : P.given.tree = none) {fd : FuncData} (F : FunD K "products_of" "products_of" (defArgs (top 17)) (defBody (top 17)) (defScope (top 17)) [] [] (He.fAd K d_products_of.at_) fd) : FnOk P w K mg base CX0 36 (He.fAd K d_products_of.at_) fd ["ones", "twos"] (spP K 2 false m_products_of) := by
  have m_zip : mg "zip" = none := He.free_ok KX G (c.1.fact 75)
  have h_times := ok_times (P := P) (w := w) KX G c hT
  have h_total := ok_total (P := P) (w := w) KX G c hT
  exact fn_pure (x := "products_of") (st := top 17) (N := N_products_of) (ps := ["ones", "twos"]) (own := []) (fresh := false) (b := b_products_of) (k := 35) F sc_products_of (by decide) (fun cdv A outer s H E W0 hr =>
    (dss_one (ds_ret (d_call h_total hr (by decide) (by rfl) (da_cons (d_ofL (l_comp rfl sc_products_of.nd (di_zip (by rfl) m_zip (da_cons (d_var (pe_var (i := 0) (by rfl) (by exact .inl rfl))) (da_cons (d_var (pe_var (i := 1) (by rfl) (by exact .inl rfl))) da_nil))) (blkOk_by (N := N_products_of) (sc := (defScope (top 17))) (scope := ({ kind := PySem.ScopeKind.function, names := [(PySem.Str.ofString ".0", PySem.NameKind.local), (PySem.Str.ofString "one", PySem.NameKind.local), (PySem.Str.ofString "two", PySem.NameKind.local), (PySem.Str.ofString "times", PySem.NameKind.globalImplicit)], isGenerator := false, isCoroutine := false, more := [] } : PySem.Scope)) (own := [("one", 2), ("two", 3)]) (by decide +kernel)) (fun _ _ _ _ _ _ => (dg_tup rfl (dg_cons (dg_name (i := 2) sc_products_of.nd (by rfl) (by exact .inl rfl)) (dg_cons (dg_name (i := 3) sc_products_of.nd (by rfl) (by exact .inl rfl)) dg_nil)))) (fun _ _ _ _ _ _ => dts_nil) (fun _ _ _ _ _ _ => (d_call h_times hr (by decide) (by rfl) (da_cons (d_var (pe_var (i := 2) (by rfl) (by exact .inl rfl))) (da_cons (d_var (pe_var (i := 3) (by rfl) (by exact .inl rfl))) da_nil)) (hl := (fCons_len (fCons_len fNil_len))))))) da_nil) (hl := (fCons_len fNil_len))))))
theorem ok_products_of {P : Program} {w : World} {K : PySem.W.Frag} {mg : Str → Option Value} {base : Heap} (KX : K.In base) (G : base.Ns mainGlobals mg) (c : SaysY SAY K) (hT : P.given.tree = none) : Has P w K mg base 36 "products_of" (spP K 2 false m_products_of) := by
  obtain ⟨fd, F⟩ := c.1.def_ 12 (d := d_products_of) rfl
  exact ⟨_, fd, ["ones", "twos"], okF_products_of KX G c hT F, He.glo_ok KX G (c.1.fact 12), F.kp, F.bindsN fun _ _ _ _ _ _ us hl => match us, hl with | [_, _], _ => rfl⟩
def c_is_row (m_is_ratio : List D → Option D) : SFn := (fRet (fAndV (fIsi isTup (fVar 0)) (fAndV (fBin gEq (fCall gLen (fCons (fVar 0) fNil)) (fVar 1)) (fCall gAll (fCons (fOfL (fComp (fItems (fVar 0)) (gNm 2) fYes (fCall m_is_ratio (fCons (fVar 2) fNil)) [2])) fNil)))))
def b_is_row : SFn := c_is_row m_is_ratio
def m_is_row : List D → Option D := outP false 3 b_is_row
theorem okF_is_row {P : Program} {w : World} {K : PySem.W.Frag} {mg : Str → Option Value} {base : Heap} (KX : K.In base) (G : base.Ns mainGlobals mg) (c : SaysY SAY K) (hT : P.given.tree = none) {fd : FuncData} (F : FunD K "is_row" "is_row" (defArgs (top 19)) (defBody (top 19)) (defScope (top 19)) [] [] (He.fAd K d_is_row.at_) fd) : FnOk P w K mg base CX0 4 (He.fAd K d_is_row.at_) fd ["value", "many"] (spP K 2 false m_is_row) := by
  have m_isinstance : mg "isinstance" = none := He.free_ok KX G (c.1.fact 68)
  have m_tuple : mg "tuple" = none := He.free_ok KX G (c.1.fact 71)
  have m_len : mg "len" = none := He.free_ok KX G (c.1.fact 72)
  have m_all : mg "all" = none := He.free_ok KX G (c.1.fact 73)
  have h_is_ratio := ok_is_ratio (P := P) (w := w) KX G c hT
  exact fn_pure (x := "is_row") (st := top 19) (N := N_is_row) (ps := ["value", "many"]) (own := []) (fresh := false) (b := b_is_row) (k := 3) F sc_is_row (by decide) (fun cdv A outer s H E W0 hr =>
    (dss_one (ds_ret (de_and (d_isi kit_tup (by rfl) m_isinstance bt_isinstance (d_var (pe_var (i := 0) (by rfl) (by exact .inl rfl))) (pe_bltn (v := .ty "tuple") (by rfl) m_tuple bt_tuple rfl)) (de_and (d_cmp (op_eqD hr.units) od_eq (d_callB call_len_seq cd_len (by rfl) m_len bt_len (da_cons (d_var (pe_var (i := 0) (by rfl) (by exact .inl rfl))) da_nil)) (d_var (pe_var (i := 1) (by rfl) (by exact .inl rfl))) (hm := nomark _)) (de_one (d_callB (cr_all rfl) cd_all (by rfl) m_all bt_all (da_cons (d_ofL (l_comp rfl sc_is_row.nd (di_seq (d_var (pe_var (i := 0) (by rfl) (by exact .inl rfl)))) (blkOk_by (N := N_is_row) (sc := (defScope (top 19))) (scope := ({ kind := PySem.ScopeKind.function, names := [(PySem.Str.ofString ".0", PySem.NameKind.local), (PySem.Str.ofString "each", PySem.NameKind.local), (PySem.Str.ofString "is_ratio", PySem.NameKind.globalImplicit)], isGenerator := false, isCoroutine := false, more := [] } : PySem.Scope)) (own := [("each", 2)]) (by decide +kernel)) (fun _ _ _ _ _ _ => (dg_name (i := 2) sc_is_row.nd (by rfl) (by exact .inl rfl))) (fun _ _ _ _ _ _ => dts_nil) (fun _ _ _ _ _ _ => (d_call h_is_ratio hr (by decide) (by rfl) (da_cons (d_var (pe_var (i := 2) (by rfl) (by exact .inl rfl))) da_nil) (hl := (fCons_len fNil_len)))))) da_nil))))))))
theorem ok_is_row {P : Program} {w : World} {K : PySem.W.Frag} {mg : Str → Option Value} {base : Heap} (KX : K.In base) (G : base.Ns mainGlobals mg) (c : SaysY SAY K) (hT : P.given.tree = none) : Has P w K mg base 4 "is_row" (spP K 2 false m_is_row) := by
  obtain ⟨fd, F⟩ := c.1.def_ 13 (d := d_is_row) rfl
  exact ⟨_, fd, ["value", "many"], okF_is_row KX G c hT F, He.glo_ok KX G (c.1.fact 13), F.kp, F.bindsN fun _ _ _ _ _ _ us hl => match us, hl with | [_, _], _ => rfl⟩
def c_is_square (m_is_row : List D → Option D) : SFn := (fRet (fAndV (fIsi isTup (fVar 0)) (fAndV (fBin gEq (fCall gLen (fCons (fVar 0) fNil)) (fVar 1)) (fCall gAll (fCons (fOfL (fComp (fItems (fVar 0)) (gNm 2) fYes (fCall m_is_row (fCons (fVar 2) (fCons (fVar 1) fNil))) [2])) fNil)))))
def b_is_square : SFn := c_is_square m_is_row
def m_is_square : List D → Option D := outP false 3 b_is_square
theorem okF_is_square {P : Program} {w : World} {K : PySem.W.Frag} {mg : Str → Option Value} {base : Heap} (KX : K.In base) (G : base.Ns mainGlobals mg) (c : SaysY SAY K) (hT : P.given.tree = none) {fd : FuncData} (F : FunD K "is_square" "is_square" (defArgs (top 20)) (defBody (top 20)) (defScope (top 20)) [] [] (He.fAd K d_is_square.at_) fd) : FnOk P w K mg base CX0 5 (He.fAd K d_is_square.at_) fd ["value", "many"] (spP K 2 false m_is_square) := by
  have m_isinstance : mg "isinstance" = none := He.free_ok KX G (c.1.fact 68)
  have m_tuple : mg "tuple" = none := He.free_ok KX G (c.1.fact 71)
  have m_len : mg "len" = none := He.free_ok KX G (c.1.fact 72)
  have m_all : mg "all" = none := He.free_ok KX G (c.1.fact 73)
  have h_is_row := ok_is_row (P := P) (w := w) KX G c hT
  exact fn_pure (x := "is_square") (st := top 20) (N := N_is_square) (ps := ["value", "many"]) (own := []) (fresh := false) (b := b_is_square) (k := 4) F sc_is_square (by decide) (fun cdv A outer s H E W0 hr =>
    (dss_one (ds_ret (de_and (d_isi kit_tup (by rfl) m_isinstance bt_isinstance (d_var (pe_var (i := 0) (by rfl) (by exact .inl rfl))) (pe_bltn (v := .ty "tuple") (by rfl) m_tuple bt_tuple rfl)) (de_and (d_cmp (op_eqD hr.units) od_eq (d_callB call_len_seq cd_len (by rfl) m_len bt_len (da_cons (d_var (pe_var (i := 0) (by rfl) (by exact .inl rfl))) da_nil)) (d_var (pe_var (i := 1) (by rfl) (by exact .inr (.inl rfl)))) (hm := nomark _)) (de_one (d_callB (cr_all rfl) cd_all (by rfl) m_all bt_all (da_cons (d_ofL (l_comp rfl sc_is_square.nd (di_seq (d_var (pe_var (i := 0) (by rfl) (by exact .inl rfl)))) (blkOk_by (N := N_is_square) (sc := (defScope (top 20))) (scope := ({ kind := PySem.ScopeKind.function, names := [(PySem.Str.ofString ".0", PySem.NameKind.local), (PySem.Str.ofString "row", PySem.NameKind.local), (PySem.Str.ofString "is_row", PySem.NameKind.globalImplicit), (PySem.Str.ofString "many", PySem.NameKind.free)], isGenerator := false, isCoroutine := false, more := [] } : PySem.Scope)) (own := [("row", 2)]) (by decide +kernel)) (fun _ _ _ _ _ _ => (dg_name (i := 2) sc_is_square.nd (by rfl) (by exact .inl rfl))) (fun _ _ _ _ _ _ => dts_nil) (fun _ _ _ _ _ _ => (d_call h_is_row hr (by decide) (by rfl) (da_cons (d_var (pe_var (i := 2) (by rfl) (by exact .inl rfl))) (da_cons (d_var (pe_var (i := 1) (by rfl) (by exact .inr (.inl rfl)))) da_nil)) (hl := (fCons_len (fCons_len fNil_len))))))) da_nil))))))))
theorem ok_is_square {P : Program} {w : World} {K : PySem.W.Frag} {mg : Str → Option Value} {base : Heap} (KX : K.In base) (G : base.Ns mainGlobals mg) (c : SaysY SAY K) (hT : P.given.tree = none) : Has P w K mg base 5 "is_square" (spP K 2 false m_is_square) := by
  obtain ⟨fd, F⟩ := c.1.def_ 14 (d := d_is_square) rfl
  exact ⟨_, fd, ["value", "many"], okF_is_square KX G c hT F, He.glo_ok KX G (c.1.fact 14), F.kp, F.bindsN fun _ _ _ _ _ _ us hl => match us, hl with | [_, _], _ => rfl⟩
def c_unit_rows  : SFn := (fRet (fCall gTuple (fCons (fOfL (fComp (fRng1 (fCons (fVar 0) fNil)) (gNm 1) fYes (fCall gTuple (fCons (fOfL (fComp (fRng1 (fCons (fVar 0) fNil)) (gNm 2) fYes (fIf (fB (fBin gEq (fVar 2) (fVar 1))) (fC (.tup [.int 1, .int 1])) (fC (.tup [.int 0, .int 1]))) [2])) fNil)) [1])) fNil)))
def b_unit_rows : SFn := c_unit_rows 
def m_unit_rows : List D → Option D := outP false 3 b_unit_rows
theorem okF_unit_rows {P : Program} {w : World} {K : PySem.W.Frag} {mg : Str → Option Value} {base : Heap} (KX : K.In base) (G : base.Ns mainGlobals mg) (c : SaysY SAY K) (hT : P.given.tree = none) {fd : FuncData} (F : FunD K "unit_rows" "unit_rows" (defArgs (top 21)) (defBody (top 21)) (defScope (top 21)) [] [] (He.fAd K d_unit_rows.at_) fd) : FnOk P w K mg base CX0 1 (He.fAd K d_unit_rows.at_) fd ["many"] (spP K 1 false m_unit_rows) := by
  have m_tuple : mg "tuple" = none := He.free_ok KX G (c.1.fact 71)
  have m_range : mg "range" = none := He.free_ok KX G (c.1.fact 76)
  have g_ONE := He.glo_ok KX G (c.1.fact 77)
  have t_ONE := fun H => c.1.tup 1 H
  have g_ZERO := He.glo_ok KX G (c.1.fact 74)
  have t_ZERO := fun H => c.1.tup 0 H
  exact fn_pure (x := "unit_rows") (st := top 21) (N := N_unit_rows) (ps := ["many"]) (own := []) (fresh := false) (b := b_unit_rows) (k := 0) F sc_unit_rows (by decide) (fun cdv A outer s H E W0 hr =>
    (dss_one (ds_ret (d_callTy call_tuple_of cd_tuple (by rfl) m_tuple bt_tuple (da_cons (d_ofL (l_comp rfl sc_unit_rows.nd (di_range1 (by rfl) m_range (da_cons (d_var (pe_var (i := 0) (by rfl) (by exact .inr (.inl rfl)))) da_nil)) (blkOk_by (N := N_unit_rows) (sc := (defScope (top 21))) (scope := ({ kind := PySem.ScopeKind.function, names := [(PySem.Str.ofString ".0", PySem.NameKind.local), (PySem.Str.ofString "place", PySem.NameKind.cell), (PySem.Str.ofString "tuple", PySem.NameKind.globalImplicit), (PySem.Str.ofString "range", PySem.NameKind.globalImplicit), (PySem.Str.ofString "many", PySem.NameKind.free)], isGenerator := false, isCoroutine := false, more := [] } : PySem.Scope)) (own := [("place", 1)]) (by decide +kernel)) (fun _ _ _ _ _ _ => (dg_name (i := 1) sc_unit_rows.nd (by rfl) (by exact .inr rfl))) (fun _ _ _ _ _ _ => dts_nil) (fun _ _ _ _ _ _ => (d_callTy call_tuple_of cd_tuple (by rfl) m_tuple bt_tuple (da_cons (d_ofL (l_comp rfl sc_unit_rows.nd (di_range1 (by rfl) m_range (da_cons (d_var (pe_var (i := 0) (by rfl) (by exact .inr (.inl rfl)))) da_nil)) (blkOk_by (N := N_unit_rows) (sc := (relS ({ kind := PySem.ScopeKind.function, names := [(PySem.Str.ofString ".0", PySem.NameKind.local), (PySem.Str.ofString "place", PySem.NameKind.cell), (PySem.Str.ofString "tuple", PySem.NameKind.globalImplicit), (PySem.Str.ofString "range", PySem.NameKind.globalImplicit), (PySem.Str.ofString "many", PySem.NameKind.free)], isGenerator := false, isCoroutine := false, more := [] } : PySem.Scope) (defScope (top 21)))) (scope := ({ kind := PySem.ScopeKind.function, names := [(PySem.Str.ofString ".0", PySem.NameKind.local), (PySem.Str.ofString "at", PySem.NameKind.local), (PySem.Str.ofString "ONE", PySem.NameKind.globalImplicit), (PySem.Str.ofString "ZERO", PySem.NameKind.globalImplicit), (PySem.Str.ofString "place", PySem.NameKind.free)], isGenerator := false, isCoroutine := false, more := [] } : PySem.Scope)) (own := [("at", 2)]) (by decide +kernel)) (fun _ _ _ _ _ _ => (dg_name (i := 2) sc_unit_rows.nd (by rfl) (by exact .inl rfl))) (fun _ _ _ _ _ _ => dts_nil) (fun _ _ _ _ _ _ => (de_if (dt_cmp (op_eqD hr.units) od_eq (d_var (pe_var (i := 2) (by rfl) (by exact .inl rfl))) (d_var (pe_var (i := 1) (by rfl) (by exact .inr (.inl rfl)))) (hm := nomark _)) (d_gtup (by rfl) g_ONE t_ONE) (d_gtup (by rfl) g_ZERO t_ZERO))))) da_nil))))) da_nil)))))
theorem ok_unit_rows {P : Program} {w : World} {K : PySem.W.Frag} {mg : Str → Option Value} {base : Heap} (KX : K.In base) (G : base.Ns mainGlobals mg) (c : SaysY SAY K) (hT : P.given.tree = none) : Has P w K mg base 1 "unit_rows" (spP K 1 false m_unit_rows) := by
  obtain ⟨fd, F⟩ := c.1.def_ 15 (d := d_unit_rows) rfl
  exact ⟨_, fd, ["many"], okF_unit_rows KX G c hT F, He.glo_ok KX G (c.1.fact 15), F.kp, F.bindsN fun _ _ _ _ _ _ us hl => match us, hl with | [_], _ => rfl⟩
def c_row_plus (m_plus : List D → Option D) : SFn := (fRet (fCall gTuple (fCons (fOfL (fComp (fZip (fCons (fVar 0) (fCons (fVar 1) fNil))) (gTp 2 (gsCons (gNm 2) (gsCons (gNm 3) gsNil))) fYes (fCall m_plus (fCons (fVar 2) (fCons (fVar 3) fNil))) [2, 3])) fNil)))
def b_row_plus : SFn := c_row_plus m_plus
def m_row_plus : List D → Option D := outP false 4 b_row_plus
theorem okF_row_plus {P : Program} {w : World} {K : PySem.W.Frag} {mg : Str → Option Value} {base : Heap} (KX : K.In base) (G : base.Ns mainGlobals mg) (c : SaysY SAY K) (hT : P.given.tree = none) {fd : FuncData} (F : FunD K "row_plus" "row_plus" (defArgs (top 22)) (defBody (top 22)) (defScope (top 22)) [] [] (He.fAd K d_row_plus.at_) fd) : FnOk P w K mg base CX0 35 (He.fAd K d_row_plus.at_) fd ["one", "two"] (spP K 2 false m_row_plus) := by
  have m_tuple : mg "tuple" = none := He.free_ok KX G (c.1.fact 71)
  have m_zip : mg "zip" = none := He.free_ok KX G (c.1.fact 75)
  have h_plus := ok_plus (P := P) (w := w) KX G c hT
  exact fn_pure (x := "row_plus") (st := top 22) (N := N_row_plus) (ps := ["one", "two"]) (own := []) (fresh := false) (b := b_row_plus) (k := 34) F sc_row_plus (by decide) (fun cdv A outer s H E W0 hr =>
    (dss_one (ds_ret (d_callTy call_tuple_of cd_tuple (by rfl) m_tuple bt_tuple (da_cons (d_ofL (l_comp rfl sc_row_plus.nd (di_zip (by rfl) m_zip (da_cons (d_var (pe_var (i := 0) (by rfl) (by exact .inl rfl))) (da_cons (d_var (pe_var (i := 1) (by rfl) (by exact .inl rfl))) da_nil))) (blkOk_by (N := N_row_plus) (sc := (defScope (top 22))) (scope := ({ kind := PySem.ScopeKind.function, names := [(PySem.Str.ofString ".0", PySem.NameKind.local), (PySem.Str.ofString "here", PySem.NameKind.local), (PySem.Str.ofString "there", PySem.NameKind.local), (PySem.Str.ofString "plus", PySem.NameKind.globalImplicit)], isGenerator := false, isCoroutine := false, more := [] } : PySem.Scope)) (own := [("here", 2), ("there", 3)]) (by decide +kernel)) (fun _ _ _ _ _ _ => (dg_tup rfl (dg_cons (dg_name (i := 2) sc_row_plus.nd (by rfl) (by exact .inl rfl)) (dg_cons (dg_name (i := 3) sc_row_plus.nd (by rfl) (by exact .inl rfl)) dg_nil)))) (fun _ _ _ _ _ _ => dts_nil) (fun _ _ _ _ _ _ => (d_call h_plus hr (by decide) (by rfl) (da_cons (d_var (pe_var (i := 2) (by rfl) (by exact .inl rfl))) (da_cons (d_var (pe_var (i := 3) (by rfl) (by exact .inl rfl))) da_nil)) (hl := (fCons_len (fCons_len fNil_len))))))) da_nil)))))
theorem ok_row_plus {P : Program} {w : World} {K : PySem.W.Frag} {mg : Str → Option Value} {base : Heap} (KX : K.In base) (G : base.Ns mainGlobals mg) (c : SaysY SAY K) (hT : P.given.tree = none) : Has P w K mg base 35 "row_plus" (spP K 2 false m_row_plus) := by
  obtain ⟨fd, F⟩ := c.1.def_ 16 (d := d_row_plus) rfl
  exact ⟨_, fd, ["one", "two"], okF_row_plus KX G c hT F, He.glo_ok KX G (c.1.fact 16), F.kp, F.bindsN fun _ _ _ _ _ _ us hl => match us, hl with | [_, _], _ => rfl⟩
def c_row_less (m_minus : List D → Option D) : SFn := (fRet (fCall gTuple (fCons (fOfL (fComp (fZip (fCons (fVar 0) (fCons (fVar 1) fNil))) (gTp 2 (gsCons (gNm 2) (gsCons (gNm 3) gsNil))) fYes (fCall m_minus (fCons (fVar 2) (fCons (fVar 3) fNil))) [2, 3])) fNil)))
def b_row_less : SFn := c_row_less m_minus
def m_row_less : List D → Option D := outP false 4 b_row_less
theorem okF_row_less {P : Program} {w : World} {K : PySem.W.Frag} {mg : Str → Option Value} {base : Heap} (KX : K.In base) (G : base.Ns mainGlobals mg) (c : SaysY SAY K) (hT : P.given.tree = none) {fd : FuncData} (F : FunD K "row_less" "row_less" (defArgs (top 23)) (defBody (top 23)) (defScope (top 23)) [] [] (He.fAd K d_row_less.at_) fd) : FnOk P w K mg base CX0 35 (He.fAd K d_row_less.at_) fd ["one", "two"] (spP K 2 false m_row_less) := by
  have m_tuple : mg "tuple" = none := He.free_ok KX G (c.1.fact 71)
  have m_zip : mg "zip" = none := He.free_ok KX G (c.1.fact 75)
  have h_minus := ok_minus (P := P) (w := w) KX G c hT
  exact fn_pure (x := "row_less") (st := top 23) (N := N_row_less) (ps := ["one", "two"]) (own := []) (fresh := false) (b := b_row_less) (k := 34) F sc_row_less (by decide) (fun cdv A outer s H E W0 hr =>
    (dss_one (ds_ret (d_callTy call_tuple_of cd_tuple (by rfl) m_tuple bt_tuple (da_cons (d_ofL (l_comp rfl sc_row_less.nd (di_zip (by rfl) m_zip (da_cons (d_var (pe_var (i := 0) (by rfl) (by exact .inl rfl))) (da_cons (d_var (pe_var (i := 1) (by rfl) (by exact .inl rfl))) da_nil))) (blkOk_by (N := N_row_less) (sc := (defScope (top 23))) (scope := ({ kind := PySem.ScopeKind.function, names := [(PySem.Str.ofString ".0", PySem.NameKind.local), (PySem.Str.ofString "here", PySem.NameKind.local), (PySem.Str.ofString "there", PySem.NameKind.local), (PySem.Str.ofString "minus", PySem.NameKind.globalImplicit)], isGenerator := false, isCoroutine := false, more := [] } : PySem.Scope)) (own := [("here", 2), ("there", 3)]) (by decide +kernel)) (fun _ _ _ _ _ _ => (dg_tup rfl (dg_cons (dg_name (i := 2) sc_row_less.nd (by rfl) (by exact .inl rfl)) (dg_cons (dg_name (i := 3) sc_row_less.nd (by rfl) (by exact .inl rfl)) dg_nil)))) (fun _ _ _ _ _ _ => dts_nil) (fun _ _ _ _ _ _ => (d_call h_minus hr (by decide) (by rfl) (da_cons (d_var (pe_var (i := 2) (by rfl) (by exact .inl rfl))) (da_cons (d_var (pe_var (i := 3) (by rfl) (by exact .inl rfl))) da_nil)) (hl := (fCons_len (fCons_len fNil_len))))))) da_nil)))))
theorem ok_row_less {P : Program} {w : World} {K : PySem.W.Frag} {mg : Str → Option Value} {base : Heap} (KX : K.In base) (G : base.Ns mainGlobals mg) (c : SaysY SAY K) (hT : P.given.tree = none) : Has P w K mg base 35 "row_less" (spP K 2 false m_row_less) := by
  obtain ⟨fd, F⟩ := c.1.def_ 17 (d := d_row_less) rfl
  exact ⟨_, fd, ["one", "two"], okF_row_less KX G c hT F, He.glo_ok KX G (c.1.fact 17), F.kp, F.bindsN fun _ _ _ _ _ _ us hl => match us, hl with | [_, _], _ => rfl⟩
def c_row_scaled (m_times : List D → Option D) : SFn := (fRet (fCall gTuple (fCons (fOfL (fComp (fItems (fVar 0)) (gNm 2) fYes (fCall m_times (fCons (fVar 2) (fCons (fVar 1) fNil))) [2])) fNil)))
def b_row_scaled : SFn := c_row_scaled m_times
def m_row_scaled : List D → Option D := outP false 3 b_row_scaled
theorem okF_row_scaled {P : Program} {w : World} {K : PySem.W.Frag} {mg : Str → Option Value} {base : Heap} (KX : K.In base) (G : base.Ns mainGlobals mg) (c : SaysY SAY K) (hT : P.given.tree = none) {fd : FuncData} (F : FunD K "row_scaled" "row_scaled" (defArgs (top 24)) (defBody (top 24)) (defScope (top 24)) [] [] (He.fAd K d_row_scaled.at_) fd) : FnOk P w K mg base CX0 35 (He.fAd K d_row_scaled.at_) fd ["row", "number"] (spP K 2 false m_row_scaled) := by
  have m_tuple : mg "tuple" = none := He.free_ok KX G (c.1.fact 71)
  have h_times := ok_times (P := P) (w := w) KX G c hT
  exact fn_pure (x := "row_scaled") (st := top 24) (N := N_row_scaled) (ps := ["row", "number"]) (own := []) (fresh := false) (b := b_row_scaled) (k := 34) F sc_row_scaled (by decide) (fun cdv A outer s H E W0 hr =>
    (dss_one (ds_ret (d_callTy call_tuple_of cd_tuple (by rfl) m_tuple bt_tuple (da_cons (d_ofL (l_comp rfl sc_row_scaled.nd (di_seq (d_var (pe_var (i := 0) (by rfl) (by exact .inl rfl)))) (blkOk_by (N := N_row_scaled) (sc := (defScope (top 24))) (scope := ({ kind := PySem.ScopeKind.function, names := [(PySem.Str.ofString ".0", PySem.NameKind.local), (PySem.Str.ofString "each", PySem.NameKind.local), (PySem.Str.ofString "times", PySem.NameKind.globalImplicit), (PySem.Str.ofString "number", PySem.NameKind.free)], isGenerator := false, isCoroutine := false, more := [] } : PySem.Scope)) (own := [("each", 2)]) (by decide +kernel)) (fun _ _ _ _ _ _ => (dg_name (i := 2) sc_row_scaled.nd (by rfl) (by exact .inl rfl))) (fun _ _ _ _ _ _ => dts_nil) (fun _ _ _ _ _ _ => (d_call h_times hr (by decide) (by rfl) (da_cons (d_var (pe_var (i := 2) (by rfl) (by exact .inl rfl))) (da_cons (d_var (pe_var (i := 1) (by rfl) (by exact .inr (.inl rfl)))) da_nil)) (hl := (fCons_len (fCons_len fNil_len))))))) da_nil)))))
theorem ok_row_scaled {P : Program} {w : World} {K : PySem.W.Frag} {mg : Str → Option Value} {base : Heap} (KX : K.In base) (G : base.Ns mainGlobals mg) (c : SaysY SAY K) (hT : P.given.tree = none) : Has P w K mg base 35 "row_scaled" (spP K 2 false m_row_scaled) := by
  obtain ⟨fd, F⟩ := c.1.def_ 18 (d := d_row_scaled) rfl
  exact ⟨_, fd, ["row", "number"], okF_row_scaled KX G c hT F, He.glo_ok KX G (c.1.fact 18), F.kp, F.bindsN fun _ _ _ _ _ _ us hl => match us, hl with | [_, _], _ => rfl⟩
def c_led (m_products_of : List D → Option D) : SFn := (fRet (fCall gTuple (fCons (fOfL (fComp (fItems (fVar 0)) (gNm 2) fYes (fCall m_products_of (fCons (fVar 2) (fCons (fVar 1) fNil))) [2])) fNil)))
def b_led : SFn := c_led m_products_of
def m_led : List D → Option D := outP false 3 b_led
theorem okF_led {P : Program} {w : World} {K : PySem.W.Frag} {mg : Str → Option Value} {base : Heap} (KX : K.In base) (G : base.Ns mainGlobals mg) (c : SaysY SAY K) (hT : P.given.tree = none) {fd : FuncData} (F : FunD K "led" "led" (defArgs (top 25)) (defBody (top 25)) (defScope (top 25)) [] [] (He.fAd K d_led.at_) fd) : FnOk P w K mg base CX0 37 (He.fAd K d_led.at_) fd ["rows", "row"] (spP K 2 false m_led) := by
  have m_tuple : mg "tuple" = none := He.free_ok KX G (c.1.fact 71)
  have h_products_of := ok_products_of (P := P) (w := w) KX G c hT
  exact fn_pure (x := "led") (st := top 25) (N := N_led) (ps := ["rows", "row"]) (own := []) (fresh := false) (b := b_led) (k := 36) F sc_led (by decide) (fun cdv A outer s H E W0 hr =>
    (dss_one (ds_ret (d_callTy call_tuple_of cd_tuple (by rfl) m_tuple bt_tuple (da_cons (d_ofL (l_comp rfl sc_led.nd (di_seq (d_var (pe_var (i := 0) (by rfl) (by exact .inl rfl)))) (blkOk_by (N := N_led) (sc := (defScope (top 25))) (scope := ({ kind := PySem.ScopeKind.function, names := [(PySem.Str.ofString ".0", PySem.NameKind.local), (PySem.Str.ofString "each", PySem.NameKind.local), (PySem.Str.ofString "products_of", PySem.NameKind.globalImplicit), (PySem.Str.ofString "row", PySem.NameKind.free)], isGenerator := false, isCoroutine := false, more := [] } : PySem.Scope)) (own := [("each", 2)]) (by decide +kernel)) (fun _ _ _ _ _ _ => (dg_name (i := 2) sc_led.nd (by rfl) (by exact .inl rfl))) (fun _ _ _ _ _ _ => dts_nil) (fun _ _ _ _ _ _ => (d_call h_products_of hr (by decide) (by rfl) (da_cons (d_var (pe_var (i := 2) (by rfl) (by exact .inl rfl))) (da_cons (d_var (pe_var (i := 1) (by rfl) (by exact .inr (.inl rfl)))) da_nil)) (hl := (fCons_len (fCons_len fNil_len))))))) da_nil)))))
theorem ok_led {P : Program} {w : World} {K : PySem.W.Frag} {mg : Str → Option Value} {base : Heap} (KX : K.In base) (G : base.Ns mainGlobals mg) (c : SaysY SAY K) (hT : P.given.tree = none) : Has P w K mg base 37 "led" (spP K 2 false m_led) := by
  obtain ⟨fd, F⟩ := c.1.def_ 19 (d := d_led) rfl
  exact ⟨_, fd, ["rows", "row"], okF_led KX G c hT F, He.glo_ok KX G (c.1.fact 19), F.kp, F.bindsN fun _ _ _ _ _ _ us hl => match us, hl with | [_, _], _ => rfl⟩
def c_flipped  : SFn := (fRet (fCall gTuple (fCons (fOfL (fComp (fRng1 (fCons (fVar 1) fNil)) (gNm 2) fYes (fCall gTuple (fCons (fOfL (fComp (fItems (fVar 0)) (gNm 3) fYes (fBin gIx (fVar 3) (fVar 2)) [3])) fNil)) [2])) fNil)))
def b_flipped : SFn := c_flipped 
def m_flipped : List D → Option D := outP false 4 b_flipped
theorem okF_flipped {P : Program} {w : World} {K : PySem.W.Frag} {mg : Str → Option Value} {base : Heap} (KX : K.In base) (G : base.Ns mainGlobals mg) (c : SaysY SAY K) (hT : P.given.tree = none) {fd : FuncData} (F : FunD K "flipped" "flipped" (defArgs (top 26)) (defBody (top 26)) (defScope (top 26)) [] [] (He.fAd K d_flipped.at_) fd) : FnOk P w K mg base CX0 1 (He.fAd K d_flipped.at_) fd ["rows", "many"] (spP K 2 false m_flipped) := by
  have m_tuple : mg "tuple" = none := He.free_ok KX G (c.1.fact 71)
  have m_range : mg "range" = none := He.free_ok KX G (c.1.fact 76)
  exact fn_pure (x := "flipped") (st := top 26) (N := N_flipped) (ps := ["rows", "many"]) (own := []) (fresh := false) (b := b_flipped) (k := 0) F sc_flipped (by decide) (fun cdv A outer s H E W0 hr =>
    (dss_one (ds_ret (d_callTy call_tuple_of cd_tuple (by rfl) m_tuple bt_tuple (da_cons (d_ofL (l_comp rfl sc_flipped.nd (di_range1 (by rfl) m_range (da_cons (d_var (pe_var (i := 1) (by rfl) (by exact .inl rfl))) da_nil)) (blkOk_by (N := N_flipped) (sc := (defScope (top 26))) (scope := ({ kind := PySem.ScopeKind.function, names := [(PySem.Str.ofString ".0", PySem.NameKind.local), (PySem.Str.ofString "at", PySem.NameKind.cell), (PySem.Str.ofString "tuple", PySem.NameKind.globalImplicit), (PySem.Str.ofString "rows", PySem.NameKind.free)], isGenerator := false, isCoroutine := false, more := [] } : PySem.Scope)) (own := [("at", 2)]) (by decide +kernel)) (fun _ _ _ _ _ _ => (dg_name (i := 2) sc_flipped.nd (by rfl) (by exact .inr rfl))) (fun _ _ _ _ _ _ => dts_nil) (fun _ _ _ _ _ _ => (d_callTy call_tuple_of cd_tuple (by rfl) m_tuple bt_tuple (da_cons (d_ofL (l_comp rfl sc_flipped.nd (di_seq (d_var (pe_var (i := 0) (by rfl) (by exact .inr (.inl rfl))))) (blkOk_by (N := N_flipped) (sc := (relS ({ kind := PySem.ScopeKind.function, names := [(PySem.Str.ofString ".0", PySem.NameKind.local), (PySem.Str.ofString "at", PySem.NameKind.cell), (PySem.Str.ofString "tuple", PySem.NameKind.globalImplicit), (PySem.Str.ofString "rows", PySem.NameKind.free)], isGenerator := false, isCoroutine := false, more := [] } : PySem.Scope) (defScope (top 26)))) (scope := ({ kind := PySem.ScopeKind.function, names := [(PySem.Str.ofString ".0", PySem.NameKind.local), (PySem.Str.ofString "row", PySem.NameKind.local), (PySem.Str.ofString "at", PySem.NameKind.free)], isGenerator := false, isCoroutine := false, more := [] } : PySem.Scope)) (own := [("row", 3)]) (by decide +kernel)) (fun _ _ _ _ _ _ => (dg_name (i := 3) sc_flipped.nd (by rfl) (by exact .inl rfl))) (fun _ _ _ _ _ _ => dts_nil) (fun _ _ _ _ _ _ => (d_ix (d_var (pe_var (i := 3) (by rfl) (by exact .inl rfl))) (d_var (pe_var (i := 2) (by rfl) (by exact .inr (.inl rfl)))))))) da_nil))))) da_nil)))))
theorem ok_flipped {P : Program} {w : World} {K : PySem.W.Frag} {mg : Str → Option Value} {base : Heap} (KX : K.In base) (G : base.Ns mainGlobals mg) (c : SaysY SAY K) (hT : P.given.tree = none) : Has P w K mg base 1 "flipped" (spP K 2 false m_flipped) := by
  obtain ⟨fd, F⟩ := c.1.def_ 20 (d := d_flipped) rfl
  exact ⟨_, fd, ["rows", "many"], okF_flipped KX G c hT F, He.glo_ok KX G (c.1.fact 20), F.kp, F.bindsN fun _ _ _ _ _ _ us hl => match us, hl with | [_, _], _ => rfl⟩
def c_table_less (m_row_less : List D → Option D) : SFn := (fRet (fCall gTuple (fCons (fOfL (fComp (fZip (fCons (fVar 0) (fCons (fVar 1) fNil))) (gTp 2 (gsCons (gNm 2) (gsCons (gNm 3) gsNil))) fYes (fCall m_row_less (fCons (fVar 2) (fCons (fVar 3) fNil))) [2, 3])) fNil)))
def b_table_less : SFn := c_table_less m_row_less
def m_table_less : List D → Option D := outP false 4 b_table_less
theorem okF_table_less {P : Program} {w : World} {K : PySem.W.Frag} {mg : Str → Option Value} {base : Heap} (KX : K.In base) (G : base.Ns mainGlobals mg) (c : SaysY SAY K) (hT : P.given.tree = none) {fd : FuncData} (F : FunD K "table_less" "table_less" (defArgs (top 27)) (defBody (top 27)) (defScope (top 27)) [] [] (He.fAd K d_table_less.at_) fd) : FnOk P w K mg base CX0 36 (He.fAd K d_table_less.at_) fd ["one", "two"] (spP K 2 false m_table_less) := by
  have m_tuple : mg "tuple" = none := He.free_ok KX G (c.1.fact 71)
  have m_zip : mg "zip" = none := He.free_ok KX G (c.1.fact 75)
  have h_row_less := ok_row_less (P := P) (w := w) KX G c hT
  exact fn_pure (x := "table_less") (st := top 27) (N := N_table_less) (ps := ["one", "two"]) (own := []) (fresh := false) (b := b_table_less) (k := 35) F sc_table_less (by decide) (fun cdv A outer s H E W0 hr =>
    (dss_one (ds_ret (d_callTy call_tuple_of cd_tuple (by rfl) m_tuple bt_tuple (da_cons (d_ofL (l_comp rfl sc_table_less.nd (di_zip (by rfl) m_zip (da_cons (d_var (pe_var (i := 0) (by rfl) (by exact .inl rfl))) (da_cons (d_var (pe_var (i := 1) (by rfl) (by exact .inl rfl))) da_nil))) (blkOk_by (N := N_table_less) (sc := (defScope (top 27))) (scope := ({ kind := PySem.ScopeKind.function, names := [(PySem.Str.ofString ".0", PySem.NameKind.local), (PySem.Str.ofString "here", PySem.NameKind.local), (PySem.Str.ofString "there", PySem.NameKind.local), (PySem.Str.ofString "row_less", PySem.NameKind.globalImplicit)], isGenerator := false, isCoroutine := false, more := [] } : PySem.Scope)) (own := [("here", 2), ("there", 3)]) (by decide +kernel)) (fun _ _ _ _ _ _ => (dg_tup rfl (dg_cons (dg_name (i := 2) sc_table_less.nd (by rfl) (by exact .inl rfl)) (dg_cons (dg_name (i := 3) sc_table_less.nd (by rfl) (by exact .inl rfl)) dg_nil)))) (fun _ _ _ _ _ _ => dts_nil) (fun _ _ _ _ _ _ => (d_call h_row_less hr (by decide) (by rfl) (da_cons (d_var (pe_var (i := 2) (by rfl) (by exact .inl rfl))) (da_cons (d_var (pe_var (i := 3) (by rfl) (by exact .inl rfl))) da_nil)) (hl := (fCons_len (fCons_len fNil_len))))))) da_nil)))))
theorem ok_table_less {P : Program} {w : World} {K : PySem.W.Frag} {mg : Str → Option Value} {base : Heap} (KX : K.In base) (G : base.Ns mainGlobals mg) (c : SaysY SAY K) (hT : P.given.tree = none) : Has P w K mg base 36 "table_less" (spP K 2 false m_table_less) := by
  obtain ⟨fd, F⟩ := c.1.def_ 21 (d := d_table_less) rfl
  exact ⟨_, fd, ["one", "two"], okF_table_less KX G c hT F, He.glo_ok KX G (c.1.fact 21), F.kp, F.bindsN fun _ _ _ _ _ _ us hl => match us, hl with | [_, _], _ => rfl⟩
def c_stairs (m_row_scaled : List D → Option D) (m_over : List D → Option D) (m_row_less : List D → Option D) : SFn := (fSeq (fPar 2 3 (fCons (fOfL (fComp (fItems (fVar 0)) (gNm 8) fYes (fCall gTuple (fCons (fVar 8) fNil)) [8])) (fCons (fOfL (fLst fNil)) fNil)))
    (fSeq (fFor (fRng1 (fCons (fVar 1) fNil)) (gNm 4) (fSeq (fSet 5 (fOfL (fComp (fRng2 (fCons (fCall gLen (fCons (fVar 3) fNil)) (fCons (fCall gLen (fCons (fVar 2) fNil)) fNil))) (gNm 9) (fB (fBin gNe (fBin gIx (fBin gIx (fVar 2) (fVar 9)) (fVar 4)) (fC (.tup [.int 0, .int 1])))) (fVar 9) [9])))
    (fIfS (fB (fBin gNe (fVar 5) (fOfL (fLst fNil)))) (fSeq (fSet 6 (fCall gLen (fCons (fVar 3) fNil)))
    (fSeq (fAsg (gTp 2 (gsCons (gIxT 2 (fVar 6)) (gsCons (gIxT 2 (fBin gIx (fVar 5) (fC (.int 0)))) gsNil))) (fTup (fCons (fBin gIx (fVar 2) (fBin gIx (fVar 5) (fC (.int 0)))) (fCons (fBin gIx (fVar 2) (fVar 6)) fNil))))
    (fSeq (fSet 7 (fCall m_row_scaled (fCons (fBin gIx (fVar 2) (fVar 6)) (fCons (fCall m_over (fCons (fC (.tup [.int 1, .int 1])) (fCons (fBin gIx (fBin gIx (fVar 2) (fVar 6)) (fVar 4)) fNil))) fNil))))
    (fSeq (fSetL 2 (fComp (fItems (fVar 2)) (gNm 8) fYes (fIf (fB (fBin gNe (fBin gIx (fVar 8) (fVar 4)) (fC (.tup [.int 0, .int 1])))) (fCall m_row_less (fCons (fVar 8) (fCons (fCall m_row_scaled (fCons (fVar 7) (fCons (fBin gIx (fVar 8) (fVar 4)) fNil))) fNil))) (fVar 8)) [8]))
    (fSeq (fSetIx 2 (fVar 7) (fVar 6))
    (fApp 3 (fVar 4))))))) fSkip)))
    (fRet (fTup (fCons (fVar 2) (fCons (fVar 3) fNil))))))
def b_stairs : SFn := c_stairs m_row_scaled m_over m_row_less
def m_stairs : List D → Option D := outP false 10 b_stairs
theorem okF_stairs {P : Program} {w : World} {K : PySem.W.Frag} {mg : Str → Option Value} {base : Heap} (KX : K.In base) (G : base.Ns mainGlobals mg) (c : SaysY SAY K) (hT : P.given.tree = none) {fd : FuncData} (F : FunD K "stairs" "stairs" (defArgs (top 28)) (defBody (top 28)) (defScope (top 28)) [] [] (He.fAd K d_stairs.at_) fd) : FnOk P w K mg base CX0 36 (He.fAd K d_stairs.at_) fd ["rows", "width"] (spP K 2 false m_stairs) := by
  have m_tuple : mg "tuple" = none := He.free_ok KX G (c.1.fact 71)
  have m_range : mg "range" = none := He.free_ok KX G (c.1.fact 76)
  have m_len : mg "len" = none := He.free_ok KX G (c.1.fact 72)
  have g_ZERO := He.glo_ok KX G (c.1.fact 74)
  have t_ZERO := fun H => c.1.tup 0 H
  have g_ONE := He.glo_ok KX G (c.1.fact 77)
  have t_ONE := fun H => c.1.tup 1 H
  have h_over := ok_over (P := P) (w := w) KX G c hT
  have h_row_less := ok_row_less (P := P) (w := w) KX G c hT
  have h_row_scaled := ok_row_scaled (P := P) (w := w) KX G c hT
  exact fn_pure (x := "stairs") (st := top 28) (N := N_stairs) (ps := ["rows", "width"]) (own := [2, 3]) (fresh := false) (b := b_stairs) (k := 35) F sc_stairs (by decide) (fun cdv A outer s H E W0 hr =>
    (dss_cons (ds_n2 (i := 2) (j := 3) rfl sc_stairs.nd rfl rfl (by exact .inr rfl) (by exact .inl rfl) (dm_L (l_comp rfl sc_stairs.nd (di_seq (d_var (pe_var (i := 0) (by rfl) (by exact .inl rfl)))) (blkOk_by (N := N_stairs) (sc := (defScope (top 28))) (scope := ({ kind := PySem.ScopeKind.function, names := [(PySem.Str.ofString ".0", PySem.NameKind.local), (PySem.Str.ofString "row", PySem.NameKind.local), (PySem.Str.ofString "tuple", PySem.NameKind.globalImplicit)], isGenerator := false, isCoroutine := false, more := [] } : PySem.Scope)) (own := [("row", 8)]) (by decide +kernel)) (fun _ _ _ _ _ _ => (dg_name (i := 8) sc_stairs.nd (by rfl) (by exact .inl rfl))) (fun _ _ _ _ _ _ => dts_nil) (fun _ _ _ _ _ _ => (d_callTy call_tuple_of cd_tuple (by rfl) m_tuple bt_tuple (da_cons (d_var (pe_var (i := 8) (by rfl) (by exact .inl rfl))) da_nil)))) fun _ => (dm_L (l_lst da_nil) fun _ => dm_nil))) (dss_cons (ds_for PassesOwn.never rfl (di_range1 (by rfl) m_range (da_cons (d_var (pe_var (i := 1) (by rfl) (by exact .inl rfl))) da_nil)) (dg_name (i := 4) sc_stairs.nd (by rfl) (by exact .inr rfl)) (dss_cons (ds_comp (i := 5) rfl sc_stairs.nd rfl rfl (sw_true rfl rfl rfl (by decide +kernel)) (di_range2 (by rfl) m_range (da_cons (d_callB call_len_seq cd_len (by rfl) m_len bt_len (da_cons (d_view (pe_var (i := 3) (by rfl) (by exact .inl rfl))) da_nil)) (da_cons (d_callB call_len_seq cd_len (by rfl) m_len bt_len (da_cons (d_view (pe_var (i := 2) (by rfl) (by exact .inr (.inl rfl)))) da_nil)) da_nil))) (blkOk_by (N := N_stairs) (sc := (defScope (top 28))) (scope := ({ kind := PySem.ScopeKind.function, names := [(PySem.Str.ofString ".0", PySem.NameKind.local), (PySem.Str.ofString "at", PySem.NameKind.local), (PySem.Str.ofString "ZERO", PySem.NameKind.globalImplicit), (PySem.Str.ofString "column", PySem.NameKind.free), (PySem.Str.ofString "found", PySem.NameKind.free)], isGenerator := false, isCoroutine := false, more := [] } : PySem.Scope)) (own := [("at", 9)]) (by decide +kernel)) (fun _ _ _ _ _ _ => (dg_name (i := 9) sc_stairs.nd (by rfl) (by exact .inl rfl))) (fun _ _ _ _ _ _ => (dts_one (dt_cmp (op_neX hr.units) od_ne (d_ix (d_ix (d_view (pe_var (i := 2) (by rfl) (by exact .inr (.inl rfl)))) (d_var (pe_var (i := 9) (by rfl) (by exact .inl rfl)))) (d_var (pe_var (i := 4) (by rfl) (by exact .inr (.inl rfl))))) (d_gtup (by rfl) g_ZERO t_ZERO) (hm := nomark _)))) (fun _ _ _ _ _ _ => (d_var (pe_var (i := 9) (by rfl) (by exact .inl rfl))))) (dss_one (ds_if (dt_cmp (op_neX hr.units) od_ne (d_var (pe_var (i := 5) (by rfl) (by exact .inl rfl))) (d_ofL (l_lst da_nil)) (hm := nomark _)) (dss_cons (ds_set (i := 6) sc_stairs.nd (by rfl) (by exact .inl rfl) (d_callB call_len_seq cd_len (by rfl) m_len bt_len (da_cons (d_view (pe_var (i := 3) (by rfl) (by exact .inl rfl))) da_nil))) (dss_cons (ds_asgE (d_tup (da_cons (d_ix (d_view (pe_var (i := 2) (by rfl) (by exact .inr (.inl rfl)))) (d_ix (d_var (pe_var (i := 5) (by rfl) (by exact .inl rfl))) d_int)) (da_cons (d_ix (d_view (pe_var (i := 2) (by rfl) (by exact .inr (.inl rfl)))) (d_var (pe_var (i := 6) (by rfl) (by exact .inl rfl)))) da_nil))) (dge_tup rfl (dge_cons (dge_sub (pe_var (i := 2) (by rfl) (by exact .inr (.inl rfl))) (d_var (pe_var (i := 6) (by rfl) (by exact .inl rfl)))) (dge_cons (dge_sub (pe_var (i := 2) (by rfl) (by exact .inr (.inl rfl))) (d_ix (d_var (pe_var (i := 5) (by rfl) (by exact .inl rfl))) d_int)) dge_nil)))) (dss_cons (ds_set (i := 7) sc_stairs.nd (by rfl) (by exact .inr rfl) (d_call h_row_scaled hr (by decide) (by rfl) (da_cons (d_ix (d_view (pe_var (i := 2) (by rfl) (by exact .inr (.inl rfl)))) (d_var (pe_var (i := 6) (by rfl) (by exact .inl rfl)))) (da_cons (d_call h_over hr (by decide) (by rfl) (da_cons (d_gtup (by rfl) g_ONE t_ONE) (da_cons (d_ix (d_ix (d_view (pe_var (i := 2) (by rfl) (by exact .inr (.inl rfl)))) (d_var (pe_var (i := 6) (by rfl) (by exact .inl rfl)))) (d_var (pe_var (i := 4) (by rfl) (by exact .inr (.inl rfl))))) da_nil)) (hl := (fCons_len (fCons_len fNil_len)))) da_nil)) (hl := (fCons_len (fCons_len fNil_len))))) (dss_cons (ds_setL (i := 2) sc_stairs.nd (by rfl) (by exact .inr rfl) (l_comp rfl sc_stairs.nd (di_seq (d_view (pe_var (i := 2) (by rfl) (by exact .inr (.inl rfl))))) (blkOk_by (N := N_stairs) (sc := (defScope (top 28))) (scope := ({ kind := PySem.ScopeKind.function, names := [(PySem.Str.ofString ".0", PySem.NameKind.local), (PySem.Str.ofString "row", PySem.NameKind.local), (PySem.Str.ofString "ZERO", PySem.NameKind.globalImplicit), (PySem.Str.ofString "row_less", PySem.NameKind.globalImplicit), (PySem.Str.ofString "row_scaled", PySem.NameKind.globalImplicit), (PySem.Str.ofString "column", PySem.NameKind.free), (PySem.Str.ofString "lead", PySem.NameKind.free)], isGenerator := false, isCoroutine := false, more := [] } : PySem.Scope)) (own := [("row", 8)]) (by decide +kernel)) (fun _ _ _ _ _ _ => (dg_name (i := 8) sc_stairs.nd (by rfl) (by exact .inl rfl))) (fun _ _ _ _ _ _ => dts_nil) (fun _ _ _ _ _ _ => (de_if (dt_cmp (op_neX hr.units) od_ne (d_ix (d_var (pe_var (i := 8) (by rfl) (by exact .inl rfl))) (d_var (pe_var (i := 4) (by rfl) (by exact .inr (.inl rfl))))) (d_gtup (by rfl) g_ZERO t_ZERO) (hm := nomark _)) (d_call h_row_less hr (by decide) (by rfl) (da_cons (d_var (pe_var (i := 8) (by rfl) (by exact .inl rfl))) (da_cons (d_call h_row_scaled hr (by decide) (by rfl) (da_cons (d_var (pe_var (i := 7) (by rfl) (by exact .inr (.inl rfl)))) (da_cons (d_ix (d_var (pe_var (i := 8) (by rfl) (by exact .inl rfl))) (d_var (pe_var (i := 4) (by rfl) (by exact .inr (.inl rfl))))) da_nil)) (hl := (fCons_len (fCons_len fNil_len)))) da_nil)) (hl := (fCons_len (fCons_len fNil_len)))) (d_var (pe_var (i := 8) (by rfl) (by exact .inl rfl))))))) (dss_cons (ds_setIx (pe_var (i := 2) (by rfl) (by exact .inr (.inl rfl))) (d_var (pe_var (i := 6) (by rfl) (by exact .inl rfl))) (d_var (pe_var (i := 7) (by rfl) (by exact .inr (.inl rfl))))) (dss_one (ds_app (pe_var (i := 3) (by rfl) (by exact .inl rfl)) (d_var (pe_var (i := 4) (by rfl) (by exact .inr (.inl rfl))))))))))) dss_nil)))) (dss_one (ds_ret (d_tup (da_cons (d_var (pe_var (i := 2) (by rfl) (by exact .inr (.inl rfl)))) (da_cons (d_var (pe_var (i := 3) (by rfl) (by exact .inl rfl))) da_nil))))))))
theorem ok_stairs {P : Program} {w : World} {K : PySem.W.Frag} {mg : Str → Option Value} {base : Heap} (KX : K.In base) (G : base.Ns mainGlobals mg) (c : SaysY SAY K) (hT : P.given.tree = none) : Has P w K mg base 36 "stairs" (spP K 2 false m_stairs) := by
  obtain ⟨fd, F⟩ := c.1.def_ 22 (d := d_stairs) rfl
  exact ⟨_, fd, ["rows", "width"], okF_stairs KX G c hT F, He.glo_ok KX G (c.1.fact 22), F.kp, F.bindsN fun _ _ _ _ _ _ us hl => match us, hl with | [_, _], _ => rfl⟩
def c_rank (m_stairs : List D → Option D) : SFn := (fRet (fCall gLen (fCons (fBin gIx (fCall m_stairs (fCons (fVar 0) (fCons (fVar 1) fNil))) (fC (.int 1))) fNil)))
def b_rank : SFn := c_rank m_stairs
def m_rank : List D → Option D := outP false 2 b_rank
theorem okF_rank {P : Program} {w : World} {K : PySem.W.Frag} {mg : Str → Option Value} {base : Heap} (KX : K.In base) (G : base.Ns mainGlobals mg) (c : SaysY SAY K) (hT : P.given.tree = none) {fd : FuncData} (F : FunD K "rank" "rank" (defArgs (top 29)) (defBody (top 29)) (defScope (top 29)) [] [] (He.fAd K d_rank.at_) fd) : FnOk P w K mg base CX0 37 (He.fAd K d_rank.at_) fd ["rows", "width"] (spP K 2 false m_rank) := by
  have m_len : mg "len" = none := He.free_ok KX G (c.1.fact 72)
  have h_stairs := ok_stairs (P := P) (w := w) KX G c hT
  exact fn_pure (x := "rank") (st := top 29) (N := N_rank) (ps := ["rows", "width"]) (own := []) (fresh := false) (b := b_rank) (k := 36) F sc_rank (by decide) (fun cdv A outer s H E W0 hr =>
    (dss_one (ds_ret (d_callB call_len_seq cd_len (by rfl) m_len bt_len (da_cons (d_ix (d_call h_stairs hr (by decide) (by rfl) (da_cons (d_var (pe_var (i := 0) (by rfl) (by exact .inl rfl))) (da_cons (d_var (pe_var (i := 1) (by rfl) (by exact .inl rfl))) da_nil)) (hl := (fCons_len (fCons_len fNil_len)))) d_int) da_nil)))))
theorem ok_rank {P : Program} {w : World} {K : PySem.W.Frag} {mg : Str → Option Value} {base : Heap} (KX : K.In base) (G : base.Ns mainGlobals mg) (c : SaysY SAY K) (hT : P.given.tree = none) : Has P w K mg base 37 "rank" (spP K 2 false m_rank) := by
  obtain ⟨fd, F⟩ := c.1.def_ 23 (d := d_rank) rfl
  exact ⟨_, fd, ["rows", "width"], okF_rank KX G c hT F, He.glo_ok KX G (c.1.fact 23), F.kp, F.bindsN fun _ _ _ _ _ _ us hl => match us, hl with | [_, _], _ => rfl⟩
def c_is_formed (m_is_between : List D → Option D) (m_is_square : List D → Option D) (m_flipped : List D → Option D) : SFn := (fSeq (fIfS (fOrT (fNotT (fB (fIsi isTup (fVar 0)))) (fOrT (fNotT (fB (fCall m_is_between (fCons (fCall gLen (fCons (fVar 0) fNil)) (fCons (fC (.int 1)) (fCons (fC (.int 5)) fNil)))))) (fNotT (fB (fCall m_is_square (fCons (fVar 0) (fCons (fCall gLen (fCons (fVar 0) fNil)) fNil))))))) (fRet (fC (.bl false))) fSkip)
    (fRet (fBin gEq (fVar 0) (fCall m_flipped (fCons (fVar 0) (fCons (fCall gLen (fCons (fVar 0) fNil)) fNil))))))
def b_is_formed : SFn := c_is_formed m_is_between m_is_square m_flipped
def m_is_formed : List D → Option D := outP false 1 b_is_formed
theorem okF_is_formed {P : Program} {w : World} {K : PySem.W.Frag} {mg : Str → Option Value} {base : Heap} (KX : K.In base) (G : base.Ns mainGlobals mg) (c : SaysY SAY K) (hT : P.given.tree = none) {fd : FuncData} (F : FunD K "is_formed" "is_formed" (defArgs (top 32)) (defBody (top 32)) (defScope (top 32)) [] [] (He.fAd K d_is_formed.at_) fd) : FnOk P w K mg base CX0 6 (He.fAd K d_is_formed.at_) fd ["value"] (spP K 1 false m_is_formed) := by
  have m_isinstance : mg "isinstance" = none := He.free_ok KX G (c.1.fact 68)
  have m_tuple : mg "tuple" = none := He.free_ok KX G (c.1.fact 71)
  obtain ⟨t_MOST_ROWS, g_MOST_ROWS⟩ := He.int_ok KX G (c.1.fact 78)
  have m_len : mg "len" = none := He.free_ok KX G (c.1.fact 72)
  have h_flipped := ok_flipped (P := P) (w := w) KX G c hT
  have h_is_between := ok_is_between (P := P) (w := w) KX G c hT
  have h_is_square := ok_is_square (P := P) (w := w) KX G c hT
  exact fn_pure (x := "is_formed") (st := top 32) (N := N_is_formed) (ps := ["value"]) (own := []) (fresh := false) (b := b_is_formed) (k := 5) F sc_is_formed (by decide) (fun cdv A outer s H E W0 hr =>
    (dss_cons (ds_if (dw_or (dt_not (dt_val (d_isi kit_tup (by rfl) m_isinstance bt_isinstance (d_var (pe_var (i := 0) (by rfl) (by exact .inl rfl))) (pe_bltn (v := .ty "tuple") (by rfl) m_tuple bt_tuple rfl)))) (dw_or (dt_not (dt_val (d_call h_is_between hr (by decide) (by rfl) (da_cons (d_callB call_len_seq cd_len (by rfl) m_len bt_len (da_cons (d_var (pe_var (i := 0) (by rfl) (by exact .inl rfl))) da_nil)) (da_cons d_int (da_cons (d_gint (by rfl) g_MOST_ROWS) da_nil))) (hl := (fCons_len (fCons_len (fCons_len fNil_len))))))) (dw_or1 (dt_not (dt_val (d_call h_is_square hr (by decide) (by rfl) (da_cons (d_var (pe_var (i := 0) (by rfl) (by exact .inl rfl))) (da_cons (d_callB call_len_seq cd_len (by rfl) m_len bt_len (da_cons (d_var (pe_var (i := 0) (by rfl) (by exact .inl rfl))) da_nil)) da_nil)) (hl := (fCons_len (fCons_len fNil_len))))))))).pt (dss_one (ds_ret d_bl)) dss_nil) (dss_one (ds_ret (d_cmp (op_eqD hr.units) od_eq (d_var (pe_var (i := 0) (by rfl) (by exact .inl rfl))) (d_call h_flipped hr (by decide) (by rfl) (da_cons (d_var (pe_var (i := 0) (by rfl) (by exact .inl rfl))) (da_cons (d_callB call_len_seq cd_len (by rfl) m_len bt_len (da_cons (d_var (pe_var (i := 0) (by rfl) (by exact .inl rfl))) da_nil)) da_nil)) (hl := (fCons_len (fCons_len fNil_len)))) (hm := nomark _))))))
theorem ok_is_formed {P : Program} {w : World} {K : PySem.W.Frag} {mg : Str → Option Value} {base : Heap} (KX : K.In base) (G : base.Ns mainGlobals mg) (c : SaysY SAY K) (hT : P.given.tree = none) : Has P w K mg base 6 "is_formed" (spP K 1 false m_is_formed) := by
  obtain ⟨fd, F⟩ := c.1.def_ 24 (d := d_is_formed) rfl
  exact ⟨_, fd, ["value"], okF_is_formed KX G c hT F, He.glo_ok KX G (c.1.fact 24), F.kp, F.bindsN fun _ _ _ _ _ _ us hl => match us, hl with | [_], _ => rfl⟩
def c_product_by (m_products_of : List D → Option D) (m_led : List D → Option D) : SFn := (fRet (fCall m_products_of (fCons (fVar 1) (fCons (fCall m_led (fCons (fVar 0) (fCons (fVar 2) fNil))) fNil))))
def b_product_by : SFn := c_product_by m_products_of m_led
def m_product_by : List D → Option D := outP false 3 b_product_by
theorem okF_product_by {P : Program} {w : World} {K : PySem.W.Frag} {mg : Str → Option Value} {base : Heap} (KX : K.In base) (G : base.Ns mainGlobals mg) (c : SaysY SAY K) (hT : P.given.tree = none) {fd : FuncData} (F : FunD K "product_by" "product_by" (defArgs (top 33)) (defBody (top 33)) (defScope (top 33)) [] [] (He.fAd K d_product_by.at_) fd) : FnOk P w K mg base CX0 38 (He.fAd K d_product_by.at_) fd ["form", "one", "two"] (spP K 3 false m_product_by) := by
  have h_led := ok_led (P := P) (w := w) KX G c hT
  have h_products_of := ok_products_of (P := P) (w := w) KX G c hT
  exact fn_pure (x := "product_by") (st := top 33) (N := N_product_by) (ps := ["form", "one", "two"]) (own := []) (fresh := false) (b := b_product_by) (k := 37) F sc_product_by (by decide) (fun cdv A outer s H E W0 hr =>
    (dss_one (ds_ret (d_call h_products_of hr (by decide) (by rfl) (da_cons (d_var (pe_var (i := 1) (by rfl) (by exact .inl rfl))) (da_cons (d_call h_led hr (by decide) (by rfl) (da_cons (d_var (pe_var (i := 0) (by rfl) (by exact .inl rfl))) (da_cons (d_var (pe_var (i := 2) (by rfl) (by exact .inl rfl))) da_nil)) (hl := (fCons_len (fCons_len fNil_len)))) da_nil)) (hl := (fCons_len (fCons_len fNil_len)))))))
theorem ok_product_by {P : Program} {w : World} {K : PySem.W.Frag} {mg : Str → Option Value} {base : Heap} (KX : K.In base) (G : base.Ns mainGlobals mg) (c : SaysY SAY K) (hT : P.given.tree = none) : Has P w K mg base 38 "product_by" (spP K 3 false m_product_by) := by
  obtain ⟨fd, F⟩ := c.1.def_ 25 (d := d_product_by) rfl
  exact ⟨_, fd, ["form", "one", "two"], okF_product_by KX G c hT F, He.glo_ok KX G (c.1.fact 25), F.kp, F.bindsN fun _ _ _ _ _ _ us hl => match us, hl with | [_, _, _], _ => rfl⟩
def c_worth_by (m_product_by : List D → Option D) : SFn := (fRet (fCall m_product_by (fCons (fVar 0) (fCons (fVar 1) (fCons (fVar 1) fNil)))))
def b_worth_by : SFn := c_worth_by m_product_by
def m_worth_by : List D → Option D := outP false 2 b_worth_by
theorem okF_worth_by {P : Program} {w : World} {K : PySem.W.Frag} {mg : Str → Option Value} {base : Heap} (KX : K.In base) (G : base.Ns mainGlobals mg) (c : SaysY SAY K) (hT : P.given.tree = none) {fd : FuncData} (F : FunD K "worth_by" "worth_by" (defArgs (top 34)) (defBody (top 34)) (defScope (top 34)) [] [] (He.fAd K d_worth_by.at_) fd) : FnOk P w K mg base CX0 39 (He.fAd K d_worth_by.at_) fd ["form", "row"] (spP K 2 false m_worth_by) := by
  have h_product_by := ok_product_by (P := P) (w := w) KX G c hT
  exact fn_pure (x := "worth_by") (st := top 34) (N := N_worth_by) (ps := ["form", "row"]) (own := []) (fresh := false) (b := b_worth_by) (k := 38) F sc_worth_by (by decide) (fun cdv A outer s H E W0 hr =>
    (dss_one (ds_ret (d_call h_product_by hr (by decide) (by rfl) (da_cons (d_var (pe_var (i := 0) (by rfl) (by exact .inl rfl))) (da_cons (d_var (pe_var (i := 1) (by rfl) (by exact .inl rfl))) (da_cons (d_var (pe_var (i := 1) (by rfl) (by exact .inl rfl))) da_nil))) (hl := (fCons_len (fCons_len (fCons_len fNil_len))))))))
theorem ok_worth_by {P : Program} {w : World} {K : PySem.W.Frag} {mg : Str → Option Value} {base : Heap} (KX : K.In base) (G : base.Ns mainGlobals mg) (c : SaysY SAY K) (hT : P.given.tree = none) : Has P w K mg base 39 "worth_by" (spP K 2 false m_worth_by) := by
  obtain ⟨fd, F⟩ := c.1.def_ 26 (d := d_worth_by) rfl
  exact ⟨_, fd, ["form", "row"], okF_worth_by KX G c hT F, He.glo_ok KX G (c.1.fact 26), F.kp, F.bindsN fun _ _ _ _ _ _ us hl => match us, hl with | [_, _], _ => rfl⟩
def c_products_table (m_row_scaled : List D → Option D) : SFn := (fRet (fCall gTuple (fCons (fOfL (fComp (fItems (fVar 0)) (gNm 2) fYes (fCall m_row_scaled (fCons (fVar 1) (fCons (fVar 2) fNil))) [2])) fNil)))
def b_products_table : SFn := c_products_table m_row_scaled
def m_products_table : List D → Option D := outP false 3 b_products_table
theorem okF_products_table {P : Program} {w : World} {K : PySem.W.Frag} {mg : Str → Option Value} {base : Heap} (KX : K.In base) (G : base.Ns mainGlobals mg) (c : SaysY SAY K) (hT : P.given.tree = none) {fd : FuncData} (F : FunD K "products_table" "products_table" (defArgs (top 35)) (defBody (top 35)) (defScope (top 35)) [] [] (He.fAd K d_products_table.at_) fd) : FnOk P w K mg base CX0 36 (He.fAd K d_products_table.at_) fd ["one", "two"] (spP K 2 false m_products_table) := by
  have m_tuple : mg "tuple" = none := He.free_ok KX G (c.1.fact 71)
  have h_row_scaled := ok_row_scaled (P := P) (w := w) KX G c hT
  exact fn_pure (x := "products_table") (st := top 35) (N := N_products_table) (ps := ["one", "two"]) (own := []) (fresh := false) (b := b_products_table) (k := 35) F sc_products_table (by decide) (fun cdv A outer s H E W0 hr =>
    (dss_one (ds_ret (d_callTy call_tuple_of cd_tuple (by rfl) m_tuple bt_tuple (da_cons (d_ofL (l_comp rfl sc_products_table.nd (di_seq (d_var (pe_var (i := 0) (by rfl) (by exact .inl rfl)))) (blkOk_by (N := N_products_table) (sc := (defScope (top 35))) (scope := ({ kind := PySem.ScopeKind.function, names := [(PySem.Str.ofString ".0", PySem.NameKind.local), (PySem.Str.ofString "each", PySem.NameKind.local), (PySem.Str.ofString "row_scaled", PySem.NameKind.globalImplicit), (PySem.Str.ofString "two", PySem.NameKind.free)], isGenerator := false, isCoroutine := false, more := [] } : PySem.Scope)) (own := [("each", 2)]) (by decide +kernel)) (fun _ _ _ _ _ _ => (dg_name (i := 2) sc_products_table.nd (by rfl) (by exact .inl rfl))) (fun _ _ _ _ _ _ => dts_nil) (fun _ _ _ _ _ _ => (d_call h_row_scaled hr (by decide) (by rfl) (da_cons (d_var (pe_var (i := 1) (by rfl) (by exact .inr (.inl rfl)))) (da_cons (d_var (pe_var (i := 2) (by rfl) (by exact .inl rfl))) da_nil)) (hl := (fCons_len (fCons_len fNil_len))))))) da_nil)))))
theorem ok_products_table {P : Program} {w : World} {K : PySem.W.Frag} {mg : Str → Option Value} {base : Heap} (KX : K.In base) (G : base.Ns mainGlobals mg) (c : SaysY SAY K) (hT : P.given.tree = none) : Has P w K mg base 36 "products_table" (spP K 2 false m_products_table) := by
  obtain ⟨fd, F⟩ := c.1.def_ 27 (d := d_products_table) rfl
  exact ⟨_, fd, ["one", "two"], okF_products_table KX G c hT F, He.glo_ok KX G (c.1.fact 27), F.kp, F.bindsN fun _ _ _ _ _ _ us hl => match us, hl with | [_, _], _ => rfl⟩
def c_first_pivot  : SFn := (fSeq (fSet 1 (fCall gLen (fCons (fVar 0) fNil)))
    (fSeq (fFor (fRng1 (fCons (fVar 1) fNil)) (gNm 2) (fIfS (fB (fBin gNe (fBin gIx (fBin gIx (fVar 0) (fVar 2)) (fVar 2)) (fC (.tup [.int 0, .int 1])))) (fRet (fTup (fCons (fVar 2) (fCons (fVar 2) fNil)))) fSkip))
    (fSeq (fSet 3 (fOfL (fComp2 (fRng1 (fCons (fVar 1) fNil)) (gNm 4) fYes (fRng1 (fCons (fVar 1) fNil)) (gNm 5) (fB (fBin gNe (fBin gIx (fBin gIx (fVar 0) (fVar 4)) (fVar 5)) (fC (.tup [.int 0, .int 1])))) (fTup (fCons (fVar 4) (fCons (fVar 5) fNil))) [4, 5] [5])))
    (fRet (fIf (fB (fBin gNe (fVar 3) (fOfL (fLst fNil)))) (fBin gIx (fVar 3) (fC (.int 0))) (fTup fNil))))))
def b_first_pivot : SFn := c_first_pivot 
def m_first_pivot : List D → Option D := outP false 6 b_first_pivot
theorem okF_first_pivot {P : Program} {w : World} {K : PySem.W.Frag} {mg : Str → Option Value} {base : Heap} (KX : K.In base) (G : base.Ns mainGlobals mg) (c : SaysY SAY K) (hT : P.given.tree = none) {fd : FuncData} (F : FunD K "first_pivot" "first_pivot" (defArgs (top 36)) (defBody (top 36)) (defScope (top 36)) [] [] (He.fAd K d_first_pivot.at_) fd) : FnOk P w K mg base CX0 1 (He.fAd K d_first_pivot.at_) fd ["form"] (spP K 1 false m_first_pivot) := by
  have m_len : mg "len" = none := He.free_ok KX G (c.1.fact 72)
  have m_range : mg "range" = none := He.free_ok KX G (c.1.fact 76)
  have g_ZERO := He.glo_ok KX G (c.1.fact 74)
  have t_ZERO := fun H => c.1.tup 0 H
  exact fn_pure (x := "first_pivot") (st := top 36) (N := N_first_pivot) (ps := ["form"]) (own := []) (fresh := false) (b := b_first_pivot) (k := 0) F sc_first_pivot (by decide) (fun cdv A outer s H E W0 hr =>
    (dss_cons (ds_set (i := 1) sc_first_pivot.nd (by rfl) (by exact .inr rfl) (d_callB call_len_seq cd_len (by rfl) m_len bt_len (da_cons (d_var (pe_var (i := 0) (by rfl) (by exact .inr (.inl rfl)))) da_nil))) (dss_cons (ds_for PassesOwn.never rfl (di_range1 (by rfl) m_range (da_cons (d_var (pe_var (i := 1) (by rfl) (by exact .inr (.inl rfl)))) da_nil)) (dg_name (i := 2) sc_first_pivot.nd (by rfl) (by exact .inl rfl)) (dss_one (ds_if (dt_cmp (op_neX hr.units) od_ne (d_ix (d_ix (d_var (pe_var (i := 0) (by rfl) (by exact .inr (.inl rfl)))) (d_var (pe_var (i := 2) (by rfl) (by exact .inl rfl)))) (d_var (pe_var (i := 2) (by rfl) (by exact .inl rfl)))) (d_gtup (by rfl) g_ZERO t_ZERO) (hm := nomark _)) (dss_one (ds_ret (d_tup (da_cons (d_var (pe_var (i := 2) (by rfl) (by exact .inl rfl))) (da_cons (d_var (pe_var (i := 2) (by rfl) (by exact .inl rfl))) da_nil))))) dss_nil))) (dss_cons (ds_comp2 (i := 3) [5] rfl sc_first_pivot.nd rfl rfl (sw_true rfl rfl rfl (by decide +kernel)) (di_range1 (by rfl) m_range (da_cons (d_var (pe_var (i := 1) (by rfl) (by exact .inr (.inl rfl)))) da_nil)) (blkOk_by (N := N_first_pivot) (sc := (defScope (top 36))) (scope := ({ kind := PySem.ScopeKind.function, names := [(PySem.Str.ofString ".0", PySem.NameKind.local), (PySem.Str.ofString "one", PySem.NameKind.local), (PySem.Str.ofString "two", PySem.NameKind.local), (PySem.Str.ofString "range", PySem.NameKind.globalImplicit), (PySem.Str.ofString "ZERO", PySem.NameKind.globalImplicit), (PySem.Str.ofString "form", PySem.NameKind.free), (PySem.Str.ofString "many", PySem.NameKind.free)], isGenerator := false, isCoroutine := false, more := [] } : PySem.Scope)) (own := [("one", 4), ("two", 5)]) (by decide +kernel)) (fun _ _ _ _ _ _ => (dg_name (i := 4) sc_first_pivot.nd (by rfl) (by exact .inl rfl))) (fun _ _ _ _ _ _ => dts_nil) (fun _ _ _ _ _ _ => (di_range1 (by rfl) m_range (da_cons (d_var (pe_var (i := 1) (by rfl) (by exact .inr (.inl rfl)))) da_nil))) (fun _ _ _ _ _ _ => (dg_name (i := 5) sc_first_pivot.nd (by rfl) (by exact .inl rfl))) (fun _ _ _ _ _ _ => (dts_one (dt_cmp (op_neX hr.units) od_ne (d_ix (d_ix (d_var (pe_var (i := 0) (by rfl) (by exact .inr (.inl rfl)))) (d_var (pe_var (i := 4) (by rfl) (by exact .inl rfl)))) (d_var (pe_var (i := 5) (by rfl) (by exact .inl rfl)))) (d_gtup (by rfl) g_ZERO t_ZERO) (hm := nomark _)))) (fun _ _ _ _ _ _ => (d_tup (da_cons (d_var (pe_var (i := 4) (by rfl) (by exact .inl rfl))) (da_cons (d_var (pe_var (i := 5) (by rfl) (by exact .inl rfl))) da_nil))))) (dss_one (ds_ret (de_if (dt_cmp (op_neX hr.units) od_ne (d_var (pe_var (i := 3) (by rfl) (by exact .inl rfl))) (d_ofL (l_lst da_nil)) (hm := nomark _)) (d_ix (d_var (pe_var (i := 3) (by rfl) (by exact .inl rfl))) d_int) (d_tup da_nil))))))))
theorem ok_first_pivot {P : Program} {w : World} {K : PySem.W.Frag} {mg : Str → Option Value} {base : Heap} (KX : K.In base) (G : base.Ns mainGlobals mg) (c : SaysY SAY K) (hT : P.given.tree = none) : Has P w K mg base 1 "first_pivot" (spP K 1 false m_first_pivot) := by
  obtain ⟨fd, F⟩ := c.1.def_ 28 (d := d_first_pivot) rfl
  exact ⟨_, fd, ["form"], okF_first_pivot KX G c hT F, He.glo_ok KX G (c.1.fact 28), F.kp, F.bindsN fun _ _ _ _ _ _ us hl => match us, hl with | [_], _ => rfl⟩
def c_pivot_squares (m_over : List D → Option D) (m_times : List D → Option D) (m_row_plus : List D → Option D) (m_opposite : List D → Option D) (m_row_less : List D → Option D) : SFn := (fSeq (fAsg (gTp 2 (gsCons (gNm 2) (gsCons (gNm 3) gsNil))) (fVar 1))
    (fSeq (fIfS (fB (fBin gEq (fVar 2) (fVar 3))) (fRet (fOfL (fLst (fCons (fTup (fCons (fCall m_over (fCons (fC (.tup [.int 1, .int 1])) (fCons (fBin gIx (fBin gIx (fVar 0) (fVar 2)) (fVar 2)) fNil))) (fCons (fBin gIx (fVar 0) (fVar 2)) fNil))) fNil)))) fSkip)
    (fSeq (fSet 4 (fCall m_over (fCons (fC (.tup [.int 1, .int 1])) (fCons (fCall m_times (fCons (fTup (fCons (fC (.int 2)) (fCons (fC (.int 1)) fNil))) (fCons (fBin gIx (fBin gIx (fVar 0) (fVar 2)) (fVar 3)) fNil))) fNil))))
    (fRet (fOfL (fLst (fCons (fTup (fCons (fVar 4) (fCons (fCall m_row_plus (fCons (fBin gIx (fVar 0) (fVar 2)) (fCons (fBin gIx (fVar 0) (fVar 3)) fNil))) fNil))) (fCons (fTup (fCons (fCall m_opposite (fCons (fVar 4) fNil)) (fCons (fCall m_row_less (fCons (fBin gIx (fVar 0) (fVar 2)) (fCons (fBin gIx (fVar 0) (fVar 3)) fNil))) fNil))) fNil))))))))
def b_pivot_squares : SFn := c_pivot_squares m_over m_times m_row_plus m_opposite m_row_less
def m_pivot_squares : List D → Option D := outP false 5 b_pivot_squares
theorem okF_pivot_squares {P : Program} {w : World} {K : PySem.W.Frag} {mg : Str → Option Value} {base : Heap} (KX : K.In base) (G : base.Ns mainGlobals mg) (c : SaysY SAY K) (hT : P.given.tree = none) {fd : FuncData} (F : FunD K "pivot_squares" "pivot_squares" (defArgs (top 37)) (defBody (top 37)) (defScope (top 37)) [] [] (He.fAd K d_pivot_squares.at_) fd) : FnOk P w K mg base CX0 36 (He.fAd K d_pivot_squares.at_) fd ["form", "pivot"] (spP K 2 false m_pivot_squares) := by
  have g_ONE := He.glo_ok KX G (c.1.fact 77)
  have t_ONE := fun H => c.1.tup 1 H
  have h_opposite := ok_opposite (P := P) (w := w) KX G c hT
  have h_over := ok_over (P := P) (w := w) KX G c hT
  have h_row_less := ok_row_less (P := P) (w := w) KX G c hT
  have h_row_plus := ok_row_plus (P := P) (w := w) KX G c hT
  have h_times := ok_times (P := P) (w := w) KX G c hT
  exact fn_pure (x := "pivot_squares") (st := top 37) (N := N_pivot_squares) (ps := ["form", "pivot"]) (own := []) (fresh := false) (b := b_pivot_squares) (k := 35) F sc_pivot_squares (by decide) (fun cdv A outer s H E W0 hr =>
    (dss_cons (ds_asg (d_var (pe_var (i := 1) (by rfl) (by exact .inl rfl))) (dg_tup rfl (dg_cons (dg_name (i := 2) sc_pivot_squares.nd (by rfl) (by exact .inl rfl)) (dg_cons (dg_name (i := 3) sc_pivot_squares.nd (by rfl) (by exact .inl rfl)) dg_nil)))) (dss_cons (ds_if (dt_cmp (op_eqD hr.units) od_eq (d_var (pe_var (i := 2) (by rfl) (by exact .inl rfl))) (d_var (pe_var (i := 3) (by rfl) (by exact .inl rfl))) (hm := nomark _)) (dss_one (ds_ret (d_ofL (l_lst (da_cons (d_tup (da_cons (d_call h_over hr (by decide) (by rfl) (da_cons (d_gtup (by rfl) g_ONE t_ONE) (da_cons (d_ix (d_ix (d_var (pe_var (i := 0) (by rfl) (by exact .inl rfl))) (d_var (pe_var (i := 2) (by rfl) (by exact .inl rfl)))) (d_var (pe_var (i := 2) (by rfl) (by exact .inl rfl)))) da_nil)) (hl := (fCons_len (fCons_len fNil_len)))) (da_cons (d_ix (d_var (pe_var (i := 0) (by rfl) (by exact .inl rfl))) (d_var (pe_var (i := 2) (by rfl) (by exact .inl rfl)))) da_nil))) da_nil))))) dss_nil) (dss_cons (ds_set (i := 4) sc_pivot_squares.nd (by rfl) (by exact .inl rfl) (d_call h_over hr (by decide) (by rfl) (da_cons (d_gtup (by rfl) g_ONE t_ONE) (da_cons (d_call h_times hr (by decide) (by rfl) (da_cons (d_tup (da_cons d_int (da_cons d_int da_nil))) (da_cons (d_ix (d_ix (d_var (pe_var (i := 0) (by rfl) (by exact .inl rfl))) (d_var (pe_var (i := 2) (by rfl) (by exact .inl rfl)))) (d_var (pe_var (i := 3) (by rfl) (by exact .inl rfl)))) da_nil)) (hl := (fCons_len (fCons_len fNil_len)))) da_nil)) (hl := (fCons_len (fCons_len fNil_len))))) (dss_one (ds_ret (d_ofL (l_lst (da_cons (d_tup (da_cons (d_var (pe_var (i := 4) (by rfl) (by exact .inl rfl))) (da_cons (d_call h_row_plus hr (by decide) (by rfl) (da_cons (d_ix (d_var (pe_var (i := 0) (by rfl) (by exact .inl rfl))) (d_var (pe_var (i := 2) (by rfl) (by exact .inl rfl)))) (da_cons (d_ix (d_var (pe_var (i := 0) (by rfl) (by exact .inl rfl))) (d_var (pe_var (i := 3) (by rfl) (by exact .inl rfl)))) da_nil)) (hl := (fCons_len (fCons_len fNil_len)))) da_nil))) (da_cons (d_tup (da_cons (d_call h_opposite hr (by decide) (by rfl) (da_cons (d_var (pe_var (i := 4) (by rfl) (by exact .inl rfl))) da_nil) (hl := (fCons_len fNil_len))) (da_cons (d_call h_row_less hr (by decide) (by rfl) (da_cons (d_ix (d_var (pe_var (i := 0) (by rfl) (by exact .inl rfl))) (d_var (pe_var (i := 2) (by rfl) (by exact .inl rfl)))) (da_cons (d_ix (d_var (pe_var (i := 0) (by rfl) (by exact .inl rfl))) (d_var (pe_var (i := 3) (by rfl) (by exact .inl rfl)))) da_nil)) (hl := (fCons_len (fCons_len fNil_len)))) da_nil))) da_nil))))))))))
theorem ok_pivot_squares {P : Program} {w : World} {K : PySem.W.Frag} {mg : Str → Option Value} {base : Heap} (KX : K.In base) (G : base.Ns mainGlobals mg) (c : SaysY SAY K) (hT : P.given.tree = none) : Has P w K mg base 36 "pivot_squares" (spP K 2 false m_pivot_squares) := by
  obtain ⟨fd, F⟩ := c.1.def_ 29 (d := d_pivot_squares) rfl
  exact ⟨_, fd, ["form", "pivot"], okF_pivot_squares KX G c hT F, He.glo_ok KX G (c.1.fact 29), F.kp, F.bindsN fun _ _ _ _ _ _ us hl => match us, hl with | [_, _], _ => rfl⟩
def c_free_with (m_unit_rows : List D → Option D) (m_rank : List D → Option D) : SFn := (fSeq (fPar 2 3 (fCons (fOfL (fCallL gListL (fCons (fVar 0) fNil))) (fCons (fOfL (fLst fNil)) fNil)))
    (fSeq (fFor (fItems (fCall m_unit_rows (fCons (fVar 1) fNil))) (gNm 4) (fIfS (fB (fBin gGt (fCall m_rank (fCons (fOfL (fLst (fStar (fVar 2) (fCons (fVar 4) fNil)))) (fCons (fVar 1) fNil))) (fCall gLen (fCons (fVar 2) fNil)))) (fSeq (fApp 2 (fVar 4))
    (fApp 3 (fVar 4))) fSkip))
    (fRet (fVar 3))))
def b_free_with : SFn := c_free_with m_unit_rows m_rank
def m_free_with : List D → Option D := outP false 5 b_free_with
theorem okF_free_with {P : Program} {w : World} {K : PySem.W.Frag} {mg : Str → Option Value} {base : Heap} (KX : K.In base) (G : base.Ns mainGlobals mg) (c : SaysY SAY K) (hT : P.given.tree = none) {fd : FuncData} (F : FunD K "free_with" "free_with" (defArgs (top 38)) (defBody (top 38)) (defScope (top 38)) [] [] (He.fAd K d_free_with.at_) fd) : FnOk P w K mg base CX0 38 (He.fAd K d_free_with.at_) fd ["rows", "many"] (spP K 2 false m_free_with) := by
  have m_list : mg "list" = none := He.free_ok KX G (c.1.fact 79)
  have m_len : mg "len" = none := He.free_ok KX G (c.1.fact 72)
  have h_rank := ok_rank (P := P) (w := w) KX G c hT
  have h_unit_rows := ok_unit_rows (P := P) (w := w) KX G c hT
  exact fn_pure (x := "free_with") (st := top 38) (N := N_free_with) (ps := ["rows", "many"]) (own := [2, 3]) (fresh := false) (b := b_free_with) (k := 37) F sc_free_with (by decide) (fun cdv A outer s H E W0 hr =>
    (dss_cons (ds_m2 (i := 2) (j := 3) rfl sc_free_with.nd rfl rfl rfl rfl (dm_L (l_list (by rfl) m_list bt_list (da_cons (d_var (pe_var (i := 0) (by rfl) (by exact .inl rfl))) da_nil)) fun _ => (dm_L (l_lst da_nil) fun _ => dm_nil)) rfl) (dss_cons (ds_for PassesOwn.never rfl (di_seq (d_call h_unit_rows hr (by decide) (by rfl) (da_cons (d_var (pe_var (i := 1) (by rfl) (by exact .inl rfl))) da_nil) (hl := (fCons_len fNil_len)))) (dg_name (i := 4) sc_free_with.nd (by rfl) (by exact .inl rfl)) (dss_one (ds_if (dt_cmp op_gt od_gt (d_call h_rank hr (by decide) (by rfl) (da_cons (d_ofL (l_lst (da_star (d_view (pe_var (i := 2) (by rfl) (by exact .inl rfl))) (da_cons (d_var (pe_var (i := 4) (by rfl) (by exact .inl rfl))) da_nil)))) (da_cons (d_var (pe_var (i := 1) (by rfl) (by exact .inl rfl))) da_nil)) (hl := (fCons_len (fCons_len fNil_len)))) (d_callB call_len_seq cd_len (by rfl) m_len bt_len (da_cons (d_view (pe_var (i := 2) (by rfl) (by exact .inl rfl))) da_nil)) (hm := nomark _)) (dss_cons (ds_app (pe_var (i := 2) (by rfl) (by exact .inl rfl)) (d_var (pe_var (i := 4) (by rfl) (by exact .inl rfl)))) (dss_one (ds_app (pe_var (i := 3) (by rfl) (by exact .inl rfl)) (d_var (pe_var (i := 4) (by rfl) (by exact .inl rfl)))))) dss_nil))) (dss_one (ds_ret (d_var (pe_var (i := 3) (by rfl) (by exact .inl rfl))))))))
theorem ok_free_with {P : Program} {w : World} {K : PySem.W.Frag} {mg : Str → Option Value} {base : Heap} (KX : K.In base) (G : base.Ns mainGlobals mg) (c : SaysY SAY K) (hT : P.given.tree = none) : Has P w K mg base 38 "free_with" (spP K 2 false m_free_with) := by
  obtain ⟨fd, F⟩ := c.1.def_ 30 (d := d_free_with) rfl
  exact ⟨_, fd, ["rows", "many"], okF_free_with KX G c hT F, He.glo_ok KX G (c.1.fact 30), F.kp, F.bindsN fun _ _ _ _ _ _ us hl => match us, hl with | [_, _], _ => rfl⟩
def c_squares_by (m_first_pivot : List D → Option D) (m_pivot_squares : List D → Option D) (m_table_less : List D → Option D) (m_products_table : List D → Option D) (m_row_scaled : List D → Option D) (m_free_with : List D → Option D) : SFn := (fSeq (fPar3 1 2 3 (fCons (fVar 0) (fCons (fOfL (fLst fNil)) (fCons (fCall gLen (fCons (fVar 0) fNil)) fNil))))
    (fSeq (fSet 4 (fCall m_first_pivot (fCons (fVar 1) fNil)))
    (fSeq (fWhile mu (fB (fBin gNe (fVar 4) (fTup fNil))) (fSeq (fSet 5 (fCall m_pivot_squares (fCons (fVar 1) (fCons (fVar 4) fNil))))
    (fSeq (fFor (fItems (fVar 5)) (gTp 2 (gsCons (gNm 6) (gsCons (gNm 7) gsNil))) (fSet 1 (fCall m_table_less (fCons (fVar 1) (fCons (fCall m_products_table (fCons (fCall m_row_scaled (fCons (fVar 7) (fCons (fVar 6) fNil))) (fCons (fVar 7) fNil))) fNil)))))
    (fSeq (fSet 2 (fBin gAdd (fVar 2) (fVar 5)))
    (fSet 4 (fCall m_first_pivot (fCons (fVar 1) fNil)))))))
    (fRet (fCall gTuple (fCons (fBin gAdd (fVar 2) (fOfL (fComp (fItems (fCall m_free_with (fCons (fOfL (fComp (fItems (fVar 2)) (gTp 2 (gsCons (gNm 8) (gsCons (gNm 7) gsNil))) fYes (fVar 7) [8, 7])) (fCons (fVar 3) fNil)))) (gNm 7) fYes (fTup (fCons (fC (.tup [.int 0, .int 1])) (fCons (fVar 7) fNil))) [7]))) fNil))))))
def b_squares_by : SFn := c_squares_by m_first_pivot m_pivot_squares m_table_less m_products_table m_row_scaled m_free_with
def m_squares_by : List D → Option D := outP false 9 b_squares_by
theorem okF_squares_by {P : Program} {w : World} {K : PySem.W.Frag} {mg : Str → Option Value} {base : Heap} (KX : K.In base) (G : base.Ns mainGlobals mg) (c : SaysY SAY K) (hT : P.given.tree = none) {fd : FuncData} (F : FunD K "squares_by" "squares_by" (defArgs (top 39)) (defBody (top 39)) (defScope (top 39)) [] [] (He.fAd K d_squares_by.at_) fd) : FnOk P w K mg base CX0 39 (He.fAd K d_squares_by.at_) fd ["form"] (spP K 1 false m_squares_by) := by
  have m_len : mg "len" = none := He.free_ok KX G (c.1.fact 72)
  have m_tuple : mg "tuple" = none := He.free_ok KX G (c.1.fact 71)
  have g_ZERO := He.glo_ok KX G (c.1.fact 74)
  have t_ZERO := fun H => c.1.tup 0 H
  have h_first_pivot := ok_first_pivot (P := P) (w := w) KX G c hT
  have h_free_with := ok_free_with (P := P) (w := w) KX G c hT
  have h_pivot_squares := ok_pivot_squares (P := P) (w := w) KX G c hT
  have h_products_table := ok_products_table (P := P) (w := w) KX G c hT
  have h_row_scaled := ok_row_scaled (P := P) (w := w) KX G c hT
  have h_table_less := ok_table_less (P := P) (w := w) KX G c hT
  exact fn_pure (x := "squares_by") (st := top 39) (N := N_squares_by) (ps := ["form"]) (own := []) (fresh := false) (b := b_squares_by) (k := 38) F sc_squares_by (by decide) (fun cdv A outer s H E W0 hr =>
    (dss_cons (ds_par3 (i := 1) (j := 2) (l := 3) rfl sc_squares_by.nd rfl rfl rfl rfl rfl rfl (da_cons (d_var (pe_var (i := 0) (by rfl) (by exact .inl rfl))) (da_cons (d_ofL (l_lst da_nil)) (da_cons (d_callB call_len_seq cd_len (by rfl) m_len bt_len (da_cons (d_var (pe_var (i := 0) (by rfl) (by exact .inl rfl))) da_nil)) da_nil))) rfl) (dss_cons (ds_set (i := 4) sc_squares_by.nd (by rfl) (by exact .inl rfl) (d_call h_first_pivot hr (by decide) (by rfl) (da_cons (d_var (pe_var (i := 1) (by rfl) (by exact .inl rfl))) da_nil) (hl := (fCons_len fNil_len)))) (dss_cons (ds_while (μ := mu) PassesOwn.never (dt_cmp (op_neX hr.units) od_ne (d_var (pe_var (i := 4) (by rfl) (by exact .inl rfl))) (d_tup da_nil) (hm := nomark _)) (dss_cons (ds_set (i := 5) sc_squares_by.nd (by rfl) (by exact .inl rfl) (d_call h_pivot_squares hr (by decide) (by rfl) (da_cons (d_var (pe_var (i := 1) (by rfl) (by exact .inl rfl))) (da_cons (d_var (pe_var (i := 4) (by rfl) (by exact .inl rfl))) da_nil)) (hl := (fCons_len (fCons_len fNil_len))))) (dss_cons (ds_for PassesOwn.never rfl (di_seq (d_var (pe_var (i := 5) (by rfl) (by exact .inl rfl)))) (dg_tup rfl (dg_cons (dg_name (i := 6) sc_squares_by.nd (by rfl) (by exact .inl rfl)) (dg_cons (dg_name (i := 7) sc_squares_by.nd (by rfl) (by exact .inl rfl)) dg_nil))) (dss_one (ds_set (i := 1) sc_squares_by.nd (by rfl) (by exact .inl rfl) (d_call h_table_less hr (by decide) (by rfl) (da_cons (d_var (pe_var (i := 1) (by rfl) (by exact .inl rfl))) (da_cons (d_call h_products_table hr (by decide) (by rfl) (da_cons (d_call h_row_scaled hr (by decide) (by rfl) (da_cons (d_var (pe_var (i := 7) (by rfl) (by exact .inl rfl))) (da_cons (d_var (pe_var (i := 6) (by rfl) (by exact .inl rfl))) da_nil)) (hl := (fCons_len (fCons_len fNil_len)))) (da_cons (d_var (pe_var (i := 7) (by rfl) (by exact .inl rfl))) da_nil)) (hl := (fCons_len (fCons_len fNil_len)))) da_nil)) (hl := (fCons_len (fCons_len fNil_len))))))) (dss_cons (ds_set (i := 2) sc_squares_by.nd (by rfl) (by exact .inl rfl) (d_op op_addD od_add (d_var (pe_var (i := 2) (by rfl) (by exact .inl rfl))) (d_var (pe_var (i := 5) (by rfl) (by exact .inl rfl))))) (dss_one (ds_set (i := 4) sc_squares_by.nd (by rfl) (by exact .inl rfl) (d_call h_first_pivot hr (by decide) (by rfl) (da_cons (d_var (pe_var (i := 1) (by rfl) (by exact .inl rfl))) da_nil) (hl := (fCons_len fNil_len))))))))) (dss_one (ds_ret (d_callTy call_tuple_of cd_tuple (by rfl) m_tuple bt_tuple (da_cons (d_op op_addD od_add (d_var (pe_var (i := 2) (by rfl) (by exact .inl rfl))) (d_ofL (l_comp rfl sc_squares_by.nd (di_seq (d_call h_free_with hr (by decide) (by rfl) (da_cons (d_ofL (l_comp rfl sc_squares_by.nd (di_seq (d_var (pe_var (i := 2) (by rfl) (by exact .inl rfl)))) (blkOk_by (N := N_squares_by) (sc := (defScope (top 39))) (scope := ({ kind := PySem.ScopeKind.function, names := [(PySem.Str.ofString ".0", PySem.NameKind.local), (PySem.Str.ofString "_", PySem.NameKind.local), (PySem.Str.ofString "row", PySem.NameKind.local)], isGenerator := false, isCoroutine := false, more := [] } : PySem.Scope)) (own := [("_", 8), ("row", 7)]) (by decide +kernel)) (fun _ _ _ _ _ _ => (dg_tup rfl (dg_cons (dg_name (i := 8) sc_squares_by.nd (by rfl) (by exact .inl rfl)) (dg_cons (dg_name (i := 7) sc_squares_by.nd (by rfl) (by exact .inl rfl)) dg_nil)))) (fun _ _ _ _ _ _ => dts_nil) (fun _ _ _ _ _ _ => (d_var (pe_var (i := 7) (by rfl) (by exact .inl rfl)))))) (da_cons (d_var (pe_var (i := 3) (by rfl) (by exact .inl rfl))) da_nil)) (hl := (fCons_len (fCons_len fNil_len))))) (blkOk_by (N := N_squares_by) (sc := (defScope (top 39))) (scope := ({ kind := PySem.ScopeKind.function, names := [(PySem.Str.ofString ".0", PySem.NameKind.local), (PySem.Str.ofString "row", PySem.NameKind.local), (PySem.Str.ofString "ZERO", PySem.NameKind.globalImplicit)], isGenerator := false, isCoroutine := false, more := [] } : PySem.Scope)) (own := [("row", 7)]) (by decide +kernel)) (fun _ _ _ _ _ _ => (dg_name (i := 7) sc_squares_by.nd (by rfl) (by exact .inl rfl))) (fun _ _ _ _ _ _ => dts_nil) (fun _ _ _ _ _ _ => (d_tup (da_cons (d_gtup (by rfl) g_ZERO t_ZERO) (da_cons (d_var (pe_var (i := 7) (by rfl) (by exact .inl rfl))) da_nil))))))) da_nil))))))))
theorem ok_squares_by {P : Program} {w : World} {K : PySem.W.Frag} {mg : Str → Option Value} {base : Heap} (KX : K.In base) (G : base.Ns mainGlobals mg) (c : SaysY SAY K) (hT : P.given.tree = none) : Has P w K mg base 39 "squares_by" (spP K 1 false m_squares_by) := by
  obtain ⟨fd, F⟩ := c.1.def_ 31 (d := d_squares_by) rfl
  exact ⟨_, fd, ["form"], okF_squares_by KX G c hT F, He.glo_ok KX G (c.1.fact 31), F.kp, F.bindsN fun _ _ _ _ _ _ us hl => match us, hl with | [_], _ => rfl⟩
def c_signs_by (m_squares_by : List D → Option D) : SFn := (fSeq (fSet 1 (fOfL (fComp (fItems (fCall m_squares_by (fCons (fVar 0) fNil))) (gTp 2 (gsCons (gNm 2) (gsCons (gNm 3) gsNil))) fYes (fBin gIx (fVar 2) (fC (.int 0))) [2, 3])))
    (fRet (fTup (fCons (fCall gLen (fCons (fOfL (fComp (fItems (fVar 1)) (gNm 4) (fB (fBin gGt (fVar 4) (fC (.int 0)))) (fVar 4) [4])) fNil)) (fCons (fBin gCount (fVar 1) (fC (.int 0))) (fCons (fCall gLen (fCons (fOfL (fComp (fItems (fVar 1)) (gNm 4) (fB (fBin gLt (fVar 4) (fC (.int 0)))) (fVar 4) [4])) fNil)) fNil))))))
def b_signs_by : SFn := c_signs_by m_squares_by
def m_signs_by : List D → Option D := outP false 5 b_signs_by
theorem okF_signs_by {P : Program} {w : World} {K : PySem.W.Frag} {mg : Str → Option Value} {base : Heap} (KX : K.In base) (G : base.Ns mainGlobals mg) (c : SaysY SAY K) (hT : P.given.tree = none) {fd : FuncData} (F : FunD K "signs_by" "signs_by" (defArgs (top 40)) (defBody (top 40)) (defScope (top 40)) [] [] (He.fAd K d_signs_by.at_) fd) : FnOk P w K mg base CX0 40 (He.fAd K d_signs_by.at_) fd ["form"] (spP K 1 false m_signs_by) := by
  have m_len : mg "len" = none := He.free_ok KX G (c.1.fact 72)
  have h_squares_by := ok_squares_by (P := P) (w := w) KX G c hT
  exact fn_pure (x := "signs_by") (st := top 40) (N := N_signs_by) (ps := ["form"]) (own := []) (fresh := false) (b := b_signs_by) (k := 39) F sc_signs_by (by decide) (fun cdv A outer s H E W0 hr =>
    (dss_cons (ds_comp (i := 1) rfl sc_signs_by.nd rfl rfl (sw_true rfl rfl rfl (by decide +kernel)) (di_seq (d_call h_squares_by hr (by decide) (by rfl) (da_cons (d_var (pe_var (i := 0) (by rfl) (by exact .inl rfl))) da_nil) (hl := (fCons_len fNil_len)))) (blkOk_by (N := N_signs_by) (sc := (defScope (top 40))) (scope := ({ kind := PySem.ScopeKind.function, names := [(PySem.Str.ofString ".0", PySem.NameKind.local), (PySem.Str.ofString "number", PySem.NameKind.local), (PySem.Str.ofString "_", PySem.NameKind.local)], isGenerator := false, isCoroutine := false, more := [] } : PySem.Scope)) (own := [("number", 2), ("_", 3)]) (by decide +kernel)) (fun _ _ _ _ _ _ => (dg_tup rfl (dg_cons (dg_name (i := 2) sc_signs_by.nd (by rfl) (by exact .inl rfl)) (dg_cons (dg_name (i := 3) sc_signs_by.nd (by rfl) (by exact .inl rfl)) dg_nil)))) (fun _ _ _ _ _ _ => dts_nil) (fun _ _ _ _ _ _ => (d_ix (d_var (pe_var (i := 2) (by rfl) (by exact .inl rfl))) d_int))) (dss_one (ds_ret (d_tup (da_cons (d_callB call_len_seq cd_len (by rfl) m_len bt_len (da_cons (d_ofL (l_comp rfl sc_signs_by.nd (di_seq (d_var (pe_var (i := 1) (by rfl) (by exact .inl rfl)))) (blkOk_by (N := N_signs_by) (sc := (defScope (top 40))) (scope := ({ kind := PySem.ScopeKind.function, names := [(PySem.Str.ofString ".0", PySem.NameKind.local), (PySem.Str.ofString "top", PySem.NameKind.local)], isGenerator := false, isCoroutine := false, more := [] } : PySem.Scope)) (own := [("top", 4)]) (by decide +kernel)) (fun _ _ _ _ _ _ => (dg_name (i := 4) sc_signs_by.nd (by rfl) (by exact .inl rfl))) (fun _ _ _ _ _ _ => (dts_one (dt_cmp op_gt od_gt (d_var (pe_var (i := 4) (by rfl) (by exact .inl rfl))) d_int (hm := nomark _)))) (fun _ _ _ _ _ _ => (d_var (pe_var (i := 4) (by rfl) (by exact .inl rfl)))))) da_nil)) (da_cons (d_count (d_var (pe_var (i := 1) (by rfl) (by exact .inl rfl))) d_int) (da_cons (d_callB call_len_seq cd_len (by rfl) m_len bt_len (da_cons (d_ofL (l_comp rfl sc_signs_by.nd (di_seq (d_var (pe_var (i := 1) (by rfl) (by exact .inl rfl)))) (blkOk_by (N := N_signs_by) (sc := (defScope (top 40))) (scope := ({ kind := PySem.ScopeKind.function, names := [(PySem.Str.ofString ".0", PySem.NameKind.local), (PySem.Str.ofString "top", PySem.NameKind.local)], isGenerator := false, isCoroutine := false, more := [] } : PySem.Scope)) (own := [("top", 4)]) (by decide +kernel)) (fun _ _ _ _ _ _ => (dg_name (i := 4) sc_signs_by.nd (by rfl) (by exact .inl rfl))) (fun _ _ _ _ _ _ => (dts_one (dt_cmp op_lt od_lt (d_var (pe_var (i := 4) (by rfl) (by exact .inl rfl))) d_int (hm := nomark _)))) (fun _ _ _ _ _ _ => (d_var (pe_var (i := 4) (by rfl) (by exact .inl rfl)))))) da_nil)) da_nil))))))))
theorem ok_signs_by {P : Program} {w : World} {K : PySem.W.Frag} {mg : Str → Option Value} {base : Heap} (KX : K.In base) (G : base.Ns mainGlobals mg) (c : SaysY SAY K) (hT : P.given.tree = none) : Has P w K mg base 40 "signs_by" (spP K 1 false m_signs_by) := by
  obtain ⟨fd, F⟩ := c.1.def_ 32 (d := d_signs_by) rfl
  exact ⟨_, fd, ["form"], okF_signs_by KX G c hT F, He.glo_ok KX G (c.1.fact 32), F.kp, F.bindsN fun _ _ _ _ _ _ us hl => match us, hl with | [_], _ => rfl⟩
def c_is_positive (m_signs_by : List D → Option D) : SFn := (fRet (fBin gEq (fBin gIx (fCall m_signs_by (fCons (fVar 0) fNil)) (fC (.int 0))) (fCall gLen (fCons (fVar 0) fNil))))
def b_is_positive : SFn := c_is_positive m_signs_by
def m_is_positive : List D → Option D := outP false 1 b_is_positive
theorem okF_is_positive {P : Program} {w : World} {K : PySem.W.Frag} {mg : Str → Option Value} {base : Heap} (KX : K.In base) (G : base.Ns mainGlobals mg) (c : SaysY SAY K) (hT : P.given.tree = none) {fd : FuncData} (F : FunD K "is_positive" "is_positive" (defArgs (top 41)) (defBody (top 41)) (defScope (top 41)) [] [] (He.fAd K d_is_positive.at_) fd) : FnOk P w K mg base CX0 41 (He.fAd K d_is_positive.at_) fd ["form"] (spP K 1 false m_is_positive) := by
  have m_len : mg "len" = none := He.free_ok KX G (c.1.fact 72)
  have h_signs_by := ok_signs_by (P := P) (w := w) KX G c hT
  exact fn_pure (x := "is_positive") (st := top 41) (N := N_is_positive) (ps := ["form"]) (own := []) (fresh := false) (b := b_is_positive) (k := 40) F sc_is_positive (by decide) (fun cdv A outer s H E W0 hr =>
    (dss_one (ds_ret (d_cmp (op_eqD hr.units) od_eq (d_ix (d_call h_signs_by hr (by decide) (by rfl) (da_cons (d_var (pe_var (i := 0) (by rfl) (by exact .inl rfl))) da_nil) (hl := (fCons_len fNil_len))) d_int) (d_callB call_len_seq cd_len (by rfl) m_len bt_len (da_cons (d_var (pe_var (i := 0) (by rfl) (by exact .inl rfl))) da_nil)) (hm := nomark _)))))
theorem ok_is_positive {P : Program} {w : World} {K : PySem.W.Frag} {mg : Str → Option Value} {base : Heap} (KX : K.In base) (G : base.Ns mainGlobals mg) (c : SaysY SAY K) (hT : P.given.tree = none) : Has P w K mg base 41 "is_positive" (spP K 1 false m_is_positive) := by
  obtain ⟨fd, F⟩ := c.1.def_ 33 (d := d_is_positive) rfl
  exact ⟨_, fd, ["form"], okF_is_positive KX G c hT F, He.glo_ok KX G (c.1.fact 33), F.kp, F.bindsN fun _ _ _ _ _ _ us hl => match us, hl with | [_], _ => rfl⟩
def c_is_tabled (m_is_formed : List D → Option D) (m_is_positive : List D → Option D) : SFn := (fRet (fAndV (fCall m_is_formed (fCons (fVar 0) fNil)) (fCall m_is_positive (fCons (fVar 0) fNil))))
def b_is_tabled : SFn := c_is_tabled m_is_formed m_is_positive
def m_is_tabled : List D → Option D := outP false 1 b_is_tabled
theorem okF_is_tabled {P : Program} {w : World} {K : PySem.W.Frag} {mg : Str → Option Value} {base : Heap} (KX : K.In base) (G : base.Ns mainGlobals mg) (c : SaysY SAY K) (hT : P.given.tree = none) {fd : FuncData} (F : FunD K "is_tabled" "is_tabled" (defArgs (top 42)) (defBody (top 42)) (defScope (top 42)) [] [] (He.fAd K d_is_tabled.at_) fd) : FnOk P w K mg base CX0 42 (He.fAd K d_is_tabled.at_) fd ["value"] (spP K 1 false m_is_tabled) := by
  have h_is_formed := ok_is_formed (P := P) (w := w) KX G c hT
  have h_is_positive := ok_is_positive (P := P) (w := w) KX G c hT
  exact fn_pure (x := "is_tabled") (st := top 42) (N := N_is_tabled) (ps := ["value"]) (own := []) (fresh := false) (b := b_is_tabled) (k := 41) F sc_is_tabled (by decide) (fun cdv A outer s H E W0 hr =>
    (dss_one (ds_ret (de_and (d_call h_is_formed hr (by decide) (by rfl) (da_cons (d_var (pe_var (i := 0) (by rfl) (by exact .inl rfl))) da_nil) (hl := (fCons_len fNil_len))) (de_one (d_call h_is_positive hr (by decide) (by rfl) (da_cons (d_var (pe_var (i := 0) (by rfl) (by exact .inl rfl))) da_nil) (hl := (fCons_len fNil_len))))))))
theorem ok_is_tabled {P : Program} {w : World} {K : PySem.W.Frag} {mg : Str → Option Value} {base : Heap} (KX : K.In base) (G : base.Ns mainGlobals mg) (c : SaysY SAY K) (hT : P.given.tree = none) : Has P w K mg base 42 "is_tabled" (spP K 1 false m_is_tabled) := by
  obtain ⟨fd, F⟩ := c.1.def_ 34 (d := d_is_tabled) rfl
  exact ⟨_, fd, ["value"], okF_is_tabled KX G c hT F, He.glo_ok KX G (c.1.fact 34), F.kp, F.bindsN fun _ _ _ _ _ _ us hl => match us, hl with | [_], _ => rfl⟩
def c_check_form (m_is_formed : List D → Option D) : SFn := (fIfS (fNotT (fB (fCall m_is_formed (fCons (fVar 0) fNil)))) fNo fSkip)
def b_check_form : SFn := c_check_form m_is_formed
def m_check_form : List D → Option D := outP false 1 b_check_form
theorem okF_check_form {P : Program} {w : World} {K : PySem.W.Frag} {mg : Str → Option Value} {base : Heap} (KX : K.In base) (G : base.Ns mainGlobals mg) (c : SaysY SAY K) (hT : P.given.tree = none) {fd : FuncData} (F : FunD K "check_form" "check_form" (defArgs (top 49)) (defBody (top 49)) (defScope (top 49)) [] [] (He.fAd K d_check_form.at_) fd) : FnOk P w K mg base CX0 7 (He.fAd K d_check_form.at_) fd ["value"] (spP K 1 false m_check_form) := by
  have h_is_formed := ok_is_formed (P := P) (w := w) KX G c hT
  exact fn_pure (x := "check_form") (st := top 49) (N := N_check_form) (ps := ["value"]) (own := []) (fresh := false) (b := b_check_form) (k := 6) F sc_check_form (by decide) (fun cdv A outer s H E W0 hr =>
    (dss_one (ds_if (dt_not (dt_val (d_call h_is_formed hr (by decide) (by rfl) (da_cons (d_var (pe_var (i := 0) (by rfl) (by exact .inl rfl))) da_nil) (hl := (fCons_len fNil_len))))) (dss_one ds_never) dss_nil)))
theorem ok_check_form {P : Program} {w : World} {K : PySem.W.Frag} {mg : Str → Option Value} {base : Heap} (KX : K.In base) (G : base.Ns mainGlobals mg) (c : SaysY SAY K) (hT : P.given.tree = none) : Has P w K mg base 7 "check_form" (spP K 1 false m_check_form) := by
  obtain ⟨fd, F⟩ := c.1.def_ 35 (d := d_check_form) rfl
  exact ⟨_, fd, ["value"], okF_check_form KX G c hT F, He.glo_ok KX G (c.1.fact 35), F.kp, F.bindsN fun _ _ _ _ _ _ us hl => match us, hl with | [_], _ => rfl⟩
def c_check_table (m_is_tabled : List D → Option D) : SFn := (fIfS (fNotT (fB (fCall m_is_tabled (fCons (fVar 0) fNil)))) fNo fSkip)
def b_check_table : SFn := c_check_table m_is_tabled
def m_check_table : List D → Option D := outP false 1 b_check_table
theorem okF_check_table {P : Program} {w : World} {K : PySem.W.Frag} {mg : Str → Option Value} {base : Heap} (KX : K.In base) (G : base.Ns mainGlobals mg) (c : SaysY SAY K) (hT : P.given.tree = none) {fd : FuncData} (F : FunD K "check_table" "check_table" (defArgs (top 50)) (defBody (top 50)) (defScope (top 50)) [] [] (He.fAd K d_check_table.at_) fd) : FnOk P w K mg base CX0 43 (He.fAd K d_check_table.at_) fd ["value"] (spP K 1 false m_check_table) := by
  have h_is_tabled := ok_is_tabled (P := P) (w := w) KX G c hT
  exact fn_pure (x := "check_table") (st := top 50) (N := N_check_table) (ps := ["value"]) (own := []) (fresh := false) (b := b_check_table) (k := 42) F sc_check_table (by decide) (fun cdv A outer s H E W0 hr =>
    (dss_one (ds_if (dt_not (dt_val (d_call h_is_tabled hr (by decide) (by rfl) (da_cons (d_var (pe_var (i := 0) (by rfl) (by exact .inl rfl))) da_nil) (hl := (fCons_len fNil_len))))) (dss_one ds_never) dss_nil)))
theorem ok_check_table {P : Program} {w : World} {K : PySem.W.Frag} {mg : Str → Option Value} {base : Heap} (KX : K.In base) (G : base.Ns mainGlobals mg) (c : SaysY SAY K) (hT : P.given.tree = none) : Has P w K mg base 43 "check_table" (spP K 1 false m_check_table) := by
  obtain ⟨fd, F⟩ := c.1.def_ 36 (d := d_check_table) rfl
  exact ⟨_, fd, ["value"], okF_check_table KX G c hT F, He.glo_ok KX G (c.1.fact 36), F.kp, F.bindsN fun _ _ _ _ _ _ us hl => match us, hl with | [_], _ => rfl⟩
def c_check_row (m_is_ratio : List D → Option D) : SFn := (fSeq (fIfS (fOrT (fNotT (fB (fIsi isTup (fVar 1)))) (fB (fBin gNe (fCall gLen (fCons (fVar 1) fNil)) (fVar 0)))) fNo fSkip)
    (fFor (fEnum (fCons (fVar 1) fNil)) (gTp 2 (gsCons (gNm 2) (gsCons (gNm 3) gsNil))) (fIfS (fNotT (fB (fCall m_is_ratio (fCons (fVar 3) fNil)))) fNo fSkip)))
def b_check_row : SFn := c_check_row m_is_ratio
def m_check_row : List D → Option D := outP false 4 b_check_row
theorem okF_check_row {P : Program} {w : World} {K : PySem.W.Frag} {mg : Str → Option Value} {base : Heap} (KX : K.In base) (G : base.Ns mainGlobals mg) (c : SaysY SAY K) (hT : P.given.tree = none) {fd : FuncData} (F : FunD K "check_row" "check_row" (defArgs (top 51)) (defBody (top 51)) (defScope (top 51)) [] [] (He.fAd K d_check_row.at_) fd) : FnOk P w K mg base CX0 4 (He.fAd K d_check_row.at_) fd ["many", "value"] (spP K 2 false m_check_row) := by
  have m_isinstance : mg "isinstance" = none := He.free_ok KX G (c.1.fact 68)
  have m_tuple : mg "tuple" = none := He.free_ok KX G (c.1.fact 71)
  have m_len : mg "len" = none := He.free_ok KX G (c.1.fact 72)
  have m_enumerate : mg "enumerate" = none := He.free_ok KX G (c.1.fact 80)
  have h_is_ratio := ok_is_ratio (P := P) (w := w) KX G c hT
  exact fn_pure (x := "check_row") (st := top 51) (N := N_check_row) (ps := ["many", "value"]) (own := []) (fresh := false) (b := b_check_row) (k := 3) F sc_check_row (by decide) (fun cdv A outer s H E W0 hr =>
    (dss_cons (ds_if (dw_or (dt_not (dt_val (d_isi kit_tup (by rfl) m_isinstance bt_isinstance (d_var (pe_var (i := 1) (by rfl) (by exact .inl rfl))) (pe_bltn (v := .ty "tuple") (by rfl) m_tuple bt_tuple rfl)))) (dw_or1 (dt_cmp (op_neX hr.units) od_ne (d_callB call_len_seq cd_len (by rfl) m_len bt_len (da_cons (d_var (pe_var (i := 1) (by rfl) (by exact .inl rfl))) da_nil)) (d_var (pe_var (i := 0) (by rfl) (by exact .inl rfl))) (hm := nomark _)))).pt (dss_one ds_never) dss_nil) (dss_one (ds_for PassesOwn.never rfl (di_enum (by rfl) m_enumerate (da_cons (d_var (pe_var (i := 1) (by rfl) (by exact .inl rfl))) da_nil)) (dg_tup rfl (dg_cons (dg_name (i := 2) sc_check_row.nd (by rfl) (by exact .inl rfl)) (dg_cons (dg_name (i := 3) sc_check_row.nd (by rfl) (by exact .inl rfl)) dg_nil))) (dss_one (ds_if (dt_not (dt_val (d_call h_is_ratio hr (by decide) (by rfl) (da_cons (d_var (pe_var (i := 3) (by rfl) (by exact .inl rfl))) da_nil) (hl := (fCons_len fNil_len))))) (dss_one ds_never) dss_nil))))))
theorem ok_check_row {P : Program} {w : World} {K : PySem.W.Frag} {mg : Str → Option Value} {base : Heap} (KX : K.In base) (G : base.Ns mainGlobals mg) (c : SaysY SAY K) (hT : P.given.tree = none) : Has P w K mg base 4 "check_row" (spP K 2 false m_check_row) := by
  obtain ⟨fd, F⟩ := c.1.def_ 37 (d := d_check_row) rfl
  exact ⟨_, fd, ["many", "value"], okF_check_row KX G c hT F, He.glo_ok KX G (c.1.fact 37), F.kp, F.bindsN fun _ _ _ _ _ _ us hl => match us, hl with | [_, _], _ => rfl⟩
def c_is_table (m_is_between : List D → Option D) (m_is_square : List D → Option D) : SFn := (fRet (fAndV (fIsi isTup (fVar 0)) (fAndV (fCall m_is_between (fCons (fCall gLen (fCons (fVar 0) fNil)) (fCons (fC (.int 1)) (fCons (fC (.int 5)) fNil)))) (fCall m_is_square (fCons (fVar 0) (fCons (fCall gLen (fCons (fVar 0) fNil)) fNil))))))
def b_is_table : SFn := c_is_table m_is_between m_is_square
def m_is_table : List D → Option D := outP false 1 b_is_table
theorem okF_is_table {P : Program} {w : World} {K : PySem.W.Frag} {mg : Str → Option Value} {base : Heap} (KX : K.In base) (G : base.Ns mainGlobals mg) (c : SaysY SAY K) (hT : P.given.tree = none) {fd : FuncData} (F : FunD K "is_table" "is_table" (defArgs (top 53)) (defBody (top 53)) (defScope (top 53)) [] [] (He.fAd K d_is_table.at_) fd) : FnOk P w K mg base CX0 6 (He.fAd K d_is_table.at_) fd ["value"] (spP K 1 false m_is_table) := by
  have m_isinstance : mg "isinstance" = none := He.free_ok KX G (c.1.fact 68)
  have m_tuple : mg "tuple" = none := He.free_ok KX G (c.1.fact 71)
  obtain ⟨t_MOST_ROWS, g_MOST_ROWS⟩ := He.int_ok KX G (c.1.fact 78)
  have m_len : mg "len" = none := He.free_ok KX G (c.1.fact 72)
  have h_is_between := ok_is_between (P := P) (w := w) KX G c hT
  have h_is_square := ok_is_square (P := P) (w := w) KX G c hT
  exact fn_pure (x := "is_table") (st := top 53) (N := N_is_table) (ps := ["value"]) (own := []) (fresh := false) (b := b_is_table) (k := 5) F sc_is_table (by decide) (fun cdv A outer s H E W0 hr =>
    (dss_one (ds_ret (de_and (d_isi kit_tup (by rfl) m_isinstance bt_isinstance (d_var (pe_var (i := 0) (by rfl) (by exact .inl rfl))) (pe_bltn (v := .ty "tuple") (by rfl) m_tuple bt_tuple rfl)) (de_and (d_call h_is_between hr (by decide) (by rfl) (da_cons (d_callB call_len_seq cd_len (by rfl) m_len bt_len (da_cons (d_var (pe_var (i := 0) (by rfl) (by exact .inl rfl))) da_nil)) (da_cons d_int (da_cons (d_gint (by rfl) g_MOST_ROWS) da_nil))) (hl := (fCons_len (fCons_len (fCons_len fNil_len))))) (de_one (d_call h_is_square hr (by decide) (by rfl) (da_cons (d_var (pe_var (i := 0) (by rfl) (by exact .inl rfl))) (da_cons (d_callB call_len_seq cd_len (by rfl) m_len bt_len (da_cons (d_var (pe_var (i := 0) (by rfl) (by exact .inl rfl))) da_nil)) da_nil)) (hl := (fCons_len (fCons_len fNil_len))))))))))
theorem ok_is_table {P : Program} {w : World} {K : PySem.W.Frag} {mg : Str → Option Value} {base : Heap} (KX : K.In base) (G : base.Ns mainGlobals mg) (c : SaysY SAY K) (hT : P.given.tree = none) : Has P w K mg base 6 "is_table" (spP K 1 false m_is_table) := by
  obtain ⟨fd, F⟩ := c.1.def_ 38 (d := d_is_table) rfl
  exact ⟨_, fd, ["value"], okF_is_table KX G c hT F, He.glo_ok KX G (c.1.fact 38), F.kp, F.bindsN fun _ _ _ _ _ _ us hl => match us, hl with | [_], _ => rfl⟩
theorem okK_is_table_value {P : Program} {w : World} {K : PySem.W.Frag} {mg : Str → Option Value} {base : Heap} (KX : K.In base) (G : base.Ns mainGlobals mg) (c : SaysY SAY K) (hT : P.given.tree = none) : HasK P w K mg base 6 "is_table" (spP K 1 false m_is_table) ["value"] [0] := by
  obtain ⟨fd, F⟩ := c.1.def_ 38 (d := d_is_table) rfl
  exact ⟨_, fd, ["value"], okF_is_table KX G c hT F, He.glo_ok KX G (c.1.fact 38), F.kp, kb0 [0] F fun _ _ _ _ _ _ ws hl => match ws, hl with | [_], _ => rfl⟩
def c_worth (m_check_form : List D → Option D) (m_check_row : List D → Option D) (m_worth_by : List D → Option D) : SFn := (fSeq (fDrop (fCall m_check_form (fCons (fVar 0) fNil)))
    (fSeq (fDrop (fCall m_check_row (fCons (fCall gLen (fCons (fVar 0) fNil)) (fCons (fVar 1) fNil))))
    (fRet (fCall m_worth_by (fCons (fVar 0) (fCons (fVar 1) fNil))))))
def b_worth : SFn := c_worth m_check_form m_check_row m_worth_by
def m_worth : List D → Option D := outP false 2 b_worth
theorem okF_worth {P : Program} {w : World} {K : PySem.W.Frag} {mg : Str → Option Value} {base : Heap} (KX : K.In base) (G : base.Ns mainGlobals mg) (c : SaysY SAY K) (hT : P.given.tree = none) {fd : FuncData} (F : FunD K "worth" "worth" (defArgs (top 54)) (defBody (top 54)) (defScope (top 54)) [] [] (He.fAd K d_worth.at_) fd) : FnOk P w K mg base CX0 40 (He.fAd K d_worth.at_) fd ["form", "row"] (spP K 2 false m_worth) := by
  have m_len : mg "len" = none := He.free_ok KX G (c.1.fact 72)
  have h_check_form := ok_check_form (P := P) (w := w) KX G c hT
  have h_check_row := ok_check_row (P := P) (w := w) KX G c hT
  have h_worth_by := ok_worth_by (P := P) (w := w) KX G c hT
  exact fn_pure (x := "worth") (st := top 54) (N := N_worth) (ps := ["form", "row"]) (own := []) (fresh := false) (b := b_worth) (k := 39) F sc_worth (by decide) (fun cdv A outer s H E W0 hr =>
    (dss_cons (ds_drop (d_call h_check_form hr (by decide) (by rfl) (da_cons (d_var (pe_var (i := 0) (by rfl) (by exact .inl rfl))) da_nil) (hl := (fCons_len fNil_len)))) (dss_cons (ds_drop (d_call h_check_row hr (by decide) (by rfl) (da_cons (d_callB call_len_seq cd_len (by rfl) m_len bt_len (da_cons (d_var (pe_var (i := 0) (by rfl) (by exact .inl rfl))) da_nil)) (da_cons (d_var (pe_var (i := 1) (by rfl) (by exact .inl rfl))) da_nil)) (hl := (fCons_len (fCons_len fNil_len))))) (dss_one (ds_ret (d_call h_worth_by hr (by decide) (by rfl) (da_cons (d_var (pe_var (i := 0) (by rfl) (by exact .inl rfl))) (da_cons (d_var (pe_var (i := 1) (by rfl) (by exact .inl rfl))) da_nil)) (hl := (fCons_len (fCons_len fNil_len)))))))))
theorem ok_worth {P : Program} {w : World} {K : PySem.W.Frag} {mg : Str → Option Value} {base : Heap} (KX : K.In base) (G : base.Ns mainGlobals mg) (c : SaysY SAY K) (hT : P.given.tree = none) : Has P w K mg base 40 "worth" (spP K 2 false m_worth) := by
  obtain ⟨fd, F⟩ := c.1.def_ 39 (d := d_worth) rfl
  exact ⟨_, fd, ["form", "row"], okF_worth KX G c hT F, He.glo_ok KX G (c.1.fact 39), F.kp, F.bindsN fun _ _ _ _ _ _ us hl => match us, hl with | [_, _], _ => rfl⟩
theorem okK_worth_row_form {P : Program} {w : World} {K : PySem.W.Frag} {mg : Str → Option Value} {base : Heap} (KX : K.In base) (G : base.Ns mainGlobals mg) (c : SaysY SAY K) (hT : P.given.tree = none) : HasK P w K mg base 40 "worth" (spP K 2 false m_worth) ["row", "form"] [1, 0] := by
  obtain ⟨fd, F⟩ := c.1.def_ 39 (d := d_worth) rfl
  exact ⟨_, fd, ["form", "row"], okF_worth KX G c hT F, He.glo_ok KX G (c.1.fact 39), F.kp, kb0 [1, 0] F fun _ _ _ _ _ _ ws hl => match ws, hl with | [_, _], _ => rfl⟩
def c_energy_product (m_check_table : List D → Option D) (m_check_row : List D → Option D) (m_product_by : List D → Option D) : SFn := (fSeq (fDrop (fCall m_check_table (fCons (fVar 0) fNil)))
    (fSeq (fDrop (fCall m_check_row (fCons (fCall gLen (fCons (fVar 0) fNil)) (fCons (fVar 1) fNil))))
    (fSeq (fDrop (fCall m_check_row (fCons (fCall gLen (fCons (fVar 0) fNil)) (fCons (fVar 2) fNil))))
    (fRet (fCall m_product_by (fCons (fVar 0) (fCons (fVar 1) (fCons (fVar 2) fNil))))))))
def b_energy_product : SFn := c_energy_product m_check_table m_check_row m_product_by
def m_energy_product : List D → Option D := outP false 3 b_energy_product
theorem okF_energy_product {P : Program} {w : World} {K : PySem.W.Frag} {mg : Str → Option Value} {base : Heap} (KX : K.In base) (G : base.Ns mainGlobals mg) (c : SaysY SAY K) (hT : P.given.tree = none) {fd : FuncData} (F : FunD K "energy_product" "energy_product" (defArgs (top 55)) (defBody (top 55)) (defScope (top 55)) [] [] (He.fAd K d_energy_product.at_) fd) : FnOk P w K mg base CX0 44 (He.fAd K d_energy_product.at_) fd ["table", "row", "other"] (spP K 3 false m_energy_product) := by
  have m_len : mg "len" = none := He.free_ok KX G (c.1.fact 72)
  have h_check_row := ok_check_row (P := P) (w := w) KX G c hT
  have h_check_table := ok_check_table (P := P) (w := w) KX G c hT
  have h_product_by := ok_product_by (P := P) (w := w) KX G c hT
  exact fn_pure (x := "energy_product") (st := top 55) (N := N_energy_product) (ps := ["table", "row", "other"]) (own := []) (fresh := false) (b := b_energy_product) (k := 43) F sc_energy_product (by decide) (fun cdv A outer s H E W0 hr =>
    (dss_cons (ds_drop (d_call h_check_table hr (by decide) (by rfl) (da_cons (d_var (pe_var (i := 0) (by rfl) (by exact .inl rfl))) da_nil) (hl := (fCons_len fNil_len)))) (dss_cons (ds_drop (d_call h_check_row hr (by decide) (by rfl) (da_cons (d_callB call_len_seq cd_len (by rfl) m_len bt_len (da_cons (d_var (pe_var (i := 0) (by rfl) (by exact .inl rfl))) da_nil)) (da_cons (d_var (pe_var (i := 1) (by rfl) (by exact .inl rfl))) da_nil)) (hl := (fCons_len (fCons_len fNil_len))))) (dss_cons (ds_drop (d_call h_check_row hr (by decide) (by rfl) (da_cons (d_callB call_len_seq cd_len (by rfl) m_len bt_len (da_cons (d_var (pe_var (i := 0) (by rfl) (by exact .inl rfl))) da_nil)) (da_cons (d_var (pe_var (i := 2) (by rfl) (by exact .inl rfl))) da_nil)) (hl := (fCons_len (fCons_len fNil_len))))) (dss_one (ds_ret (d_call h_product_by hr (by decide) (by rfl) (da_cons (d_var (pe_var (i := 0) (by rfl) (by exact .inl rfl))) (da_cons (d_var (pe_var (i := 1) (by rfl) (by exact .inl rfl))) (da_cons (d_var (pe_var (i := 2) (by rfl) (by exact .inl rfl))) da_nil))) (hl := (fCons_len (fCons_len (fCons_len fNil_len)))))))))))
theorem ok_energy_product {P : Program} {w : World} {K : PySem.W.Frag} {mg : Str → Option Value} {base : Heap} (KX : K.In base) (G : base.Ns mainGlobals mg) (c : SaysY SAY K) (hT : P.given.tree = none) : Has P w K mg base 44 "energy_product" (spP K 3 false m_energy_product) := by
  obtain ⟨fd, F⟩ := c.1.def_ 40 (d := d_energy_product) rfl
  exact ⟨_, fd, ["table", "row", "other"], okF_energy_product KX G c hT F, He.glo_ok KX G (c.1.fact 40), F.kp, F.bindsN fun _ _ _ _ _ _ us hl => match us, hl with | [_, _, _], _ => rfl⟩
theorem okK_energy_product_other_row_table {P : Program} {w : World} {K : PySem.W.Frag} {mg : Str → Option Value} {base : Heap} (KX : K.In base) (G : base.Ns mainGlobals mg) (c : SaysY SAY K) (hT : P.given.tree = none) : HasK P w K mg base 44 "energy_product" (spP K 3 false m_energy_product) ["other", "row", "table"] [2, 1, 0] := by
  obtain ⟨fd, F⟩ := c.1.def_ 40 (d := d_energy_product) rfl
  exact ⟨_, fd, ["table", "row", "other"], okF_energy_product KX G c hT F, He.glo_ok KX G (c.1.fact 40), F.kp, kb0 [2, 1, 0] F fun _ _ _ _ _ _ ws hl => match ws, hl with | [_, _, _], _ => rfl⟩
def c__law_urn  : SFn := (fSeq (fSet 2 (fBin gAdd (fC (.int 12307)) (fBin gMul (fC (.int 6151)) (fVar 1))))
    (fSeq (fFor (fItems (fSl (fVar 0) fNoP (fP (fC (.int 8))))) (gNm 3) (fSet 2 (fBin gMod (fCall gInt (fCons (fBin gAdd (fBin gAdd (fBin gMul (fVar 2) (fC (.int 58313))) (fBin gMod (fCall gInt (fCons (fVar 3) fNil)) (fC (.int 2147483549)))) (fC (.int 11))) fNil)) (fC (.int 2147483497)))))
    (fSeq (fSet 4 (fIf (fB (fBin gLt (fVar 1) (fCall gLen (fCons (fVar 0) fNil)))) (fCall gInt (fCons (fBin gIx (fVar 0) (fVar 1)) fNil)) (fC (.int 0))))
    (fSeq (fSet 2 (fBin gMod (fCall gInt (fCons (fBin gAdd (fBin gAdd (fBin gMul (fVar 2) (fC (.int 29))) (fBin gMul (fBin gMod (fCall gInt (fCons (fVar 4) fNil)) (fC (.int 2147483549))) (fC (.int 30011)))) (fC (.int 3))) fNil)) (fC (.int 2147483497))))
    (fRetL (fLst (fCons (fIf (fOrT (fB (fBin gLt (fVar 4) (fC (.int 0)))) (fB (fBin gGe (fVar 4) (fBin gPow (fC (.int 10)) (fC (.int 15)))))) (fCall gAbs (fCons (fVar 4) fNil)) (fC (.int 0))) (fCons (fVar 2) (fCons (fC (.int 0)) (fCons (fC (.int 1)) fNil))))))))))
def b__law_urn : SFn := c__law_urn 
def m__law_urn : List D → Option D := outP true 5 b__law_urn
theorem okF__law_urn {P : Program} {w : World} {K : PySem.W.Frag} {mg : Str → Option Value} {base : Heap} (KX : K.In base) (G : base.Ns mainGlobals mg) (c : SaysY SAY K) (hT : P.given.tree = none) {fd : FuncData} (F : FunD K "_law_urn" "_law_urn" (defArgs (top 57)) (defBody (top 57)) (defScope (top 57)) [] [] (He.fAd K d__law_urn.at_) fd) : FnOk P w K mg base CX0 1 (He.fAd K d__law_urn.at_) fd ["script", "turn"] (spP K 2 true m__law_urn) := by
  have m_int : mg "int" = none := He.free_ok KX G (c.1.fact 69)
  have m_len : mg "len" = none := He.free_ok KX G (c.1.fact 72)
  have m_abs : mg "abs" = none := He.free_ok KX G (c.1.fact 81)
  exact fn_pure (x := "_law_urn") (st := top 57) (N := N__law_urn) (ps := ["script", "turn"]) (own := []) (fresh := true) (b := b__law_urn) (k := 0) F sc__law_urn (by decide) (fun cdv A outer s H E W0 hr =>
    (dss_cons (ds_set (i := 2) sc__law_urn.nd (by rfl) (by exact .inl rfl) (d_op op_addD od_add d_int (d_op op_mulD od_mul d_int (d_var (pe_var (i := 1) (by rfl) (by exact .inl rfl)))))) (dss_cons (ds_for PassesOwn.never rfl (di_seq (d_slice (d_var (pe_var (i := 0) (by rfl) (by exact .inl rfl))) do_none (do_some d_int))) (dg_name (i := 3) sc__law_urn.nd (by rfl) (by exact .inl rfl)) (dss_one (ds_set (i := 2) sc__law_urn.nd (by rfl) (by exact .inl rfl) (d_op op_modN od_mod (d_callTy call_int1 cd_int (by rfl) m_int bt_int (da_cons (d_op op_addD od_add (d_op op_addD od_add (d_op op_mulD od_mul (d_var (pe_var (i := 2) (by rfl) (by exact .inl rfl))) d_int) (d_op op_modN od_mod (d_callTy call_int1 cd_int (by rfl) m_int bt_int (da_cons (d_var (pe_var (i := 3) (by rfl) (by exact .inl rfl))) da_nil)) d_int)) d_int) da_nil)) d_int)))) (dss_cons (ds_set (i := 4) sc__law_urn.nd (by rfl) (by exact .inl rfl) (de_if (dt_cmp op_lt od_lt (d_var (pe_var (i := 1) (by rfl) (by exact .inl rfl))) (d_callB call_len_seq cd_len (by rfl) m_len bt_len (da_cons (d_var (pe_var (i := 0) (by rfl) (by exact .inl rfl))) da_nil)) (hm := nomark _)) (d_callTy call_int1 cd_int (by rfl) m_int bt_int (da_cons (d_ix (d_var (pe_var (i := 0) (by rfl) (by exact .inl rfl))) (d_var (pe_var (i := 1) (by rfl) (by exact .inl rfl)))) da_nil)) d_int)) (dss_cons (ds_set (i := 2) sc__law_urn.nd (by rfl) (by exact .inl rfl) (d_op op_modN od_mod (d_callTy call_int1 cd_int (by rfl) m_int bt_int (da_cons (d_op op_addD od_add (d_op op_addD od_add (d_op op_mulD od_mul (d_var (pe_var (i := 2) (by rfl) (by exact .inl rfl))) d_int) (d_op op_mulD od_mul (d_op op_modN od_mod (d_callTy call_int1 cd_int (by rfl) m_int bt_int (da_cons (d_var (pe_var (i := 4) (by rfl) (by exact .inl rfl))) da_nil)) d_int) d_int)) d_int) da_nil)) d_int)) (dss_one (ds_retL (l_lst (da_cons (de_if (dw_or (dt_cmp op_lt od_lt (d_var (pe_var (i := 4) (by rfl) (by exact .inl rfl))) d_int (hm := nomark _)) (dw_or1 (dt_cmp op_ge od_ge (d_var (pe_var (i := 4) (by rfl) (by exact .inl rfl))) (d_op op_pow od_pow d_int d_int) (hm := nomark _)))).pt (d_callB call_abs cd_abs (by rfl) m_abs bt_abs (da_cons (d_var (pe_var (i := 4) (by rfl) (by exact .inl rfl))) da_nil)) d_int) (da_cons (d_var (pe_var (i := 2) (by rfl) (by exact .inl rfl))) (da_cons d_int (da_cons d_int da_nil))))))))))))
theorem ok__law_urn {P : Program} {w : World} {K : PySem.W.Frag} {mg : Str → Option Value} {base : Heap} (KX : K.In base) (G : base.Ns mainGlobals mg) (c : SaysY SAY K) (hT : P.given.tree = none) : Has P w K mg base 1 "_law_urn" (spP K 2 true m__law_urn) := by
  obtain ⟨fd, F⟩ := c.1.def_ 41 (d := d__law_urn) rfl
  exact ⟨_, fd, ["script", "turn"], okF__law_urn KX G c hT F, He.glo_ok KX G (c.1.fact 41), F.kp, F.bindsN fun _ _ _ _ _ _ us hl => match us, hl with | [_, _], _ => rfl⟩
def c__law_take  : SFn := (fSeq (fIfS (fB (fBin gGt (fBin gIx (fVar 0) (fC (.int 0))) (fC (.int 0)))) (fSeq (fAsg (gTp 2 (gsCons (gIxT 0 (fC (.int 0))) (gsCons (gNm 2) gsNil))) (fCall gDivmod (fCons (fBin gIx (fVar 0) (fC (.int 0))) (fCons (fVar 1) fNil))))
    (fRet (fVar 2))) fSkip)
    (fSeq (fSetIx 0 (fBin gAdd (fBin gIx (fVar 0) (fC (.int 2))) (fC (.int 1))) (fC (.int 2)))
    (fSeq (fSet 3 (fBin gMod (fCall gInt (fCons (fBin gAdd (fBin gIx (fVar 0) (fC (.int 1))) (fBin gMul (fC (.int 51787)) (fBin gIx (fVar 0) (fC (.int 2))))) fNil)) (fC (.int 2147483497))))
    (fSeq (fSetIx 0 (fBin gMod (fCall gInt (fCons (fBin gAdd (fBin gMul (fVar 3) (fBin gAdd (fBin gMod (fCall gInt (fCons (fVar 3) fNil)) (fC (.int 6007))) (fC (.int 41011)))) (fBin gMul (fC (.int 29)) (fBin gIx (fVar 0) (fC (.int 2))))) fNil)) (fC (.int 2147483497))) (fC (.int 1)))
    (fRet (fBin gMod (fCall gInt (fCons (fBin gFdivB (fBin gIx (fVar 0) (fC (.int 1))) (fC (.int 769))) fNil)) (fVar 1)))))))
def b__law_take : SFn := c__law_take 
def m__law_take : List D → List D → Option (D × List D) := outU 4 b__law_take
theorem okF__law_take {P : Program} {w : World} {K : PySem.W.Frag} {mg : Str → Option Value} {base : Heap} (KX : K.In base) (G : base.Ns mainGlobals mg) (c : SaysY SAY K) (hT : P.given.tree = none) {fd : FuncData} (F : FunD K "_law_take" "_law_take" (defArgs (top 58)) (defBody (top 58)) (defScope (top 58)) [] [] (He.fAd K d__law_take.at_) fd) : FnOk P w K mg base CX0 33 (He.fAd K d__law_take.at_) fd ["urn", "limit"] (spU K 2 m__law_take) := by
  have m_divmod : mg "divmod" = none := He.free_ok KX G (c.1.fact 82)
  have m_int : mg "int" = none := He.free_ok KX G (c.1.fact 69)
  exact fn_io (x := "_law_take") (st := top 58) (N := N__law_take) (ps := ["urn", "limit"]) (own := []) (b := b__law_take) (k := 32) F sc__law_take (by decide) (fun cdv A outer s H E W0 a hr =>
    (dss_cons (ds_if (dt_cmp op_gt od_gt (d_ix (d_view (pe_var (i := 0) (by rfl) (by exact .inl rfl))) d_int) d_int (hm := nomark _)) (dss_cons (ds_asgE (d_callB call_divmod cd_divmod (by rfl) m_divmod bt_divmod (da_cons (d_ix (d_view (pe_var (i := 0) (by rfl) (by exact .inl rfl))) d_int) (da_cons (d_var (pe_var (i := 1) (by rfl) (by exact .inl rfl))) da_nil))) (dge_tup rfl (dge_cons (dge_sub (pe_var (i := 0) (by rfl) (by exact .inl rfl)) d_int) (dge_cons (dge_name (i := 2) sc__law_take.nd (by rfl) (by exact .inl rfl)) dge_nil)))) (dss_one (ds_ret (d_var (pe_var (i := 2) (by rfl) (by exact .inl rfl)))))) dss_nil) (dss_cons (ds_setIx (pe_var (i := 0) (by rfl) (by exact .inl rfl)) d_int (d_op op_addD od_add (d_ix (d_view (pe_var (i := 0) (by rfl) (by exact .inl rfl))) d_int) d_int)) (dss_cons (ds_set (i := 3) sc__law_take.nd (by rfl) (by exact .inl rfl) (d_op op_modN od_mod (d_callTy call_int1 cd_int (by rfl) m_int bt_int (da_cons (d_op op_addD od_add (d_ix (d_view (pe_var (i := 0) (by rfl) (by exact .inl rfl))) d_int) (d_op op_mulD od_mul d_int (d_ix (d_view (pe_var (i := 0) (by rfl) (by exact .inl rfl))) d_int))) da_nil)) d_int)) (dss_cons (ds_setIx (pe_var (i := 0) (by rfl) (by exact .inl rfl)) d_int (d_op op_modN od_mod (d_callTy call_int1 cd_int (by rfl) m_int bt_int (da_cons (d_op op_addD od_add (d_op op_mulD od_mul (d_var (pe_var (i := 3) (by rfl) (by exact .inl rfl))) (d_op op_addD od_add (d_op op_modN od_mod (d_callTy call_int1 cd_int (by rfl) m_int bt_int (da_cons (d_var (pe_var (i := 3) (by rfl) (by exact .inl rfl))) da_nil)) d_int) d_int)) (d_op op_mulD od_mul d_int (d_ix (d_view (pe_var (i := 0) (by rfl) (by exact .inl rfl))) d_int))) da_nil)) d_int)) (dss_one (ds_ret (d_op op_modN od_mod (d_callTy call_int1 cd_int (by rfl) m_int bt_int (da_cons (d_op (op_fdivBig (big_of c.2 hT hr (by decide))) od_fdivB (d_ix (d_view (pe_var (i := 0) (by rfl) (by exact .inl rfl))) d_int) d_int) da_nil)) (d_var (pe_var (i := 1) (by rfl) (by exact .inl rfl)))))))))))
theorem ok__law_take {P : Program} {w : World} {K : PySem.W.Frag} {mg : Str → Option Value} {base : Heap} (KX : K.In base) (G : base.Ns mainGlobals mg) (c : SaysY SAY K) (hT : P.given.tree = none) : Has P w K mg base 33 "_law_take" (spU K 2 m__law_take) := by
  obtain ⟨fd, F⟩ := c.1.def_ 42 (d := d__law_take) rfl
  exact ⟨_, fd, ["urn", "limit"], okF__law_take KX G c hT F, He.glo_ok KX G (c.1.fact 42), F.kp, F.bindsN fun _ _ _ _ _ _ us hl => match us, hl with | [_, _], _ => rfl⟩
def c__law_pick (m__law_take : List D → List D → Option (D × List D)) : SFn := (fRet (fBin gIx (fVar 1) (fCallU 0 m__law_take (fCons (fCall gLen (fCons (fVar 1) fNil)) fNil))))
def b__law_pick : SFn := c__law_pick m__law_take
def m__law_pick : List D → List D → Option (D × List D) := outU 2 b__law_pick
theorem okF__law_pick {P : Program} {w : World} {K : PySem.W.Frag} {mg : Str → Option Value} {base : Heap} (KX : K.In base) (G : base.Ns mainGlobals mg) (c : SaysY SAY K) (hT : P.given.tree = none) {fd : FuncData} (F : FunD K "_law_pick" "_law_pick" (defArgs (top 59)) (defBody (top 59)) (defScope (top 59)) [] [] (He.fAd K d__law_pick.at_) fd) : FnOk P w K mg base CX0 34 (He.fAd K d__law_pick.at_) fd ["urn", "some"] (spU K 2 m__law_pick) := by
  have m_len : mg "len" = none := He.free_ok KX G (c.1.fact 72)
  have h__law_take := ok__law_take (P := P) (w := w) KX G c hT
  exact fn_io (x := "_law_pick") (st := top 59) (N := N__law_pick) (ps := ["urn", "some"]) (own := []) (b := b__law_pick) (k := 33) F sc__law_pick (by decide) (fun cdv A outer s H E W0 a hr =>
    (dss_one (ds_ret (d_ix (d_var (pe_var (i := 1) (by rfl) (by exact .inl rfl))) (d_callU h__law_take hr (by decide) (by rfl) (pe_var (i := 0) (by rfl) (by exact .inl rfl)) (da_cons (d_callB call_len_seq cd_len (by rfl) m_len bt_len (da_cons (d_var (pe_var (i := 1) (by rfl) (by exact .inl rfl))) da_nil)) da_nil) (hl := (fCons_len fNil_len)))))))
theorem ok__law_pick {P : Program} {w : World} {K : PySem.W.Frag} {mg : Str → Option Value} {base : Heap} (KX : K.In base) (G : base.Ns mainGlobals mg) (c : SaysY SAY K) (hT : P.given.tree = none) : Has P w K mg base 34 "_law_pick" (spU K 2 m__law_pick) := by
  obtain ⟨fd, F⟩ := c.1.def_ 43 (d := d__law_pick) rfl
  exact ⟨_, fd, ["urn", "some"], okF__law_pick KX G c hT F, He.glo_ok KX G (c.1.fact 43), F.kp, F.bindsN fun _ _ _ _ _ _ us hl => match us, hl with | [_, _], _ => rfl⟩
def c__law_frac  : SFn := (fSeq (fPar 2 3 (fCons (fCall gAbs (fCons (fVar 0) fNil)) (fCons (fCall gAbs (fCons (fVar 1) fNil)) fNil)))
    (fSeq (fWhile mu (fB (fBin gNe (fVar 3) (fC (.int 0)))) (fPar 2 3 (fCons (fVar 3) (fCons (fBin gMod (fCall gInt (fCons (fVar 2) fNil)) (fVar 3)) fNil))))
    (fSeq (fSet 2 (fIf (fB (fBin gGt (fVar 1) (fC (.int 0)))) (fVar 2) (fBin gSub (fC (.int 0)) (fVar 2))))
    (fRet (fTup (fCons (fBin gFdivB (fVar 0) (fVar 2)) (fCons (fBin gFdivB (fVar 1) (fVar 2)) fNil)))))))
def b__law_frac : SFn := c__law_frac 
def m__law_frac : List D → Option D := outP false 4 b__law_frac
theorem okF__law_frac {P : Program} {w : World} {K : PySem.W.Frag} {mg : Str → Option Value} {base : Heap} (KX : K.In base) (G : base.Ns mainGlobals mg) (c : SaysY SAY K) (hT : P.given.tree = none) {fd : FuncData} (F : FunD K "_law_frac" "_law_frac" (defArgs (top 60)) (defBody (top 60)) (defScope (top 60)) [] [] (He.fAd K d__law_frac.at_) fd) : FnOk P w K mg base CX0 33 (He.fAd K d__law_frac.at_) fd ["top", "low"] (spP K 2 false m__law_frac) := by
  have m_abs : mg "abs" = none := He.free_ok KX G (c.1.fact 81)
  have m_int : mg "int" = none := He.free_ok KX G (c.1.fact 69)
  exact fn_pure (x := "_law_frac") (st := top 60) (N := N__law_frac) (ps := ["top", "low"]) (own := []) (fresh := false) (b := b__law_frac) (k := 32) F sc__law_frac (by decide) (fun cdv A outer s H E W0 hr =>
    (dss_cons (ds_par (i := 2) (j := 3) rfl sc__law_frac.nd rfl rfl rfl rfl (da_cons (d_callB call_abs cd_abs (by rfl) m_abs bt_abs (da_cons (d_var (pe_var (i := 0) (by rfl) (by exact .inl rfl))) da_nil)) (da_cons (d_callB call_abs cd_abs (by rfl) m_abs bt_abs (da_cons (d_var (pe_var (i := 1) (by rfl) (by exact .inl rfl))) da_nil)) da_nil)) rfl) (dss_cons (ds_while (μ := mu) PassesOwn.never (dt_cmp (op_neX hr.units) od_ne (d_var (pe_var (i := 3) (by rfl) (by exact .inl rfl))) d_int (hm := nomark _)) (dss_one (ds_par (i := 2) (j := 3) rfl sc__law_frac.nd rfl rfl rfl rfl (da_cons (d_var (pe_var (i := 3) (by rfl) (by exact .inl rfl))) (da_cons (d_op op_modN od_mod (d_callTy call_int1 cd_int (by rfl) m_int bt_int (da_cons (d_var (pe_var (i := 2) (by rfl) (by exact .inl rfl))) da_nil)) (d_var (pe_var (i := 3) (by rfl) (by exact .inl rfl)))) da_nil)) rfl))) (dss_cons (ds_set (i := 2) sc__law_frac.nd (by rfl) (by exact .inl rfl) (de_if (dt_cmp op_gt od_gt (d_var (pe_var (i := 1) (by rfl) (by exact .inl rfl))) d_int (hm := nomark _)) (d_var (pe_var (i := 2) (by rfl) (by exact .inl rfl))) (d_op op_subD od_sub d_int (d_var (pe_var (i := 2) (by rfl) (by exact .inl rfl)))))) (dss_one (ds_ret (d_tup (da_cons (d_op (op_fdivBig (big_of c.2 hT hr (by decide))) od_fdivB (d_var (pe_var (i := 0) (by rfl) (by exact .inl rfl))) (d_var (pe_var (i := 2) (by rfl) (by exact .inl rfl)))) (da_cons (d_op (op_fdivBig (big_of c.2 hT hr (by decide))) od_fdivB (d_var (pe_var (i := 1) (by rfl) (by exact .inl rfl))) (d_var (pe_var (i := 2) (by rfl) (by exact .inl rfl)))) da_nil)))))))))
theorem ok__law_frac {P : Program} {w : World} {K : PySem.W.Frag} {mg : Str → Option Value} {base : Heap} (KX : K.In base) (G : base.Ns mainGlobals mg) (c : SaysY SAY K) (hT : P.given.tree = none) : Has P w K mg base 33 "_law_frac" (spP K 2 false m__law_frac) := by
  obtain ⟨fd, F⟩ := c.1.def_ 44 (d := d__law_frac) rfl
  exact ⟨_, fd, ["top", "low"], okF__law_frac KX G c hT F, He.glo_ok KX G (c.1.fact 44), F.kp, F.bindsN fun _ _ _ _ _ _ us hl => match us, hl with | [_, _], _ => rfl⟩
def c__law_times (m__law_frac : List D → Option D) : SFn := (fRet (fCall m__law_frac (fCons (fBin gMul (fBin gIx (fVar 0) (fC (.int 0))) (fBin gIx (fVar 1) (fC (.int 0)))) (fCons (fBin gMul (fBin gIx (fVar 0) (fC (.int 1))) (fBin gIx (fVar 1) (fC (.int 1)))) fNil))))
def b__law_times : SFn := c__law_times m__law_frac
def m__law_times : List D → Option D := outP false 2 b__law_times
theorem okF__law_times {P : Program} {w : World} {K : PySem.W.Frag} {mg : Str → Option Value} {base : Heap} (KX : K.In base) (G : base.Ns mainGlobals mg) (c : SaysY SAY K) (hT : P.given.tree = none) {fd : FuncData} (F : FunD K "_law_times" "_law_times" (defArgs (top 61)) (defBody (top 61)) (defScope (top 61)) [] [] (He.fAd K d__law_times.at_) fd) : FnOk P w K mg base CX0 34 (He.fAd K d__law_times.at_) fd ["one", "two"] (spP K 2 false m__law_times) := by
  have h__law_frac := ok__law_frac (P := P) (w := w) KX G c hT
  exact fn_pure (x := "_law_times") (st := top 61) (N := N__law_times) (ps := ["one", "two"]) (own := []) (fresh := false) (b := b__law_times) (k := 33) F sc__law_times (by decide) (fun cdv A outer s H E W0 hr =>
    (dss_one (ds_ret (d_call h__law_frac hr (by decide) (by rfl) (da_cons (d_op op_mulD od_mul (d_ix (d_var (pe_var (i := 0) (by rfl) (by exact .inl rfl))) d_int) (d_ix (d_var (pe_var (i := 1) (by rfl) (by exact .inl rfl))) d_int)) (da_cons (d_op op_mulD od_mul (d_ix (d_var (pe_var (i := 0) (by rfl) (by exact .inl rfl))) d_int) (d_ix (d_var (pe_var (i := 1) (by rfl) (by exact .inl rfl))) d_int)) da_nil)) (hl := (fCons_len (fCons_len fNil_len)))))))
theorem ok__law_times {P : Program} {w : World} {K : PySem.W.Frag} {mg : Str → Option Value} {base : Heap} (KX : K.In base) (G : base.Ns mainGlobals mg) (c : SaysY SAY K) (hT : P.given.tree = none) : Has P w K mg base 34 "_law_times" (spP K 2 false m__law_times) := by
  obtain ⟨fd, F⟩ := c.1.def_ 45 (d := d__law_times) rfl
  exact ⟨_, fd, ["one", "two"], okF__law_times KX G c hT F, He.glo_ok KX G (c.1.fact 45), F.kp, F.bindsN fun _ _ _ _ _ _ us hl => match us, hl with | [_, _], _ => rfl⟩
def c__law_dot (m__law_frac : List D → Option D) : SFn := (fSeq (fAsg (gTp 2 (gsCons (gNm 2) (gsCons (gNm 3) gsNil))) (fTup (fCons (fC (.int 0)) (fCons (fC (.int 1)) fNil))))
    (fSeq (fFor (fZip (fCons (fVar 0) (fCons (fVar 1) fNil))) (gTp 2 (gsCons (gNm 4) (gsCons (gNm 5) gsNil))) (fSeq (fSet 6 (fBin gMul (fBin gIx (fVar 4) (fC (.int 1))) (fBin gIx (fVar 5) (fC (.int 1)))))
    (fPar 2 3 (fCons (fBin gAdd (fBin gMul (fVar 2) (fVar 6)) (fBin gMul (fBin gMul (fBin gIx (fVar 4) (fC (.int 0))) (fBin gIx (fVar 5) (fC (.int 0)))) (fVar 3))) (fCons (fBin gMul (fVar 3) (fVar 6)) fNil)))))
    (fRet (fCall m__law_frac (fCons (fVar 2) (fCons (fVar 3) fNil))))))
def b__law_dot : SFn := c__law_dot m__law_frac
def m__law_dot : List D → Option D := outP false 7 b__law_dot
theorem okF__law_dot {P : Program} {w : World} {K : PySem.W.Frag} {mg : Str → Option Value} {base : Heap} (KX : K.In base) (G : base.Ns mainGlobals mg) (c : SaysY SAY K) (hT : P.given.tree = none) {fd : FuncData} (F : FunD K "_law_dot" "_law_dot" (defArgs (top 62)) (defBody (top 62)) (defScope (top 62)) [] [] (He.fAd K d__law_dot.at_) fd) : FnOk P w K mg base CX0 34 (He.fAd K d__law_dot.at_) fd ["one", "two"] (spP K 2 false m__law_dot) := by
  have m_zip : mg "zip" = none := He.free_ok KX G (c.1.fact 75)
  have h__law_frac := ok__law_frac (P := P) (w := w) KX G c hT
  exact fn_pure (x := "_law_dot") (st := top 62) (N := N__law_dot) (ps := ["one", "two"]) (own := []) (fresh := false) (b := b__law_dot) (k := 33) F sc__law_dot (by decide) (fun cdv A outer s H E W0 hr =>
    (dss_cons (ds_asg (d_tup (da_cons d_int (da_cons d_int da_nil))) (dg_tup rfl (dg_cons (dg_name (i := 2) sc__law_dot.nd (by rfl) (by exact .inl rfl)) (dg_cons (dg_name (i := 3) sc__law_dot.nd (by rfl) (by exact .inl rfl)) dg_nil)))) (dss_cons (ds_for PassesOwn.never rfl (di_zip (by rfl) m_zip (da_cons (d_var (pe_var (i := 0) (by rfl) (by exact .inl rfl))) (da_cons (d_var (pe_var (i := 1) (by rfl) (by exact .inl rfl))) da_nil))) (dg_tup rfl (dg_cons (dg_name (i := 4) sc__law_dot.nd (by rfl) (by exact .inl rfl)) (dg_cons (dg_name (i := 5) sc__law_dot.nd (by rfl) (by exact .inl rfl)) dg_nil))) (dss_cons (ds_set (i := 6) sc__law_dot.nd (by rfl) (by exact .inl rfl) (d_op op_mulD od_mul (d_ix (d_var (pe_var (i := 4) (by rfl) (by exact .inl rfl))) d_int) (d_ix (d_var (pe_var (i := 5) (by rfl) (by exact .inl rfl))) d_int))) (dss_one (ds_par (i := 2) (j := 3) rfl sc__law_dot.nd rfl rfl rfl rfl (da_cons (d_op op_addD od_add (d_op op_mulD od_mul (d_var (pe_var (i := 2) (by rfl) (by exact .inl rfl))) (d_var (pe_var (i := 6) (by rfl) (by exact .inl rfl)))) (d_op op_mulD od_mul (d_op op_mulD od_mul (d_ix (d_var (pe_var (i := 4) (by rfl) (by exact .inl rfl))) d_int) (d_ix (d_var (pe_var (i := 5) (by rfl) (by exact .inl rfl))) d_int)) (d_var (pe_var (i := 3) (by rfl) (by exact .inl rfl))))) (da_cons (d_op op_mulD od_mul (d_var (pe_var (i := 3) (by rfl) (by exact .inl rfl))) (d_var (pe_var (i := 6) (by rfl) (by exact .inl rfl)))) da_nil)) rfl)))) (dss_one (ds_ret (d_call h__law_frac hr (by decide) (by rfl) (da_cons (d_var (pe_var (i := 2) (by rfl) (by exact .inl rfl))) (da_cons (d_var (pe_var (i := 3) (by rfl) (by exact .inl rfl))) da_nil)) (hl := (fCons_len (fCons_len fNil_len)))))))))
theorem ok__law_dot {P : Program} {w : World} {K : PySem.W.Frag} {mg : Str → Option Value} {base : Heap} (KX : K.In base) (G : base.Ns mainGlobals mg) (c : SaysY SAY K) (hT : P.given.tree = none) : Has P w K mg base 34 "_law_dot" (spP K 2 false m__law_dot) := by
  obtain ⟨fd, F⟩ := c.1.def_ 46 (d := d__law_dot) rfl
  exact ⟨_, fd, ["one", "two"], okF__law_dot KX G c hT F, He.glo_ok KX G (c.1.fact 46), F.kp, F.bindsN fun _ _ _ _ _ _ us hl => match us, hl with | [_, _], _ => rfl⟩
def c__law_go (m__law_dot : List D → Option D) : SFn := (fRet (fCall gTuple (fCons (fOfL (fComp (fItems (fVar 0)) (gNm 2) fYes (fCall m__law_dot (fCons (fVar 2) (fCons (fVar 1) fNil))) [2])) fNil)))
def b__law_go : SFn := c__law_go m__law_dot
def m__law_go : List D → Option D := outP false 3 b__law_go
theorem okF__law_go {P : Program} {w : World} {K : PySem.W.Frag} {mg : Str → Option Value} {base : Heap} (KX : K.In base) (G : base.Ns mainGlobals mg) (c : SaysY SAY K) (hT : P.given.tree = none) {fd : FuncData} (F : FunD K "_law_go" "_law_go" (defArgs (top 63)) (defBody (top 63)) (defScope (top 63)) [] [] (He.fAd K d__law_go.at_) fd) : FnOk P w K mg base CX0 35 (He.fAd K d__law_go.at_) fd ["grid", "line"] (spP K 2 false m__law_go) := by
  have m_tuple : mg "tuple" = none := He.free_ok KX G (c.1.fact 71)
  have h__law_dot := ok__law_dot (P := P) (w := w) KX G c hT
  exact fn_pure (x := "_law_go") (st := top 63) (N := N__law_go) (ps := ["grid", "line"]) (own := []) (fresh := false) (b := b__law_go) (k := 34) F sc__law_go (by decide) (fun cdv A outer s H E W0 hr =>
    (dss_one (ds_ret (d_callTy call_tuple_of cd_tuple (by rfl) m_tuple bt_tuple (da_cons (d_ofL (l_comp rfl sc__law_go.nd (di_seq (d_var (pe_var (i := 0) (by rfl) (by exact .inl rfl)))) (blkOk_by (N := N__law_go) (sc := (defScope (top 63))) (scope := ({ kind := PySem.ScopeKind.function, names := [(PySem.Str.ofString ".0", PySem.NameKind.local), (PySem.Str.ofString "each", PySem.NameKind.local), (PySem.Str.ofString "_law_dot", PySem.NameKind.globalImplicit), (PySem.Str.ofString "line", PySem.NameKind.free)], isGenerator := false, isCoroutine := false, more := [] } : PySem.Scope)) (own := [("each", 2)]) (by decide +kernel)) (fun _ _ _ _ _ _ => (dg_name (i := 2) sc__law_go.nd (by rfl) (by exact .inl rfl))) (fun _ _ _ _ _ _ => dts_nil) (fun _ _ _ _ _ _ => (d_call h__law_dot hr (by decide) (by rfl) (da_cons (d_var (pe_var (i := 2) (by rfl) (by exact .inl rfl))) (da_cons (d_var (pe_var (i := 1) (by rfl) (by exact .inr (.inl rfl)))) da_nil)) (hl := (fCons_len (fCons_len fNil_len))))))) da_nil)))))
theorem ok__law_go {P : Program} {w : World} {K : PySem.W.Frag} {mg : Str → Option Value} {base : Heap} (KX : K.In base) (G : base.Ns mainGlobals mg) (c : SaysY SAY K) (hT : P.given.tree = none) : Has P w K mg base 35 "_law_go" (spP K 2 false m__law_go) := by
  obtain ⟨fd, F⟩ := c.1.def_ 47 (d := d__law_go) rfl
  exact ⟨_, fd, ["grid", "line"], okF__law_go KX G c hT F, He.glo_ok KX G (c.1.fact 47), F.kp, F.bindsN fun _ _ _ _ _ _ us hl => match us, hl with | [_, _], _ => rfl⟩
def c__law_flip  : SFn := (fRet (fCall gTuple (fCons (fOfL (fComp (fRng1 (fCons (fCall gLen (fCons (fBin gIx (fVar 0) (fC (.int 0))) fNil)) fNil)) (gNm 1) fYes (fCall gTuple (fCons (fOfL (fComp (fItems (fVar 0)) (gNm 2) fYes (fBin gIx (fVar 2) (fVar 1)) [2])) fNil)) [1])) fNil)))
def b__law_flip : SFn := c__law_flip 
def m__law_flip : List D → Option D := outP false 3 b__law_flip
theorem okF__law_flip {P : Program} {w : World} {K : PySem.W.Frag} {mg : Str → Option Value} {base : Heap} (KX : K.In base) (G : base.Ns mainGlobals mg) (c : SaysY SAY K) (hT : P.given.tree = none) {fd : FuncData} (F : FunD K "_law_flip" "_law_flip" (defArgs (top 64)) (defBody (top 64)) (defScope (top 64)) [] [] (He.fAd K d__law_flip.at_) fd) : FnOk P w K mg base CX0 1 (He.fAd K d__law_flip.at_) fd ["grid"] (spP K 1 false m__law_flip) := by
  have m_tuple : mg "tuple" = none := He.free_ok KX G (c.1.fact 71)
  have m_range : mg "range" = none := He.free_ok KX G (c.1.fact 76)
  have m_len : mg "len" = none := He.free_ok KX G (c.1.fact 72)
  exact fn_pure (x := "_law_flip") (st := top 64) (N := N__law_flip) (ps := ["grid"]) (own := []) (fresh := false) (b := b__law_flip) (k := 0) F sc__law_flip (by decide) (fun cdv A outer s H E W0 hr =>
    (dss_one (ds_ret (d_callTy call_tuple_of cd_tuple (by rfl) m_tuple bt_tuple (da_cons (d_ofL (l_comp rfl sc__law_flip.nd (di_range1 (by rfl) m_range (da_cons (d_callB call_len_seq cd_len (by rfl) m_len bt_len (da_cons (d_ix (d_var (pe_var (i := 0) (by rfl) (by exact .inr (.inl rfl)))) d_int) da_nil)) da_nil)) (blkOk_by (N := N__law_flip) (sc := (defScope (top 64))) (scope := ({ kind := PySem.ScopeKind.function, names := [(PySem.Str.ofString ".0", PySem.NameKind.local), (PySem.Str.ofString "spot", PySem.NameKind.cell), (PySem.Str.ofString "tuple", PySem.NameKind.globalImplicit), (PySem.Str.ofString "grid", PySem.NameKind.free)], isGenerator := false, isCoroutine := false, more := [] } : PySem.Scope)) (own := [("spot", 1)]) (by decide +kernel)) (fun _ _ _ _ _ _ => (dg_name (i := 1) sc__law_flip.nd (by rfl) (by exact .inr rfl))) (fun _ _ _ _ _ _ => dts_nil) (fun _ _ _ _ _ _ => (d_callTy call_tuple_of cd_tuple (by rfl) m_tuple bt_tuple (da_cons (d_ofL (l_comp rfl sc__law_flip.nd (di_seq (d_var (pe_var (i := 0) (by rfl) (by exact .inr (.inl rfl))))) (blkOk_by (N := N__law_flip) (sc := (relS ({ kind := PySem.ScopeKind.function, names := [(PySem.Str.ofString ".0", PySem.NameKind.local), (PySem.Str.ofString "spot", PySem.NameKind.cell), (PySem.Str.ofString "tuple", PySem.NameKind.globalImplicit), (PySem.Str.ofString "grid", PySem.NameKind.free)], isGenerator := false, isCoroutine := false, more := [] } : PySem.Scope) (defScope (top 64)))) (scope := ({ kind := PySem.ScopeKind.function, names := [(PySem.Str.ofString ".0", PySem.NameKind.local), (PySem.Str.ofString "line", PySem.NameKind.local), (PySem.Str.ofString "spot", PySem.NameKind.free)], isGenerator := false, isCoroutine := false, more := [] } : PySem.Scope)) (own := [("line", 2)]) (by decide +kernel)) (fun _ _ _ _ _ _ => (dg_name (i := 2) sc__law_flip.nd (by rfl) (by exact .inl rfl))) (fun _ _ _ _ _ _ => dts_nil) (fun _ _ _ _ _ _ => (d_ix (d_var (pe_var (i := 2) (by rfl) (by exact .inl rfl))) (d_var (pe_var (i := 1) (by rfl) (by exact .inr (.inl rfl)))))))) da_nil))))) da_nil)))))
theorem ok__law_flip {P : Program} {w : World} {K : PySem.W.Frag} {mg : Str → Option Value} {base : Heap} (KX : K.In base) (G : base.Ns mainGlobals mg) (c : SaysY SAY K) (hT : P.given.tree = none) : Has P w K mg base 1 "_law_flip" (spP K 1 false m__law_flip) := by
  obtain ⟨fd, F⟩ := c.1.def_ 48 (d := d__law_flip) rfl
  exact ⟨_, fd, ["grid"], okF__law_flip KX G c hT F, He.glo_ok KX G (c.1.fact 48), F.kp, F.bindsN fun _ _ _ _ _ _ us hl => match us, hl with | [_], _ => rfl⟩
def c__law_mul (m__law_flip : List D → Option D) (m__law_dot : List D → Option D) : SFn := (fSeq (fSet 2 (fCall m__law_flip (fCons (fVar 1) fNil)))
    (fRet (fCall gTuple (fCons (fOfL (fComp (fItems (fVar 0)) (gNm 3) fYes (fCall gTuple (fCons (fOfL (fComp (fItems (fVar 2)) (gNm 4) fYes (fCall m__law_dot (fCons (fVar 3) (fCons (fVar 4) fNil))) [4])) fNil)) [3])) fNil))))
def b__law_mul : SFn := c__law_mul m__law_flip m__law_dot
def m__law_mul : List D → Option D := outP false 5 b__law_mul
theorem okF__law_mul {P : Program} {w : World} {K : PySem.W.Frag} {mg : Str → Option Value} {base : Heap} (KX : K.In base) (G : base.Ns mainGlobals mg) (c : SaysY SAY K) (hT : P.given.tree = none) {fd : FuncData} (F : FunD K "_law_mul" "_law_mul" (defArgs (top 65)) (defBody (top 65)) (defScope (top 65)) [] [] (He.fAd K d__law_mul.at_) fd) : FnOk P w K mg base CX0 35 (He.fAd K d__law_mul.at_) fd ["one", "two"] (spP K 2 false m__law_mul) := by
  have m_tuple : mg "tuple" = none := He.free_ok KX G (c.1.fact 71)
  have h__law_dot := ok__law_dot (P := P) (w := w) KX G c hT
  have h__law_flip := ok__law_flip (P := P) (w := w) KX G c hT
  exact fn_pure (x := "_law_mul") (st := top 65) (N := N__law_mul) (ps := ["one", "two"]) (own := []) (fresh := false) (b := b__law_mul) (k := 34) F sc__law_mul (by decide) (fun cdv A outer s H E W0 hr =>
    (dss_cons (ds_set (i := 2) sc__law_mul.nd (by rfl) (by exact .inr rfl) (d_call h__law_flip hr (by decide) (by rfl) (da_cons (d_var (pe_var (i := 1) (by rfl) (by exact .inl rfl))) da_nil) (hl := (fCons_len fNil_len)))) (dss_one (ds_ret (d_callTy call_tuple_of cd_tuple (by rfl) m_tuple bt_tuple (da_cons (d_ofL (l_comp rfl sc__law_mul.nd (di_seq (d_var (pe_var (i := 0) (by rfl) (by exact .inl rfl)))) (blkOk_by (N := N__law_mul) (sc := (defScope (top 65))) (scope := ({ kind := PySem.ScopeKind.function, names := [(PySem.Str.ofString ".0", PySem.NameKind.local), (PySem.Str.ofString "line", PySem.NameKind.cell), (PySem.Str.ofString "tuple", PySem.NameKind.globalImplicit), (PySem.Str.ofString "sides", PySem.NameKind.free)], isGenerator := false, isCoroutine := false, more := [] } : PySem.Scope)) (own := [("line", 3)]) (by decide +kernel)) (fun _ _ _ _ _ _ => (dg_name (i := 3) sc__law_mul.nd (by rfl) (by exact .inr rfl))) (fun _ _ _ _ _ _ => dts_nil) (fun _ _ _ _ _ _ => (d_callTy call_tuple_of cd_tuple (by rfl) m_tuple bt_tuple (da_cons (d_ofL (l_comp rfl sc__law_mul.nd (di_seq (d_var (pe_var (i := 2) (by rfl) (by exact .inr (.inl rfl))))) (blkOk_by (N := N__law_mul) (sc := (relS ({ kind := PySem.ScopeKind.function, names := [(PySem.Str.ofString ".0", PySem.NameKind.local), (PySem.Str.ofString "line", PySem.NameKind.cell), (PySem.Str.ofString "tuple", PySem.NameKind.globalImplicit), (PySem.Str.ofString "sides", PySem.NameKind.free)], isGenerator := false, isCoroutine := false, more := [] } : PySem.Scope) (defScope (top 65)))) (scope := ({ kind := PySem.ScopeKind.function, names := [(PySem.Str.ofString ".0", PySem.NameKind.local), (PySem.Str.ofString "side", PySem.NameKind.local), (PySem.Str.ofString "_law_dot", PySem.NameKind.globalImplicit), (PySem.Str.ofString "line", PySem.NameKind.free)], isGenerator := false, isCoroutine := false, more := [] } : PySem.Scope)) (own := [("side", 4)]) (by decide +kernel)) (fun _ _ _ _ _ _ => (dg_name (i := 4) sc__law_mul.nd (by rfl) (by exact .inl rfl))) (fun _ _ _ _ _ _ => dts_nil) (fun _ _ _ _ _ _ => (d_call h__law_dot hr (by decide) (by rfl) (da_cons (d_var (pe_var (i := 3) (by rfl) (by exact .inr (.inl rfl)))) (da_cons (d_var (pe_var (i := 4) (by rfl) (by exact .inl rfl))) da_nil)) (hl := (fCons_len (fCons_len fNil_len))))))) da_nil))))) da_nil))))))
theorem ok__law_mul {P : Program} {w : World} {K : PySem.W.Frag} {mg : Str → Option Value} {base : Heap} (KX : K.In base) (G : base.Ns mainGlobals mg) (c : SaysY SAY K) (hT : P.given.tree = none) : Has P w K mg base 35 "_law_mul" (spP K 2 false m__law_mul) := by
  obtain ⟨fd, F⟩ := c.1.def_ 49 (d := d__law_mul) rfl
  exact ⟨_, fd, ["one", "two"], okF__law_mul KX G c hT F, He.glo_ok KX G (c.1.fact 49), F.kp, F.bindsN fun _ _ _ _ _ _ us hl => match us, hl with | [_, _], _ => rfl⟩
def c__law_by (m__law_times : List D → Option D) : SFn := (fRet (fCall gTuple (fCons (fOfL (fComp (fItems (fVar 0)) (gNm 2) fYes (fCall m__law_times (fCons (fVar 1) (fCons (fVar 2) fNil))) [2])) fNil)))
def b__law_by : SFn := c__law_by m__law_times
def m__law_by : List D → Option D := outP false 3 b__law_by
theorem okF__law_by {P : Program} {w : World} {K : PySem.W.Frag} {mg : Str → Option Value} {base : Heap} (KX : K.In base) (G : base.Ns mainGlobals mg) (c : SaysY SAY K) (hT : P.given.tree = none) {fd : FuncData} (F : FunD K "_law_by" "_law_by" (defArgs (top 66)) (defBody (top 66)) (defScope (top 66)) [] [] (He.fAd K d__law_by.at_) fd) : FnOk P w K mg base CX0 35 (He.fAd K d__law_by.at_) fd ["line", "by"] (spP K 2 false m__law_by) := by
  have m_tuple : mg "tuple" = none := He.free_ok KX G (c.1.fact 71)
  have h__law_times := ok__law_times (P := P) (w := w) KX G c hT
  exact fn_pure (x := "_law_by") (st := top 66) (N := N__law_by) (ps := ["line", "by"]) (own := []) (fresh := false) (b := b__law_by) (k := 34) F sc__law_by (by decide) (fun cdv A outer s H E W0 hr =>
    (dss_one (ds_ret (d_callTy call_tuple_of cd_tuple (by rfl) m_tuple bt_tuple (da_cons (d_ofL (l_comp rfl sc__law_by.nd (di_seq (d_var (pe_var (i := 0) (by rfl) (by exact .inl rfl)))) (blkOk_by (N := N__law_by) (sc := (defScope (top 66))) (scope := ({ kind := PySem.ScopeKind.function, names := [(PySem.Str.ofString ".0", PySem.NameKind.local), (PySem.Str.ofString "x", PySem.NameKind.local), (PySem.Str.ofString "_law_times", PySem.NameKind.globalImplicit), (PySem.Str.ofString "by", PySem.NameKind.free)], isGenerator := false, isCoroutine := false, more := [] } : PySem.Scope)) (own := [("x", 2)]) (by decide +kernel)) (fun _ _ _ _ _ _ => (dg_name (i := 2) sc__law_by.nd (by rfl) (by exact .inl rfl))) (fun _ _ _ _ _ _ => dts_nil) (fun _ _ _ _ _ _ => (d_call h__law_times hr (by decide) (by rfl) (da_cons (d_var (pe_var (i := 1) (by rfl) (by exact .inr (.inl rfl)))) (da_cons (d_var (pe_var (i := 2) (by rfl) (by exact .inl rfl))) da_nil)) (hl := (fCons_len (fCons_len fNil_len))))))) da_nil)))))
theorem ok__law_by {P : Program} {w : World} {K : PySem.W.Frag} {mg : Str → Option Value} {base : Heap} (KX : K.In base) (G : base.Ns mainGlobals mg) (c : SaysY SAY K) (hT : P.given.tree = none) : Has P w K mg base 35 "_law_by" (spP K 2 false m__law_by) := by
  obtain ⟨fd, F⟩ := c.1.def_ 50 (d := d__law_by) rfl
  exact ⟨_, fd, ["line", "by"], okF__law_by KX G c hT F, He.glo_ok KX G (c.1.fact 50), F.kp, F.bindsN fun _ _ _ _ _ _ us hl => match us, hl with | [_, _], _ => rfl⟩
def c__law_at (m__law_dot : List D → Option D) (m__law_go : List D → Option D) : SFn := (fRet (fCall m__law_dot (fCons (fVar 1) (fCons (fCall m__law_go (fCons (fVar 0) (fCons (fVar 1) fNil))) fNil))))
def b__law_at : SFn := c__law_at m__law_dot m__law_go
def m__law_at : List D → Option D := outP false 2 b__law_at
theorem okF__law_at {P : Program} {w : World} {K : PySem.W.Frag} {mg : Str → Option Value} {base : Heap} (KX : K.In base) (G : base.Ns mainGlobals mg) (c : SaysY SAY K) (hT : P.given.tree = none) {fd : FuncData} (F : FunD K "_law_at" "_law_at" (defArgs (top 67)) (defBody (top 67)) (defScope (top 67)) [] [] (He.fAd K d__law_at.at_) fd) : FnOk P w K mg base CX0 36 (He.fAd K d__law_at.at_) fd ["grid", "line"] (spP K 2 false m__law_at) := by
  have h__law_dot := ok__law_dot (P := P) (w := w) KX G c hT
  have h__law_go := ok__law_go (P := P) (w := w) KX G c hT
  exact fn_pure (x := "_law_at") (st := top 67) (N := N__law_at) (ps := ["grid", "line"]) (own := []) (fresh := false) (b := b__law_at) (k := 35) F sc__law_at (by decide) (fun cdv A outer s H E W0 hr =>
    (dss_one (ds_ret (d_call h__law_dot hr (by decide) (by rfl) (da_cons (d_var (pe_var (i := 1) (by rfl) (by exact .inl rfl))) (da_cons (d_call h__law_go hr (by decide) (by rfl) (da_cons (d_var (pe_var (i := 0) (by rfl) (by exact .inl rfl))) (da_cons (d_var (pe_var (i := 1) (by rfl) (by exact .inl rfl))) da_nil)) (hl := (fCons_len (fCons_len fNil_len)))) da_nil)) (hl := (fCons_len (fCons_len fNil_len)))))))
theorem ok__law_at {P : Program} {w : World} {K : PySem.W.Frag} {mg : Str → Option Value} {base : Heap} (KX : K.In base) (G : base.Ns mainGlobals mg) (c : SaysY SAY K) (hT : P.given.tree = none) : Has P w K mg base 36 "_law_at" (spP K 2 false m__law_at) := by
  obtain ⟨fd, F⟩ := c.1.def_ 51 (d := d__law_at) rfl
  exact ⟨_, fd, ["grid", "line"], okF__law_at KX G c hT F, He.glo_ok KX G (c.1.fact 51), F.kp, F.bindsN fun _ _ _ _ _ _ us hl => match us, hl with | [_, _], _ => rfl⟩
def c__law_is_frac (m__law_frac : List D → Option D) : SFn := (fSeq (fIfS (fOrT (fNotT (fB (fIsi isTup (fVar 0)))) (fB (fBin gNe (fCall gLen (fCons (fVar 0) fNil)) (fC (.int 2))))) (fRet (fC (.bl false))) fSkip)
    (fSeq (fAsg (gTp 2 (gsCons (gNm 1) (gsCons (gNm 2) gsNil))) (fVar 0))
    (fSeq (fIfS (fOrT (fB (fIsi isBool (fVar 1))) (fOrT (fB (fIsi isBool (fVar 2))) (fOrT (fNotT (fB (fIsi isInt (fVar 1)))) (fNotT (fB (fIsi isInt (fVar 2))))))) (fRet (fC (.bl false))) fSkip)
    (fRet (fAndV (fBin gGt (fVar 2) (fC (.int 0))) (fBin gEq (fCall m__law_frac (fCons (fVar 1) (fCons (fVar 2) fNil))) (fVar 0)))))))
def b__law_is_frac : SFn := c__law_is_frac m__law_frac
def m__law_is_frac : List D → Option D := outP false 3 b__law_is_frac
theorem okF__law_is_frac {P : Program} {w : World} {K : PySem.W.Frag} {mg : Str → Option Value} {base : Heap} (KX : K.In base) (G : base.Ns mainGlobals mg) (c : SaysY SAY K) (hT : P.given.tree = none) {fd : FuncData} (F : FunD K "_law_is_frac" "_law_is_frac" (defArgs (top 68)) (defBody (top 68)) (defScope (top 68)) [] [] (He.fAd K d__law_is_frac.at_) fd) : FnOk P w K mg base CX0 34 (He.fAd K d__law_is_frac.at_) fd ["thing"] (spP K 1 false m__law_is_frac) := by
  have m_isinstance : mg "isinstance" = none := He.free_ok KX G (c.1.fact 68)
  have m_tuple : mg "tuple" = none := He.free_ok KX G (c.1.fact 71)
  have m_len : mg "len" = none := He.free_ok KX G (c.1.fact 72)
  have m_bool : mg "bool" = none := He.free_ok KX G (c.1.fact 70)
  have m_int : mg "int" = none := He.free_ok KX G (c.1.fact 69)
  have h__law_frac := ok__law_frac (P := P) (w := w) KX G c hT
  exact fn_pure (x := "_law_is_frac") (st := top 68) (N := N__law_is_frac) (ps := ["thing"]) (own := []) (fresh := false) (b := b__law_is_frac) (k := 33) F sc__law_is_frac (by decide) (fun cdv A outer s H E W0 hr =>
    (dss_cons (ds_if (dw_or (dt_not (dt_val (d_isi kit_tup (by rfl) m_isinstance bt_isinstance (d_var (pe_var (i := 0) (by rfl) (by exact .inl rfl))) (pe_bltn (v := .ty "tuple") (by rfl) m_tuple bt_tuple rfl)))) (dw_or1 (dt_cmp (op_neX hr.units) od_ne (d_callB call_len_seq cd_len (by rfl) m_len bt_len (da_cons (d_var (pe_var (i := 0) (by rfl) (by exact .inl rfl))) da_nil)) d_int (hm := nomark _)))).pt (dss_one (ds_ret d_bl)) dss_nil) (dss_cons (ds_asg (d_var (pe_var (i := 0) (by rfl) (by exact .inl rfl))) (dg_tup rfl (dg_cons (dg_name (i := 1) sc__law_is_frac.nd (by rfl) (by exact .inl rfl)) (dg_cons (dg_name (i := 2) sc__law_is_frac.nd (by rfl) (by exact .inl rfl)) dg_nil)))) (dss_cons (ds_if (dw_or (dt_val (d_isi kit_bool (by rfl) m_isinstance bt_isinstance (d_var (pe_var (i := 1) (by rfl) (by exact .inl rfl))) (pe_bltn (v := .ty "bool") (by rfl) m_bool bt_bool rfl))) (dw_or (dt_val (d_isi kit_bool (by rfl) m_isinstance bt_isinstance (d_var (pe_var (i := 2) (by rfl) (by exact .inl rfl))) (pe_bltn (v := .ty "bool") (by rfl) m_bool bt_bool rfl))) (dw_or (dt_not (dt_val (d_isi kit_int (by rfl) m_isinstance bt_isinstance (d_var (pe_var (i := 1) (by rfl) (by exact .inl rfl))) (pe_bltn (v := .ty "int") (by rfl) m_int bt_int rfl)))) (dw_or1 (dt_not (dt_val (d_isi kit_int (by rfl) m_isinstance bt_isinstance (d_var (pe_var (i := 2) (by rfl) (by exact .inl rfl))) (pe_bltn (v := .ty "int") (by rfl) m_int bt_int rfl)))))))).pt (dss_one (ds_ret d_bl)) dss_nil) (dss_one (ds_ret (de_and (d_cmp op_gt od_gt (d_var (pe_var (i := 2) (by rfl) (by exact .inl rfl))) d_int (hm := nomark _)) (de_one (d_cmp (op_eqD hr.units) od_eq (d_call h__law_frac hr (by decide) (by rfl) (da_cons (d_var (pe_var (i := 1) (by rfl) (by exact .inl rfl))) (da_cons (d_var (pe_var (i := 2) (by rfl) (by exact .inl rfl))) da_nil)) (hl := (fCons_len (fCons_len fNil_len)))) (d_var (pe_var (i := 0) (by rfl) (by exact .inl rfl))) (hm := nomark _))))))))))
theorem ok__law_is_frac {P : Program} {w : World} {K : PySem.W.Frag} {mg : Str → Option Value} {base : Heap} (KX : K.In base) (G : base.Ns mainGlobals mg) (c : SaysY SAY K) (hT : P.given.tree = none) : Has P w K mg base 34 "_law_is_frac" (spP K 1 false m__law_is_frac) := by
  obtain ⟨fd, F⟩ := c.1.def_ 52 (d := d__law_is_frac) rfl
  exact ⟨_, fd, ["thing"], okF__law_is_frac KX G c hT F, He.glo_ok KX G (c.1.fact 52), F.kp, F.bindsN fun _ _ _ _ _ _ us hl => match us, hl with | [_], _ => rfl⟩
def c__law_is_line (m__law_is_frac : List D → Option D) : SFn := (fRet (fAndV (fIsi isTup (fVar 0)) (fAndV (fBin gEq (fCall gLen (fCons (fVar 0) fNil)) (fVar 1)) (fCall gAll (fCons (fOfL (fComp (fItems (fVar 0)) (gNm 2) fYes (fCall m__law_is_frac (fCons (fVar 2) fNil)) [2])) fNil)))))
def b__law_is_line : SFn := c__law_is_line m__law_is_frac
def m__law_is_line : List D → Option D := outP false 3 b__law_is_line
theorem okF__law_is_line {P : Program} {w : World} {K : PySem.W.Frag} {mg : Str → Option Value} {base : Heap} (KX : K.In base) (G : base.Ns mainGlobals mg) (c : SaysY SAY K) (hT : P.given.tree = none) {fd : FuncData} (F : FunD K "_law_is_line" "_law_is_line" (defArgs (top 69)) (defBody (top 69)) (defScope (top 69)) [] [] (He.fAd K d__law_is_line.at_) fd) : FnOk P w K mg base CX0 35 (He.fAd K d__law_is_line.at_) fd ["thing", "size"] (spP K 2 false m__law_is_line) := by
  have m_isinstance : mg "isinstance" = none := He.free_ok KX G (c.1.fact 68)
  have m_tuple : mg "tuple" = none := He.free_ok KX G (c.1.fact 71)
  have m_len : mg "len" = none := He.free_ok KX G (c.1.fact 72)
  have m_all : mg "all" = none := He.free_ok KX G (c.1.fact 73)
  have h__law_is_frac := ok__law_is_frac (P := P) (w := w) KX G c hT
  exact fn_pure (x := "_law_is_line") (st := top 69) (N := N__law_is_line) (ps := ["thing", "size"]) (own := []) (fresh := false) (b := b__law_is_line) (k := 34) F sc__law_is_line (by decide) (fun cdv A outer s H E W0 hr =>
    (dss_one (ds_ret (de_and (d_isi kit_tup (by rfl) m_isinstance bt_isinstance (d_var (pe_var (i := 0) (by rfl) (by exact .inl rfl))) (pe_bltn (v := .ty "tuple") (by rfl) m_tuple bt_tuple rfl)) (de_and (d_cmp (op_eqD hr.units) od_eq (d_callB call_len_seq cd_len (by rfl) m_len bt_len (da_cons (d_var (pe_var (i := 0) (by rfl) (by exact .inl rfl))) da_nil)) (d_var (pe_var (i := 1) (by rfl) (by exact .inl rfl))) (hm := nomark _)) (de_one (d_callB (cr_all rfl) cd_all (by rfl) m_all bt_all (da_cons (d_ofL (l_comp rfl sc__law_is_line.nd (di_seq (d_var (pe_var (i := 0) (by rfl) (by exact .inl rfl)))) (blkOk_by (N := N__law_is_line) (sc := (defScope (top 69))) (scope := ({ kind := PySem.ScopeKind.function, names := [(PySem.Str.ofString ".0", PySem.NameKind.local), (PySem.Str.ofString "each", PySem.NameKind.local), (PySem.Str.ofString "_law_is_frac", PySem.NameKind.globalImplicit)], isGenerator := false, isCoroutine := false, more := [] } : PySem.Scope)) (own := [("each", 2)]) (by decide +kernel)) (fun _ _ _ _ _ _ => (dg_name (i := 2) sc__law_is_line.nd (by rfl) (by exact .inl rfl))) (fun _ _ _ _ _ _ => dts_nil) (fun _ _ _ _ _ _ => (d_call h__law_is_frac hr (by decide) (by rfl) (da_cons (d_var (pe_var (i := 2) (by rfl) (by exact .inl rfl))) da_nil) (hl := (fCons_len fNil_len)))))) da_nil))))))))
theorem ok__law_is_line {P : Program} {w : World} {K : PySem.W.Frag} {mg : Str → Option Value} {base : Heap} (KX : K.In base) (G : base.Ns mainGlobals mg) (c : SaysY SAY K) (hT : P.given.tree = none) : Has P w K mg base 35 "_law_is_line" (spP K 2 false m__law_is_line) := by
  obtain ⟨fd, F⟩ := c.1.def_ 53 (d := d__law_is_line) rfl
  exact ⟨_, fd, ["thing", "size"], okF__law_is_line KX G c hT F, He.glo_ok KX G (c.1.fact 53), F.kp, F.bindsN fun _ _ _ _ _ _ us hl => match us, hl with | [_, _], _ => rfl⟩
def c__law_is_grid (m__law_is_line : List D → Option D) : SFn := (fRet (fAndV (fIsi isTup (fVar 0)) (fAndV (fBin gEq (fCall gLen (fCons (fVar 0) fNil)) (fVar 1)) (fCall gAll (fCons (fOfL (fComp (fItems (fVar 0)) (gNm 2) fYes (fCall m__law_is_line (fCons (fVar 2) (fCons (fVar 1) fNil))) [2])) fNil)))))
def b__law_is_grid : SFn := c__law_is_grid m__law_is_line
def m__law_is_grid : List D → Option D := outP false 3 b__law_is_grid
theorem okF__law_is_grid {P : Program} {w : World} {K : PySem.W.Frag} {mg : Str → Option Value} {base : Heap} (KX : K.In base) (G : base.Ns mainGlobals mg) (c : SaysY SAY K) (hT : P.given.tree = none) {fd : FuncData} (F : FunD K "_law_is_grid" "_law_is_grid" (defArgs (top 70)) (defBody (top 70)) (defScope (top 70)) [] [] (He.fAd K d__law_is_grid.at_) fd) : FnOk P w K mg base CX0 36 (He.fAd K d__law_is_grid.at_) fd ["thing", "size"] (spP K 2 false m__law_is_grid) := by
  have m_isinstance : mg "isinstance" = none := He.free_ok KX G (c.1.fact 68)
  have m_tuple : mg "tuple" = none := He.free_ok KX G (c.1.fact 71)
  have m_len : mg "len" = none := He.free_ok KX G (c.1.fact 72)
  have m_all : mg "all" = none := He.free_ok KX G (c.1.fact 73)
  have h__law_is_line := ok__law_is_line (P := P) (w := w) KX G c hT
  exact fn_pure (x := "_law_is_grid") (st := top 70) (N := N__law_is_grid) (ps := ["thing", "size"]) (own := []) (fresh := false) (b := b__law_is_grid) (k := 35) F sc__law_is_grid (by decide) (fun cdv A outer s H E W0 hr =>
    (dss_one (ds_ret (de_and (d_isi kit_tup (by rfl) m_isinstance bt_isinstance (d_var (pe_var (i := 0) (by rfl) (by exact .inl rfl))) (pe_bltn (v := .ty "tuple") (by rfl) m_tuple bt_tuple rfl)) (de_and (d_cmp (op_eqD hr.units) od_eq (d_callB call_len_seq cd_len (by rfl) m_len bt_len (da_cons (d_var (pe_var (i := 0) (by rfl) (by exact .inl rfl))) da_nil)) (d_var (pe_var (i := 1) (by rfl) (by exact .inr (.inl rfl)))) (hm := nomark _)) (de_one (d_callB (cr_all rfl) cd_all (by rfl) m_all bt_all (da_cons (d_ofL (l_comp rfl sc__law_is_grid.nd (di_seq (d_var (pe_var (i := 0) (by rfl) (by exact .inl rfl)))) (blkOk_by (N := N__law_is_grid) (sc := (defScope (top 70))) (scope := ({ kind := PySem.ScopeKind.function, names := [(PySem.Str.ofString ".0", PySem.NameKind.local), (PySem.Str.ofString "each", PySem.NameKind.local), (PySem.Str.ofString "_law_is_line", PySem.NameKind.globalImplicit), (PySem.Str.ofString "size", PySem.NameKind.free)], isGenerator := false, isCoroutine := false, more := [] } : PySem.Scope)) (own := [("each", 2)]) (by decide +kernel)) (fun _ _ _ _ _ _ => (dg_name (i := 2) sc__law_is_grid.nd (by rfl) (by exact .inl rfl))) (fun _ _ _ _ _ _ => dts_nil) (fun _ _ _ _ _ _ => (d_call h__law_is_line hr (by decide) (by rfl) (da_cons (d_var (pe_var (i := 2) (by rfl) (by exact .inl rfl))) (da_cons (d_var (pe_var (i := 1) (by rfl) (by exact .inr (.inl rfl)))) da_nil)) (hl := (fCons_len (fCons_len fNil_len))))))) da_nil))))))))
theorem ok__law_is_grid {P : Program} {w : World} {K : PySem.W.Frag} {mg : Str → Option Value} {base : Heap} (KX : K.In base) (G : base.Ns mainGlobals mg) (c : SaysY SAY K) (hT : P.given.tree = none) : Has P w K mg base 36 "_law_is_grid" (spP K 2 false m__law_is_grid) := by
  obtain ⟨fd, F⟩ := c.1.def_ 54 (d := d__law_is_grid) rfl
  exact ⟨_, fd, ["thing", "size"], okF__law_is_grid KX G c hT F, He.glo_ok KX G (c.1.fact 54), F.kp, F.bindsN fun _ _ _ _ _ _ us hl => match us, hl with | [_, _], _ => rfl⟩
def c__law_number (m__law_take : List D → List D → Option (D × List D)) (m__law_frac : List D → Option D) : SFn := (fSeq (fSet 1 (fCallU 0 m__law_take (fCons (fC (.int 96)) fNil)))
    (fSeq (fIfS (fAndT (fB (fBin gEq (fVar 1) (fC (.int 95)))) (fB (fBin gGt (fBin gIx (fVar 0) (fC (.int 3))) (fC (.int 0))))) (fSeq (fSetIx 0 (fBin gSub (fBin gIx (fVar 0) (fC (.int 3))) (fC (.int 1))) (fC (.int 3)))
    (fRet (fCall m__law_frac (fCons (fBin gSub (fCallU 0 m__law_take (fCons (fC (.int 2000003)) fNil)) (fC (.int 1000001))) (fCons (fBin gAdd (fC (.int 1)) (fCallU 0 m__law_take (fCons (fC (.int 97)) fNil))) fNil))))) fSkip)
    (fSeq (fIfS (fB (fBin gLt (fVar 1) (fC (.int 62)))) (fRet (fTup (fCons (fBin gSub (fCallU 0 m__law_take (fCons (fC (.int 5)) fNil)) (fC (.int 2))) (fCons (fC (.int 1)) fNil)))) fSkip)
    (fRet (fCall m__law_frac (fCons (fBin gSub (fCallU 0 m__law_take (fCons (fC (.int 9)) fNil)) (fC (.int 4))) (fCons (fBin gAdd (fC (.int 2)) (fCallU 0 m__law_take (fCons (fC (.int 3)) fNil))) fNil)))))))
def b__law_number : SFn := c__law_number m__law_take m__law_frac
def m__law_number : List D → List D → Option (D × List D) := outU 2 b__law_number
theorem okF__law_number {P : Program} {w : World} {K : PySem.W.Frag} {mg : Str → Option Value} {base : Heap} (KX : K.In base) (G : base.Ns mainGlobals mg) (c : SaysY SAY K) (hT : P.given.tree = none) {fd : FuncData} (F : FunD K "_law_number" "_law_number" (defArgs (top 71)) (defBody (top 71)) (defScope (top 71)) [] [] (He.fAd K d__law_number.at_) fd) : FnOk P w K mg base CX0 34 (He.fAd K d__law_number.at_) fd ["urn"] (spU K 1 m__law_number) := by
  have h__law_frac := ok__law_frac (P := P) (w := w) KX G c hT
  have h__law_take := ok__law_take (P := P) (w := w) KX G c hT
  exact fn_io (x := "_law_number") (st := top 71) (N := N__law_number) (ps := ["urn"]) (own := []) (b := b__law_number) (k := 33) F sc__law_number (by decide) (fun cdv A outer s H E W0 a hr =>
    (dss_cons (ds_set (i := 1) sc__law_number.nd (by rfl) (by exact .inl rfl) (d_callU h__law_take hr (by decide) (by rfl) (pe_var (i := 0) (by rfl) (by exact .inl rfl)) (da_cons d_int da_nil) (hl := (fCons_len fNil_len)))) (dss_cons (ds_if (dw_and (dt_cmp (op_eqD hr.units) od_eq (d_var (pe_var (i := 1) (by rfl) (by exact .inl rfl))) d_int (hm := nomark _)) (dw_and1 (dt_cmp op_gt od_gt (d_ix (d_view (pe_var (i := 0) (by rfl) (by exact .inl rfl))) d_int) d_int (hm := nomark _)))).pt (dss_cons (ds_setIx (pe_var (i := 0) (by rfl) (by exact .inl rfl)) d_int (d_op op_subD od_sub (d_ix (d_view (pe_var (i := 0) (by rfl) (by exact .inl rfl))) d_int) d_int)) (dss_one (ds_ret (d_call h__law_frac hr (by decide) (by rfl) (da_cons (d_op op_subD od_sub (d_callU h__law_take hr (by decide) (by rfl) (pe_var (i := 0) (by rfl) (by exact .inl rfl)) (da_cons d_int da_nil) (hl := (fCons_len fNil_len))) d_int) (da_cons (d_op op_addD od_add d_int (d_callU h__law_take hr (by decide) (by rfl) (pe_var (i := 0) (by rfl) (by exact .inl rfl)) (da_cons d_int da_nil) (hl := (fCons_len fNil_len)))) da_nil)) (hl := (fCons_len (fCons_len fNil_len))))))) dss_nil) (dss_cons (ds_if (dt_cmp op_lt od_lt (d_var (pe_var (i := 1) (by rfl) (by exact .inl rfl))) d_int (hm := nomark _)) (dss_one (ds_ret (d_tup (da_cons (d_op op_subD od_sub (d_callU h__law_take hr (by decide) (by rfl) (pe_var (i := 0) (by rfl) (by exact .inl rfl)) (da_cons d_int da_nil) (hl := (fCons_len fNil_len))) d_int) (da_cons d_int da_nil))))) dss_nil) (dss_one (ds_ret (d_call h__law_frac hr (by decide) (by rfl) (da_cons (d_op op_subD od_sub (d_callU h__law_take hr (by decide) (by rfl) (pe_var (i := 0) (by rfl) (by exact .inl rfl)) (da_cons d_int da_nil) (hl := (fCons_len fNil_len))) d_int) (da_cons (d_op op_addD od_add d_int (d_callU h__law_take hr (by decide) (by rfl) (pe_var (i := 0) (by rfl) (by exact .inl rfl)) (da_cons d_int da_nil) (hl := (fCons_len fNil_len)))) da_nil)) (hl := (fCons_len (fCons_len fNil_len))))))))))
theorem ok__law_number {P : Program} {w : World} {K : PySem.W.Frag} {mg : Str → Option Value} {base : Heap} (KX : K.In base) (G : base.Ns mainGlobals mg) (c : SaysY SAY K) (hT : P.given.tree = none) : Has P w K mg base 34 "_law_number" (spU K 1 m__law_number) := by
  obtain ⟨fd, F⟩ := c.1.def_ 55 (d := d__law_number) rfl
  exact ⟨_, fd, ["urn"], okF__law_number KX G c hT F, He.glo_ok KX G (c.1.fact 55), F.kp, F.bindsN fun _ _ _ _ _ _ us hl => match us, hl with | [_], _ => rfl⟩
def c__law_line (m__law_number : List D → List D → Option (D × List D)) : SFn := (fSeq (fSetL 2 (fLst fNil))
    (fSeq (fFor (fRng1 (fCons (fVar 1) fNil)) (gNm 3) (fApp 2 (fCallU 0 m__law_number fNil)))
    (fRet (fCall gTuple (fCons (fVar 2) fNil)))))
def b__law_line : SFn := c__law_line m__law_number
def m__law_line : List D → List D → Option (D × List D) := outU 4 b__law_line
theorem okF__law_line {P : Program} {w : World} {K : PySem.W.Frag} {mg : Str → Option Value} {base : Heap} (KX : K.In base) (G : base.Ns mainGlobals mg) (c : SaysY SAY K) (hT : P.given.tree = none) {fd : FuncData} (F : FunD K "_law_line" "_law_line" (defArgs (top 72)) (defBody (top 72)) (defScope (top 72)) [] [] (He.fAd K d__law_line.at_) fd) : FnOk P w K mg base CX0 35 (He.fAd K d__law_line.at_) fd ["urn", "size"] (spU K 2 m__law_line) := by
  have m_range : mg "range" = none := He.free_ok KX G (c.1.fact 76)
  have m_tuple : mg "tuple" = none := He.free_ok KX G (c.1.fact 71)
  have h__law_number := ok__law_number (P := P) (w := w) KX G c hT
  exact fn_io (x := "_law_line") (st := top 72) (N := N__law_line) (ps := ["urn", "size"]) (own := [2]) (b := b__law_line) (k := 34) F sc__law_line (by decide) (fun cdv A outer s H E W0 a hr =>
    (dss_cons (ds_setL (i := 2) sc__law_line.nd (by rfl) (by exact .inl rfl) (l_lst da_nil)) (dss_cons (ds_for PassesOwn.never rfl (di_range1 (by rfl) m_range (da_cons (d_var (pe_var (i := 1) (by rfl) (by exact .inl rfl))) da_nil)) (dg_name (i := 3) sc__law_line.nd (by rfl) (by exact .inl rfl)) (dss_one (ds_app (pe_var (i := 2) (by rfl) (by exact .inl rfl)) (d_callU h__law_number hr (by decide) (by rfl) (pe_var (i := 0) (by rfl) (by exact .inl rfl)) da_nil (hl := fNil_len))))) (dss_one (ds_ret (d_callTy call_tuple_of cd_tuple (by rfl) m_tuple bt_tuple (da_cons (d_var (pe_var (i := 2) (by rfl) (by exact .inl rfl))) da_nil)))))))
theorem ok__law_line {P : Program} {w : World} {K : PySem.W.Frag} {mg : Str → Option Value} {base : Heap} (KX : K.In base) (G : base.Ns mainGlobals mg) (c : SaysY SAY K) (hT : P.given.tree = none) : Has P w K mg base 35 "_law_line" (spU K 2 m__law_line) := by
  obtain ⟨fd, F⟩ := c.1.def_ 56 (d := d__law_line) rfl
  exact ⟨_, fd, ["urn", "size"], okF__law_line KX G c hT F, He.glo_ok KX G (c.1.fact 56), F.kp, F.bindsN fun _ _ _ _ _ _ us hl => match us, hl with | [_, _], _ => rfl⟩
def c__law_of_squares (m__law_mul : List D → Option D) (m__law_flip : List D → Option D) (m__law_by : List D → Option D) : SFn := (fRet (fCall m__law_mul (fCons (fCall m__law_flip (fCons (fOfL (fComp (fZip (fCons (fVar 1) (fCons (fVar 0) fNil))) (gTp 2 (gsCons (gNm 2) (gsCons (gNm 3) gsNil))) fYes (fCall m__law_by (fCons (fVar 2) (fCons (fVar 3) fNil))) [2, 3])) fNil)) (fCons (fVar 1) fNil))))
def b__law_of_squares : SFn := c__law_of_squares m__law_mul m__law_flip m__law_by
def m__law_of_squares : List D → Option D := outP false 4 b__law_of_squares
theorem okF__law_of_squares {P : Program} {w : World} {K : PySem.W.Frag} {mg : Str → Option Value} {base : Heap} (KX : K.In base) (G : base.Ns mainGlobals mg) (c : SaysY SAY K) (hT : P.given.tree = none) {fd : FuncData} (F : FunD K "_law_of_squares" "_law_of_squares" (defArgs (top 73)) (defBody (top 73)) (defScope (top 73)) [] [] (He.fAd K d__law_of_squares.at_) fd) : FnOk P w K mg base CX0 36 (He.fAd K d__law_of_squares.at_) fd ["heights", "lines"] (spP K 2 false m__law_of_squares) := by
  have m_zip : mg "zip" = none := He.free_ok KX G (c.1.fact 75)
  have h__law_by := ok__law_by (P := P) (w := w) KX G c hT
  have h__law_flip := ok__law_flip (P := P) (w := w) KX G c hT
  have h__law_mul := ok__law_mul (P := P) (w := w) KX G c hT
  exact fn_pure (x := "_law_of_squares") (st := top 73) (N := N__law_of_squares) (ps := ["heights", "lines"]) (own := []) (fresh := false) (b := b__law_of_squares) (k := 35) F sc__law_of_squares (by decide) (fun cdv A outer s H E W0 hr =>
    (dss_one (ds_ret (d_call h__law_mul hr (by decide) (by rfl) (da_cons (d_call h__law_flip hr (by decide) (by rfl) (da_cons (d_ofL (l_comp rfl sc__law_of_squares.nd (di_zip (by rfl) m_zip (da_cons (d_var (pe_var (i := 1) (by rfl) (by exact .inl rfl))) (da_cons (d_var (pe_var (i := 0) (by rfl) (by exact .inl rfl))) da_nil))) (blkOk_by (N := N__law_of_squares) (sc := (defScope (top 73))) (scope := ({ kind := PySem.ScopeKind.function, names := [(PySem.Str.ofString ".0", PySem.NameKind.local), (PySem.Str.ofString "line", PySem.NameKind.local), (PySem.Str.ofString "height", PySem.NameKind.local), (PySem.Str.ofString "_law_by", PySem.NameKind.globalImplicit)], isGenerator := false, isCoroutine := false, more := [] } : PySem.Scope)) (own := [("line", 2), ("height", 3)]) (by decide +kernel)) (fun _ _ _ _ _ _ => (dg_tup rfl (dg_cons (dg_name (i := 2) sc__law_of_squares.nd (by rfl) (by exact .inl rfl)) (dg_cons (dg_name (i := 3) sc__law_of_squares.nd (by rfl) (by exact .inl rfl)) dg_nil)))) (fun _ _ _ _ _ _ => dts_nil) (fun _ _ _ _ _ _ => (d_call h__law_by hr (by decide) (by rfl) (da_cons (d_var (pe_var (i := 2) (by rfl) (by exact .inl rfl))) (da_cons (d_var (pe_var (i := 3) (by rfl) (by exact .inl rfl))) da_nil)) (hl := (fCons_len (fCons_len fNil_len))))))) da_nil) (hl := (fCons_len fNil_len))) (da_cons (d_var (pe_var (i := 1) (by rfl) (by exact .inl rfl))) da_nil)) (hl := (fCons_len (fCons_len fNil_len)))))))
theorem ok__law_of_squares {P : Program} {w : World} {K : PySem.W.Frag} {mg : Str → Option Value} {base : Heap} (KX : K.In base) (G : base.Ns mainGlobals mg) (c : SaysY SAY K) (hT : P.given.tree = none) : Has P w K mg base 36 "_law_of_squares" (spP K 2 false m__law_of_squares) := by
  obtain ⟨fd, F⟩ := c.1.def_ 57 (d := d__law_of_squares) rfl
  exact ⟨_, fd, ["heights", "lines"], okF__law_of_squares KX G c hT F, He.glo_ok KX G (c.1.fact 57), F.kp, F.bindsN fun _ _ _ _ _ _ us hl => match us, hl with | [_, _], _ => rfl⟩
def c__law_table (m__law_line : List D → List D → Option (D × List D)) (m__law_frac : List D → Option D) (m__law_take : List D → List D → Option (D × List D)) (m__law_of_squares : List D → Option D) : SFn := (fSeq (fPar 2 3 (fCons (fOfL (fLst fNil)) (fCons (fOfL (fLst fNil)) fNil)))
    (fSeq (fFor (fRng1 (fCons (fVar 1) fNil)) (gNm 4) (fSeq (fApp 2 (fBin gAdd (fBin gAdd (fBin gMul (fTup (fCons (fTup (fCons (fC (.int 0)) (fCons (fC (.int 1)) fNil))) fNil)) (fVar 4)) (fTup (fCons (fTup (fCons (fC (.int 1)) (fCons (fC (.int 1)) fNil))) fNil))) (fCallU 0 m__law_line (fCons (fBin gSub (fBin gSub (fVar 1) (fC (.int 1))) (fVar 4)) fNil))))
    (fApp 3 (fCall m__law_frac (fCons (fBin gAdd (fC (.int 1)) (fCallU 0 m__law_take (fCons (fC (.int 4)) fNil))) (fCons (fBin gAdd (fC (.int 1)) (fCallU 0 m__law_take (fCons (fC (.int 2)) fNil))) fNil))))))
    (fRet (fCall m__law_of_squares (fCons (fVar 3) (fCons (fVar 2) fNil))))))
def b__law_table : SFn := c__law_table m__law_line m__law_frac m__law_take m__law_of_squares
def m__law_table : List D → List D → Option (D × List D) := outU 5 b__law_table
theorem okF__law_table {P : Program} {w : World} {K : PySem.W.Frag} {mg : Str → Option Value} {base : Heap} (KX : K.In base) (G : base.Ns mainGlobals mg) (c : SaysY SAY K) (hT : P.given.tree = none) {fd : FuncData} (F : FunD K "_law_table" "_law_table" (defArgs (top 74)) (defBody (top 74)) (defScope (top 74)) [] [] (He.fAd K d__law_table.at_) fd) : FnOk P w K mg base CX0 37 (He.fAd K d__law_table.at_) fd ["urn", "size"] (spU K 2 m__law_table) := by
  have m_range : mg "range" = none := He.free_ok KX G (c.1.fact 76)
  have h__law_frac := ok__law_frac (P := P) (w := w) KX G c hT
  have h__law_line := ok__law_line (P := P) (w := w) KX G c hT
  have h__law_of_squares := ok__law_of_squares (P := P) (w := w) KX G c hT
  have h__law_take := ok__law_take (P := P) (w := w) KX G c hT
  exact fn_io (x := "_law_table") (st := top 74) (N := N__law_table) (ps := ["urn", "size"]) (own := [2, 3]) (b := b__law_table) (k := 36) F sc__law_table (by decide) (fun cdv A outer s H E W0 a hr =>
    (dss_cons (ds_m2 (i := 2) (j := 3) rfl sc__law_table.nd rfl rfl rfl rfl (dm_L (l_lst da_nil) fun _ => (dm_L (l_lst da_nil) fun _ => dm_nil)) rfl) (dss_cons (ds_for PassesOwn.never rfl (di_range1 (by rfl) m_range (da_cons (d_var (pe_var (i := 1) (by rfl) (by exact .inl rfl))) da_nil)) (dg_name (i := 4) sc__law_table.nd (by rfl) (by exact .inl rfl)) (dss_cons (ds_app (pe_var (i := 2) (by rfl) (by exact .inl rfl)) (d_op op_addD od_add (d_op op_addD od_add (d_op op_mulD od_mul (d_tup (da_cons (d_tup (da_cons d_int (da_cons d_int da_nil))) da_nil)) (d_var (pe_var (i := 4) (by rfl) (by exact .inl rfl)))) (d_tup (da_cons (d_tup (da_cons d_int (da_cons d_int da_nil))) da_nil))) (d_callU h__law_line hr (by decide) (by rfl) (pe_var (i := 0) (by rfl) (by exact .inl rfl)) (da_cons (d_op op_subD od_sub (d_op op_subD od_sub (d_var (pe_var (i := 1) (by rfl) (by exact .inl rfl))) d_int) (d_var (pe_var (i := 4) (by rfl) (by exact .inl rfl)))) da_nil) (hl := (fCons_len fNil_len))))) (dss_one (ds_app (pe_var (i := 3) (by rfl) (by exact .inl rfl)) (d_call h__law_frac hr (by decide) (by rfl) (da_cons (d_op op_addD od_add d_int (d_callU h__law_take hr (by decide) (by rfl) (pe_var (i := 0) (by rfl) (by exact .inl rfl)) (da_cons d_int da_nil) (hl := (fCons_len fNil_len)))) (da_cons (d_op op_addD od_add d_int (d_callU h__law_take hr (by decide) (by rfl) (pe_var (i := 0) (by rfl) (by exact .inl rfl)) (da_cons d_int da_nil) (hl := (fCons_len fNil_len)))) da_nil)) (hl := (fCons_len (fCons_len fNil_len)))))))) (dss_one (ds_ret (d_call h__law_of_squares hr (by decide) (by rfl) (da_cons (d_var (pe_var (i := 3) (by rfl) (by exact .inl rfl))) (da_cons (d_var (pe_var (i := 2) (by rfl) (by exact .inl rfl))) da_nil)) (hl := (fCons_len (fCons_len fNil_len)))))))))
theorem ok__law_table {P : Program} {w : World} {K : PySem.W.Frag} {mg : Str → Option Value} {base : Heap} (KX : K.In base) (G : base.Ns mainGlobals mg) (c : SaysY SAY K) (hT : P.given.tree = none) : Has P w K mg base 37 "_law_table" (spU K 2 m__law_table) := by
  obtain ⟨fd, F⟩ := c.1.def_ 58 (d := d__law_table) rfl
  exact ⟨_, fd, ["urn", "size"], okF__law_table KX G c hT F, He.glo_ok KX G (c.1.fact 58), F.kp, F.bindsN fun _ _ _ _ _ _ us hl => match us, hl with | [_, _], _ => rfl⟩
def c__law_size (m__law_take : List D → List D → Option (D × List D)) : SFn := (fRet (fBin gIx (fTup (fCons (fC (.int 2)) (fCons (fC (.int 2)) (fCons (fC (.int 3)) (fCons (fC (.int 1)) (fCons (fC (.int 2)) (fCons (fC (.int 3)) (fCons (fC (.int 2)) (fCons (fC (.int 4)) (fCons (fC (.int 2)) (fCons (fC (.int 3)) fNil))))))))))) (fCallU 0 m__law_take (fCons (fC (.int 10)) fNil))))
def b__law_size : SFn := c__law_size m__law_take
def m__law_size : List D → List D → Option (D × List D) := outU 1 b__law_size
theorem okF__law_size {P : Program} {w : World} {K : PySem.W.Frag} {mg : Str → Option Value} {base : Heap} (KX : K.In base) (G : base.Ns mainGlobals mg) (c : SaysY SAY K) (hT : P.given.tree = none) {fd : FuncData} (F : FunD K "_law_size" "_law_size" (defArgs (top 75)) (defBody (top 75)) (defScope (top 75)) [] [] (He.fAd K d__law_size.at_) fd) : FnOk P w K mg base CX0 34 (He.fAd K d__law_size.at_) fd ["urn"] (spU K 1 m__law_size) := by
  have h__law_take := ok__law_take (P := P) (w := w) KX G c hT
  exact fn_io (x := "_law_size") (st := top 75) (N := N__law_size) (ps := ["urn"]) (own := []) (b := b__law_size) (k := 33) F sc__law_size (by decide) (fun cdv A outer s H E W0 a hr =>
    (dss_one (ds_ret (d_ix (d_tup (da_cons d_int (da_cons d_int (da_cons d_int (da_cons d_int (da_cons d_int (da_cons d_int (da_cons d_int (da_cons d_int (da_cons d_int (da_cons d_int da_nil))))))))))) (d_callU h__law_take hr (by decide) (by rfl) (pe_var (i := 0) (by rfl) (by exact .inl rfl)) (da_cons d_int da_nil) (hl := (fCons_len fNil_len)))))))
theorem ok__law_size {P : Program} {w : World} {K : PySem.W.Frag} {mg : Str → Option Value} {base : Heap} (KX : K.In base) (G : base.Ns mainGlobals mg) (c : SaysY SAY K) (hT : P.given.tree = none) : Has P w K mg base 34 "_law_size" (spU K 1 m__law_size) := by
  obtain ⟨fd, F⟩ := c.1.def_ 59 (d := d__law_size) rfl
  exact ⟨_, fd, ["urn"], okF__law_size KX G c hT F, He.glo_ok KX G (c.1.fact 59), F.kp, F.bindsN fun _ _ _ _ _ _ us hl => match us, hl with | [_], _ => rfl⟩
def c__law_same  (rec : List D → Option D) : SFn := (fSeq (fIfS (fB (fIsi isTup (fVar 1))) (fRet (fAndV (fIsi isTup (fVar 0)) (fAndV (fBin gEq (fCall gLen (fCons (fVar 0) fNil)) (fCall gLen (fCons (fVar 1) fNil))) (fCall gAll (fCons (fOfL (fComp (fZip (fCons (fVar 0) (fCons (fVar 1) fNil))) (gTp 2 (gsCons (gNm 2) (gsCons (gNm 3) gsNil))) fYes (fCall rec (fCons (fVar 2) (fCons (fVar 3) fNil))) [2, 3])) fNil))))) fSkip)
    (fSeq (fIfS (fOrT (fB (fBin gIs (fVar 1) (fC .non))) (fB (fIsi isBool (fVar 1)))) (fRet (fIf (fB (fBin gIs (fVar 1) (fC .non))) (fBin gIs (fVar 0) (fC .non)) (fAndV (fIsi isBool (fVar 0)) (fBin gEq (fVar 0) (fVar 1))))) fSkip)
    (fRet (fAndV (fIsi isInt (fVar 0)) (fAndV (fNotV (fIsi isBool (fVar 0))) (fBin gEq (fVar 0) (fVar 1)))))))
def b__law_same (rec : List D → Option D) : SFn := c__law_same  rec
def mr__law_same : Nat → List D → Option D
  | 0 => fun _ => none
  | n + 1 => outP false 4 (b__law_same (mr__law_same n))
def m__law_same : List D → Option D := mr__law_same 16
theorem okr__law_same {P : Program} {w : World} {K : PySem.W.Frag} {mg : Str → Option Value} {base : Heap} (KX : K.In base) (G : base.Ns mainGlobals mg) (c : SaysY SAY K) (hT : P.given.tree = none) : ∀ n : Nat, Has P w K mg base (1 + n) "_law_same" (spP K 2 false (mr__law_same n))
  | 0 => by
    obtain ⟨fd, F⟩ := c.1.def_ 60 (d := d__law_same) rfl
    exact ⟨_, fd, ["told", "due"], fn_noneP (k := 0) (x := "_law_same") (st := top 76) F sc__law_same, He.glo_ok KX G (c.1.fact 60), F.kp, F.bindsN fun _ _ _ _ _ _ us hl => match us, hl with | [_, _], _ => rfl⟩
  | n + 1 => by
    have h__law_same := okr__law_same (P := P) (w := w) KX G c hT n
    have m_isinstance : mg "isinstance" = none := He.free_ok KX G (c.1.fact 68)
    have m_tuple : mg "tuple" = none := He.free_ok KX G (c.1.fact 71)
    have m_len : mg "len" = none := He.free_ok KX G (c.1.fact 72)
    have m_all : mg "all" = none := He.free_ok KX G (c.1.fact 73)
    have m_zip : mg "zip" = none := He.free_ok KX G (c.1.fact 75)
    have m_bool : mg "bool" = none := He.free_ok KX G (c.1.fact 70)
    have m_int : mg "int" = none := He.free_ok KX G (c.1.fact 69)
    obtain ⟨fd, F⟩ := c.1.def_ 60 (d := d__law_same) rfl
    exact ⟨_, fd, ["told", "due"], fn_pure (x := "_law_same") (st := top 76) (N := N__law_same) (ps := ["told", "due"]) (own := []) (fresh := false) (b := (b__law_same (mr__law_same n))) (k := 1 + n) F sc__law_same (by decide) (fun cdv A outer s H E W0 hr =>
    (dss_cons (ds_if (dt_val (d_isi kit_tup (by rfl) m_isinstance bt_isinstance (d_var (pe_var (i := 1) (by rfl) (by exact .inl rfl))) (pe_bltn (v := .ty "tuple") (by rfl) m_tuple bt_tuple rfl))) (dss_one (ds_ret (de_and (d_isi kit_tup (by rfl) m_isinstance bt_isinstance (d_var (pe_var (i := 0) (by rfl) (by exact .inl rfl))) (pe_bltn (v := .ty "tuple") (by rfl) m_tuple bt_tuple rfl)) (de_and (d_cmp (op_eqD hr.units) od_eq (d_callB call_len_seq cd_len (by rfl) m_len bt_len (da_cons (d_var (pe_var (i := 0) (by rfl) (by exact .inl rfl))) da_nil)) (d_callB call_len_seq cd_len (by rfl) m_len bt_len (da_cons (d_var (pe_var (i := 1) (by rfl) (by exact .inl rfl))) da_nil)) (hm := nomark _)) (de_one (d_callB (cr_all rfl) cd_all (by rfl) m_all bt_all (da_cons (d_ofL (l_comp rfl sc__law_same.nd (di_zip (by rfl) m_zip (da_cons (d_var (pe_var (i := 0) (by rfl) (by exact .inl rfl))) (da_cons (d_var (pe_var (i := 1) (by rfl) (by exact .inl rfl))) da_nil))) (blkOk_by (N := N__law_same) (sc := (defScope (top 76))) (scope := ({ kind := PySem.ScopeKind.function, names := [(PySem.Str.ofString ".0", PySem.NameKind.local), (PySem.Str.ofString "x", PySem.NameKind.local), (PySem.Str.ofString "y", PySem.NameKind.local), (PySem.Str.ofString "_law_same", PySem.NameKind.globalImplicit)], isGenerator := false, isCoroutine := false, more := [] } : PySem.Scope)) (own := [("x", 2), ("y", 3)]) (by decide +kernel)) (fun _ _ _ _ _ _ => (dg_tup rfl (dg_cons (dg_name (i := 2) sc__law_same.nd (by rfl) (by exact .inl rfl)) (dg_cons (dg_name (i := 3) sc__law_same.nd (by rfl) (by exact .inl rfl)) dg_nil)))) (fun _ _ _ _ _ _ => dts_nil) (fun _ _ _ _ _ _ => (d_call h__law_same hr (by omega) (by rfl) (da_cons (d_var (pe_var (i := 2) (by rfl) (by exact .inl rfl))) (da_cons (d_var (pe_var (i := 3) (by rfl) (by exact .inl rfl))) da_nil)) (hl := (fCons_len (fCons_len fNil_len))))))) da_nil))))))) dss_nil) (dss_cons (ds_if (dw_or (dt_cmp op_isD od_is (d_var (pe_var (i := 1) (by rfl) (by exact .inl rfl))) d_non (hm := nomark _)) (dw_or1 (dt_val (d_isi kit_bool (by rfl) m_isinstance bt_isinstance (d_var (pe_var (i := 1) (by rfl) (by exact .inl rfl))) (pe_bltn (v := .ty "bool") (by rfl) m_bool bt_bool rfl))))).pt (dss_one (ds_ret (de_if (dt_cmp op_isD od_is (d_var (pe_var (i := 1) (by rfl) (by exact .inl rfl))) d_non (hm := nomark _)) (d_cmp op_isD od_is (d_var (pe_var (i := 0) (by rfl) (by exact .inl rfl))) d_non (hm := nomark _)) (de_and (d_isi kit_bool (by rfl) m_isinstance bt_isinstance (d_var (pe_var (i := 0) (by rfl) (by exact .inl rfl))) (pe_bltn (v := .ty "bool") (by rfl) m_bool bt_bool rfl)) (de_one (d_cmp (op_eqD hr.units) od_eq (d_var (pe_var (i := 0) (by rfl) (by exact .inl rfl))) (d_var (pe_var (i := 1) (by rfl) (by exact .inl rfl))) (hm := nomark _))))))) dss_nil) (dss_one (ds_ret (de_and (d_isi kit_int (by rfl) m_isinstance bt_isinstance (d_var (pe_var (i := 0) (by rfl) (by exact .inl rfl))) (pe_bltn (v := .ty "int") (by rfl) m_int bt_int rfl)) (de_and (de_not (d_isi kit_bool (by rfl) m_isinstance bt_isinstance (d_var (pe_var (i := 0) (by rfl) (by exact .inl rfl))) (pe_bltn (v := .ty "bool") (by rfl) m_bool bt_bool rfl))) (de_one (d_cmp (op_eqD hr.units) od_eq (d_var (pe_var (i := 0) (by rfl) (by exact .inl rfl))) (d_var (pe_var (i := 1) (by rfl) (by exact .inl rfl))) (hm := nomark _)))))))))), He.glo_ok KX G (c.1.fact 60), F.kp, F.bindsN fun _ _ _ _ _ _ us hl => match us, hl with | [_, _], _ => rfl⟩
theorem ok__law_same {P : Program} {w : World} {K : PySem.W.Frag} {mg : Str → Option Value} {base : Heap} (KX : K.In base) (G : base.Ns mainGlobals mg) (c : SaysY SAY K) (hT : P.given.tree = none) : Has P w K mg base 17 "_law_same" (spP K 2 false m__law_same) := okr__law_same KX G c hT 16
def c__law_odd (m__law_pick : List D → List D → Option (D × List D)) : SFn := (fRet (fCallU 0 m__law_pick (fCons (fTup (fCons (fC .non) (fCons (fC (.bl true)) (fCons (fC (.bl false)) (fCons (fC (.int 0)) (fCons (fC (.int 1)) (fCons (fUn gNeg (fC (.int 1))) (fCons (fC (.int 2)) (fCons (fBin gPow (fC (.int 10)) (fC (.int 30))) (fCons (fC (.str (PySem.Str.ofString ""))) (fCons (fC (.str (PySem.Str.ofString "1"))) (fCons (fC (.str (PySem.Str.ofString "(1, 1)"))) (fCons (fTup fNil) (fCons (fTup (fCons (fC (.int 1)) fNil)) (fCons (fTup (fCons (fC (.int 1)) (fCons (fC (.int 1)) fNil))) (fCons (fTup (fCons (fC (.int 0)) (fCons (fC (.int 1)) fNil))) (fCons (fTup (fCons (fC (.int 2)) (fCons (fC (.int 2)) fNil))) (fCons (fTup (fCons (fC (.int 0)) (fCons (fC (.int 2)) fNil))) (fCons (fTup (fCons (fC (.int 1)) (fCons (fC (.int 0)) fNil))) (fCons (fTup (fCons (fC (.int 1)) (fCons (fUn gNeg (fC (.int 1))) fNil))) (fCons (fTup (fCons (fC (.bl true)) (fCons (fC (.int 1)) fNil))) (fCons (fTup (fCons (fC (.int 1)) (fCons (fC (.bl true)) fNil))) (fCons (fTup (fCons (fC (.int 1)) (fCons (fC (.int 1)) (fCons (fC (.int 1)) fNil)))) (fCons (fTup (fCons (fTup (fCons (fC (.int 1)) (fCons (fC (.int 1)) fNil))) fNil)) (fCons (fTup (fCons (fTup (fCons (fTup (fCons (fC (.int 1)) (fCons (fC (.int 1)) fNil))) fNil)) fNil)) (fCons (fOfL (fLst fNil)) (fCons (fOfL (fLst (fCons (fC (.int 1)) (fCons (fC (.int 1)) fNil)))) (fCons (fOfL (fLst (fCons (fTup (fCons (fC (.int 1)) (fCons (fC (.int 1)) fNil))) fNil))) (fCons (fC .dct) (fCons (fTup (fCons (fC .non) (fCons (fC (.int 1)) fNil))) (fCons (fTup (fCons (fC (.str (PySem.Str.ofString "1"))) (fCons (fC (.int 1)) fNil))) (fCons (fTup (fCons (fTup (fCons (fC (.int 1)) (fCons (fC (.int 1)) fNil))) (fCons (fC (.int 1)) fNil))) fNil)))))))))))))))))))))))))))))))) fNil)))
def b__law_odd : SFn := c__law_odd m__law_pick
def m__law_odd : List D → List D → Option (D × List D) := outU 1 b__law_odd
theorem okF__law_odd {P : Program} {w : World} {K : PySem.W.Frag} {mg : Str → Option Value} {base : Heap} (KX : K.In base) (G : base.Ns mainGlobals mg) (c : SaysY SAY K) (hT : P.given.tree = none) {fd : FuncData} (F : FunD K "_law_odd" "_law_odd" (defArgs (top 77)) (defBody (top 77)) (defScope (top 77)) [] [] (He.fAd K d__law_odd.at_) fd) : FnOk P w K mg base CX0 35 (He.fAd K d__law_odd.at_) fd ["urn"] (spU K 1 m__law_odd) := by
  have h__law_pick := ok__law_pick (P := P) (w := w) KX G c hT
  exact fn_io (x := "_law_odd") (st := top 77) (N := N__law_odd) (ps := ["urn"]) (own := []) (b := b__law_odd) (k := 34) F sc__law_odd (by decide) (fun cdv A outer s H E W0 a hr =>
    (dss_one (ds_ret (d_callU h__law_pick hr (by decide) (by rfl) (pe_var (i := 0) (by rfl) (by exact .inl rfl)) (da_cons (d_tup (da_cons d_non (da_cons d_bl (da_cons d_bl (da_cons d_int (da_cons d_int (da_cons (d_neg d_int) (da_cons d_int (da_cons (d_op op_pow od_pow d_int d_int) (da_cons d_str (da_cons d_str (da_cons d_str (da_cons (d_tup da_nil) (da_cons (d_tup (da_cons d_int da_nil)) (da_cons (d_tup (da_cons d_int (da_cons d_int da_nil))) (da_cons (d_tup (da_cons d_int (da_cons d_int da_nil))) (da_cons (d_tup (da_cons d_int (da_cons d_int da_nil))) (da_cons (d_tup (da_cons d_int (da_cons d_int da_nil))) (da_cons (d_tup (da_cons d_int (da_cons d_int da_nil))) (da_cons (d_tup (da_cons d_int (da_cons (d_neg d_int) da_nil))) (da_cons (d_tup (da_cons d_bl (da_cons d_int da_nil))) (da_cons (d_tup (da_cons d_int (da_cons d_bl da_nil))) (da_cons (d_tup (da_cons d_int (da_cons d_int (da_cons d_int da_nil)))) (da_cons (d_tup (da_cons (d_tup (da_cons d_int (da_cons d_int da_nil))) da_nil)) (da_cons (d_tup (da_cons (d_tup (da_cons (d_tup (da_cons d_int (da_cons d_int da_nil))) da_nil)) da_nil)) (da_cons (d_ofL (l_lst da_nil)) (da_cons (d_ofL (l_lst (da_cons d_int (da_cons d_int da_nil)))) (da_cons (d_ofL (l_lst (da_cons (d_tup (da_cons d_int (da_cons d_int da_nil))) da_nil))) (da_cons d_dict0 (da_cons (d_tup (da_cons d_non (da_cons d_int da_nil))) (da_cons (d_tup (da_cons d_str (da_cons d_int da_nil))) (da_cons (d_tup (da_cons (d_tup (da_cons d_int (da_cons d_int da_nil))) (da_cons d_int da_nil))) da_nil)))))))))))))))))))))))))))))))) da_nil) (hl := (fCons_len fNil_len))))))
theorem ok__law_odd {P : Program} {w : World} {K : PySem.W.Frag} {mg : Str → Option Value} {base : Heap} (KX : K.In base) (G : base.Ns mainGlobals mg) (c : SaysY SAY K) (hT : P.given.tree = none) : Has P w K mg base 35 "_law_odd" (spU K 1 m__law_odd) := by
  obtain ⟨fd, F⟩ := c.1.def_ 61 (d := d__law_odd) rfl
  exact ⟨_, fd, ["urn"], okF__law_odd KX G c hT F, He.glo_ok KX G (c.1.fact 61), F.kp, F.bindsN fun _ _ _ _ _ _ us hl => match us, hl with | [_], _ => rfl⟩
def c__law_bent (m__law_take : List D → List D → Option (D × List D)) (m__law_odd : List D → List D → Option (D × List D)) (rec : List D → List D → Option (D × List D)) : SFn := (fSeq (fIfS (fAndT (fB (fIsi isTup (fVar 1))) (fAndT (fB (fBin gNe (fVar 1) (fTup fNil))) (fB (fBin gGt (fCallU 0 m__law_take (fCons (fC (.int 4)) fNil)) (fC (.int 0)))))) (fSeq (fSet 2 (fCallU 0 m__law_take (fCons (fCall gLen (fCons (fVar 1) fNil)) fNil)))
    (fRet (fBin gAdd (fBin gAdd (fSl (fVar 1) fNoP (fP (fVar 2))) (fTup (fCons (fCallU 0 rec (fCons (fBin gIx (fVar 1) (fVar 2)) fNil)) fNil))) (fSl (fVar 1) (fP (fBin gAdd (fVar 2) (fC (.int 1)))) fNoP)))) fSkip)
    (fSeq (fSet 3 (fCallU 0 m__law_take (fCons (fC (.int 8)) fNil)))
    (fSeq (fIfS (fAndT (fB (fIsi isTup (fVar 1))) (fB (fBin gLt (fVar 3) (fC (.int 5))))) (fRet (fBin gIx (fTup (fCons (fCall gList (fCons (fVar 1) fNil)) (fCons (fSl (fVar 1) fNoP (fP (fUn gNeg (fC (.int 1))))) (fCons (fBin gAdd (fVar 1) (fSl (fVar 1) fNoP (fP (fC (.int 1))))) (fCons (fUn gRev (fVar 1)) (fCons (fSl (fVar 1) (fP (fC (.int 1))) fNoP) fNil)))))) (fVar 3))) fSkip)
    (fSeq (fIfS (fAndT (fB (fIsi isInt (fVar 1))) (fB (fBin gLt (fVar 3) (fC (.int 4))))) (fRet (fBin gIx (fTup (fCons (fBin gAdd (fVar 1) (fC (.int 1))) (fCons (fBin gSub (fC (.int 0)) (fVar 1)) (fCons (fBin gMul (fC (.int 2)) (fVar 1)) (fCons (fBin gSub (fVar 1) (fC (.int 3))) fNil))))) (fVar 3))) fSkip)
    (fRet (fCallU 0 m__law_odd fNil))))))
def b__law_bent (rec : List D → List D → Option (D × List D)) : SFn := c__law_bent m__law_take m__law_odd rec
def mr__law_bent : Nat → List D → List D → Option (D × List D)
  | 0 => fun _ _ => none
  | n + 1 => outU 4 (b__law_bent (mr__law_bent n))
def m__law_bent : List D → List D → Option (D × List D) := mr__law_bent 16
theorem okr__law_bent {P : Program} {w : World} {K : PySem.W.Frag} {mg : Str → Option Value} {base : Heap} (KX : K.In base) (G : base.Ns mainGlobals mg) (c : SaysY SAY K) (hT : P.given.tree = none) : ∀ n : Nat, Has P w K mg base (36 + n) "_law_bent" (spU K 2 (mr__law_bent n))
  | 0 => by
    obtain ⟨fd, F⟩ := c.1.def_ 62 (d := d__law_bent) rfl
    exact ⟨_, fd, ["urn", "thing"], fn_noneU (k := 35) (x := "_law_bent") (st := top 78) F sc__law_bent, He.glo_ok KX G (c.1.fact 62), F.kp, F.bindsN fun _ _ _ _ _ _ us hl => match us, hl with | [_, _], _ => rfl⟩
  | n + 1 => by
    have h__law_bent := okr__law_bent (P := P) (w := w) KX G c hT n
    have m_isinstance : mg "isinstance" = none := He.free_ok KX G (c.1.fact 68)
    have m_tuple : mg "tuple" = none := He.free_ok KX G (c.1.fact 71)
    have m_len : mg "len" = none := He.free_ok KX G (c.1.fact 72)
    have m_list : mg "list" = none := He.free_ok KX G (c.1.fact 79)
    have m_int : mg "int" = none := He.free_ok KX G (c.1.fact 69)
    have h__law_odd := ok__law_odd (P := P) (w := w) KX G c hT
    have h__law_take := ok__law_take (P := P) (w := w) KX G c hT
    obtain ⟨fd, F⟩ := c.1.def_ 62 (d := d__law_bent) rfl
    exact ⟨_, fd, ["urn", "thing"], fn_io (x := "_law_bent") (st := top 78) (N := N__law_bent) (ps := ["urn", "thing"]) (own := []) (b := (b__law_bent (mr__law_bent n))) (k := 36 + n) F sc__law_bent (by decide) (fun cdv A outer s H E W0 a hr =>
    (dss_cons (ds_if (dw_and (dt_val (d_isi kit_tup (by rfl) m_isinstance bt_isinstance (d_var (pe_var (i := 1) (by rfl) (by exact .inl rfl))) (pe_bltn (v := .ty "tuple") (by rfl) m_tuple bt_tuple rfl))) (dw_and (dt_cmp (op_neX hr.units) od_ne (d_var (pe_var (i := 1) (by rfl) (by exact .inl rfl))) (d_tup da_nil) (hm := nomark _)) (dw_and1 (dt_cmp op_gt od_gt (d_callU h__law_take hr (by omega) (by rfl) (pe_var (i := 0) (by rfl) (by exact .inl rfl)) (da_cons d_int da_nil) (hl := (fCons_len fNil_len))) d_int (hm := nomark _))))).pt (dss_cons (ds_set (i := 2) sc__law_bent.nd (by rfl) (by exact .inl rfl) (d_callU h__law_take hr (by omega) (by rfl) (pe_var (i := 0) (by rfl) (by exact .inl rfl)) (da_cons (d_callB call_len_seq cd_len (by rfl) m_len bt_len (da_cons (d_var (pe_var (i := 1) (by rfl) (by exact .inl rfl))) da_nil)) da_nil) (hl := (fCons_len fNil_len)))) (dss_one (ds_ret (d_op op_addD od_add (d_op op_addD od_add (d_slice (d_var (pe_var (i := 1) (by rfl) (by exact .inl rfl))) do_none (do_some (d_var (pe_var (i := 2) (by rfl) (by exact .inl rfl))))) (d_tup (da_cons (d_callU h__law_bent hr (by omega) (by rfl) (pe_var (i := 0) (by rfl) (by exact .inl rfl)) (da_cons (d_ix (d_var (pe_var (i := 1) (by rfl) (by exact .inl rfl))) (d_var (pe_var (i := 2) (by rfl) (by exact .inl rfl)))) da_nil) (hl := (fCons_len fNil_len))) da_nil))) (d_slice (d_var (pe_var (i := 1) (by rfl) (by exact .inl rfl))) (do_some (d_op op_addD od_add (d_var (pe_var (i := 2) (by rfl) (by exact .inl rfl))) d_int)) do_none))))) dss_nil) (dss_cons (ds_set (i := 3) sc__law_bent.nd (by rfl) (by exact .inl rfl) (d_callU h__law_take hr (by omega) (by rfl) (pe_var (i := 0) (by rfl) (by exact .inl rfl)) (da_cons d_int da_nil) (hl := (fCons_len fNil_len)))) (dss_cons (ds_if (dw_and (dt_val (d_isi kit_tup (by rfl) m_isinstance bt_isinstance (d_var (pe_var (i := 1) (by rfl) (by exact .inl rfl))) (pe_bltn (v := .ty "tuple") (by rfl) m_tuple bt_tuple rfl))) (dw_and1 (dt_cmp op_lt od_lt (d_var (pe_var (i := 3) (by rfl) (by exact .inl rfl))) d_int (hm := nomark _)))).pt (dss_one (ds_ret (d_ix (d_tup (da_cons (d_callTy call_list_of cd_list (by rfl) m_list bt_list (da_cons (d_var (pe_var (i := 1) (by rfl) (by exact .inl rfl))) da_nil)) (da_cons (d_slice (d_var (pe_var (i := 1) (by rfl) (by exact .inl rfl))) do_none (do_some (d_neg d_int))) (da_cons (d_op op_addD od_add (d_var (pe_var (i := 1) (by rfl) (by exact .inl rfl))) (d_slice (d_var (pe_var (i := 1) (by rfl) (by exact .inl rfl))) do_none (do_some d_int))) (da_cons (d_rev (d_var (pe_var (i := 1) (by rfl) (by exact .inl rfl)))) (da_cons (d_slice (d_var (pe_var (i := 1) (by rfl) (by exact .inl rfl))) (do_some d_int) do_none) da_nil)))))) (d_var (pe_var (i := 3) (by rfl) (by exact .inl rfl)))))) dss_nil) (dss_cons (ds_if (dw_and (dt_val (d_isi kit_int (by rfl) m_isinstance bt_isinstance (d_var (pe_var (i := 1) (by rfl) (by exact .inl rfl))) (pe_bltn (v := .ty "int") (by rfl) m_int bt_int rfl))) (dw_and1 (dt_cmp op_lt od_lt (d_var (pe_var (i := 3) (by rfl) (by exact .inl rfl))) d_int (hm := nomark _)))).pt (dss_one (ds_ret (d_ix (d_tup (da_cons (d_op op_addD od_add (d_var (pe_var (i := 1) (by rfl) (by exact .inl rfl))) d_int) (da_cons (d_op op_subD od_sub d_int (d_var (pe_var (i := 1) (by rfl) (by exact .inl rfl)))) (da_cons (d_op op_mulD od_mul d_int (d_var (pe_var (i := 1) (by rfl) (by exact .inl rfl)))) (da_cons (d_op op_subD od_sub (d_var (pe_var (i := 1) (by rfl) (by exact .inl rfl))) d_int) da_nil))))) (d_var (pe_var (i := 3) (by rfl) (by exact .inl rfl)))))) dss_nil) (dss_one (ds_ret (d_callU h__law_odd hr (by omega) (by rfl) (pe_var (i := 0) (by rfl) (by exact .inl rfl)) da_nil (hl := fNil_len))))))))), He.glo_ok KX G (c.1.fact 62), F.kp, F.bindsN fun _ _ _ _ _ _ us hl => match us, hl with | [_, _], _ => rfl⟩
theorem ok__law_bent {P : Program} {w : World} {K : PySem.W.Frag} {mg : Str → Option Value} {base : Heap} (KX : K.In base) (G : base.Ns mainGlobals mg) (c : SaysY SAY K) (hT : P.given.tree = none) : Has P w K mg base 52 "_law_bent" (spU K 2 m__law_bent) := okr__law_bent KX G c hT 16
def c__law_form (m__law_take : List D → List D → Option (D × List D)) (m__law_line : List D → List D → Option (D × List D)) (m__law_number : List D → List D → Option (D × List D)) (m__law_of_squares : List D → Option D) : SFn := (fSeq (fIfS (fB (fBin gEq (fCallU 0 m__law_take (fCons (fC (.int 3)) fNil)) (fC (.int 0)))) (fSeq (fSetL 2 (fLst fNil))
    (fSeq (fFor (fRng1 (fCons (fVar 1) fNil)) (gNm 3) (fApp 2 (fBin gAdd (fOfL (fComp (fItems (fVar 2)) (gNm 7) fYes (fBin gIx (fVar 7) (fVar 3)) [7])) (fCall gList (fCons (fCallU 0 m__law_line (fCons (fBin gSub (fVar 1) (fVar 3)) fNil)) fNil)))))
    (fRet (fCall gTuple (fCons (fOfL (fComp (fItems (fVar 2)) (gNm 7) fYes (fCall gTuple (fCons (fVar 7) fNil)) [7])) fNil))))) fSkip)
    (fSeq (fPar 4 5 (fCons (fOfL (fLst fNil)) (fCons (fOfL (fLst fNil)) fNil)))
    (fSeq (fFor (fRng1 (fCons (fBin gAdd (fC (.int 1)) (fCallU 0 m__law_take (fCons (fVar 1) fNil))) fNil)) (gNm 6) (fSeq (fApp 4 (fCallU 0 m__law_number fNil))
    (fApp 5 (fCallU 0 m__law_line (fCons (fVar 1) fNil)))))
    (fRet (fCall m__law_of_squares (fCons (fVar 4) (fCons (fVar 5) fNil)))))))
def b__law_form : SFn := c__law_form m__law_take m__law_line m__law_number m__law_of_squares
def m__law_form : List D → List D → Option (D × List D) := outU 8 b__law_form
theorem okF__law_form {P : Program} {w : World} {K : PySem.W.Frag} {mg : Str → Option Value} {base : Heap} (KX : K.In base) (G : base.Ns mainGlobals mg) (c : SaysY SAY K) (hT : P.given.tree = none) {fd : FuncData} (F : FunD K "_law_form" "_law_form" (defArgs (top 79)) (defBody (top 79)) (defScope (top 79)) [] [] (He.fAd K d__law_form.at_) fd) : FnOk P w K mg base CX0 37 (He.fAd K d__law_form.at_) fd ["urn", "size"] (spU K 2 m__law_form) := by
  have m_range : mg "range" = none := He.free_ok KX G (c.1.fact 76)
  have m_list : mg "list" = none := He.free_ok KX G (c.1.fact 79)
  have m_tuple : mg "tuple" = none := He.free_ok KX G (c.1.fact 71)
  have h__law_line := ok__law_line (P := P) (w := w) KX G c hT
  have h__law_number := ok__law_number (P := P) (w := w) KX G c hT
  have h__law_of_squares := ok__law_of_squares (P := P) (w := w) KX G c hT
  have h__law_take := ok__law_take (P := P) (w := w) KX G c hT
  exact fn_io (x := "_law_form") (st := top 79) (N := N__law_form) (ps := ["urn", "size"]) (own := [2, 4, 5]) (b := b__law_form) (k := 36) F sc__law_form (by decide) (fun cdv A outer s H E W0 a hr =>
    (dss_cons (ds_if (dt_cmp (op_eqD hr.units) od_eq (d_callU h__law_take hr (by decide) (by rfl) (pe_var (i := 0) (by rfl) (by exact .inl rfl)) (da_cons d_int da_nil) (hl := (fCons_len fNil_len))) d_int (hm := nomark _)) (dss_cons (ds_setL (i := 2) sc__law_form.nd (by rfl) (by exact .inl rfl) (l_lst da_nil)) (dss_cons (ds_for PassesOwn.never rfl (di_range1 (by rfl) m_range (da_cons (d_var (pe_var (i := 1) (by rfl) (by exact .inl rfl))) da_nil)) (dg_name (i := 3) sc__law_form.nd (by rfl) (by exact .inr rfl)) (dss_one (ds_app (pe_var (i := 2) (by rfl) (by exact .inl rfl)) (d_op op_addD od_add (d_ofL (l_comp rfl sc__law_form.nd (di_seq (d_view (pe_var (i := 2) (by rfl) (by exact .inl rfl)))) (blkOk_by (N := N__law_form) (sc := (defScope (top 79))) (scope := ({ kind := PySem.ScopeKind.function, names := [(PySem.Str.ofString ".0", PySem.NameKind.local), (PySem.Str.ofString "line", PySem.NameKind.local), (PySem.Str.ofString "spot", PySem.NameKind.free)], isGenerator := false, isCoroutine := false, more := [] } : PySem.Scope)) (own := [("line", 7)]) (by decide +kernel)) (fun _ _ _ _ _ _ => (dg_name (i := 7) sc__law_form.nd (by rfl) (by exact .inl rfl))) (fun _ _ _ _ _ _ => dts_nil) (fun _ _ _ _ _ _ => (d_ix (d_var (pe_var (i := 7) (by rfl) (by exact .inl rfl))) (d_var (pe_var (i := 3) (by rfl) (by exact .inr (.inl rfl)))))))) (d_callTy call_list_of cd_list (by rfl) m_list bt_list (da_cons (d_callU h__law_line hr (by decide) (by rfl) (pe_var (i := 0) (by rfl) (by exact .inl rfl)) (da_cons (d_op op_subD od_sub (d_var (pe_var (i := 1) (by rfl) (by exact .inl rfl))) (d_var (pe_var (i := 3) (by rfl) (by exact .inr (.inl rfl))))) da_nil) (hl := (fCons_len fNil_len))) da_nil)))))) (dss_one (ds_ret (d_callTy call_tuple_of cd_tuple (by rfl) m_tuple bt_tuple (da_cons (d_ofL (l_comp rfl sc__law_form.nd (di_seq (d_var (pe_var (i := 2) (by rfl) (by exact .inl rfl)))) (blkOk_by (N := N__law_form) (sc := (defScope (top 79))) (scope := ({ kind := PySem.ScopeKind.function, names := [(PySem.Str.ofString ".0", PySem.NameKind.local), (PySem.Str.ofString "line", PySem.NameKind.local), (PySem.Str.ofString "tuple", PySem.NameKind.globalImplicit)], isGenerator := false, isCoroutine := false, more := [] } : PySem.Scope)) (own := [("line", 7)]) (by decide +kernel)) (fun _ _ _ _ _ _ => (dg_name (i := 7) sc__law_form.nd (by rfl) (by exact .inl rfl))) (fun _ _ _ _ _ _ => dts_nil) (fun _ _ _ _ _ _ => (d_callTy call_tuple_of cd_tuple (by rfl) m_tuple bt_tuple (da_cons (d_var (pe_var (i := 7) (by rfl) (by exact .inl rfl))) da_nil))))) da_nil)))))) dss_nil) (dss_cons (ds_m2 (i := 4) (j := 5) rfl sc__law_form.nd rfl rfl rfl rfl (dm_L (l_lst da_nil) fun _ => (dm_L (l_lst da_nil) fun _ => dm_nil)) rfl) (dss_cons (ds_for PassesOwn.never rfl (di_range1 (by rfl) m_range (da_cons (d_op op_addD od_add d_int (d_callU h__law_take hr (by decide) (by rfl) (pe_var (i := 0) (by rfl) (by exact .inl rfl)) (da_cons (d_var (pe_var (i := 1) (by rfl) (by exact .inl rfl))) da_nil) (hl := (fCons_len fNil_len)))) da_nil)) (dg_name (i := 6) sc__law_form.nd (by rfl) (by exact .inl rfl)) (dss_cons (ds_app (pe_var (i := 4) (by rfl) (by exact .inl rfl)) (d_callU h__law_number hr (by decide) (by rfl) (pe_var (i := 0) (by rfl) (by exact .inl rfl)) da_nil (hl := fNil_len))) (dss_one (ds_app (pe_var (i := 5) (by rfl) (by exact .inl rfl)) (d_callU h__law_line hr (by decide) (by rfl) (pe_var (i := 0) (by rfl) (by exact .inl rfl)) (da_cons (d_var (pe_var (i := 1) (by rfl) (by exact .inl rfl))) da_nil) (hl := (fCons_len fNil_len))))))) (dss_one (ds_ret (d_call h__law_of_squares hr (by decide) (by rfl) (da_cons (d_var (pe_var (i := 4) (by rfl) (by exact .inl rfl))) (da_cons (d_var (pe_var (i := 5) (by rfl) (by exact .inl rfl))) da_nil)) (hl := (fCons_len (fCons_len fNil_len))))))))))
theorem ok__law_form {P : Program} {w : World} {K : PySem.W.Frag} {mg : Str → Option Value} {base : Heap} (KX : K.In base) (G : base.Ns mainGlobals mg) (c : SaysY SAY K) (hT : P.given.tree = none) : Has P w K mg base 37 "_law_form" (spU K 2 m__law_form) := by
  obtain ⟨fd, F⟩ := c.1.def_ 63 (d := d__law_form) rfl
  exact ⟨_, fd, ["urn", "size"], okF__law_form KX G c hT F, He.glo_ok KX G (c.1.fact 63), F.kp, F.bindsN fun _ _ _ _ _ _ us hl => match us, hl with | [_, _], _ => rfl⟩
def c__law_square (m__law_line : List D → List D → Option (D × List D)) : SFn := (fSeq (fSetL 2 (fLst fNil))
    (fSeq (fFor (fRng1 (fCons (fVar 1) fNil)) (gNm 3) (fApp 2 (fCallU 0 m__law_line (fCons (fVar 1) fNil))))
    (fRet (fCall gTuple (fCons (fVar 2) fNil)))))
def b__law_square : SFn := c__law_square m__law_line
def m__law_square : List D → List D → Option (D × List D) := outU 4 b__law_square
theorem okF__law_square {P : Program} {w : World} {K : PySem.W.Frag} {mg : Str → Option Value} {base : Heap} (KX : K.In base) (G : base.Ns mainGlobals mg) (c : SaysY SAY K) (hT : P.given.tree = none) {fd : FuncData} (F : FunD K "_law_square" "_law_square" (defArgs (top 80)) (defBody (top 80)) (defScope (top 80)) [] [] (He.fAd K d__law_square.at_) fd) : FnOk P w K mg base CX0 36 (He.fAd K d__law_square.at_) fd ["urn", "size"] (spU K 2 m__law_square) := by
  have m_range : mg "range" = none := He.free_ok KX G (c.1.fact 76)
  have m_tuple : mg "tuple" = none := He.free_ok KX G (c.1.fact 71)
  have h__law_line := ok__law_line (P := P) (w := w) KX G c hT
  exact fn_io (x := "_law_square") (st := top 80) (N := N__law_square) (ps := ["urn", "size"]) (own := [2]) (b := b__law_square) (k := 35) F sc__law_square (by decide) (fun cdv A outer s H E W0 a hr =>
    (dss_cons (ds_setL (i := 2) sc__law_square.nd (by rfl) (by exact .inl rfl) (l_lst da_nil)) (dss_cons (ds_for PassesOwn.never rfl (di_range1 (by rfl) m_range (da_cons (d_var (pe_var (i := 1) (by rfl) (by exact .inl rfl))) da_nil)) (dg_name (i := 3) sc__law_square.nd (by rfl) (by exact .inl rfl)) (dss_one (ds_app (pe_var (i := 2) (by rfl) (by exact .inl rfl)) (d_callU h__law_line hr (by decide) (by rfl) (pe_var (i := 0) (by rfl) (by exact .inl rfl)) (da_cons (d_var (pe_var (i := 1) (by rfl) (by exact .inl rfl))) da_nil) (hl := (fCons_len fNil_len)))))) (dss_one (ds_ret (d_callTy call_tuple_of cd_tuple (by rfl) m_tuple bt_tuple (da_cons (d_var (pe_var (i := 2) (by rfl) (by exact .inl rfl))) da_nil)))))))
theorem ok__law_square {P : Program} {w : World} {K : PySem.W.Frag} {mg : Str → Option Value} {base : Heap} (KX : K.In base) (G : base.Ns mainGlobals mg) (c : SaysY SAY K) (hT : P.given.tree = none) : Has P w K mg base 36 "_law_square" (spU K 2 m__law_square) := by
  obtain ⟨fd, F⟩ := c.1.def_ 64 (d := d__law_square) rfl
  exact ⟨_, fd, ["urn", "size"], okF__law_square KX G c hT F, He.glo_ok KX G (c.1.fact 64), F.kp, F.bindsN fun _ _ _ _ _ _ us hl => match us, hl with | [_, _], _ => rfl⟩
def c__law_is_any_right (m__law_take : List D → List D → Option (D × List D)) (m__law_square : List D → List D → Option (D × List D)) (m__law_odd : List D → List D → Option (D × List D)) (m__law_bent : List D → List D → Option (D × List D)) (m__law_is_grid : List D → Option D) (m__law_same : List D → Option D) (m_is_table : List D → Option D) : SFn := (fSeq (fSet 1 (fIf (fB (fBin gGt (fCallU 0 m__law_take (fCons (fC (.int 8)) fNil)) (fC (.int 0)))) (fCallU 0 m__law_square (fCons (fBin gAdd (fC (.int 1)) (fCallU 0 m__law_take (fCons (fC (.int 6)) fNil))) fNil)) (fCallU 0 m__law_odd fNil)))
    (fSeq (fFor (fRng1 (fCons (fCallU 0 m__law_take (fCons (fC (.int 3)) fNil)) fNil)) (gNm 2) (fSet 1 (fCallU 0 m__law_bent (fCons (fVar 1) fNil))))
    (fSeq (fSet 3 (fAndV (fIsi isTup (fVar 1)) (fAndV (fChain gLt gLt (fC (.int 0)) (fCall gLen (fCons (fVar 1) fNil)) (fC (.int 6))) (fCall m__law_is_grid (fCons (fVar 1) (fCons (fCall gLen (fCons (fVar 1) fNil)) fNil))))))
    (fRet (fCall m__law_same (fCons (fTup (fCons (fCall m_is_table (fCons (fVar 1) fNil)) (fCons (fCallK [0] m_is_table (fCons (fVar 1) fNil)) fNil))) (fCons (fTup (fCons (fVar 3) (fCons (fVar 3) fNil))) fNil)))))))
def b__law_is_any_right : SFn := c__law_is_any_right m__law_take m__law_square m__law_odd m__law_bent m__law_is_grid m__law_same m_is_table
def m__law_is_any_right : List D → List D → Option (D × List D) := outU 4 b__law_is_any_right
theorem okF__law_is_any_right {P : Program} {w : World} {K : PySem.W.Frag} {mg : Str → Option Value} {base : Heap} (KX : K.In base) (G : base.Ns mainGlobals mg) (c : SaysY SAY K) (hT : P.given.tree = none) {fd : FuncData} (F : FunD K "_law_is_any_right" "_law_is_any_right" (defArgs (top 81)) (defBody (top 81)) (defScope (top 81)) [] [] (He.fAd K d__law_is_any_right.at_) fd) : FnOk P w K mg base CX0 53 (He.fAd K d__law_is_any_right.at_) fd ["urn"] (spU K 1 m__law_is_any_right) := by
  have m_range : mg "range" = none := He.free_ok KX G (c.1.fact 76)
  have m_isinstance : mg "isinstance" = none := He.free_ok KX G (c.1.fact 68)
  have m_tuple : mg "tuple" = none := He.free_ok KX G (c.1.fact 71)
  have m_len : mg "len" = none := He.free_ok KX G (c.1.fact 72)
  have h__law_bent := ok__law_bent (P := P) (w := w) KX G c hT
  have h__law_is_grid := ok__law_is_grid (P := P) (w := w) KX G c hT
  have h__law_odd := ok__law_odd (P := P) (w := w) KX G c hT
  have h__law_same := ok__law_same (P := P) (w := w) KX G c hT
  have h__law_square := ok__law_square (P := P) (w := w) KX G c hT
  have h__law_take := ok__law_take (P := P) (w := w) KX G c hT
  have h_is_table := ok_is_table (P := P) (w := w) KX G c hT
  have hk_is_table_value := okK_is_table_value (P := P) (w := w) KX G c hT
  exact fn_io (x := "_law_is_any_right") (st := top 81) (N := N__law_is_any_right) (ps := ["urn"]) (own := []) (b := b__law_is_any_right) (k := 52) F sc__law_is_any_right (by decide) (fun cdv A outer s H E W0 a hr =>
    (dss_cons (ds_set (i := 1) sc__law_is_any_right.nd (by rfl) (by exact .inl rfl) (de_if (dt_cmp op_gt od_gt (d_callU h__law_take hr (by decide) (by rfl) (pe_var (i := 0) (by rfl) (by exact .inl rfl)) (da_cons d_int da_nil) (hl := (fCons_len fNil_len))) d_int (hm := nomark _)) (d_callU h__law_square hr (by decide) (by rfl) (pe_var (i := 0) (by rfl) (by exact .inl rfl)) (da_cons (d_op op_addD od_add d_int (d_callU h__law_take hr (by decide) (by rfl) (pe_var (i := 0) (by rfl) (by exact .inl rfl)) (da_cons d_int da_nil) (hl := (fCons_len fNil_len)))) da_nil) (hl := (fCons_len fNil_len))) (d_callU h__law_odd hr (by decide) (by rfl) (pe_var (i := 0) (by rfl) (by exact .inl rfl)) da_nil (hl := fNil_len)))) (dss_cons (ds_for PassesOwn.never rfl (di_range1 (by rfl) m_range (da_cons (d_callU h__law_take hr (by decide) (by rfl) (pe_var (i := 0) (by rfl) (by exact .inl rfl)) (da_cons d_int da_nil) (hl := (fCons_len fNil_len))) da_nil)) (dg_name (i := 2) sc__law_is_any_right.nd (by rfl) (by exact .inl rfl)) (dss_one (ds_set (i := 1) sc__law_is_any_right.nd (by rfl) (by exact .inl rfl) (d_callU h__law_bent hr (by decide) (by rfl) (pe_var (i := 0) (by rfl) (by exact .inl rfl)) (da_cons (d_var (pe_var (i := 1) (by rfl) (by exact .inl rfl))) da_nil) (hl := (fCons_len fNil_len)))))) (dss_cons (ds_set (i := 3) sc__law_is_any_right.nd (by rfl) (by exact .inl rfl) (de_and (d_isi kit_tup (by rfl) m_isinstance bt_isinstance (d_var (pe_var (i := 1) (by rfl) (by exact .inl rfl))) (pe_bltn (v := .ty "tuple") (by rfl) m_tuple bt_tuple rfl)) (de_and (d_chain op_lt od_lt op_lt od_lt d_int (d_callB call_len_seq cd_len (by rfl) m_len bt_len (da_cons (d_var (pe_var (i := 1) (by rfl) (by exact .inl rfl))) da_nil)) d_int) (de_one (d_call h__law_is_grid hr (by decide) (by rfl) (da_cons (d_var (pe_var (i := 1) (by rfl) (by exact .inl rfl))) (da_cons (d_callB call_len_seq cd_len (by rfl) m_len bt_len (da_cons (d_var (pe_var (i := 1) (by rfl) (by exact .inl rfl))) da_nil)) da_nil)) (hl := (fCons_len (fCons_len fNil_len)))))))) (dss_one (ds_ret (d_call h__law_same hr (by decide) (by rfl) (da_cons (d_tup (da_cons (d_call h_is_table hr (by decide) (by rfl) (da_cons (d_var (pe_var (i := 1) (by rfl) (by exact .inl rfl))) da_nil) (hl := (fCons_len fNil_len))) (da_cons (d_callK hk_is_table_value hr (by decide) (by rfl) (dk_cons (d_var (pe_var (i := 1) (by rfl) (by exact .inl rfl))) dk_nil) (hl := (fCons_len fNil_len))) da_nil))) (da_cons (d_tup (da_cons (d_var (pe_var (i := 3) (by rfl) (by exact .inl rfl))) (da_cons (d_var (pe_var (i := 3) (by rfl) (by exact .inl rfl))) da_nil))) da_nil)) (hl := (fCons_len (fCons_len fNil_len))))))))))
theorem ok__law_is_any_right {P : Program} {w : World} {K : PySem.W.Frag} {mg : Str → Option Value} {base : Heap} (KX : K.In base) (G : base.Ns mainGlobals mg) (c : SaysY SAY K) (hT : P.given.tree = none) : Has P w K mg base 53 "_law_is_any_right" (spU K 1 m__law_is_any_right) := by
  obtain ⟨fd, F⟩ := c.1.def_ 65 (d := d__law_is_any_right) rfl
  exact ⟨_, fd, ["urn"], okF__law_is_any_right KX G c hT F, He.glo_ok KX G (c.1.fact 65), F.kp, F.bindsN fun _ _ _ _ _ _ us hl => match us, hl with | [_], _ => rfl⟩
def c__law_right (m__law_is_any_right : List D → List D → Option (D × List D)) (m__law_size : List D → List D → Option (D × List D)) (m__law_form : List D → List D → Option (D × List D)) (m__law_line : List D → List D → Option (D × List D)) (m__law_at : List D → Option D) (m__law_same : List D → Option D) (m_worth : List D → Option D) (m__law_table : List D → List D → Option (D × List D)) (m__law_dot : List D → Option D) (m__law_go : List D → Option D) (m_energy_product : List D → Option D) : SFn := (fSeq (fFor (fRng1 (fCons (fC (.int 3)) fNil)) (gNm 1) (fIfS (fNotT (fB (fCallU 0 m__law_is_any_right fNil))) (fRet (fC (.bl false))) fSkip))
    (fSeq (fSet 2 (fCallU 0 m__law_size fNil))
    (fSeq (fPar3 3 4 5 (fCons (fCallU 0 m__law_form (fCons (fVar 2) fNil)) (fCons (fCallU 0 m__law_line (fCons (fVar 2) fNil)) (fCons (fCallU 0 m__law_line (fCons (fVar 2) fNil)) fNil))))
    (fSeq (fSet 6 (fCall m__law_at (fCons (fVar 3) (fCons (fVar 4) fNil))))
    (fSeq (fIfS (fNotT (fB (fCall m__law_same (fCons (fTup (fCons (fCall m_worth (fCons (fVar 3) (fCons (fVar 4) fNil))) (fCons (fCallK [1, 0] m_worth (fCons (fVar 4) (fCons (fVar 3) fNil))) fNil))) (fCons (fTup (fCons (fVar 6) (fCons (fVar 6) fNil))) fNil))))) (fRet (fC (.bl false))) fSkip)
    (fSeq (fSet 7 (fCallU 0 m__law_table (fCons (fVar 2) fNil)))
    (fSeq (fSet 6 (fCall m__law_dot (fCons (fVar 4) (fCons (fCall m__law_go (fCons (fVar 7) (fCons (fVar 5) fNil))) fNil))))
    (fSeq (fSet 8 (fTup (fCons (fCall m_energy_product (fCons (fVar 7) (fCons (fVar 4) (fCons (fVar 5) fNil)))) (fCons (fCallK [2, 1, 0] m_energy_product (fCons (fVar 4) (fCons (fVar 5) (fCons (fVar 7) fNil)))) fNil))))
    (fRet (fAndV (fCall m__law_same (fCons (fVar 8) (fCons (fTup (fCons (fVar 6) (fCons (fVar 6) fNil))) fNil))) (fCall m__law_same (fCons (fCall m_worth (fCons (fVar 7) (fCons (fVar 5) fNil))) (fCons (fCall m__law_at (fCons (fVar 7) (fCons (fVar 5) fNil))) fNil)))))))))))))
def b__law_right : SFn := c__law_right m__law_is_any_right m__law_size m__law_form m__law_line m__law_at m__law_same m_worth m__law_table m__law_dot m__law_go m_energy_product
def m__law_right : List D → List D → Option (D × List D) := outU 9 b__law_right
theorem okF__law_right {P : Program} {w : World} {K : PySem.W.Frag} {mg : Str → Option Value} {base : Heap} (KX : K.In base) (G : base.Ns mainGlobals mg) (c : SaysY SAY K) (hT : P.given.tree = none) {fd : FuncData} (F : FunD K "_law_right" "_law_right" (defArgs (top 82)) (defBody (top 82)) (defScope (top 82)) [] [] (He.fAd K d__law_right.at_) fd) : FnOk P w K mg base CX0 54 (He.fAd K d__law_right.at_) fd ["urn"] (spU K 1 m__law_right) := by
  have m_range : mg "range" = none := He.free_ok KX G (c.1.fact 76)
  have h__law_at := ok__law_at (P := P) (w := w) KX G c hT
  have h__law_dot := ok__law_dot (P := P) (w := w) KX G c hT
  have h__law_form := ok__law_form (P := P) (w := w) KX G c hT
  have h__law_go := ok__law_go (P := P) (w := w) KX G c hT
  have h__law_is_any_right := ok__law_is_any_right (P := P) (w := w) KX G c hT
  have h__law_line := ok__law_line (P := P) (w := w) KX G c hT
  have h__law_same := ok__law_same (P := P) (w := w) KX G c hT
  have h__law_size := ok__law_size (P := P) (w := w) KX G c hT
  have h__law_table := ok__law_table (P := P) (w := w) KX G c hT
  have h_energy_product := ok_energy_product (P := P) (w := w) KX G c hT
  have h_worth := ok_worth (P := P) (w := w) KX G c hT
  have hk_worth_row_form := okK_worth_row_form (P := P) (w := w) KX G c hT
  have hk_energy_product_other_row_table := okK_energy_product_other_row_table (P := P) (w := w) KX G c hT
  exact fn_io (x := "_law_right") (st := top 82) (N := N__law_right) (ps := ["urn"]) (own := []) (b := b__law_right) (k := 53) F sc__law_right (by decide) (fun cdv A outer s H E W0 a hr =>
    (dss_cons (ds_for PassesOwn.never rfl (di_range1 (by rfl) m_range (da_cons d_int da_nil)) (dg_name (i := 1) sc__law_right.nd (by rfl) (by exact .inl rfl)) (dss_one (ds_if (dt_not (dt_val (d_callU h__law_is_any_right hr (by decide) (by rfl) (pe_var (i := 0) (by rfl) (by exact .inl rfl)) da_nil (hl := fNil_len)))) (dss_one (ds_ret d_bl)) dss_nil))) (dss_cons (ds_set (i := 2) sc__law_right.nd (by rfl) (by exact .inl rfl) (d_callU h__law_size hr (by decide) (by rfl) (pe_var (i := 0) (by rfl) (by exact .inl rfl)) da_nil (hl := fNil_len))) (dss_cons (ds_par3 (i := 3) (j := 4) (l := 5) rfl sc__law_right.nd rfl rfl rfl rfl rfl rfl (da_cons (d_callU h__law_form hr (by decide) (by rfl) (pe_var (i := 0) (by rfl) (by exact .inl rfl)) (da_cons (d_var (pe_var (i := 2) (by rfl) (by exact .inl rfl))) da_nil) (hl := (fCons_len fNil_len))) (da_cons (d_callU h__law_line hr (by decide) (by rfl) (pe_var (i := 0) (by rfl) (by exact .inl rfl)) (da_cons (d_var (pe_var (i := 2) (by rfl) (by exact .inl rfl))) da_nil) (hl := (fCons_len fNil_len))) (da_cons (d_callU h__law_line hr (by decide) (by rfl) (pe_var (i := 0) (by rfl) (by exact .inl rfl)) (da_cons (d_var (pe_var (i := 2) (by rfl) (by exact .inl rfl))) da_nil) (hl := (fCons_len fNil_len))) da_nil))) rfl) (dss_cons (ds_set (i := 6) sc__law_right.nd (by rfl) (by exact .inl rfl) (d_call h__law_at hr (by decide) (by rfl) (da_cons (d_var (pe_var (i := 3) (by rfl) (by exact .inl rfl))) (da_cons (d_var (pe_var (i := 4) (by rfl) (by exact .inl rfl))) da_nil)) (hl := (fCons_len (fCons_len fNil_len))))) (dss_cons (ds_if (dt_not (dt_val (d_call h__law_same hr (by decide) (by rfl) (da_cons (d_tup (da_cons (d_call h_worth hr (by decide) (by rfl) (da_cons (d_var (pe_var (i := 3) (by rfl) (by exact .inl rfl))) (da_cons (d_var (pe_var (i := 4) (by rfl) (by exact .inl rfl))) da_nil)) (hl := (fCons_len (fCons_len fNil_len)))) (da_cons (d_callK hk_worth_row_form hr (by decide) (by rfl) (dk_cons (d_var (pe_var (i := 4) (by rfl) (by exact .inl rfl))) (dk_cons (d_var (pe_var (i := 3) (by rfl) (by exact .inl rfl))) dk_nil)) (hl := (fCons_len (fCons_len fNil_len)))) da_nil))) (da_cons (d_tup (da_cons (d_var (pe_var (i := 6) (by rfl) (by exact .inl rfl))) (da_cons (d_var (pe_var (i := 6) (by rfl) (by exact .inl rfl))) da_nil))) da_nil)) (hl := (fCons_len (fCons_len fNil_len)))))) (dss_one (ds_ret d_bl)) dss_nil) (dss_cons (ds_set (i := 7) sc__law_right.nd (by rfl) (by exact .inl rfl) (d_callU h__law_table hr (by decide) (by rfl) (pe_var (i := 0) (by rfl) (by exact .inl rfl)) (da_cons (d_var (pe_var (i := 2) (by rfl) (by exact .inl rfl))) da_nil) (hl := (fCons_len fNil_len)))) (dss_cons (ds_set (i := 6) sc__law_right.nd (by rfl) (by exact .inl rfl) (d_call h__law_dot hr (by decide) (by rfl) (da_cons (d_var (pe_var (i := 4) (by rfl) (by exact .inl rfl))) (da_cons (d_call h__law_go hr (by decide) (by rfl) (da_cons (d_var (pe_var (i := 7) (by rfl) (by exact .inl rfl))) (da_cons (d_var (pe_var (i := 5) (by rfl) (by exact .inl rfl))) da_nil)) (hl := (fCons_len (fCons_len fNil_len)))) da_nil)) (hl := (fCons_len (fCons_len fNil_len))))) (dss_cons (ds_set (i := 8) sc__law_right.nd (by rfl) (by exact .inl rfl) (d_tup (da_cons (d_call h_energy_product hr (by decide) (by rfl) (da_cons (d_var (pe_var (i := 7) (by rfl) (by exact .inl rfl))) (da_cons (d_var (pe_var (i := 4) (by rfl) (by exact .inl rfl))) (da_cons (d_var (pe_var (i := 5) (by rfl) (by exact .inl rfl))) da_nil))) (hl := (fCons_len (fCons_len (fCons_len fNil_len))))) (da_cons (d_callK hk_energy_product_other_row_table hr (by decide) (by rfl) (dk_cons (d_var (pe_var (i := 4) (by rfl) (by exact .inl rfl))) (dk_cons (d_var (pe_var (i := 5) (by rfl) (by exact .inl rfl))) (dk_cons (d_var (pe_var (i := 7) (by rfl) (by exact .inl rfl))) dk_nil))) (hl := (fCons_len (fCons_len (fCons_len fNil_len))))) da_nil)))) (dss_one (ds_ret (de_and (d_call h__law_same hr (by decide) (by rfl) (da_cons (d_var (pe_var (i := 8) (by rfl) (by exact .inl rfl))) (da_cons (d_tup (da_cons (d_var (pe_var (i := 6) (by rfl) (by exact .inl rfl))) (da_cons (d_var (pe_var (i := 6) (by rfl) (by exact .inl rfl))) da_nil))) da_nil)) (hl := (fCons_len (fCons_len fNil_len)))) (de_one (d_call h__law_same hr (by decide) (by rfl) (da_cons (d_call h_worth hr (by decide) (by rfl) (da_cons (d_var (pe_var (i := 7) (by rfl) (by exact .inl rfl))) (da_cons (d_var (pe_var (i := 5) (by rfl) (by exact .inl rfl))) da_nil)) (hl := (fCons_len (fCons_len fNil_len)))) (da_cons (d_call h__law_at hr (by decide) (by rfl) (da_cons (d_var (pe_var (i := 7) (by rfl) (by exact .inl rfl))) (da_cons (d_var (pe_var (i := 5) (by rfl) (by exact .inl rfl))) da_nil)) (hl := (fCons_len (fCons_len fNil_len)))) da_nil)) (hl := (fCons_len (fCons_len fNil_len)))))))))))))))))
theorem ok__law_right {P : Program} {w : World} {K : PySem.W.Frag} {mg : Str → Option Value} {base : Heap} (KX : K.In base) (G : base.Ns mainGlobals mg) (c : SaysY SAY K) (hT : P.given.tree = none) : Has P w K mg base 54 "_law_right" (spU K 1 m__law_right) := by
  obtain ⟨fd, F⟩ := c.1.def_ 66 (d := d__law_right) rfl
  exact ⟨_, fd, ["urn"], okF__law_right KX G c hT F, He.glo_ok KX G (c.1.fact 66), F.kp, F.bindsN fun _ _ _ _ _ _ us hl => match us, hl with | [_], _ => rfl⟩
def c_law (m__law_right : List D → List D → Option (D × List D)) (m__law_urn : List D → Option D) : SFn := (fRet (fCall gAll (fCons (fOfL (fComp (fRng1 (fCons (fCall gMax2 (fCons (fC (.int 1)) (fCons (fCall gMin2 (fCons (fCall gLen (fCons (fVar 0) fNil)) (fCons (fC (.int 2)) fNil))) fNil))) fNil)) (gNm 1) fYes (fCallUF m__law_right (fCallF m__law_urn (fCons (fVar 0) (fCons (fVar 1) fNil)))) [1])) fNil)))
def b_law : SFn := c_law m__law_right m__law_urn
def m_law : List D → Option D := outP false 2 b_law
theorem okF_law {P : Program} {w : World} {K : PySem.W.Frag} {mg : Str → Option Value} {base : Heap} (KX : K.In base) (G : base.Ns mainGlobals mg) (c : SaysY SAY K) (hT : P.given.tree = none) {fd : FuncData} (F : FunD K "law" "law" (defArgs (top 83)) (defBody (top 83)) (defScope (top 83)) [] [] (He.fAd K d_law.at_) fd) : FnOk P w K mg base CX0 55 (He.fAd K d_law.at_) fd ["script"] (spP K 1 false m_law) := by
  have m_all : mg "all" = none := He.free_ok KX G (c.1.fact 73)
  have m_range : mg "range" = none := He.free_ok KX G (c.1.fact 76)
  have m_max : mg "max" = none := He.free_ok KX G (c.1.fact 83)
  have m_min : mg "min" = none := He.free_ok KX G (c.1.fact 84)
  have m_len : mg "len" = none := He.free_ok KX G (c.1.fact 72)
  have h__law_right := ok__law_right (P := P) (w := w) KX G c hT
  have h__law_urn := ok__law_urn (P := P) (w := w) KX G c hT
  exact fn_pure (x := "law") (st := top 83) (N := N_law) (ps := ["script"]) (own := []) (fresh := false) (b := b_law) (k := 54) F sc_law (by decide) (fun cdv A outer s H E W0 hr =>
    (dss_one (ds_ret (d_callB (cr_all rfl) cd_all (by rfl) m_all bt_all (da_cons (d_ofL (l_comp rfl sc_law.nd (di_range1 (by rfl) m_range (da_cons (d_callB (call_max2 rfl) cd_max2 (by rfl) m_max bt_max (da_cons d_int (da_cons (d_callB (call_min2 rfl) cd_min2 (by rfl) m_min bt_min (da_cons (d_callB call_len_seq cd_len (by rfl) m_len bt_len (da_cons (d_var (pe_var (i := 0) (by rfl) (by exact .inr (.inl rfl)))) da_nil)) (da_cons d_int da_nil))) da_nil))) da_nil)) (blkOk_by (N := N_law) (sc := (defScope (top 83))) (scope := ({ kind := PySem.ScopeKind.function, names := [(PySem.Str.ofString ".0", PySem.NameKind.local), (PySem.Str.ofString "turn", PySem.NameKind.local), (PySem.Str.ofString "_law_right", PySem.NameKind.globalImplicit), (PySem.Str.ofString "_law_urn", PySem.NameKind.globalImplicit), (PySem.Str.ofString "script", PySem.NameKind.free)], isGenerator := false, isCoroutine := false, more := [] } : PySem.Scope)) (own := [("turn", 1)]) (by decide +kernel)) (fun _ _ _ _ _ _ => (dg_name (i := 1) sc_law.nd (by rfl) (by exact .inl rfl))) (fun _ _ _ _ _ _ => dts_nil) (fun _ _ _ _ _ _ => (d_callUF h__law_right hr (by decide) (by rfl) (l_call h__law_urn hr (by decide) (by rfl) (da_cons (d_var (pe_var (i := 0) (by rfl) (by exact .inr (.inl rfl)))) (da_cons (d_var (pe_var (i := 1) (by rfl) (by exact .inl rfl))) da_nil)) (hl := (fCons_len (fCons_len fNil_len)))))))) da_nil)))))
theorem ok_law {P : Program} {w : World} {K : PySem.W.Frag} {mg : Str → Option Value} {base : Heap} (KX : K.In base) (G : base.Ns mainGlobals mg) (c : SaysY SAY K) (hT : P.given.tree = none) : Has P w K mg base 55 "law" (spP K 1 false m_law) := by
  obtain ⟨fd, F⟩ := c.1.def_ 67 (d := d_law) rfl
  exact ⟨_, fd, ["script"], okF_law KX G c hT F, He.glo_ok KX G (c.1.fact 67), F.kp, F.bindsN fun _ _ _ _ _ _ us hl => match us, hl with | [_], _ => rfl⟩
end W

namespace W
open PySem L2 Dl
theorem ev_divisor (t l : Int) : m_divisor_of [.tup [.int t, .int l]] = some (.int (Nat.gcd t.natAbs l.natAbs : Nat)) := by
  unfold m_divisor_of outP b_divisor_of c_divisor_of
  simp [fSet, startD, fFor, fItems, itemsD, loopD, gNm, oLoop, gGcd]
theorem ev_ratio (t l : Int) (hl : l ≠ 0) : m_ratio [.int t, .int l] = some (Q (Rat.divInt t l)) := by
  obtain ⟨h1, h2⟩ := rat_parts t l hl
  unfold m_ratio outP b_ratio c_ratio
  by_cases h : l > 0
  · rw [if_pos h] at h1 h2
    have hg : ((Nat.gcd t.natAbs l.natAbs : Nat) : Int) ≠ 0 := by
      have := Nat.gcd_pos_of_pos_right t.natAbs (show 0 < l.natAbs by omega)
      omega
    simp [fSet, startD, fTup, ev_divisor, gGt, asB, gNeg, h, gFdivB, hl, h1, h2, Q, show 2 ≤ sizeLine by decide]
  · rw [if_neg h] at h1 h2
    have hg : ((Nat.gcd t.natAbs l.natAbs : Nat) : Int) ≠ 0 := by
      have := Nat.gcd_pos_of_pos_right t.natAbs (show 0 < l.natAbs by omega)
      omega
    simp [fSet, startD, fTup, ev_divisor, gGt, asB, gNeg, h, gFdivB, hl, h1, h2, Q, show 2 ≤ sizeLine by decide]

theorem size_2 : 2 ≤ sizeLine := by decide
section
variable {a b : Rat} {m n : Nat}
theorem nz2 {i j : Int} (hi : i ≠ 0) (hj : j ≠ 0) : i * j ≠ 0 := Int.mul_ne_zero hi hj
theorem ev_plus (ha : Sz m a) (hb : Sz n b) (h : m + n ≤ 134217728) : m_plus [Q a, Q b] = some (Q (a + b)) := by
  have h1 := mulOk_of ha.num hb.den h
  have h2 := mulOk_of hb.num ha.den (by omega)
  have h3 := mulOk_of ha.den hb.den h
  have h4 := ev_ratio (a.num * b.den + b.num * a.den) (a.den * b.den) (nz2 (den_ne a) (den_ne b))
  rw [add_dI] at h4
  unfold m_plus outP b_plus c_plus
  simp [startD, show ∀ q, Q q = .tup [.int q.num, .int q.den] from fun _ => rfl, gIx, atI, ixN, gMul, h1, h2, h3, gAdd, h4]
theorem ev_minus (ha : Sz m a) (hb : Sz n b) (h : m + n ≤ 134217728) : m_minus [Q a, Q b] = some (Q (a - b)) := by
  have h1 := mulOk_of ha.num hb.den h
  have h2 := mulOk_of hb.num ha.den (by omega)
  have h3 := mulOk_of ha.den hb.den h
  have h4 := ev_ratio (a.num * b.den - b.num * a.den) (a.den * b.den) (nz2 (den_ne a) (den_ne b))
  rw [sub_dI] at h4
  unfold m_minus outP b_minus c_minus
  simp [startD, show ∀ q, Q q = .tup [.int q.num, .int q.den] from fun _ => rfl, gIx, atI, ixN, gMul, h1, h2, h3, Dl.gSub, h4]
theorem ev_times (ha : Sz m a) (hb : Sz n b) (h : m + n ≤ 134217728) : m_times [Q a, Q b] = some (Q (a * b)) := by
  have h1 := mulOk_of ha.num hb.num h
  have h3 := mulOk_of ha.den hb.den h
  have h4 := ev_ratio (a.num * b.num) (a.den * b.den) (nz2 (den_ne a) (den_ne b))
  rw [mul_dI] at h4
  unfold m_times outP b_times c_times
  simp [startD, show ∀ q, Q q = .tup [.int q.num, .int q.den] from fun _ => rfl, gIx, atI, ixN, gMul, h1, h3, h4]
theorem ev_over (ha : Sz m a) (hb : Sz n b) (h : m + n ≤ 134217728) (h0 : b ≠ 0) : m_over [Q a, Q b] = some (Q (a / b)) := by
  have h1 := mulOk_of ha.num hb.den h
  have h3 := mulOk_of ha.den hb.num h
  have h4 := ev_ratio (a.num * b.den) (a.den * b.num) (nz2 (den_ne a) (by rwa [ne_eq, Rat.num_eq_zero]))
  rw [div_dI] at h4
  unfold m_over outP b_over c_over
  simp [startD, show ∀ q, Q q = .tup [.int q.num, .int q.den] from fun _ => rfl, gIx, atI, ixN, gMul, h1, h3, h4]
theorem ev_opposite (a : Rat) : m_opposite [Q a] = some (Q (-a)) := by
  unfold m_opposite outP b_opposite c_opposite
  simp [startD, show ∀ q, Q q = .tup [.int q.num, .int q.den] from fun _ => rfl, gIx, atI, ixN, fTup, gNeg, Rat.neg_num, Rat.neg_den, size_2]
end
end W

namespace W
open PySem L2 Dl
theorem Q0 : D.tup [.int 0, .int 1] = Q 0 := rfl
theorem Q1 : D.tup [.int 1, .int 1] = Q 1 := rfl
theorem ev_total {n : Nat} {xs : List Rat} (hx : ∀ x, x ∈ xs → Sz n x) (h : 1 + xs.length * (n + 1) + n ≤ 134217728) : m_total [.lst (xs.map Q)] = some (Q (qsum xs)) := by
  have step : ∀ (ys : List Rat) (a : Rat) (m : Nat) (d : Option D), (∀ y, y ∈ ys → Sz n y) → Sz m a → m + ys.length * (n + 1) + n ≤ 134217728 →
      ∃ d', loopD (gNm 2) (fSet 1 (fCall m_plus (fCons (fVar 1) (fCons (fVar 2) fNil)))) (ys.map Q) [some (.lst (xs.map Q)), some (Q a), d] = some (.nx [some (.lst (xs.map Q)), some (Q (ys.foldl (· + ·) a)), d']) := by
    intro ys
    induction ys with
    | nil => intro a m d _ _ _; exact ⟨d, rfl⟩
    | cons y r ih =>
      intro a m d hy ha hb
      rw [List.length_cons, Nat.add_mul] at hb
      have h1 := ev_plus ha (hy y List.mem_cons_self) (by omega)
      obtain ⟨d', e⟩ := ih (a + y) (m + n + 1) (some (Q y)) (fun z hz => hy z (List.mem_cons_of_mem _ hz)) (sz_add ha (hy y List.mem_cons_self)) (by omega)
      refine ⟨d', ?_⟩
      rw [List.map_cons, List.foldl_cons]
      unfold loopD
      simp [gNm, fSet, h1, oLoop, e]
  obtain ⟨d', e⟩ := step xs 0 1 none hx sz_zero h
  unfold m_total outP b_total c_total
  simp [startD, fSet, fFor, fItems, itemsD, Q0, e, qsum]
theorem ev_products_of {n m : Nat} {xs ys : List Rat} (hx : ∀ x, x ∈ xs → Sz n x) (hy : ∀ x, x ∈ ys → Sz m x) (hl : xs.length ≤ 1000) (h : 1 + xs.length * (n + m + 1) + (n + m) ≤ 134217728) : m_products_of [Rw xs, Rw ys] = some (Q (dot xs ys)) := by
  have hz : ∀ z, z ∈ xs.zip ys → Sz n z.1 ∧ Sz m z.2 := fun z hz => by
    obtain ⟨a, b⟩ := z
    exact ⟨hx _ (List.of_mem_zip hz).1, hy _ (List.of_mem_zip hz).2⟩
  have hlz : (xs.zip ys).length ≤ xs.length := by rw [List.length_zip]; exact Nat.min_le_left _ _
  have e1 := comp_all (its := fZip (fCons (fVar 0) (fCons (fVar 1) fNil))) (g := gTp 2 (gsCons (gNm 2) (gsCons (gNm 3) gsNil))) (c := fYes) (e := fCall m_times (fCons (fVar 2) (fCons (fVar 3) fNil))) (vs := [2, 3]) (ρ := [some (Rw xs), some (Rw ys), none, none])
    (fun z : Rat × Rat => .tup [Q z.1, Q z.2]) (fun z => Q (z.1 * z.2)) (xs := xs.zip ys) (by simp [fZip]) (zip_line hl) (fun z hzz => by
      have := ev_times (hz z hzz).1 (hz z hzz).2 (by
        have : 0 < xs.length := by
          cases xs with
          | nil => simp at hzz
          | cons _ _ => simp
        omega)
      simp [cstep, gTp, gsCons, gNm, gsNil, fYes, wipeD, this])
  have e2 : ((xs.zip ys).map fun z => Q (z.1 * z.2)) = ((xs.zip ys).map fun z => z.1 * z.2).map Q := by rw [List.map_map]; rfl
  have e3 := ev_total (n := n + m) (xs := (xs.zip ys).map fun z => z.1 * z.2) (fun x hxx => by
    rw [List.mem_map] at hxx
    obtain ⟨z, hzz, rfl⟩ := hxx
    exact sz_mul (hz z hzz).1 (hz z hzz).2) (by
      rw [List.length_map]
      have := Nat.mul_le_mul_right (n + m + 1) hlz
      omega)
  rw [e2] at e1
  unfold m_products_of outP b_products_of c_products_of
  simp only [ap_ret, ap_call, ap_cons, ap_nil, ap_ofL, startD, List.map_cons, List.map_nil, List.length_cons, List.length_nil, List.cons_append, List.nil_append, e1, Option.map_some, Option.bind_some, e3, List.replicate]
  rfl
end W

namespace W
open PySem L2 Dl
def AS (n : Nat) (xs : List Rat) : Prop := ∀ x, x ∈ xs → Sz n x
def AT (n : Nat) (t : List (List Rat)) : Prop := ∀ r, r ∈ t → AS n r
def radd (xs ys : List Rat) : List Rat := (xs.zip ys).map fun z => z.1 + z.2
def rsub (xs ys : List Rat) : List Rat := (xs.zip ys).map fun z => z.1 - z.2
def rscale (xs : List Rat) (c : Rat) : List Rat := xs.map (· * c)
def tsub (s t : List (List Rat)) : List (List Rat) := (s.zip t).map fun z => rsub z.1 z.2
def tled (t : List (List Rat)) (x : List Rat) : List Rat := t.map fun r => dot r x
def tprod (xs ys : List Rat) : List (List Rat) := xs.map fun x => rscale ys x
def col (t : List (List Rat)) (j : Nat) : List Rat := t.map fun r => r[j]?.getD 0
def tflip (t : List (List Rat)) (m : Nat) : List (List Rat) := (List.range m).map fun j => col t j
theorem mapQ {α : Type} (f : α → Rat) (xs : List α) : (xs.map fun x => Q (f x)) = (xs.map f).map Q := by rw [List.map_map]; rfl
theorem mapR {α : Type} (f : α → List Rat) (xs : List α) : (xs.map fun x => Rw (f x)) = (xs.map f).map Rw := by rw [List.map_map]; rfl
theorem AS.zip {m n : Nat} {xs ys : List Rat} (hx : AS m xs) (hy : AS n ys) {z : Rat × Rat} (hz : z ∈ xs.zip ys) : Sz m z.1 ∧ Sz n z.2 := by
  obtain ⟨a, b⟩ := z
  exact ⟨hx _ (List.of_mem_zip hz).1, hy _ (List.of_mem_zip hz).2⟩
theorem AT.zip {m n : Nat} {xs ys : List (List Rat)} (hx : AT m xs) (hy : AT n ys) {z : List Rat × List Rat} (hz : z ∈ xs.zip ys) : AS m z.1 ∧ AS n z.2 := by
  obtain ⟨a, b⟩ := z
  exact ⟨hx _ (List.of_mem_zip hz).1, hy _ (List.of_mem_zip hz).2⟩
theorem as_radd {m n : Nat} {xs ys : List Rat} (hx : AS m xs) (hy : AS n ys) : AS (m + n + 1) (radd xs ys) := fun x h => by
  unfold radd at h
  rw [List.mem_map] at h
  obtain ⟨z, hz, rfl⟩ := h
  exact sz_add (hx.zip hy hz).1 (hx.zip hy hz).2
theorem as_rsub {m n : Nat} {xs ys : List Rat} (hx : AS m xs) (hy : AS n ys) : AS (m + n + 1) (rsub xs ys) := fun x h => by
  unfold rsub at h
  rw [List.mem_map] at h
  obtain ⟨z, hz, rfl⟩ := h
  exact sz_sub (hx.zip hy hz).1 (hx.zip hy hz).2
theorem as_rscale {m n : Nat} {xs : List Rat} {c : Rat} (hx : AS m xs) (hc : Sz n c) : AS (m + n) (rscale xs c) := fun x h => by
  unfold rscale at h
  rw [List.mem_map] at h
  obtain ⟨z, hz, rfl⟩ := h
  exact sz_mul (hx z hz) hc
section
variable {m n k : Nat} {xs ys : List Rat} {s t : List (List Rat)} {c : Rat}
theorem ev_row_plus (hx : AS m xs) (hy : AS n ys) (hl : xs.length ≤ 1000) (h : m + n ≤ 134217728) : m_row_plus [Rw xs, Rw ys] = some (Rw (radd xs ys)) := by
  have e1 := comp_all (its := fZip (fCons (fVar 0) (fCons (fVar 1) fNil))) (g := gTp 2 (gsCons (gNm 2) (gsCons (gNm 3) gsNil))) (c := fYes) (e := fCall m_plus (fCons (fVar 2) (fCons (fVar 3) fNil))) (vs := [2, 3]) (ρ := [some (Rw xs), some (Rw ys), none, none])
    (fun z : Rat × Rat => .tup [Q z.1, Q z.2]) (fun z => Q (z.1 + z.2)) (xs := xs.zip ys) (by simp [fZip]) (zip_line hl) (fun z hz => by
      have := ev_plus (hx.zip hy hz).1 (hx.zip hy hz).2 h
      simp [cstep, gTp, gsCons, gNm, gsNil, fYes, wipeD, this])
  rw [mapQ] at e1
  unfold m_row_plus outP b_row_plus c_row_plus
  simp only [ap_ret, ap_call, ap_cons, ap_nil, ap_ofL, startD, List.map_cons, List.map_nil, List.length_cons, List.length_nil, List.cons_append, List.nil_append, e1, Option.map_some, Option.bind_some, List.replicate, tuple_L]
  rfl
theorem ev_row_less (hx : AS m xs) (hy : AS n ys) (hl : xs.length ≤ 1000) (h : m + n ≤ 134217728) : m_row_less [Rw xs, Rw ys] = some (Rw (rsub xs ys)) := by
  have e1 := comp_all (its := fZip (fCons (fVar 0) (fCons (fVar 1) fNil))) (g := gTp 2 (gsCons (gNm 2) (gsCons (gNm 3) gsNil))) (c := fYes) (e := fCall m_minus (fCons (fVar 2) (fCons (fVar 3) fNil))) (vs := [2, 3]) (ρ := [some (Rw xs), some (Rw ys), none, none])
    (fun z : Rat × Rat => .tup [Q z.1, Q z.2]) (fun z => Q (z.1 - z.2)) (xs := xs.zip ys) (by simp [fZip]) (zip_line hl) (fun z hz => by
      have := ev_minus (hx.zip hy hz).1 (hx.zip hy hz).2 h
      simp [cstep, gTp, gsCons, gNm, gsNil, fYes, wipeD, this])
  rw [mapQ] at e1
  unfold m_row_less outP b_row_less c_row_less
  simp only [ap_ret, ap_call, ap_cons, ap_nil, ap_ofL, startD, List.map_cons, List.map_nil, List.length_cons, List.length_nil, List.cons_append, List.nil_append, e1, Option.map_some, Option.bind_some, List.replicate, tuple_L]
  rfl
theorem ev_row_scaled (hx : AS m xs) (hc : Sz n c) (hl : xs.length ≤ 1000) (h : m + n ≤ 134217728) : m_row_scaled [Rw xs, Q c] = some (Rw (rscale xs c)) := by
  have e1 := comp_all (its := fItems (fVar 0)) (g := gNm 2) (c := fYes) (e := fCall m_times (fCons (fVar 2) (fCons (fVar 1) fNil))) (vs := [2]) (ρ := [some (Rw xs), some (Q c), none])
    Q (fun x => Q (x * c)) (xs := xs) (by simp [fItems]) (len_line hl) (fun z hz => by
      have := ev_times (hx z hz) hc h
      simp [cstep, gNm, fYes, wipeD, this])
  rw [mapQ] at e1
  unfold m_row_scaled outP b_row_scaled c_row_scaled
  simp only [ap_ret, ap_call, ap_cons, ap_nil, ap_ofL, startD, List.map_cons, List.map_nil, List.length_cons, List.length_nil, List.cons_append, List.nil_append, e1, Option.map_some, Option.bind_some, List.replicate, tuple_L]
  rfl
theorem ev_led (ht : AT m t) (hx : AS n xs) (hl : t.length ≤ 1000) (hw : ∀ r, r ∈ t → r.length ≤ k) (hk : k ≤ 1000) (h : 1 + k * (m + n + 1) + (m + n) ≤ 134217728) : m_led [Tb t, Rw xs] = some (Rw (tled t xs)) := by
  have e1 := comp_all (its := fItems (fVar 0)) (g := gNm 2) (c := fYes) (e := fCall m_products_of (fCons (fVar 2) (fCons (fVar 1) fNil))) (vs := [2]) (ρ := [some (Tb t), some (Rw xs), none])
    Rw (fun r => Q (dot r xs)) (xs := t) (by simp [fItems]) (len_line hl) (fun r hr => by
      have := ev_products_of (ht r hr) hx (Nat.le_trans (hw r hr) hk) (by
        have := Nat.mul_le_mul_right (m + n + 1) (hw r hr)
        omega)
      simp [cstep, gNm, fYes, wipeD, this])
  rw [mapQ] at e1
  unfold m_led outP b_led c_led
  simp only [ap_ret, ap_call, ap_cons, ap_nil, ap_ofL, startD, List.map_cons, List.map_nil, List.length_cons, List.length_nil, List.cons_append, List.nil_append, e1, Option.map_some, Option.bind_some, List.replicate, tuple_L]
  rfl
theorem ev_table_less (hs : AT m s) (ht : AT n t) (hl : s.length ≤ 1000) (hw : ∀ r, r ∈ s → r.length ≤ 1000) (h : m + n ≤ 134217728) : m_table_less [Tb s, Tb t] = some (Tb (tsub s t)) := by
  have e1 := comp_all (its := fZip (fCons (fVar 0) (fCons (fVar 1) fNil))) (g := gTp 2 (gsCons (gNm 2) (gsCons (gNm 3) gsNil))) (c := fYes) (e := fCall m_row_less (fCons (fVar 2) (fCons (fVar 3) fNil))) (vs := [2, 3]) (ρ := [some (Tb s), some (Tb t), none, none])
    (fun z : List Rat × List Rat => .tup [Rw z.1, Rw z.2]) (fun z => Rw (rsub z.1 z.2)) (xs := s.zip t) (by simp [fZip]) (zip_line hl) (fun z hz => by
      have := ev_row_less (hs.zip ht hz).1 (hs.zip ht hz).2 (hw _ (List.of_mem_zip (show (z.1, z.2) ∈ s.zip t from hz)).1) h
      simp [cstep, gTp, gsCons, gNm, gsNil, fYes, wipeD, this])
  rw [mapR] at e1
  unfold m_table_less outP b_table_less c_table_less
  simp only [ap_ret, ap_call, ap_cons, ap_nil, ap_ofL, startD, List.map_cons, List.map_nil, List.length_cons, List.length_nil, List.cons_append, List.nil_append, e1, Option.map_some, Option.bind_some, List.replicate, tuple_LT]
  rfl
theorem ev_products_table (hx : AS m xs) (hy : AS n ys) (hl : xs.length ≤ 1000) (hl2 : ys.length ≤ 1000) (h : n + m ≤ 134217728) : m_products_table [Rw xs, Rw ys] = some (Tb (tprod xs ys)) := by
  have e1 := comp_all (its := fItems (fVar 0)) (g := gNm 2) (c := fYes) (e := fCall m_row_scaled (fCons (fVar 1) (fCons (fVar 2) fNil))) (vs := [2]) (ρ := [some (Rw xs), some (Rw ys), none])
    Q (fun x => Rw (rscale ys x)) (xs := xs) (by simp [fItems]) (len_line hl) (fun z hz => by
      have := ev_row_scaled hy (hx z hz) hl2 h
      simp [cstep, gNm, fYes, wipeD, this])
  rw [mapR] at e1
  unfold m_products_table outP b_products_table c_products_table
  simp only [ap_ret, ap_call, ap_cons, ap_nil, ap_ofL, startD, List.map_cons, List.map_nil, List.length_cons, List.length_nil, List.cons_append, List.nil_append, e1, Option.map_some, Option.bind_some, List.replicate, tuple_LT]
  rfl
end
end W

namespace W
open PySem L2 Dl
section
variable {m n k : Nat} {xs ys : List Rat} {s t : List (List Rat)} {c : Rat}
theorem ev_is_whole (i : Int) : m_is_whole [.int i] = some (.bl true) := by
  unfold m_is_whole outP b_is_whole c_is_whole
  simp [startD, fAndV, fIsi, isInt, isBool, fNotV, asB]
theorem ev_is_ratio (q : Rat) : m_is_ratio [Q q] = some (.bl true) := by
  have h1 : m_are_wholes [Q q, .int 2] = some (.bl true) := by
    unfold m_are_wholes outP b_are_wholes c_are_wholes
    simp [startD, fAndV, fIsi, isTup, asB, gLen, Q, fComp, fItems, itemsD, compD, gNm, fYes, wipeD, ev_is_whole, gAll, blsOf, show 2 ≤ sizeLine by decide]
  have h2 : q.num.natAbs.gcd q.den = 1 := q.reduced
  have h3 : m_divisor_of [Q q] = some (.int 1) := by
    have := ev_divisor q.num q.den
    rw [Int.natAbs_natCast, h2] at this
    exact this
  have h4 : 0 < q.den := Nat.pos_of_ne_zero q.den_nz
  unfold m_is_ratio outP b_is_ratio c_is_ratio
  simp [startD, fAndV, h1, asB, h3, gGt, h4]
theorem ev_is_row (hl : xs.length ≤ 1000) (hk : xs.length = k) : m_is_row [Rw xs, .int (k : Nat)] = some (.bl true) := by
  subst hk
  have e1 := comp_all (its := fItems (fVar 0)) (g := gNm 2) (c := fYes) (e := fCall m_is_ratio (fCons (fVar 2) fNil)) (vs := [2]) (ρ := [some (Rw xs), some (.int (xs.length : Nat)), none])
    Q (fun _ => .bl true) (xs := xs) (by simp [fItems]) (len_line hl) (fun z hz => by
      simp [cstep, gNm, fYes, wipeD, ev_is_ratio])
  unfold m_is_row outP b_is_row c_is_row
  simp [startD, fAndV, fIsi, asB, e1, bls_true]
theorem ev_is_square (hl : t.length ≤ 1000) (hw : ∀ r, r ∈ t → r.length = t.length) : m_is_square [Tb t, .int (t.length : Nat)] = some (.bl true) := by
  have e1 := comp_all (its := fItems (fVar 0)) (g := gNm 2) (c := fYes) (e := fCall m_is_row (fCons (fVar 2) (fCons (fVar 1) fNil))) (vs := [2]) (ρ := [some (Tb t), some (.int (t.length : Nat)), none])
    Rw (fun _ => .bl true) (xs := t) (by simp [fItems]) (len_line hl) (fun z hz => by
      have := ev_is_row (xs := z) (k := t.length) (by rw [hw z hz]; exact hl) (hw z hz)
      simp [cstep, gNm, fYes, wipeD, this])
  unfold m_is_square outP b_is_square c_is_square
  simp [startD, fAndV, fIsi, asB, e1, bls_true]
theorem ev_is_between (i : Nat) (h1 : 1 ≤ i) (h5 : i ≤ 5) : m_is_between [.int (i : Nat), .int 1, .int 5] = some (.bl true) := by
  unfold m_is_between outP b_is_between c_is_between
  have a1 : (1 : Int) ≤ i := by omega
  have a5 : (i : Int) ≤ 5 := by omega
  simp [startD, fAndV, asB, ev_is_whole, fChain, gLe, a1, a5]
theorem ev_flipped (hl : t.length ≤ 1000) (hm : m ≤ 1000) (hw : ∀ r, r ∈ t → m ≤ r.length) : m_flipped [Tb t, .int (m : Nat)] = some (Tb (tflip t m)) := by
  have e1 := comp_all (its := fRng1 (fCons (fVar 1) fNil)) (g := gNm 2) (c := fYes) (e := fCall gTuple (fCons (fOfL (fComp (fItems (fVar 0)) (gNm 3) fYes (fBin gIx (fVar 3) (fVar 2)) [3])) fNil)) (vs := [2]) (ρ := [some (Tb t), some (.int (m : Nat)), none, none])
    natD (fun j => Rw (col t j)) (xs := List.range m) (rng1 (by simp) hm) (by rw [List.length_range]; exact Nat.le_trans hm (by decide)) (fun j hj => by
      have hj := List.mem_range.mp hj
      have e2 := comp_all (its := fItems (fVar 0)) (g := gNm 3) (c := fYes) (e := fBin gIx (fVar 3) (fVar 2)) (vs := [3]) (ρ := [some (Tb t), some (.int (m : Nat)), some (natD j), none])
        Rw (fun r => Q (r[j]?.getD 0)) (xs := t) (by simp [fItems]) (len_line hl) (fun r hr => by
          have := ix_R (xs := r) (j := j) (Nat.lt_of_lt_of_le hj (hw r hr))
          simp [cstep, gNm, fYes, wipeD, natD, this])
      rw [mapQ] at e2
      simp [cstep, gNm, fYes, wipeD, e2]
      rw [← List.map_map]
      rfl)
  rw [mapR] at e1
  unfold m_flipped outP b_flipped c_flipped
  simp only [ap_ret, ap_call, ap_cons, ap_nil, ap_ofL, startD, List.map_cons, List.map_nil, List.length_cons, List.length_nil, List.cons_append, List.nil_append, e1, Option.map_some, Option.bind_some, List.replicate, tuple_LT]
  rfl
/-- a table of k rows of k fractions, alike turned over -/
structure Form (k : Nat) (t : List (List Rat)) : Prop where
  len : t.length = k
  wid : ∀ r, r ∈ t → r.length = k
  sym : tflip t k = t
theorem pl_is_formed {f1 f2 f3 : List D → Option D} (e1 : f1 [.int (t.length : Nat), .int 1, .int 5] = some (.bl true)) (e2 : f2 [Tb t, .int (t.length : Nat)] = some (.bl true)) (e3 : f3 [Tb t, .int (t.length : Nat)] = some (Tb t)) :
    outP false 1 (c_is_formed f1 f2 f3) [Tb t] = some (.bl true) := by
  refine out_rt (ρ := [some (Tb t)]) ?_
  unfold c_is_formed
  rw [seq_nx (ρ1 := [some (Tb t)]) (by rw [if_f (ρ1 := [some (Tb t)]) (by simp [startD, fOrT, fNotT, fIsi, asB, e1, e2])]; rfl)]
  exact e_ret (e_bin (x := Tb t) (y := Tb t) (ρ1 := [some (Tb t)]) rfl (e_call (ds := [Tb t, .int (t.length : Nat)]) (by simp) e3) (by simp))
theorem ev_is_formed {k : Nat} (h1 : 1 ≤ k) (h5 : k ≤ 5) (F : Form k t) : m_is_formed [Tb t] = some (.bl true) := by
  have hk := F.len
  have e4 : tflip t t.length = t := by rw [hk]; exact F.sym
  have e3 := ev_flipped (t := t) (m := t.length) (by omega) (by omega) (fun r hr => by rw [F.wid r hr, hk]; exact Nat.le_refl _)
  rw [e4] at e3
  exact pl_is_formed (ev_is_between t.length (by omega) (by omega)) (ev_is_square (t := t) (by omega) (fun r hr => by rw [F.wid r hr, hk])) e3
theorem ev_check_form {k : Nat} (h1 : 1 ≤ k) (h5 : k ≤ 5) (F : Form k t) : m_check_form [Tb t] = some .non := by
  have e := ev_is_formed h1 h5 F
  refine out_nx (ρ := [some (Tb t)]) ?_
  unfold b_check_form c_check_form
  rw [if_f (ρ1 := [some (Tb t)]) (by simp [startD, fNotT, asB, e])]
  rfl
end
end W

namespace W
open PySem L2 Dl
section
variable {m n k : Nat} {xs ys : List Rat} {s t : List (List Rat)} {c : Rat}
theorem pl_check_row {f : List D → Option D} (hf : ∀ q, f [Q q] = some (.bl true)) (hk : xs.length = k) : outP false 4 (c_check_row f) [.int (k : Nat), Rw xs] = some .non := by
  have step : ∀ (l : List (D × Nat)) (d d' : Option D), (∀ z, z ∈ l → ∃ q : Rat, z.1 = Q q) →
      ∃ e e', loopD (gTp 2 (gsCons (gNm 2) (gsCons (gNm 3) gsNil))) (fIfS (fNotT (fB (fCall f (fCons (fVar 3) fNil)))) fNo fSkip) (l.map fun z => .tup [.int (z.2 : Nat), z.1]) [some (.int (k : Nat)), some (Rw xs), d, d'] = some (.nx [some (.int (k : Nat)), some (Rw xs), e, e']) := by
    intro l
    induction l with
    | nil => intro d d' _; exact ⟨d, d', rfl⟩
    | cons z r ih =>
      intro d d' hz
      obtain ⟨q, hq⟩ := hz z List.mem_cons_self
      obtain ⟨e, e', he⟩ := ih (some (.int (z.2 : Nat))) (some z.1) fun y hy => hz y (List.mem_cons_of_mem _ hy)
      refine ⟨e, e', ?_⟩
      rw [List.map_cons]
      unfold loopD
      rw [hq] at he ⊢
      simp [gTp, gsCons, gNm, gsNil, fIfS, fNotT, asB, hf, fSkip, oLoop, he]
  obtain ⟨e, e', he⟩ := step ((xs.map Q).zipIdx) none none fun z hz => by
    obtain ⟨_, _, h3⟩ := List.mem_zipIdx hz
    rw [h3, List.getElem_map]
    exact ⟨_, rfl⟩
  refine out_nx (ρ := [some (.int (k : Nat)), some (Rw xs), e, e']) ?_
  unfold c_check_row
  rw [seq_nx (ρ1 := [some (.int (k : Nat)), some (Rw xs), none, none]) (by rw [if_f (ρ1 := [some (.int (k : Nat)), some (Rw xs), none, none]) (by simp [startD, fOrT, fNotT, fIsi, asB, hk])]; rfl)]
  rw [for_nx (ds := enumD (xs.map Q)) (ρ1 := [some (.int (k : Nat)), some (Rw xs), none, none]) (by simp [fEnum, Rw])]
  exact he
theorem ev_check_row (hk : xs.length = k) : m_check_row [.int (k : Nat), Rw xs] = some .non := pl_check_row ev_is_ratio hk
theorem pl_product_by {f1 f2 : List D → Option D} {d e : D} (e1 : f2 [Tb t, Rw ys] = some d) (e2 : f1 [Rw xs, d] = some e) : outP false 3 (c_product_by f1 f2) [Tb t, Rw xs, Rw ys] = some e := by
  refine out_rt (ρ := [some (Tb t), some (Rw xs), some (Rw ys)]) ?_
  unfold c_product_by
  exact e_ret (e_call (ds := [Rw xs, d]) (by simp [startD, e1]) e2)
theorem as_tled (ht : AT m t) (hx : AS n xs) (hw : ∀ r, r ∈ t → r.length ≤ k) : AS (1 + k * (m + n + 1)) (tled t xs) := fun x h => by
  unfold tled at h
  rw [List.mem_map] at h
  obtain ⟨r, hr, rfl⟩ := h
  have h1 := sz_qsum (n := m + n) (xs := (r.zip xs).map fun z => z.1 * z.2) sz_zero fun x hx' => by
    rw [List.mem_map] at hx'
    obtain ⟨z, hz, rfl⟩ := hx'
    exact sz_mul ((ht r hr).zip hx hz).1 ((ht r hr).zip hx hz).2
  refine Sz.mono h1 ?_
  have : ((r.zip xs).map fun z => z.1 * z.2).length ≤ k := by
    rw [List.length_map, List.length_zip]
    exact Nat.le_trans (Nat.min_le_left _ _) (hw r hr)
  have := Nat.mul_le_mul_right (m + n + 1) this
  omega
/-- the energy product, k ≤ 6 -/
theorem ev_product_by (ht : AT m t) (hx : AS n xs) (hy : AS n ys) (hl : t.length ≤ k) (hw : ∀ r, r ∈ t → r.length ≤ k) (hxl : xs.length ≤ k) (hk : k ≤ 6) (h : m ≤ 1000000) (h' : n ≤ 1000000) : m_product_by [Tb t, Rw xs, Rw ys] = some (Q (dot xs (tled t ys))) := by
  have e1 := ev_led ht hy (by omega) hw (by omega) (by
    have := Nat.mul_le_mul_right (m + n + 1) hk
    omega)
  have e2 := ev_products_of hx (as_tled ht hy hw) (by omega) (by
    have a1 := Nat.mul_le_mul_right (m + n + 1) hk
    have a2 := Nat.mul_le_mul (Nat.le_trans hxl hk) (show n + (1 + k * (m + n + 1)) + 1 ≤ 13000009 + 0 by omega)
    omega)
  exact pl_product_by e1 e2
def wor (t : List (List Rat)) (xs : List Rat) : Rat := dot xs (tled t xs)
theorem ev_worth_by (ht : AT m t) (hx : AS n xs) (hl : t.length ≤ k) (hw : ∀ r, r ∈ t → r.length ≤ k) (hxl : xs.length ≤ k) (hk : k ≤ 6) (h : m ≤ 1000000) (h' : n ≤ 1000000) : m_worth_by [Tb t, Rw xs] = some (Q (wor t xs)) := by
  have e := ev_product_by ht hx hx hl hw hxl hk h h'
  refine out_rt (ρ := [some (Tb t), some (Rw xs)]) ?_
  unfold b_worth_by c_worth_by
  exact e_ret (e_call (ds := [Tb t, Rw xs, Rw xs]) (by simp [startD]) e)
theorem pl_worth {f1 f2 f3 : List D → Option D} {d : D} (hk : t.length = k) (e1 : f1 [Tb t] = some .non) (e2 : f2 [.int (k : Nat), Rw xs] = some .non) (e3 : f3 [Tb t, Rw xs] = some d) : outP false 2 (c_worth f1 f2 f3) [Tb t, Rw xs] = some d := by
  refine out_rt (ρ := [some (Tb t), some (Rw xs)]) ?_
  unfold c_worth
  rw [show startD 2 [Tb t, Rw xs] = [some (Tb t), some (Rw xs)] from rfl]
  rw [seq_nx (ρ1 := [some (Tb t), some (Rw xs)]) (e_drop (e_call (ds := [Tb t]) (by simp) e1)), seq_nx (ρ1 := [some (Tb t), some (Rw xs)]) (e_drop (e_call (ds := [.int (k : Nat), Rw xs]) (by simp [hk]) e2))]
  exact e_ret (e_call (ds := [Tb t, Rw xs]) (by simp) e3)
theorem ev_worth (F : Form k t) (ht : AT m t) (hx : AS n xs) (hxl : xs.length = k) (h1 : 1 ≤ k) (hk : k ≤ 5) (h : m ≤ 1000000) (h' : n ≤ 1000000) : m_worth [Tb t, Rw xs] = some (Q (wor t xs)) := by
  have hl := F.len
  exact pl_worth hl (ev_check_form h1 hk F) (ev_check_row hxl) (ev_worth_by ht hx (k := k) (by omega) (fun r hr => by rw [F.wid r hr]; exact Nat.le_refl _) (by omega) (by omega) h h')
end
end W

namespace W
open PySem L2 Dl
section
variable {m n k : Nat} {xs ys : List Rat} {s t : List (List Rat)} {c : Rat}
/-! ### the law's own fractions -/
theorem euclid (T L : D) : ∀ (n b a : Nat), b < n → loopW (fB (fBin gNe (fVar 3) (fC (.int 0)))) (fPar 2 3 (fCons (fVar 3) (fCons (fBin gMod (fCall gInt (fCons (fVar 2) fNil)) (fVar 3)) fNil))) n [some T, some L, some (.int (a : Nat)), some (.int (b : Nat))] = some (.nx [some T, some L, some (.int (Nat.gcd a b : Nat)), some (.int 0)])
  | 0, b, a, h => absurd h (Nat.not_lt_zero _)
  | n + 1, b, a, h => by
    unfold loopW
    by_cases hb : b = 0
    · subst hb
      simp [asB]
    · have hm : a % b < n := Nat.lt_of_lt_of_le (Nat.mod_lt _ (Nat.pos_of_ne_zero hb)) (Nat.le_of_lt_succ h)
      have ih := euclid T L n (a % b) b hm
      have e1 : fB (fBin gNe (fVar 3) (fC (.int 0))) [some T, some L, some (.int (a : Nat)), some (.int (b : Nat))] = some (true, [some T, some L, some (.int (a : Nat)), some (.int (b : Nat))]) := by
        simp [asB, hb]
      have e2 : fPar 2 3 (fCons (fVar 3) (fCons (fBin gMod (fCall gInt (fCons (fVar 2) fNil)) (fVar 3)) fNil)) [some T, some L, some (.int (a : Nat)), some (.int (b : Nat))] = some (.nx [some T, some L, some (.int (b : Nat)), some (.int ((a % b : Nat) : Int))]) := by
        simp [fPar, gInt, gMod, hb, Int.fmod_eq_emod_of_nonneg]
      rw [e1]
      simp only [Option.bind_some, if_true]
      rw [e2]
      simp only [Option.bind_some, oLoop]
      rw [ih, Nat.gcd_comm b, ← Nat.gcd_rec b a, Nat.gcd_comm]
theorem ev_law_frac (t l : Int) (hl : l ≠ 0) : m__law_frac [.int t, .int l] = some (Q (Rat.divInt t l)) := by
  obtain ⟨h1, h2⟩ := rat_parts t l hl
  have hg : 0 < Nat.gcd t.natAbs l.natAbs := Nat.gcd_pos_of_pos_right t.natAbs (show 0 < l.natAbs by omega)
  generalize hG : Nat.gcd t.natAbs l.natAbs = G at h1 h2 hg
  let P : Int := if l > 0 then (G : Int) else -(G : Int)
  have hP : P ≠ 0 := by
    show (if l > 0 then (G : Int) else -(G : Int)) ≠ 0
    split <;> omega
  refine out_rt (ρ := [some (.int t), some (.int l), some (.int P), some (.int 0)]) ?_
  unfold b__law_frac c__law_frac
  have ab : ∀ x : Int, gAbs [.int x] = some (.int (x.natAbs : Nat)) := fun x => by
    unfold gAbs
    dsimp only
    congr 2
    split <;> omega
  rw [seq_nx (ρ1 := [some (.int t), some (.int l), some (.int (t.natAbs : Nat)), some (.int (l.natAbs : Nat))]) (by simp [startD, fPar, ab])]
  rw [seq_nx (ρ1 := [some (.int t), some (.int l), some (.int (G : Nat)), some (.int 0)]) (by
    unfold fWhile
    rw [← hG]
    exact euclid _ _ _ _ _ (by simp [mu, intAbs]; omega))]
  rw [seq_nx (ρ1 := [some (.int t), some (.int l), some (.int P), some (.int 0)]) (by
    show _ = some (Out.nx [some (.int t), some (.int l), some (.int (if l > 0 then (G : Int) else -(G : Int))), some (.int 0)])
    by_cases h : l > 0
    · simp [fSet, gGt, asB, h]
    · simp [fSet, gGt, asB, h, Dl.gSub])]
  have e1 : gFdivB (.int t) (.int P) = some (.int (Rat.divInt t l).num) := by
    unfold gFdivB
    dsimp only
    rw [if_pos hP]
    exact congrArg (fun z => some (D.int z)) h1
  have e2 : gFdivB (.int l) (.int P) = some (.int ((Rat.divInt t l).den : Nat)) := by
    unfold gFdivB
    dsimp only
    rw [if_pos hP]
    exact congrArg (fun z => some (D.int z)) h2
  refine e_ret ?_
  unfold fTup
  simp [e1, e2, Q, size_2]
theorem dot_step (T L : Int) (h t : Rat) (hL : L ≠ 0) : Rat.divInt (T * (h.den * t.den) + h.num * t.num * L) (L * (h.den * t.den)) = Rat.divInt T L + h * t := by
  rw [Rat.divInt_eq_div, Rat.divInt_eq_div]
  have e0 : ∀ q : Rat, q = (q.num : Rat) / (q.den : Rat) := fun q => by
    have : q = (q.num : Rat) / (((q.den : Int)) : Rat) := by rw [← Rat.divInt_eq_div, Rat.divInt_ofNat, Rat.mkRat_self]
    rwa [Rat.intCast_natCast] at this
  have e1 := e0 h
  have e2 := e0 t
  have n1 : (h.den : Rat) ≠ 0 := by exact_mod_cast h.den_nz
  have n2 : (t.den : Rat) ≠ 0 := by exact_mod_cast t.den_nz
  have n3 : (L : Rat) ≠ 0 := by exact_mod_cast hL
  conv => rhs; rw [e1, e2]
  simp only [Rat.intCast_add, Rat.intCast_mul, Rat.intCast_natCast]
  generalize (h.den : Rat) = a at *
  generalize (t.den : Rat) = b at *
  generalize (h.num : Rat) = c at *
  generalize (t.num : Rat) = d at *
  generalize (T : Rat) = T' at *
  generalize (L : Rat) = L' at *
  grind
theorem ev_law_dot (hx : AS n xs) (hy : AS n ys) (hl : xs.length ≤ 1000) (h : 2 + 1000 * (2 * n + 2) + 4 * n ≤ 134217728) : m__law_dot [Rw xs, Rw ys] = some (Q (dot xs ys)) := by
  have step : ∀ (l : List (Rat × Rat)) (T L : Int) (j : Nat) (d4 d5 d6 : Option D), (∀ z, z ∈ l → Sz n z.1 ∧ Sz n z.2) → L ≠ 0 → bl T.natAbs ≤ j → bl L.natAbs ≤ j → j + l.length * (2 * n + 1) + 4 * n ≤ 134217728 →
      ∃ (T' L' : Int) (e4 e5 e6 : Option D), loopD (gTp 2 (gsCons (gNm 4) (gsCons (gNm 5) gsNil))) (fSeq (fSet 6 (fBin gMul (fBin gIx (fVar 4) (fC (.int 1))) (fBin gIx (fVar 5) (fC (.int 1)))))
    (fPar 2 3 (fCons (fBin gAdd (fBin gMul (fVar 2) (fVar 6)) (fBin gMul (fBin gMul (fBin gIx (fVar 4) (fC (.int 0))) (fBin gIx (fVar 5) (fC (.int 0)))) (fVar 3))) (fCons (fBin gMul (fVar 3) (fVar 6)) fNil)))) (l.map fun z => .tup [Q z.1, Q z.2]) [some (Rw xs), some (Rw ys), some (.int T), some (.int L), d4, d5, d6] =
        some (.nx [some (Rw xs), some (Rw ys), some (.int T'), some (.int L'), e4, e5, e6]) ∧ L' ≠ 0 ∧ Rat.divInt T' L' = Rat.divInt T L + qsum (l.map fun z => z.1 * z.2) := by
    intro l
    induction l with
    | nil => intro T L j d4 d5 d6 _ hL _ _ _; exact ⟨T, L, d4, d5, d6, rfl, hL, by simp [Rat.add_zero]⟩
    | cons z r ih =>
      intro T L j d4 d5 d6 hz hL hT hLj hj
      obtain ⟨h1, h2⟩ := hz z List.mem_cons_self
      rw [List.length_cons, Nat.add_mul] at hj
      have by0 : bl ((z.1.den : Int) * (z.2.den : Int)).natAbs ≤ n + n := blM h1.den h2.den
      have nn : bl (z.1.num * z.2.num).natAbs ≤ n + n := blM h1.num h2.num
      have b1 : bl (T * ((z.1.den : Int) * z.2.den) + z.1.num * z.2.num * L).natAbs ≤ j + (2 * n + 1) := Nat.le_trans (blA (m := j + (n + n)) (blM hT by0) (by rw [Nat.add_comm j]; exact blM nn hLj)) (by omega)
      have b2 : bl (L * ((z.1.den : Int) * z.2.den)).natAbs ≤ j + (2 * n + 1) := Nat.le_trans (blM hLj by0) (by omega)
      obtain ⟨T', L', e4, e5, e6, he, hL', hs⟩ := ih (T * ((z.1.den : Int) * z.2.den) + z.1.num * z.2.num * L) (L * ((z.1.den : Int) * z.2.den)) (j + (2 * n + 1)) (some (Q z.1)) (some (Q z.2)) (some (.int ((z.1.den : Int) * z.2.den)))
        (fun y hy => hz y (List.mem_cons_of_mem _ hy)) (nz2 hL (nz2 (den_ne _) (den_ne _))) b1 b2 (by omega)
      refine ⟨T', L', e4, e5, e6, ?_, hL', ?_⟩
      · rw [List.map_cons]
        unfold loopD
        have m1 := mulOk_of h1.den h2.den (by omega)
        have m2 := mulOk_of hT by0 (by omega)
        have m3 := mulOk_of h1.num h2.num (by omega)
        have m4 := mulOk_of nn hLj (by omega)
        have m5 := mulOk_of hLj by0 (by omega)
        have s1 : gTp 2 (gsCons (gNm 4) (gsCons (gNm 5) gsNil)) (.tup [Q z.1, Q z.2]) [some (Rw xs), some (Rw ys), some (.int T), some (.int L), d4, d5, d6] = some [some (Rw xs), some (Rw ys), some (.int T), some (.int L), some (Q z.1), some (Q z.2), d6] := by
          simp [gTp, gsCons, gNm, gsNil]
        rw [s1, Option.bind_some]
        rw [seq_nx (ρ1 := [some (Rw xs), some (Rw ys), some (.int T), some (.int L), some (Q z.1), some (Q z.2), some (.int ((z.1.den : Int) * z.2.den))]) (by simp [fSet, gMul, m1])]
        have s2 : fPar 2 3 (fCons (fBin gAdd (fBin gMul (fVar 2) (fVar 6)) (fBin gMul (fBin gMul (fBin gIx (fVar 4) (fC (.int 0))) (fBin gIx (fVar 5) (fC (.int 0)))) (fVar 3))) (fCons (fBin gMul (fVar 3) (fVar 6)) fNil)) [some (Rw xs), some (Rw ys), some (.int T), some (.int L), some (Q z.1), some (Q z.2), some (.int ((z.1.den : Int) * z.2.den))] =
            some (.nx [some (Rw xs), some (Rw ys), some (.int (T * ((z.1.den : Int) * z.2.den) + z.1.num * z.2.num * L)), some (.int (L * ((z.1.den : Int) * z.2.den))), some (Q z.1), some (Q z.2), some (.int ((z.1.den : Int) * z.2.den))]) := by
          simp [fPar, gMul, m2, m3, m4, m5, gAdd]
        rw [s2, Option.bind_some]
        exact he
      · rw [hs, dot_step T L z.1 z.2 hL, List.map_cons, qsum_cons, Rat.add_assoc]
  have hz : ∀ z, z ∈ xs.zip ys → Sz n z.1 ∧ Sz n z.2 := fun z hz => hx.zip hy hz
  have hlz : (xs.zip ys).length ≤ 1000 := by rw [List.length_zip]; exact Nat.le_trans (Nat.min_le_left _ _) hl
  obtain ⟨T', L', e4, e5, e6, he, hL', hs⟩ := step (xs.zip ys) 0 1 1 none none none hz (by decide) (by decide) (by decide) (by
    have := Nat.mul_le_mul_right (2 * n + 1) hlz
    omega)
  refine out_rt (ρ := [some (Rw xs), some (Rw ys), some (.int T'), some (.int L'), e4, e5, e6]) ?_
  unfold b__law_dot c__law_dot
  rw [seq_nx (ρ1 := [some (Rw xs), some (Rw ys), some (.int 0), some (.int 1), none, none, none]) (by simp [startD, fAsg, fTup, gTp, gsCons, gNm, gsNil, size_2])]
  rw [seq_nx (by rw [for_nx (ds := (xs.zip ys).map fun z => .tup [Q z.1, Q z.2]) (ρ1 := [some (Rw xs), some (Rw ys), some (.int 0), some (.int 1), none, none, none]) (by simp [fZip])]; exact he)]
  refine e_ret (e_call (ds := [.int T', .int L']) (by simp) ?_)
  rw [ev_law_frac _ _ hL', hs]
  have : Rat.divInt 0 1 = 0 := by decide
  rw [this, Rat.zero_add]
  rfl
end
end W

namespace W
open PySem L2 Dl
section
variable {m n k : Nat} {xs ys : List Rat} {s t : List (List Rat)} {a b c : Rat}
theorem ev_law_times (ha : Sz m a) (hb : Sz n b) (h : m + n ≤ 134217728) : m__law_times [Q a, Q b] = some (Q (a * b)) := by
  have h1 := mulOk_of ha.num hb.num h
  have h3 := mulOk_of ha.den hb.den h
  have h4 := ev_law_frac (a.num * b.num) (a.den * b.den) (nz2 (den_ne a) (den_ne b))
  rw [mul_dI] at h4
  refine out_rt (ρ := [some (Q a), some (Q b)]) ?_
  unfold b__law_times c__law_times
  exact e_ret (e_call (ds := [.int (a.num * b.num), .int (a.den * b.den)]) (by simp [startD, gMul, h1, h3]) h4)
theorem pl_go {f : List D → Option D} {g : List Rat → Rat} {d : D} (hl : t.length ≤ 1000) (h : ∀ r, r ∈ t → f [Rw r, d] = some (Q (g r))) : outP false 3 (c__law_go f) [Tb t, d] = some (Rw (t.map g)) := by
  have e1 := comp_all (its := fItems (fVar 0)) (g := gNm 2) (c := fYes) (e := fCall f (fCons (fVar 2) (fCons (fVar 1) fNil))) (vs := [2]) (ρ := [some (Tb t), some d, none])
    Rw (fun r => Q (g r)) (xs := t) (by simp [fItems]) (len_line hl) (fun r hr => by simp [cstep, gNm, fYes, wipeD, h r hr])
  rw [mapQ] at e1
  refine out_rt (ρ := [some (Tb t), some d, none]) ?_
  unfold c__law_go
  refine e_ret (e_call (ds := [.lst ((t.map g).map Q)]) ?_ (tuple_L _))
  rw [show startD 3 [Tb t, d] = [some (Tb t), some d, none] from rfl, ap_cons, ap_ofL, e1]
  rfl
/-- rows and tables of at most six -/
theorem ev_law_go (ht : AT n t) (hx : AS n xs) (hl : t.length ≤ 1000) (hw : ∀ r, r ∈ t → r.length ≤ 1000) (h : n ≤ 60000) : m__law_go [Tb t, Rw xs] = some (Rw (tled t xs)) :=
  pl_go hl fun r hr => ev_law_dot (ht r hr) hx (hw r hr) (by omega)
theorem ev_law_at (ht : AT n t) (hx : AS n xs) (hl : t.length ≤ k) (hw : ∀ r, r ∈ t → r.length ≤ k) (hxl : xs.length ≤ k) (hk : k ≤ 6) (h : n ≤ 2000) : m__law_at [Tb t, Rw xs] = some (Q (wor t xs)) := by
  have e1 := ev_law_go ht hx (by omega) (fun r hr => Nat.le_trans (hw r hr) (by omega)) (by omega)
  have hA : AS (1 + 6 * (n + n + 1)) (tled t xs) := fun x hx' => (as_tled ht hx (k := 6) (fun r hr => Nat.le_trans (hw r hr) hk)) x hx'
  have e2 := ev_law_dot (n := 1 + 6 * (n + n + 1)) (xs := xs) (ys := tled t xs) (fun x hx' => (hx x hx').mono (by omega)) hA (by omega) (by omega)
  refine out_rt (ρ := [some (Tb t), some (Rw xs)]) ?_
  unfold b__law_at c__law_at
  exact e_ret (e_call (ds := [Rw xs, Rw (tled t xs)]) (by simp [startD, e1]) e2)
theorem pl_by {f : List D → Option D} (hl : xs.length ≤ 1000) (h : ∀ x, x ∈ xs → f [Q c, Q x] = some (Q (c * x))) : outP false 3 (c__law_by f) [Rw xs, Q c] = some (Rw (rscale xs c)) := by
  have e1 := comp_all (its := fItems (fVar 0)) (g := gNm 2) (c := fYes) (e := fCall f (fCons (fVar 1) (fCons (fVar 2) fNil))) (vs := [2]) (ρ := [some (Rw xs), some (Q c), none])
    Q (fun r => Q (r * c)) (xs := xs) (by simp [fItems]) (len_line hl) (fun r hr => by simp [cstep, gNm, fYes, wipeD, h r hr, Rat.mul_comm c r])
  rw [mapQ] at e1
  refine out_rt (ρ := [some (Rw xs), some (Q c), none]) ?_
  unfold c__law_by
  refine e_ret (e_call (ds := [.lst ((rscale xs c).map Q)]) ?_ (tuple_L _))
  rw [show startD 3 [Rw xs, Q c] = [some (Rw xs), some (Q c), none] from rfl, ap_cons, ap_ofL, e1]
  rfl
theorem ev_law_by (hx : AS m xs) (hc : Sz n c) (hl : xs.length ≤ 1000) (h : m + n ≤ 134217728) : m__law_by [Rw xs, Q c] = some (Rw (rscale xs c)) :=
  pl_by hl fun x hx' => ev_law_times hc (hx x hx') (by omega)
theorem ev_law_flip (hl : t.length ≤ 1000) (hm : m ≤ 1000) (h0 : t ≠ []) (hw : ∀ r, r ∈ t → r.length = m) : m__law_flip [Tb t] = some (Tb (tflip t m)) := by
  have h00 : (t[0]?.getD []).length = m := by
    cases t with
    | nil => exact absurd rfl h0
    | cons r _ => exact hw r List.mem_cons_self
  have i0 := ix_T (t := t) (j := 0) (by cases t with
    | nil => exact absurd rfl h0
    | cons r _ => simp)
  have e1 := comp_all (its := fRng1 (fCons (fCall gLen (fCons (fBin gIx (fVar 0) (fC (.int 0))) fNil)) fNil)) (g := gNm 1) (c := fYes) (e := fCall gTuple (fCons (fOfL (fComp (fItems (fVar 0)) (gNm 2) fYes (fBin gIx (fVar 2) (fVar 1)) [2])) fNil)) (vs := [1]) (ρ := [some (Tb t), none, none])
    natD (fun j => Rw (col t j)) (xs := List.range m) (rng1 (by simp [show gIx (Tb t) (.int 0) = _ from i0, h00]) hm) (by rw [List.length_range]; exact Nat.le_trans hm (by decide)) (fun j hj => by
      have hj := List.mem_range.mp hj
      have e2 := comp_all (its := fItems (fVar 0)) (g := gNm 2) (c := fYes) (e := fBin gIx (fVar 2) (fVar 1)) (vs := [2]) (ρ := [some (Tb t), some (natD j), none])
        Rw (fun r => Q (r[j]?.getD 0)) (xs := t) (by simp [fItems]) (len_line hl) (fun r hr => by
          have := ix_R (xs := r) (j := j) (by rw [hw r hr]; exact hj)
          simp [cstep, gNm, fYes, wipeD, natD, this])
      rw [mapQ] at e2
      simp [cstep, gNm, fYes, wipeD, e2]
      rw [← List.map_map]
      rfl)
  rw [mapR] at e1
  refine out_rt (ρ := [some (Tb t), none, none]) ?_
  unfold b__law_flip c__law_flip
  refine e_ret (e_call (ds := [.lst ((tflip t m).map Rw)]) ?_ (tuple_LT _))
  rw [show startD 3 [Tb t] = [some (Tb t), none, none] from rfl, ap_cons, ap_ofL, e1]
  rfl
/-- the product of two tables, the second with rows of m -/
def tmul (s t : List (List Rat)) (m : Nat) : List (List Rat) := s.map fun r => (tflip t m).map fun c => dot r c
theorem ev_law_mul (hs : AT n s) (ht : AT n (tflip t m)) (hl : s.length ≤ 1000) (hw : ∀ r, r ∈ s → r.length ≤ 1000) (htl : t.length ≤ 1000) (hm : m ≤ 1000) (h0 : t ≠ []) (htw : ∀ r, r ∈ t → r.length = m) (h : n ≤ 60000) : m__law_mul [Tb s, Tb t] = some (Tb (tmul s t m)) := by
  have e0 := ev_law_flip htl hm h0 htw
  have hfl : (tflip t m).length ≤ 1000 := by unfold tflip; simpa using hm
  have e1 := comp_all (its := fItems (fVar 0)) (g := gNm 3) (c := fYes) (e := fCall gTuple (fCons (fOfL (fComp (fItems (fVar 2)) (gNm 4) fYes (fCall m__law_dot (fCons (fVar 3) (fCons (fVar 4) fNil))) [4])) fNil)) (vs := [3]) (ρ := [some (Tb s), some (Tb t), some (Tb (tflip t m)), none, none])
    Rw (fun r => Rw ((tflip t m).map fun c => dot r c)) (xs := s) (by simp [fItems]) (len_line hl) (fun r hr => by
      have e2 := comp_all (its := fItems (fVar 2)) (g := gNm 4) (c := fYes) (e := fCall m__law_dot (fCons (fVar 3) (fCons (fVar 4) fNil))) (vs := [4]) (ρ := [some (Tb s), some (Tb t), some (Tb (tflip t m)), some (Rw r), none])
        Rw (fun c => Q (dot r c)) (xs := tflip t m) (by simp [fItems]) (len_line hfl) (fun c hc => by
          have := ev_law_dot (hs r hr) (ht c hc) (hw r hr) (by omega)
          simp [cstep, gNm, fYes, wipeD, this])
      rw [mapQ] at e2
      simp only [cstep, gNm, fYes, wipeD]
      simp [e2]
      rw [← List.map_map]
      rfl)
  rw [mapR] at e1
  refine out_rt (ρ := [some (Tb s), some (Tb t), some (Tb (tflip t m)), none, none]) ?_
  unfold b__law_mul c__law_mul
  rw [show startD 5 [Tb s, Tb t] = [some (Tb s), some (Tb t), none, none, none] from rfl]
  rw [seq_nx (ρ1 := [some (Tb s), some (Tb t), some (Tb (tflip t m)), none, none]) (by rw [e_set (i := 2) (e_call (ρ1 := [some (Tb s), some (Tb t), none, none, none]) (ds := [Tb t]) (by simp) e0) (by simp)]; rfl)]
  refine e_ret (e_call (ds := [.lst ((tmul s t m).map Rw)]) ?_ (tuple_LT _))
  rw [ap_cons, ap_ofL, e1]
  rfl
end
end W

namespace W
open PySem L2 Dl
/-! ### the urn -/
def Urn (B : Nat) (es : List D) : Prop := ∃ a b c d : Int, es = [.int a, .int b, .int c, .int d] ∧ 0 ≤ c ∧ c + B ≤ 1000000000
theorem Urn.mono {A B : Nat} {es : List D} (h : Urn B es) (le : A ≤ B) : Urn A es := by
  obtain ⟨a, b, c, d, e, h1, h2⟩ := h
  exact ⟨a, b, c, d, e, h1, by omega⟩
theorem bl_small {n k : Nat} (h : n < 2 ^ k) : bl n ≤ k := bl_le.mpr h
theorem ev_take {B : Nat} {es : List D} {lim : Nat} (U : Urn (B + 1) es) (h0 : 0 < lim) (h1 : lim < 1073741824) : ∃ (j : Nat) (es' : List D), j < lim ∧ Urn B es' ∧ m__law_take es [.int (lim : Nat)] = some (.int (j : Nat), es') := by
  obtain ⟨a, b, c, d, rfl, hc, hB⟩ := U
  have l0 : (0 : Int) < lim := by omega
  have l1 : (lim : Int) < 1073741824 := by omega
  by_cases ha : 0 < a
  · have hj0 : 0 ≤ a % lim := Int.emod_nonneg _ (by omega)
    have hj1 : a % lim < lim := Int.emod_lt_of_pos _ l0
    refine ⟨(a % lim).toNat, [.int (a / lim), .int b, .int c, .int d], by omega, ⟨_, _, _, _, rfl, hc, by omega⟩, ?_⟩
    rw [Int.toNat_of_nonneg hj0]
    refine outU_rt (ρ := [some (.lst [.int (a / lim), .int b, .int c, .int d]), some (.int (lim : Nat)), some (.int (a % lim)), none]) ?_ rfl
    unfold b__law_take c__law_take
    rw [show startD 4 (.lst [.int a, .int b, .int c, .int d] :: [.int (lim : Nat)]) = [some (.lst [.int a, .int b, .int c, .int d]), some (.int (lim : Nat)), none, none] from rfl]
    refine seq_rt ?_
    rw [if_t (ρ1 := [some (.lst [.int a, .int b, .int c, .int d]), some (.int (lim : Nat)), none, none]) (by simp [gIx, atI, ixN, gGt, asB, ha])]
    rw [seq_nx (ρ1 := [some (.lst [.int (a / lim), .int b, .int c, .int d]), some (.int (lim : Nat)), some (.int (a % lim)), none]) (by
      have e : gDivmod [.int a, .int (lim : Nat)] = some (.tup [.int (a / lim), .int (a % lim)]) := by
        show (if _ then _ else _) = _
        rw [if_pos ⟨l0, l1⟩]
      simp [fAsg, gIx, atI, ixN, e, gTp, gsCons, gNm, gsNil, gIxT, asI])]
    rfl
  · have hs0 : ∀ x : Int, 0 ≤ x.fmod 2147483497 ∧ x.fmod 2147483497 < 2147483497 := fun x => ⟨Int.fmod_nonneg_of_pos _ (by decide), Int.fmod_lt_of_pos _ (by decide)⟩
    let c1 := c + 1
    have hc1 : 0 ≤ c1 ∧ c1 ≤ 1000000000 := by show 0 ≤ c + 1 ∧ c + 1 ≤ _; omega
    let sd := (b + 51787 * c1).fmod 2147483497
    have hsd := hs0 (b + 51787 * c1)
    let q := sd.fmod 6007
    have hq : 0 ≤ q ∧ q < 6007 := ⟨Int.fmod_nonneg_of_pos _ (by decide), Int.fmod_lt_of_pos _ (by decide)⟩
    let b1 := (sd * (q + 41011) + 29 * c1).fmod 2147483497
    have hb1 := hs0 (sd * (q + 41011) + 29 * c1)
    let j := (b1.fdiv 769).fmod lim
    have hj0 : 0 ≤ j := Int.fmod_nonneg_of_pos _ l0
    have hj1 : j < lim := Int.fmod_lt_of_pos _ l0
    have m1 : mulOk 51787 c1 = true := mulOk_of (m := 40) (n := 40) (bl_small (by decide)) (bl_small (by omega)) (by decide)
    have m2 : mulOk 29 c1 = true := mulOk_of (m := 40) (n := 40) (bl_small (by decide)) (bl_small (by omega)) (by decide)
    have m3 : mulOk sd (q + 41011) = true := mulOk_of (m := 40) (n := 40) (bl_small (by omega)) (bl_small (by omega)) (by decide)
    refine ⟨j.toNat, [.int a, .int b1, .int c1, .int d], by omega, ⟨_, _, _, _, rfl, hc1.1, by show c + 1 + B ≤ _; omega⟩, ?_⟩
    rw [Int.toNat_of_nonneg hj0]
    refine outU_rt (ρ := [some (.lst [.int a, .int b1, .int c1, .int d]), some (.int (lim : Nat)), none, some (.int sd)]) ?_ rfl
    unfold b__law_take c__law_take
    rw [show startD 4 (.lst [.int a, .int b, .int c, .int d] :: [.int (lim : Nat)]) = [some (.lst [.int a, .int b, .int c, .int d]), some (.int (lim : Nat)), none, none] from rfl]
    rw [seq_nx (ρ1 := [some (.lst [.int a, .int b, .int c, .int d]), some (.int (lim : Nat)), none, none]) (by
      rw [if_f (ρ1 := [some (.lst [.int a, .int b, .int c, .int d]), some (.int (lim : Nat)), none, none]) (by simp [gIx, atI, ixN, gGt, asB, ha])]; rfl)]
    rw [seq_nx (ρ1 := [some (.lst [.int a, .int b, .int c1, .int d]), some (.int (lim : Nat)), none, none]) (by simp [fSetIx, gIx, atI, ixN, gAdd, asI, c1])]
    rw [seq_nx (ρ1 := [some (.lst [.int a, .int b, .int c1, .int d]), some (.int (lim : Nat)), none, some (.int sd)]) (by simp [fSet, gIx, atI, ixN, gAdd, gMul, m1, gInt, gMod, sd])]
    rw [seq_nx (ρ1 := [some (.lst [.int a, .int b1, .int c1, .int d]), some (.int (lim : Nat)), none, some (.int sd)]) (by
      have e1 : gMod (.int sd) (.int 6007) = some (.int q) := rfl
      have e2 : gMul (.int sd) (.int (q + 41011)) = some (.int (sd * (q + 41011))) := by show (if mulOk _ _ = true then _ else _) = _; rw [if_pos m3]
      have e3 : gMul (.int 29) (.int c1) = some (.int (29 * c1)) := by show (if mulOk _ _ = true then _ else _) = _; rw [if_pos m2]
      have e4 : gMod (.int (sd * (q + 41011) + 29 * c1)) (.int 2147483497) = some (.int b1) := rfl
      generalize sd * (q + 41011) = X at e2 e4
      generalize 29 * c1 = Y at e3 e4
      simp [fSetIx, gIx, atI, ixN, gAdd, gInt, e1, e2, e3, e4, asI])]
    have e5 : gFdivB (.int b1) (.int 769) = some (.int (b1.fdiv 769)) := rfl
    have e6 : gMod (.int (b1.fdiv 769)) (.int (lim : Nat)) = some (.int j) := by
      show (if (lim : Int) ≠ 0 then _ else _) = _
      rw [if_pos (by omega)]
    generalize b1.fdiv 769 = X at e5 e6
    refine e_ret ?_
    simp [gIx, atI, ixN, e5, gInt, e6]
end W

namespace W
open PySem L2 Dl
theorem e_callU {i : Nat} {m : List D → List D → Option (D × List D)} {fs : LFn} {ρ : DEnv} {es es' ds : List D} {d : D} (hi : ρ[i]?.join = some (.lst es)) (h : fs ρ = some (ds, ρ)) (hm : m es ds = some (d, es')) : fCallU i m fs ρ = some (d, ρ.set i (some (.lst es'))) := by
  unfold fCallU
  rw [hi, Option.bind_some, h, Option.bind_some]
  dsimp only
  rw [hi]
  dsimp only
  rw [hm]
  rfl
theorem sz_num {t l : Int} {n : Nat} (hl : l ≠ 0) (ht : t.natAbs < 2 ^ n) (hl' : l.natAbs < 2 ^ n) : Sz n (Rat.divInt t l) := sz_divInt hl (bl_le.mpr ht) (bl_le.mpr hl')
theorem sz_int {t : Int} {n : Nat} (hn : 1 ≤ n) (ht : t.natAbs < 2 ^ n) : Sz n (t : Rat) := by
  refine ⟨?_, ?_⟩
  · rw [Rat.num_intCast]; exact bl_le.mpr ht
  · rw [Rat.den_intCast]; exact hn
theorem Q_int (t : Int) : Q (t : Rat) = .tup [.int t, .int 1] := rfl
theorem ev_number {B : Nat} {es : List D} (U : Urn (B + 4) es) : ∃ (q : Rat) (es' : List D), Sz 21 q ∧ Urn B es' ∧ m__law_number es [] = some (Q q, es') := by
  obtain ⟨j, es1, hj, U1, e1⟩ := ev_take (B := B + 3) (lim := 96) U (by decide) (by decide)
  have U1' := U1
  obtain ⟨a, b, c, d, rfl, hc, hB⟩ := U1
  by_cases h : j = 95 ∧ 0 < d
  · obtain ⟨rfl, hd⟩ := h
    have U2 : Urn (B + 2 + 1) [.int a, .int b, .int c, .int (d - 1)] := ⟨_, _, _, _, rfl, hc, by omega⟩
    obtain ⟨j2, es2, hj2, U3, e2⟩ := ev_take (lim := 2000003) U2 (by decide) (by decide)
    obtain ⟨j3, es3, hj3, U4, e3⟩ := ev_take (B := B + 1) (lim := 97) U3 (by decide) (by decide)
    refine ⟨Rat.divInt ((j2 : Int) - 1000001) (1 + (j3 : Int)), es3, sz_num (by omega) (by omega) (by omega), U4.mono (by omega), ?_⟩
    refine outU_rt (ρ := [some (.lst es3), some (.int 95)]) ?_ rfl
    unfold b__law_number c__law_number
    rw [show startD 2 (.lst es :: []) = [some (.lst es), none] from rfl]
    rw [seq_nx (ρ1 := [some (.lst [.int a, .int b, .int c, .int d]), some (.int 95)]) (by rw [e_set (i := 1) (e_callU (es := es) (ds := [.int 96]) rfl (by simp) e1) (by simp)]; rfl)]
    refine seq_rt ?_
    rw [if_t (ρ1 := [some (.lst [.int a, .int b, .int c, .int d]), some (.int 95)]) (by simp [fAndT, asB, gIx, atI, ixN, gGt, hd])]
    rw [seq_nx (ρ1 := [some (.lst [.int a, .int b, .int c, .int (d - 1)]), some (.int 95)]) (by simp [fSetIx, gIx, atI, ixN, Dl.gSub, asI])]
    have e4 := ev_law_frac ((j2 : Int) - 1000001) (1 + (j3 : Int)) (by omega)
    refine e_ret (e_call (ds := [.int ((j2 : Int) - 1000001), .int (1 + (j3 : Int))]) ?_ e4)
    have a1 : fBin Dl.gSub (fCallU 0 m__law_take (fCons (fC (.int 2000003)) fNil)) (fC (.int 1000001)) [some (.lst [.int a, .int b, .int c, .int (d - 1)]), some (.int 95)] = some (.int ((j2 : Int) - 1000001), [some (.lst es2), some (.int 95)]) :=
      e_bin (e_callU (es := [.int a, .int b, .int c, .int (d - 1)]) (ds := [.int 2000003]) rfl (by simp) e2) (ap_C _ _) rfl
    have a2 : fBin gAdd (fC (.int 1)) (fCallU 0 m__law_take (fCons (fC (.int 97)) fNil)) [some (.lst es2), some (.int 95)] = some (.int (1 + (j3 : Int)), [some (.lst es3), some (.int 95)]) :=
      e_bin (ap_C _ _) (e_callU (es := es2) (ds := [.int 97]) rfl (by simp) e3) rfl
    rw [ap_cons, a1, Option.bind_some, ap_cons, a2]
    rfl
  · have hcond : fAndT (fB (fBin gEq (fVar 1) (fC (.int 95)))) (fB (fBin gGt (fBin gIx (fVar 0) (fC (.int 3))) (fC (.int 0)))) [some (.lst [.int a, .int b, .int c, .int d]), some (.int (j : Nat))] = some (false, [some (.lst [.int a, .int b, .int c, .int d]), some (.int (j : Nat))]) := by
      by_cases h1 : j = 95
      · have h2 : ¬ 0 < d := fun z => h ⟨h1, z⟩
        subst h1
        simp [fAndT, asB, gIx, atI, ixN, gGt, h2]
      · have h1' : ¬ (j : Int) = 95 := by omega
        simp [fAndT, asB, h1']
    by_cases h2 : j < 62
    · obtain ⟨j2, es2, hj2, U3, e2⟩ := ev_take (B := B + 2) (lim := 5) U1' (by decide) (by decide)
      refine ⟨(((j2 : Int) - 2 : Int) : Rat), es2, sz_int (by decide) (by omega), U3.mono (by omega), ?_⟩
      refine outU_rt (ρ := [some (.lst es2), some (.int (j : Nat))]) ?_ rfl
      unfold b__law_number c__law_number
      rw [show startD 2 (.lst es :: []) = [some (.lst es), none] from rfl]
      rw [seq_nx (ρ1 := [some (.lst [.int a, .int b, .int c, .int d]), some (.int (j : Nat))]) (by rw [e_set (i := 1) (e_callU (es := es) (ds := [.int 96]) rfl (by simp) e1) (by simp)]; rfl)]
      rw [seq_nx (ρ1 := [some (.lst [.int a, .int b, .int c, .int d]), some (.int (j : Nat))]) (by rw [if_f hcond]; rfl)]
      refine seq_rt ?_
      have h2' : (j : Int) < 62 := by omega
      rw [if_t (ρ1 := [some (.lst [.int a, .int b, .int c, .int d]), some (.int (j : Nat))]) (by simp [asB, gLt, h2'])]
      refine e_ret ?_
      have a1 : fBin Dl.gSub (fCallU 0 m__law_take (fCons (fC (.int 5)) fNil)) (fC (.int 2)) [some (.lst [.int a, .int b, .int c, .int d]), some (.int (j : Nat))] = some (.int ((j2 : Int) - 2), [some (.lst es2), some (.int (j : Nat))]) :=
        e_bin (e_callU (es := [.int a, .int b, .int c, .int d]) (ds := [.int 5]) rfl (by simp) e2) (ap_C _ _) rfl
      generalize (j2 : Int) - 2 = z at a1 ⊢
      unfold fTup
      rw [ap_cons, a1]
      simp [size_2]
      rfl
    · obtain ⟨j2, es2, hj2, U3, e2⟩ := ev_take (B := B + 2) (lim := 9) U1' (by decide) (by decide)
      obtain ⟨j3, es3, hj3, U4, e3⟩ := ev_take (B := B + 1) (lim := 3) U3 (by decide) (by decide)
      refine ⟨Rat.divInt ((j2 : Int) - 4) (2 + (j3 : Int)), es3, sz_num (by omega) (by omega) (by omega), U4.mono (by omega), ?_⟩
      refine outU_rt (ρ := [some (.lst es3), some (.int (j : Nat))]) ?_ rfl
      unfold b__law_number c__law_number
      rw [show startD 2 (.lst es :: []) = [some (.lst es), none] from rfl]
      rw [seq_nx (ρ1 := [some (.lst [.int a, .int b, .int c, .int d]), some (.int (j : Nat))]) (by rw [e_set (i := 1) (e_callU (es := es) (ds := [.int 96]) rfl (by simp) e1) (by simp)]; rfl)]
      rw [seq_nx (ρ1 := [some (.lst [.int a, .int b, .int c, .int d]), some (.int (j : Nat))]) (by rw [if_f hcond]; rfl)]
      have h2' : ¬ (j : Int) < 62 := by omega
      rw [seq_nx (ρ1 := [some (.lst [.int a, .int b, .int c, .int d]), some (.int (j : Nat))]) (by rw [if_f (ρ1 := [some (.lst [.int a, .int b, .int c, .int d]), some (.int (j : Nat))]) (by simp [asB, gLt, h2'])]; rfl)]
      have e4 := ev_law_frac ((j2 : Int) - 4) (2 + (j3 : Int)) (by omega)
      refine e_ret (e_call (ds := [.int ((j2 : Int) - 4), .int (2 + (j3 : Int))]) ?_ e4)
      have a1 : fBin Dl.gSub (fCallU 0 m__law_take (fCons (fC (.int 9)) fNil)) (fC (.int 4)) [some (.lst [.int a, .int b, .int c, .int d]), some (.int (j : Nat))] = some (.int ((j2 : Int) - 4), [some (.lst es2), some (.int (j : Nat))]) :=
        e_bin (e_callU (es := [.int a, .int b, .int c, .int d]) (ds := [.int 9]) rfl (by simp) e2) (ap_C _ _) rfl
      have a2 : fBin gAdd (fC (.int 2)) (fCallU 0 m__law_take (fCons (fC (.int 3)) fNil)) [some (.lst es2), some (.int (j : Nat))] = some (.int (2 + (j3 : Int)), [some (.lst es3), some (.int (j : Nat))]) :=
        e_bin (ap_C _ _) (e_callU (es := es2) (ds := [.int 3]) rfl (by simp) e3) rfl
      rw [ap_cons, a1, Option.bind_some, ap_cons, a2]
      rfl
end W

namespace W
open PySem L2 Dl
theorem line_1000 {n : Nat} (h : n < 1000) : n < sizeLine := Nat.lt_trans h (by decide)
/-- a loop that appends what it draws -/
theorem draws {α : Type} (enc : α → D) (P : α → Prop) (w : Nat) (body : SFn) (sz : D)
    (hb : ∀ (B : Nat) (es : List D) (acc : List α) (d : Option D), Urn (B + w) es → acc.length < 1000 → ∃ (x : α) (es' : List D), P x ∧ Urn B es' ∧
      body [some (.lst es), some sz, some (.lst (acc.map enc)), d] = some (.nx [some (.lst es'), some sz, some (.lst ((acc ++ [x]).map enc)), d])) :
    ∀ (js : List Nat) (acc : List α) (es : List D) (d : Option D) (B : Nat), Urn (B + w * js.length) es → acc.length + js.length ≤ 1000 →
      ∃ (ys : List α) (es' : List D) (d' : Option D), ys.length = js.length ∧ (∀ y, y ∈ ys → P y) ∧ Urn B es' ∧
        loopD (gNm 3) body (js.map natD) [some (.lst es), some sz, some (.lst (acc.map enc)), d] = some (.nx [some (.lst es'), some sz, some (.lst ((acc ++ ys).map enc)), d'])
  | [], acc, es, d, B, U, _ => ⟨[], es, d, rfl, fun _ h => by simp at h, by simpa using U, by simp [loopD]⟩
  | j :: r, acc, es, d, B, U, hl => by
    rw [List.length_cons] at hl
    have U' : Urn (B + w * r.length + w) es := by
      have e : B + w * (j :: r).length = B + w * r.length + w := by rw [List.length_cons, Nat.mul_add]; omega
      rw [e] at U; exact U
    obtain ⟨x, es1, px, U1, e1⟩ := hb (B + w * r.length) es acc (some (natD j)) U' (by omega)
    obtain ⟨ys, es2, d', hy, py, U2, e2⟩ := draws enc P w body sz hb r (acc ++ [x]) es1 (some (natD j)) B U1 (by simp; omega)
    refine ⟨x :: ys, es2, d', by simp [hy], fun y h => ?_, U2, ?_⟩
    · rcases List.mem_cons.mp h with z | z
      · rw [z]; exact px
      · exact py y z
    · rw [List.map_cons]
      unfold loopD
      rw [show gNm 3 (natD j) [some (.lst es), some sz, some (.lst (acc.map enc)), d] = some [some (.lst es), some sz, some (.lst (acc.map enc)), some (natD j)] from by simp [gNm], Option.bind_some, e1, Option.bind_some]
      rw [show acc ++ x :: ys = acc ++ [x] ++ ys from by simp]
      exact e2
theorem app_body {f : List D → List D → Option (D × List D)} {fs : LFn} {es es' ds acc : List D} {sz x : D} {d : Option D} (h : fs [some (.lst es), some sz, some (.lst acc), d] = some (ds, [some (.lst es), some sz, some (.lst acc), d])) (hm : f es ds = some (x, es')) (hl : acc.length < 1000) :
    fApp 2 (fCallU 0 f fs) [some (.lst es), some sz, some (.lst acc), d] = some (.nx [some (.lst es'), some sz, some (.lst (acc ++ [x])), d]) := by
  unfold fApp
  rw [e_callU (es := es) rfl h hm]
  simp [line_1000 hl]
theorem pl_line {α : Type} (enc : α → D) (P : α → Prop) (w k B : Nat) {f : List D → List D → Option (D × List D)} {fs : LFn} {es : List D} (hk : k ≤ 1000) (U : Urn (B + w * k) es)
    (hfs : ∀ es acc d, ∃ ds, fs [some (.lst es), some (.int (k : Nat)), some (.lst acc), d] = some (ds, [some (.lst es), some (.int (k : Nat)), some (.lst acc), d]) ∧ ∀ B, Urn (B + w) es → ∃ (x : α) (es' : List D), P x ∧ Urn B es' ∧ f es ds = some (enc x, es')) :
    ∃ (ys : List α) (es' : List D), ys.length = k ∧ (∀ y, y ∈ ys → P y) ∧ Urn B es' ∧ outU 4 (fSeq (fSetL 2 (fLst fNil)) (fSeq (fFor (fRng1 (fCons (fVar 1) fNil)) (gNm 3) (fApp 2 (fCallU 0 f fs))) (fRet (fCall gTuple (fCons (fVar 2) fNil))))) es [.int (k : Nat)] = some (.tup (ys.map enc), es') := by
  obtain ⟨ys, es', d', hy, py, U', e⟩ := draws enc P w (fApp 2 (fCallU 0 f fs)) (.int (k : Nat)) (fun B es acc d U hl => by
    obtain ⟨ds, h1, h2⟩ := hfs es (acc.map enc) d
    obtain ⟨x, es', px, U', e⟩ := h2 B U
    refine ⟨x, es', px, U', ?_⟩
    rw [app_body h1 e (by simpa using hl)]
    simp) (List.range k) [] es none B (by simpa using U) (by simpa using hk)
  refine ⟨ys, es', by simpa using hy, py, U', ?_⟩
  refine outU_rt (ρ := [some (.lst es'), some (.int (k : Nat)), some (.lst (ys.map enc)), d']) ?_ rfl
  rw [show startD 4 (.lst es :: [.int (k : Nat)]) = [some (.lst es), some (.int (k : Nat)), none, none] from rfl]
  rw [seq_nx (ρ1 := [some (.lst es), some (.int (k : Nat)), some (.lst []), none]) (by simp [fSetL, fLst])]
  rw [seq_nx (ρ1 := [some (.lst es'), some (.int (k : Nat)), some (.lst (ys.map enc)), d']) (by
    rw [for_nx (ds := (List.range k).map natD) (ρ1 := [some (.lst es), some (.int (k : Nat)), some (.lst []), none]) (rng1 (by simp) hk)]
    simpa using e)]
  exact e_ret (e_call (ds := [.lst (ys.map enc)]) (by simp) rfl)
theorem ev_line {B k : Nat} {es : List D} (hk : k ≤ 1000) (U : Urn (B + 4 * k) es) : ∃ (xs : List Rat) (es' : List D), xs.length = k ∧ AS 21 xs ∧ Urn B es' ∧ m__law_line es [.int (k : Nat)] = some (Rw xs, es') :=
  pl_line Q (Sz 21) 4 k B hk U fun es acc d => ⟨[], rfl, fun B U => ev_number U⟩
theorem ev_square {B k : Nat} {es : List D} (hk : k ≤ 1000) (U : Urn (B + 4 * k * k) es) : ∃ (t : List (List Rat)) (es' : List D), t.length = k ∧ (∀ r, r ∈ t → r.length = k ∧ AS 21 r) ∧ Urn B es' ∧ m__law_square es [.int (k : Nat)] = some (Tb t, es') :=
  pl_line Rw (fun r => r.length = k ∧ AS 21 r) (4 * k) k B hk U fun es acc d => ⟨[.int (k : Nat)], by simp, fun B U => by
    obtain ⟨xs, es', h1, h2, h3, h4⟩ := ev_line hk U
    exact ⟨xs, es', ⟨h1, h2⟩, h3, h4⟩⟩
theorem ev_size {B : Nat} {es : List D} (U : Urn (B + 1) es) : ∃ (k : Nat) (es' : List D), 1 ≤ k ∧ k ≤ 4 ∧ Urn B es' ∧ m__law_size es [] = some (.int (k : Nat), es') := by
  obtain ⟨j, es1, hj, U1, e1⟩ := ev_take (lim := 10) U (by decide) (by decide)
  have key : ∃ k : Nat, 1 ≤ k ∧ k ≤ 4 ∧ gIx (.tup [.int 2, .int 2, .int 3, .int 1, .int 2, .int 3, .int 2, .int 4, .int 2, .int 3]) (.int (j : Nat)) = some (.int (k : Nat)) := by
    match j, hj with
    | 0, _ => exact ⟨2, by decide, by decide, rfl⟩
    | 1, _ => exact ⟨2, by decide, by decide, rfl⟩
    | 2, _ => exact ⟨3, by decide, by decide, rfl⟩
    | 3, _ => exact ⟨1, by decide, by decide, rfl⟩
    | 4, _ => exact ⟨2, by decide, by decide, rfl⟩
    | 5, _ => exact ⟨3, by decide, by decide, rfl⟩
    | 6, _ => exact ⟨2, by decide, by decide, rfl⟩
    | 7, _ => exact ⟨4, by decide, by decide, rfl⟩
    | 8, _ => exact ⟨2, by decide, by decide, rfl⟩
    | 9, _ => exact ⟨3, by decide, by decide, rfl⟩
  obtain ⟨k, h1, h2, e2⟩ := key
  refine ⟨k, es1, h1, h2, U1, ?_⟩
  refine outU_rt (ρ := [some (.lst es1)]) ?_ rfl
  unfold b__law_size c__law_size
  rw [show startD 1 (.lst es :: []) = [some (.lst es)] from rfl]
  refine e_ret (e_bin (ρ1 := [some (.lst es)]) ?_ (e_callU (es := es) (ds := [.int 10]) rfl (by simp) e1) e2)
  simp [fTup, show 10 ≤ sizeLine by decide]
end W

namespace W
open PySem L2 Dl
section
variable {m n k : Nat} {xs ys : List Rat} {s t : List (List Rat)} {a b c : Rat}
/-- .. for tables that are lists, too -/
theorem ev_law_flip' {d : D} (hd : itemsD d = some (t.map Rw)) (hi : gIx d (.int 0) = some (Rw (t[0]?.getD []))) (hl : t.length ≤ 1000) (hm : m ≤ 1000) (h0 : t ≠ []) (hw : ∀ r, r ∈ t → r.length = m) : m__law_flip [d] = some (Tb (tflip t m)) := by
  have h00 : (t[0]?.getD []).length = m := by
    cases t with
    | nil => exact absurd rfl h0
    | cons r _ => exact hw r List.mem_cons_self
  have e1 := comp_all (its := fRng1 (fCons (fCall gLen (fCons (fBin gIx (fVar 0) (fC (.int 0))) fNil)) fNil)) (g := gNm 1) (c := fYes) (e := fCall gTuple (fCons (fOfL (fComp (fItems (fVar 0)) (gNm 2) fYes (fBin gIx (fVar 2) (fVar 1)) [2])) fNil)) (vs := [1]) (ρ := [some d, none, none])
    natD (fun j => Rw (col t j)) (xs := List.range m) (rng1 (by simp [hi, h00]) hm) (by rw [List.length_range]; exact Nat.le_trans hm (by decide)) (fun j hj => by
      have hj := List.mem_range.mp hj
      have e2 := comp_all (its := fItems (fVar 0)) (g := gNm 2) (c := fYes) (e := fBin gIx (fVar 2) (fVar 1)) (vs := [2]) (ρ := [some d, some (natD j), none])
        Rw (fun r => Q (r[j]?.getD 0)) (xs := t) (by simp [fItems, hd]) (len_line hl) (fun r hr => by
          have := ix_R (xs := r) (j := j) (by rw [hw r hr]; exact hj)
          simp [cstep, gNm, fYes, wipeD, natD, this])
      rw [mapQ] at e2
      simp [cstep, gNm, fYes, wipeD, e2]
      rw [← List.map_map]
      rfl)
  rw [mapR] at e1
  refine out_rt (ρ := [some d, none, none]) ?_
  unfold b__law_flip c__law_flip
  refine e_ret (e_call (ds := [.lst ((tflip t m).map Rw)]) ?_ (tuple_LT _))
  rw [show startD 3 [d] = [some d, none, none] from rfl, ap_cons, ap_ofL, e1]
  rfl
theorem ix_L0 (h0 : t ≠ []) : gIx (.lst (t.map Rw)) (.int 0) = some (Rw (t[0]?.getD [])) := by
  cases t with
  | nil => exact absurd rfl h0
  | cons r q =>
    show atI ((r :: q).map Rw) 0 = _
    simp [atI, ixN]
theorem ev_law_mul' {d : D} (hd : m__law_flip [d] = some (Tb (tflip t m))) (hs : AT n s) (ht : AT n (tflip t m)) (hl : s.length ≤ 1000) (hw : ∀ r, r ∈ s → r.length ≤ 1000) (hm : m ≤ 1000) (h : n ≤ 60000) : m__law_mul [Tb s, d] = some (Tb (tmul s t m)) := by
  have hfl : (tflip t m).length ≤ 1000 := by unfold tflip; simpa using hm
  have e1 := comp_all (its := fItems (fVar 0)) (g := gNm 3) (c := fYes) (e := fCall gTuple (fCons (fOfL (fComp (fItems (fVar 2)) (gNm 4) fYes (fCall m__law_dot (fCons (fVar 3) (fCons (fVar 4) fNil))) [4])) fNil)) (vs := [3]) (ρ := [some (Tb s), some d, some (Tb (tflip t m)), none, none])
    Rw (fun r => Rw ((tflip t m).map fun c => dot r c)) (xs := s) (by simp [fItems]) (len_line hl) (fun r hr => by
      have e2 := comp_all (its := fItems (fVar 2)) (g := gNm 4) (c := fYes) (e := fCall m__law_dot (fCons (fVar 3) (fCons (fVar 4) fNil))) (vs := [4]) (ρ := [some (Tb s), some d, some (Tb (tflip t m)), some (Rw r), none])
        Rw (fun c => Q (dot r c)) (xs := tflip t m) (by simp [fItems]) (len_line hfl) (fun c hc => by
          have := ev_law_dot (hs r hr) (ht c hc) (hw r hr) (by omega)
          simp [cstep, gNm, fYes, wipeD, this])
      rw [mapQ] at e2
      simp only [cstep, gNm, fYes, wipeD]
      simp [e2]
      rw [← List.map_map]
      rfl)
  rw [mapR] at e1
  refine out_rt (ρ := [some (Tb s), some d, some (Tb (tflip t m)), none, none]) ?_
  unfold b__law_mul c__law_mul
  rw [show startD 5 [Tb s, d] = [some (Tb s), some d, none, none, none] from rfl]
  rw [seq_nx (ρ1 := [some (Tb s), some d, some (Tb (tflip t m)), none, none]) (by rw [e_set (i := 2) (e_call (ρ1 := [some (Tb s), some d, none, none, none]) (ds := [d]) (by simp) hd) (by simp)]; rfl)]
  refine e_ret (e_call (ds := [.lst ((tmul s t m).map Rw)]) ?_ (tuple_LT _))
  rw [ap_cons, ap_ofL, e1]
  rfl
end
/-! tables by their entries -/
def g0 (i : Nat) (xs : List Rat) : Rat := xs[i]?.getD 0
def mk (k : Nat) (F : Nat → Nat → Rat) : List (List Rat) := (List.range k).map fun i => (List.range k).map fun j => F i j
theorem mk_len (k : Nat) (F : Nat → Nat → Rat) : (mk k F).length = k := by simp [mk]
theorem mk_wid {k : Nat} {F : Nat → Nat → Rat} {r : List Rat} (h : r ∈ mk k F) : r.length = k := by
  unfold mk at h
  rw [List.mem_map] at h
  obtain ⟨i, _, rfl⟩ := h
  simp
theorem col_mk {k : Nat} {F : Nat → Nat → Rat} {j : Nat} (hj : j < k) : col (mk k F) j = (List.range k).map fun i => F i j := by
  unfold col mk
  rw [List.map_map]
  refine List.map_congr_left fun i _ => ?_
  simp [hj]
theorem tflip_mk (k : Nat) (F : Nat → Nat → Rat) : tflip (mk k F) k = mk k fun i j => F j i := by
  unfold tflip
  conv => rhs; unfold mk
  refine List.map_congr_left fun j hj => ?_
  rw [col_mk (List.mem_range.mp hj)]
theorem form_mk {k : Nat} {F : Nat → Nat → Rat} (h : ∀ i j, i < k → j < k → F i j = F j i) : Form k (mk k F) :=
  ⟨mk_len k F, fun r hr => mk_wid hr, by
    rw [tflip_mk]
    unfold mk
    refine List.map_congr_left fun i hi => List.map_congr_left fun j hj => ?_
    exact (h i j (List.mem_range.mp hi) (List.mem_range.mp hj)).symm⟩
theorem g0_rscale (i : Nat) (xs : List Rat) (c : Rat) : g0 i (rscale xs c) = g0 i xs * c := by
  unfold g0 rscale
  rw [List.getElem?_map]
  cases xs[i]? with
  | none => simp [Rat.zero_mul]
  | some x => rfl
/-- the sum of heights times squares of rows -/
def sqs (hs : List Rat) (ls : List (List Rat)) (i j : Nat) : Rat := qsum ((ls.zip hs).map fun z => g0 i z.1 * z.2 * g0 j z.1)
theorem sqs_symm (hs : List Rat) (ls : List (List Rat)) (i j : Nat) : sqs hs ls i j = sqs hs ls j i := by
  unfold sqs
  congr 1
  refine List.map_congr_left fun z _ => ?_
  grind
theorem dot_cols : ∀ (ls : List (List Rat)) (hs : List Rat) (i j : Nat), ls.length = hs.length → dot (col ((ls.zip hs).map fun z => rscale z.1 z.2) i) (col ls j) = sqs hs ls i j
  | [], [], i, j, _ => rfl
  | l :: ls, h :: hs, i, j, e => by
    have ih := dot_cols ls hs i j (by simpa using e)
    unfold col sqs at ih ⊢
    simp only [List.zip_cons_cons, List.map_cons, dot_cons, qsum_cons]
    rw [ih]
    rw [show ((rscale l h)[i]?.getD 0) = g0 i (rscale l h) from rfl, g0_rscale]
    rfl
  | [], _ :: _, _, _, e => by simp at e
  | _ :: _, [], _, _, e => by simp at e
theorem as_col {n k j : Nat} {t : List (List Rat)} (ht : AT n t) (hw : ∀ r, r ∈ t → r.length = k) (hj : j < k) : AS n (col t j) := fun x hx => by
  unfold col at hx
  rw [List.mem_map] at hx
  obtain ⟨r, hr, rfl⟩ := hx
  have : j < r.length := by rw [hw r hr]; exact hj
  rw [List.getElem?_eq_getElem this]
  exact ht r hr _ (List.getElem_mem this)
theorem at_tflip {n k : Nat} {t : List (List Rat)} (ht : AT n t) (hw : ∀ r, r ∈ t → r.length = k) : AT n (tflip t k) := fun r hr => by
  unfold tflip at hr
  rw [List.mem_map] at hr
  obtain ⟨j, hj, rfl⟩ := hr
  exact as_col ht hw (List.mem_range.mp hj)
def scd (hs : List Rat) (ls : List (List Rat)) : List (List Rat) := (ls.zip hs).map fun z => rscale z.1 z.2
theorem scd_row {n k : Nat} {hs : List Rat} {ls : List (List Rat)} (hw : ∀ r, r ∈ ls → r.length = k) (hls : AT n ls) (hhs : AS n hs) : ∀ r, r ∈ scd hs ls → r.length = k ∧ AS (n + n) r := fun r hr => by
  unfold scd at hr
  rw [List.mem_map] at hr
  obtain ⟨⟨r', h⟩, hz, rfl⟩ := hr
  have hz' := List.of_mem_zip hz
  exact ⟨by simp [rscale, hw r' hz'.1], as_rscale (hls r' hz'.1) (hhs h hz'.2)⟩
theorem scd_ne {hs : List Rat} {ls : List (List Rat)} (hl : ls.length = hs.length) (h0 : ls ≠ []) : scd hs ls ≠ [] := by
  cases ls with
  | nil => exact absurd rfl h0
  | cons l r => cases hs with
    | nil => simp at hl
    | cons _ _ => simp [scd]
theorem scd_mul {k : Nat} {hs : List Rat} {ls : List (List Rat)} (hl : ls.length = hs.length) : tmul (tflip (scd hs ls) k) ls k = mk k (sqs hs ls) := by
  unfold tmul tflip mk
  rw [List.map_map]
  refine List.map_congr_left fun i hi => ?_
  simp only [Function.comp]
  rw [List.map_map]
  refine List.map_congr_left fun j hj => ?_
  exact dot_cols ls hs i j hl
theorem ev_scd {n k : Nat} {hs : List Rat} {ls : List (List Rat)} (h6 : ls.length ≤ 10) (hk : k ≤ 10) (hw : ∀ r, r ∈ ls → r.length = k) (hls : AT n ls) (hhs : AS n hs) (hn : n ≤ 20000) :
    fComp (fZip (fCons (fVar 1) (fCons (fVar 0) fNil))) (gTp 2 (gsCons (gNm 2) (gsCons (gNm 3) gsNil))) fYes (fCall m__law_by (fCons (fVar 2) (fCons (fVar 3) fNil))) [2, 3] [some (.lst (hs.map Q)), some (.lst (ls.map Rw)), none, none] =
      some ((scd hs ls).map Rw, [some (.lst (hs.map Q)), some (.lst (ls.map Rw)), none, none]) := by
  have e1 := comp_all (its := fZip (fCons (fVar 1) (fCons (fVar 0) fNil))) (g := gTp 2 (gsCons (gNm 2) (gsCons (gNm 3) gsNil))) (c := fYes) (e := fCall m__law_by (fCons (fVar 2) (fCons (fVar 3) fNil))) (vs := [2, 3]) (ρ := [some (.lst (hs.map Q)), some (.lst (ls.map Rw)), none, none])
    (fun z : List Rat × Rat => .tup [Rw z.1, Q z.2]) (fun z => Rw (rscale z.1 z.2)) (xs := ls.zip hs) (by simp [fZip, zipD_lst]) (zip_line (by omega)) (fun z hz => by
      obtain ⟨r, h⟩ := z
      have hz' := List.of_mem_zip hz
      have := ev_law_by (hls r hz'.1) (hhs h hz'.2) (by rw [hw r hz'.1]; omega) (by omega)
      simp [cstep, gTp, gsCons, gNm, gsNil, fYes, wipeD, this])
  rw [mapR (fun z : List Rat × Rat => rscale z.1 z.2)] at e1
  exact e1
theorem pl_of_squares {f1 f2 f3 : List D → Option D} {hs ls d1 d2 : D} {xs : List D} (e1 : fComp (fZip (fCons (fVar 1) (fCons (fVar 0) fNil))) (gTp 2 (gsCons (gNm 2) (gsCons (gNm 3) gsNil))) fYes (fCall f3 (fCons (fVar 2) (fCons (fVar 3) fNil))) [2, 3] [some hs, some ls, none, none] = some (xs, [some hs, some ls, none, none]))
    (e2 : f2 [.lst xs] = some d1) (e3 : f1 [d1, ls] = some d2) : outP false 4 (c__law_of_squares f1 f2 f3) [hs, ls] = some d2 := by
  refine out_rt (ρ := [some hs, some ls, none, none]) ?_
  unfold c__law_of_squares
  rw [show startD 4 [hs, ls] = [some hs, some ls, none, none] from rfl]
  refine e_ret (e_call (ds := [d1, ls]) ?_ e3)
  have a1 : fCall f2 (fCons (fOfL (fComp (fZip (fCons (fVar 1) (fCons (fVar 0) fNil))) (gTp 2 (gsCons (gNm 2) (gsCons (gNm 3) gsNil))) fYes (fCall f3 (fCons (fVar 2) (fCons (fVar 3) fNil))) [2, 3])) fNil) [some hs, some ls, none, none] = some (d1, [some hs, some ls, none, none]) := by
    refine e_call (ds := [.lst xs]) ?_ e2
    rw [ap_cons, ap_ofL, e1]
    rfl
  rw [ap_cons, a1]
  simp
theorem flip_len {t : List (List Rat)} {k : Nat} : (tflip t k).length = k := by simp [tflip]
theorem flip_wid {t : List (List Rat)} {k : Nat} {r : List Rat} (hr : r ∈ tflip t k) : r.length = t.length := by
  unfold tflip at hr
  rw [List.mem_map] at hr
  obtain ⟨j, _, rfl⟩ := hr
  simp [col]
theorem ev_of_squares {n k : Nat} {hs : List Rat} {ls : List (List Rat)} (hl : ls.length = hs.length) (h0 : ls ≠ []) (h6 : ls.length ≤ 10) (hk : k ≤ 10) (hw : ∀ r, r ∈ ls → r.length = k) (hls : AT n ls) (hhs : AS n hs) (hn : n ≤ 20000) :
    m__law_of_squares [.lst (hs.map Q), .lst (ls.map Rw)] = some (Tb (mk k (sqs hs ls))) := by
  have hsl := scd_row hw hls hhs
  have hsl0 := scd_ne hl h0
  have hlen : (scd hs ls).length ≤ 10 := by unfold scd; rw [List.length_map, List.length_zip]; omega
  have e2 : m__law_flip [.lst ((scd hs ls).map Rw)] = some (Tb (tflip (scd hs ls) k)) := ev_law_flip' (m := k) (t := scd hs ls) (d := .lst ((scd hs ls).map Rw)) rfl (ix_L0 hsl0) (by omega) (by omega) hsl0 (fun r hr => (hsl r hr).1)
  have e3 : m__law_flip [.lst (ls.map Rw)] = some (Tb (tflip ls k)) := ev_law_flip' (m := k) (t := ls) (d := .lst (ls.map Rw)) rfl (ix_L0 h0) (by omega) (by omega) h0 hw
  have a1 : AT (n + n) (tflip (scd hs ls) k) := at_tflip (fun r hr => (hsl r hr).2) fun r hr => (hsl r hr).1
  have a2 : AT (n + n) (tflip ls k) := fun r hr x hx => (at_tflip hls hw r hr x hx).mono (by omega)
  have e4 := ev_law_mul' (n := n + n) (s := tflip (scd hs ls) k) (t := ls) (m := k) e3 a1 a2 (by rw [flip_len]; omega) (fun r hr => by rw [flip_wid hr]; omega) (by omega) (by omega)
  rw [scd_mul hl] at e4
  exact pl_of_squares (ev_scd h6 hk hw hls hhs hn) e2 e4
end W

namespace W
open PySem L2 Dl
/-- a loop over i, i + 1, .. -/
theorem loop_upto {S : Type} {v : Nat} {body : SFn} (I : Nat → S → DEnv → Prop) : ∀ (m i : Nat) (s : S) (ρ : DEnv), I i s ρ →
    (∀ (j : Nat) (s : S) (ρ : DEnv), i ≤ j → j < i + m → I j s ρ → ∃ (s' : S) (ρ' : DEnv), (gNm v (natD j) ρ).bind body = some (.nx ρ') ∧ I (j + 1) s' ρ') →
    ∃ (s' : S) (ρ' : DEnv), loopD (gNm v) body ((List.range' i m).map natD) ρ = some (.nx ρ') ∧ I (i + m) s' ρ'
  | 0, i, s, ρ, h, _ => ⟨s, ρ, rfl, h⟩
  | m + 1, i, s, ρ, h, st => by
    obtain ⟨s1, ρ1, e1, h1⟩ := st i s ρ (Nat.le_refl _) (by omega) h
    obtain ⟨s2, ρ2, e2, h2⟩ := loop_upto I m (i + 1) s1 ρ1 h1 fun j s ρ a b => st j s ρ (by omega) (by omega)
    refine ⟨s2, ρ2, ?_, by rw [show i + (m + 1) = i + 1 + m by omega]; exact h2⟩
    rw [List.range'_succ, List.map_cons]
    unfold loopD
    cases e3 : gNm v (natD i) ρ with
    | none => rw [e3] at e1; cases e1
    | some ρ3 =>
      rw [e3, Option.bind_some] at e1
      rw [Option.bind_some, e1]
      exact e2
theorem range_0 (n : Nat) : List.range n = List.range' 0 n := List.range_eq_range'
theorem div_pos {a b : Rat} (ha : 0 < a) (hb : 0 < b) : 0 < a / b := by
  rw [Rat.div_def]
  exact Rat.mul_pos ha (Rat.inv_pos.mpr hb)
theorem divInt_pos {a b : Int} (ha : 0 < a) (hb : 0 < b) : 0 < Rat.divInt a b := by
  rw [Rat.divInt_eq_div]
  exact div_pos (Rat.intCast_pos.mpr ha) (Rat.intCast_pos.mpr hb)
/-- the i-th row of a table's stairs -/
structure Tri (k i : Nat) (r : List Rat) : Prop where
  len : r.length = k
  lo : ∀ j, j < i → g0 j r = 0
  one : g0 i r = 1
theorem tri_mk {k j : Nat} {xs : List Rat} (hj : j < k) (hx : xs.length = k - 1 - j) : Tri k j (List.replicate j 0 ++ [1] ++ xs) := by
  refine ⟨by simp [hx]; omega, fun i hi => ?_, ?_⟩
  · unfold g0
    rw [List.append_assoc, List.getElem?_append_left (by simpa using hi), List.getElem?_replicate, if_pos hi]
    rfl
  · unfold g0
    rw [List.append_assoc, List.getElem?_append_right (by simp)]
    simp
theorem flat_rep (j : Nat) : (List.replicate j [Q 0]).flatten = (List.replicate j (0 : Rat)).map Q := by
  induction j with
  | zero => rfl
  | succ j ih => rw [List.replicate_succ, List.flatten_cons, ih, List.replicate_succ, List.map_cons]; rfl
theorem line_add {a b : List D} (h : a.length + b.length ≤ 1000) : gAdd (.tup a) (.tup b) = some (.tup (a ++ b)) := by
  show (if a.length + b.length ≤ sizeLine then _ else _) = _
  rw [if_pos (Nat.le_trans h (by decide))]
theorem as_tri {j : Nat} {xs : List Rat} (h : AS 21 xs) : AS 21 (List.replicate j 0 ++ [1] ++ xs) := fun x hx => by
  rw [List.mem_append, List.mem_append] at hx
  rcases hx with (hx | hx) | hx
  · rw [(List.mem_replicate.mp hx).2]; exact sz_zero.mono (by decide)
  · rw [List.mem_singleton.mp hx]; exact sz_one.mono (by decide)
  · exact h x hx
def TabI (k B : Nat) (j : Nat) (s : List Rat × List (List Rat)) (ρ : DEnv) : Prop := ∃ (es : List D) (d : Option D), ρ = [some (.lst es), some (.int (k : Nat)), some (.lst (s.2.map Rw)), some (.lst (s.1.map Q)), d] ∧ Urn (B + 100 * (k - j)) es ∧
  s.1.length = j ∧ s.2.length = j ∧ (∀ i r, s.2[i]? = some r → Tri k i r ∧ AS 21 r) ∧ (∀ h, h ∈ s.1 → 0 < h ∧ Sz 21 h)
theorem tab_step {k B : Nat} (hk : k ≤ 10) (j : Nat) (s : List Rat × List (List Rat)) (ρ : DEnv) (hj : j < k) (I : TabI k B j s ρ) : ∃ (s' : List Rat × List (List Rat)) (ρ' : DEnv),
    (gNm 4 (natD j) ρ).bind (fSeq (fApp 2 (fBin gAdd (fBin gAdd (fBin gMul (fTup (fCons (fTup (fCons (fC (.int 0)) (fCons (fC (.int 1)) fNil))) fNil)) (fVar 4)) (fTup (fCons (fTup (fCons (fC (.int 1)) (fCons (fC (.int 1)) fNil))) fNil))) (fCallU 0 m__law_line (fCons (fBin Dl.gSub (fBin Dl.gSub (fVar 1) (fC (.int 1))) (fVar 4)) fNil))))
    (fApp 3 (fCall m__law_frac (fCons (fBin gAdd (fC (.int 1)) (fCallU 0 m__law_take (fCons (fC (.int 4)) fNil))) (fCons (fBin gAdd (fC (.int 1)) (fCallU 0 m__law_take (fCons (fC (.int 2)) fNil))) fNil))))) = some (.nx ρ') ∧ TabI k B (j + 1) s' ρ' := by
  obtain ⟨es, d, rfl, U, l1, l2, hr, hh⟩ := I
  obtain ⟨hs, ls⟩ := s
  dsimp only at l1 l2 hr hh ⊢
  have U' : Urn (B + 100 * (k - (j + 1)) + 40 + 4 * (k - 1 - j)) es := U.mono (by omega)
  obtain ⟨xs, es1, hx, ax, U1, e1⟩ := ev_line (k := k - 1 - j) (by omega) U'
  obtain ⟨a, es2, ha, U2, e2⟩ := ev_take (B := B + 100 * (k - (j + 1)) + 39) (lim := 4) U1 (by decide) (by decide)
  obtain ⟨b, es3, hb, U3, e3⟩ := ev_take (B := B + 100 * (k - (j + 1)) + 38) (lim := 2) U2 (by decide) (by decide)
  have e4 := ev_law_frac (1 + (a : Int)) (1 + (b : Int)) (by omega)
  let row := List.replicate j (0 : Rat) ++ [1] ++ xs
  let h := Rat.divInt (1 + (a : Int)) (1 + (b : Int))
  have hpos : 0 < h := by
    show 0 < Rat.divInt (1 + (a : Int)) (1 + (b : Int))
    exact divInt_pos (by omega) (by omega)
  refine ⟨(hs ++ [h], ls ++ [row]), [some (.lst es3), some (.int (k : Nat)), some (.lst ((ls ++ [row]).map Rw)), some (.lst ((hs ++ [h]).map Q)), some (natD j)], ?_, es3, some (natD j), rfl, U3.mono (by omega), by simp [l1], by simp [l2], fun i r hi => ?_, fun q hq => ?_⟩
  · rw [show gNm 4 (natD j) [some (.lst es), some (.int (k : Nat)), some (.lst (ls.map Rw)), some (.lst (hs.map Q)), d] = some [some (.lst es), some (.int (k : Nat)), some (.lst (ls.map Rw)), some (.lst (hs.map Q)), some (natD j)] from by simp [gNm], Option.bind_some]
    have a1 : ∀ E : DEnv, E[4]?.join = some (natD j) → fBin gAdd (fBin gMul (fTup (fCons (fTup (fCons (fC (.int 0)) (fCons (fC (.int 1)) fNil))) fNil)) (fVar 4)) (fTup (fCons (fTup (fCons (fC (.int 1)) (fCons (fC (.int 1)) fNil))) fNil)) E =
        some (Rw (List.replicate j 0 ++ [1]), E) := fun E hE => by
      have g1 : gMul (.tup [Q 0]) (natD j) = some (.tup ((List.replicate j (0 : Rat)).map Q)) := by
        show (if _ then _ else _) = _
        rw [if_pos ⟨by simp, Int.natCast_nonneg j, by omega, by decide⟩, Int.toNat_natCast, flat_rep]
      refine e_bin (ρ1 := E) (ρ2 := E) (x := .tup ((List.replicate j (0 : Rat)).map Q)) (y := .tup [Q 1]) (e_bin (ρ1 := E) (ρ2 := E) (x := .tup [Q 0]) (y := natD j) ?_ (by rw [ap_var, hE]; rfl) g1) ?_ ?_
      · simp [fTup, size_2, Q0, show 1 ≤ sizeLine by decide]
      · simp [fTup, size_2, Q1, show 1 ≤ sizeLine by decide]
      · rw [line_add (by simp; omega)]
        simp [Rw]
    have a2 : fCallU 0 m__law_line (fCons (fBin Dl.gSub (fBin Dl.gSub (fVar 1) (fC (.int 1))) (fVar 4)) fNil) [some (.lst es), some (.int (k : Nat)), some (.lst (ls.map Rw)), some (.lst (hs.map Q)), some (natD j)] =
        some (Rw xs, [some (.lst es1), some (.int (k : Nat)), some (.lst (ls.map Rw)), some (.lst (hs.map Q)), some (natD j)]) := by
      have hkj : ((k - 1 - j : Nat) : Int) = (k : Int) - 1 - (j : Int) := by omega
      refine e_callU (es := es) (ds := [.int (k - 1 - j : Nat)]) rfl ?_ e1
      rw [hkj]
      simp [Dl.gSub, natD]
    have a3 : gAdd (Rw (List.replicate j 0 ++ [1])) (Rw xs) = some (Rw row) := by
      show gAdd (.tup _) (.tup _) = _
      rw [line_add (by simp [hx]; omega), ← List.map_append]
      rfl
    have s1 := e_bin (a1 _ rfl) a2 a3
    have hll : (ls.map Rw).length < 1000 := by simp [l2]; omega
    have hhl : (hs.map Q).length < 1000 := by simp [l1]; omega
    rw [seq_nx (ρ1 := [some (.lst es1), some (.int (k : Nat)), some (.lst ((ls ++ [row]).map Rw)), some (.lst (hs.map Q)), some (natD j)]) (by
      unfold fApp
      rw [s1]
      have := line_1000 hll
      rw [List.length_map] at this
      simp [this])]
    have b1 : fBin gAdd (fC (.int 1)) (fCallU 0 m__law_take (fCons (fC (.int 4)) fNil)) [some (.lst es1), some (.int (k : Nat)), some (.lst ((ls ++ [row]).map Rw)), some (.lst (hs.map Q)), some (natD j)] = some (.int (1 + (a : Int)), [some (.lst es2), some (.int (k : Nat)), some (.lst ((ls ++ [row]).map Rw)), some (.lst (hs.map Q)), some (natD j)]) :=
      e_bin (ap_C _ _) (e_callU (es := es1) (ds := [.int 4]) rfl (by simp) e2) rfl
    have b2 : fBin gAdd (fC (.int 1)) (fCallU 0 m__law_take (fCons (fC (.int 2)) fNil)) [some (.lst es2), some (.int (k : Nat)), some (.lst ((ls ++ [row]).map Rw)), some (.lst (hs.map Q)), some (natD j)] = some (.int (1 + (b : Int)), [some (.lst es3), some (.int (k : Nat)), some (.lst ((ls ++ [row]).map Rw)), some (.lst (hs.map Q)), some (natD j)]) :=
      e_bin (ap_C _ _) (e_callU (es := es2) (ds := [.int 2]) rfl (by simp) e3) rfl
    have s2 : fCall m__law_frac (fCons (fBin gAdd (fC (.int 1)) (fCallU 0 m__law_take (fCons (fC (.int 4)) fNil))) (fCons (fBin gAdd (fC (.int 1)) (fCallU 0 m__law_take (fCons (fC (.int 2)) fNil))) fNil)) [some (.lst es1), some (.int (k : Nat)), some (.lst ((ls ++ [row]).map Rw)), some (.lst (hs.map Q)), some (natD j)] = some (Q h, [some (.lst es3), some (.int (k : Nat)), some (.lst ((ls ++ [row]).map Rw)), some (.lst (hs.map Q)), some (natD j)]) := by
      refine e_call (ds := [.int (1 + (a : Int)), .int (1 + (b : Int))]) ?_ e4
      rw [ap_cons, b1, Option.bind_some, ap_cons, b2]
      rfl
    unfold fApp
    rw [s2]
    have := line_1000 hhl
    rw [List.length_map] at this
    simp [this]
  · rw [List.getElem?_append] at hi
    split at hi
    · exact hr i r hi
    · rename_i hi2
      have : i = j := by
        rw [l2] at hi2
        have : i - ls.length < 1 := by
          rw [List.getElem?_eq_some_iff] at hi
          obtain ⟨h, _⟩ := hi
          simpa using h
        omega
      subst this
      rw [l2, Nat.sub_self] at hi
      simp at hi
      subst hi
      exact ⟨tri_mk hj hx, as_tri ax⟩
  · rcases List.mem_append.mp hq with z | z
    · exact hh q z
    · rw [List.mem_singleton.mp z]
      exact ⟨hpos, sz_num (by omega) (by omega) (by omega)⟩
end W

namespace W
open PySem L2 Dl
/-- what a drawn table is made of -/
structure Stairs (k : Nat) (hs : List Rat) (ls : List (List Rat)) : Prop where
  hl : hs.length = k
  ll : ls.length = k
  tri : ∀ i r, ls[i]? = some r → Tri k i r ∧ AS 21 r
  pos : ∀ h, h ∈ hs → 0 < h ∧ Sz 21 h
theorem Stairs.wid {k : Nat} {hs : List Rat} {ls : List (List Rat)} (S : Stairs k hs ls) : ∀ r, r ∈ ls → r.length = k := fun r hr => by
  obtain ⟨i, hi⟩ := List.getElem?_of_mem hr
  exact (S.tri i r hi).1.len
theorem Stairs.sz {k : Nat} {hs : List Rat} {ls : List (List Rat)} (S : Stairs k hs ls) : AT 21 ls := fun r hr => by
  obtain ⟨i, hi⟩ := List.getElem?_of_mem hr
  exact (S.tri i r hi).2
theorem pl_table {f1 f2 : List D → List D → Option (D × List D)} {g1 g2 : List D → Option D} {k : Nat} {es es' : List D} {A B : List D} {d : Option D} {T : D}
    (hk : k ≤ 1000) (e : loopD (gNm 4) (fSeq (fApp 2 (fBin gAdd (fBin gAdd (fBin gMul (fTup (fCons (fTup (fCons (fC (.int 0)) (fCons (fC (.int 1)) fNil))) fNil)) (fVar 4)) (fTup (fCons (fTup (fCons (fC (.int 1)) (fCons (fC (.int 1)) fNil))) fNil))) (fCallU 0 f1 (fCons (fBin Dl.gSub (fBin Dl.gSub (fVar 1) (fC (.int 1))) (fVar 4)) fNil))))
    (fApp 3 (fCall g1 (fCons (fBin gAdd (fC (.int 1)) (fCallU 0 f2 (fCons (fC (.int 4)) fNil))) (fCons (fBin gAdd (fC (.int 1)) (fCallU 0 f2 (fCons (fC (.int 2)) fNil))) fNil))))) ((List.range' 0 k).map natD) [some (.lst es), some (.int (k : Nat)), some (.lst []), some (.lst []), none] = some (.nx [some (.lst es'), some (.int (k : Nat)), some (.lst A), some (.lst B), d]))
    (e2 : g2 [.lst B, .lst A] = some T) : outU 5 (c__law_table f1 g1 f2 g2) es [.int (k : Nat)] = some (T, es') := by
  refine outU_rt (ρ := [some (.lst es'), some (.int (k : Nat)), some (.lst A), some (.lst B), d]) ?_ rfl
  unfold c__law_table
  rw [show startD 5 (.lst es :: [.int (k : Nat)]) = [some (.lst es), some (.int (k : Nat)), none, none, none] from rfl]
  rw [seq_nx (ρ1 := [some (.lst es), some (.int (k : Nat)), some (.lst []), some (.lst []), none]) (by simp [fPar, fLst])]
  rw [seq_nx (by
    rw [for_nx (ds := (List.range' 0 k).map natD) (ρ1 := [some (.lst es), some (.int (k : Nat)), some (.lst []), some (.lst []), none]) (by rw [← range_0]; exact rng1 (by simp) hk)]
    exact e)]
  exact e_ret (e_call (ds := [.lst B, .lst A]) (by simp) e2)
theorem ev_table {k B : Nat} {es : List D} (h1 : 1 ≤ k) (hk : k ≤ 10) (U : Urn (B + 100 * k) es) : ∃ (hs : List Rat) (ls : List (List Rat)) (es' : List D), Stairs k hs ls ∧ Urn B es' ∧ m__law_table es [.int (k : Nat)] = some (Tb (mk k (sqs hs ls)), es') := by
  obtain ⟨s', ρ', e, I⟩ := loop_upto (TabI k B) k 0 ([], []) [some (.lst es), some (.int (k : Nat)), some (.lst []), some (.lst []), none] ⟨es, none, rfl, by simpa using U, rfl, rfl, fun i r h => by simp at h, fun h z => by simp at z⟩
    fun j s ρ _ hj I => tab_step hk j s ρ (by omega) I
  obtain ⟨es', d, rfl, U', l1, l2, hr, hh⟩ := I
  obtain ⟨hs, ls⟩ := s'
  dsimp only at l1 l2 hr hh e ⊢
  rw [Nat.zero_add] at l1 l2 U'
  have S : Stairs k hs ls := ⟨l1, l2, hr, hh⟩
  refine ⟨hs, ls, es', S, U'.mono (by omega), ?_⟩
  have e2 := ev_of_squares (n := 21) (k := k) (hs := hs) (ls := ls) (by omega) (by intro z; subst z; simp at l2; omega) (by omega) hk S.wid S.sz (fun h z => (hh h z).2) (by decide)
  exact pl_table (by omega) e e2
end W

namespace W
open PySem L2 Dl
/-! a drawn form -/
/-- the rows as far as they are drawn: alike turned over among themselves -/
structure Half (k j : Nat) (t : List (List Rat)) : Prop where
  len : t.length = j
  wid : ∀ r, r ∈ t → r.length = k
  sz : AT 21 t
  sym : ∀ a b r s, t[a]? = some r → t[b]? = some s → g0 b r = g0 a s
def FrmI (k B : Nat) (j : Nat) (t : List (List Rat)) (ρ : DEnv) : Prop := ∃ (es : List D) (d : Option D), ρ = [some (.lst es), some (.int (k : Nat)), some (.lst (t.map fun r => .lst (r.map Q))), d, none, none, none, none] ∧ Urn (B + 100 * (k - j)) es ∧ Half k j t
def RwL (r : List Rat) : D := .lst (r.map Q)
theorem half_row {k j : Nat} {t : List (List Rat)} {xs : List Rat} (hj : j < k) (h : Half k j t) (hx : xs.length = k - j) (ax : AS 21 xs) : Half k (j + 1) (t ++ [t.map (g0 j) ++ xs]) := by
  have l0 : (t.map (g0 j)).length = j := by rw [List.length_map, h.len]
  have lr : (t.map (g0 j) ++ xs).length = k := by rw [List.length_append, l0, hx]; omega
  have low : ∀ a r, t[a]? = some r → g0 a (t.map (g0 j) ++ xs) = g0 j r := fun a r hr => by
    have ha : a < t.length := (List.getElem?_eq_some_iff.mp hr).1
    unfold g0
    rw [List.getElem?_append_left (by rw [List.length_map]; exact ha), List.getElem?_map, hr]
    rfl
  have at_ : ∀ a r, (t ++ [t.map (g0 j) ++ xs])[a]? = some r → t[a]? = some r ∨ (a = j ∧ r = t.map (g0 j) ++ xs) := fun a r hr => by
    rw [List.getElem?_append] at hr
    split at hr
    · exact .inl hr
    · rename_i hn
      have ha : a - t.length < 1 := by
        rw [List.getElem?_eq_some_iff] at hr
        obtain ⟨q, _⟩ := hr
        simpa using q
      have : a = t.length := by omega
      subst this
      rw [Nat.sub_self] at hr
      simp at hr
      exact .inr ⟨h.len, hr.symm⟩
  refine ⟨by simp [h.len], fun r hr => ?_, fun r hr => ?_, fun a b r s hr hs => ?_⟩
  · rcases List.mem_append.mp hr with z | z
    · exact h.wid r z
    · rw [List.mem_singleton.mp z]; exact lr
  · rcases List.mem_append.mp hr with z | z
    · exact h.sz r z
    · rw [List.mem_singleton.mp z]
      intro x hx'
      rcases List.mem_append.mp hx' with y | y
      · rw [List.mem_map] at y
        obtain ⟨r', hr', rfl⟩ := y
        have : j < r'.length := by rw [h.wid r' hr']; exact hj
        unfold g0
        rw [List.getElem?_eq_getElem this]
        exact h.sz r' hr' _ (List.getElem_mem this)
      · exact ax x y
  · rcases at_ a r hr with ha | ⟨ha, er⟩ <;> rcases at_ b s hs with hb | ⟨hb, es⟩
    · exact h.sym a b r s ha hb
    · subst es; rw [hb, low a r ha]
    · subst er; rw [ha, low b s hb]
    · rw [ha, hb, er, es]
theorem frm_step {k B : Nat} (hk : k ≤ 10) (j : Nat) (t : List (List Rat)) (ρ : DEnv) (hj : j < k) (I : FrmI k B j t ρ) : ∃ (t' : List (List Rat)) (ρ' : DEnv),
    (gNm 3 (natD j) ρ).bind (fApp 2 (fBin gAdd (fOfL (fComp (fItems (fVar 2)) (gNm 7) fYes (fBin gIx (fVar 7) (fVar 3)) [7])) (fCall gList (fCons (fCallU 0 m__law_line (fCons (fBin Dl.gSub (fVar 1) (fVar 3)) fNil)) fNil)))) = some (.nx ρ') ∧ FrmI k B (j + 1) t' ρ' := by
  obtain ⟨es, d, rfl, U, H⟩ := I
  have U' : Urn (B + 100 * (k - (j + 1)) + 4 * (k - j)) es := U.mono (by omega)
  obtain ⟨xs, es1, hx, ax, U1, e1⟩ := ev_line (k := k - j) (by omega) U'
  refine ⟨t ++ [t.map (g0 j) ++ xs], [some (.lst es1), some (.int (k : Nat)), some (.lst ((t ++ [t.map (g0 j) ++ xs]).map fun r => .lst (r.map Q))), some (natD j), none, none, none, none], ?_, es1, some (natD j), rfl, U1.mono (by omega), half_row hj H hx ax⟩
  rw [show gNm 3 (natD j) [some (.lst es), some (.int (k : Nat)), some (.lst (t.map fun r => .lst (r.map Q))), d, none, none, none, none] = some [some (.lst es), some (.int (k : Nat)), some (.lst (t.map fun r => .lst (r.map Q))), some (natD j), none, none, none, none] from by simp [gNm], Option.bind_some]
  have c1 := comp_all (its := fItems (fVar 2)) (g := gNm 7) (c := fYes) (e := fBin gIx (fVar 7) (fVar 3)) (vs := [7]) (ρ := [some (.lst es), some (.int (k : Nat)), some (.lst (t.map fun r => .lst (r.map Q))), some (natD j), none, none, none, none])
    (fun r : List Rat => D.lst (r.map Q)) (fun r => Q (g0 j r)) (xs := t) (by simp [fItems, itemsD]) (len_line (by rw [H.len]; omega)) (fun r hr => by
      have hjr : j < r.length := by rw [H.wid r hr]; exact hj
      have ix : gIx (.lst (r.map Q)) (natD j) = some (Q (g0 j r)) := by
        show atI (r.map Q) ((j : Nat) : Int) = _
        rw [Dl.atI_nat, List.getElem?_map]
        unfold g0
        rw [List.getElem?_eq_getElem hjr]
        rfl
      simp [cstep, gNm, fYes, wipeD, ix])
  rw [mapQ (g0 j)] at c1
  have a1 : fOfL (fComp (fItems (fVar 2)) (gNm 7) fYes (fBin gIx (fVar 7) (fVar 3)) [7]) [some (.lst es), some (.int (k : Nat)), some (.lst (t.map fun r => .lst (r.map Q))), some (natD j), none, none, none, none] =
      some (.lst ((t.map (g0 j)).map Q), [some (.lst es), some (.int (k : Nat)), some (.lst (t.map fun r => .lst (r.map Q))), some (natD j), none, none, none, none]) := by
    rw [ap_ofL, c1]; rfl
  have hkj : ((k - j : Nat) : Int) = (k : Int) - (j : Int) := by omega
  have a2 : fCall gList (fCons (fCallU 0 m__law_line (fCons (fBin Dl.gSub (fVar 1) (fVar 3)) fNil)) fNil) [some (.lst es), some (.int (k : Nat)), some (.lst (t.map fun r => .lst (r.map Q))), some (natD j), none, none, none, none] =
      some (.lst (xs.map Q), [some (.lst es1), some (.int (k : Nat)), some (.lst (t.map fun r => .lst (r.map Q))), some (natD j), none, none, none, none]) := by
    refine e_call (ds := [Rw xs]) ?_ rfl
    rw [ap_cons, e_callU (es := es) (ds := [.int (k - j : Nat)]) rfl (by rw [hkj]; simp [Dl.gSub, natD]) e1]
    rfl
  have a3 : gAdd (.lst ((t.map (g0 j)).map Q)) (.lst (xs.map Q)) = some (.lst ((t.map (g0 j) ++ xs).map Q)) := by
    show (if ((t.map (g0 j)).map Q).length + (xs.map Q).length ≤ sizeLine then _ else _) = _
    rw [if_pos (Nat.le_trans (m := 1000) (by simp [hx, H.len]; omega) (by decide)), ← List.map_append]
  unfold fApp
  rw [e_bin a1 a2 a3]
  have := line_1000 (n := t.length) (by rw [H.len]; omega)
  simp [this]
end W

namespace W
open PySem L2 Dl
theorem mk_of {k : Nat} {t : List (List Rat)} (hl : t.length = k) (hw : ∀ r, r ∈ t → r.length = k) : t = mk k fun i j => g0 j (t[i]?.getD []) := by
  show t = (List.range k).map fun i => (List.range k).map fun j => g0 j (t[i]?.getD [])
  apply List.ext_getElem
  · simp [hl]
  · intro i h1 h2
    have hi : i < k := by rw [← hl]; exact h1
    rw [List.getElem_map, List.getElem_range]
    apply List.ext_getElem
    · simp [hw _ (List.getElem_mem h1)]
    · intro j h3 h4
      rw [List.getElem_map, List.getElem_range, List.getElem?_eq_getElem h1]
      unfold g0
      rw [Option.getD_some, List.getElem?_eq_getElem h3]
      rfl
theorem Half.form {k : Nat} {t : List (List Rat)} (h : Half k k t) : Form k t := by
  have e := mk_of h.len h.wid
  rw [e]
  refine form_mk fun i j hi hj => ?_
  have h1 : i < t.length := by rw [h.len]; exact hi
  have h2 : j < t.length := by rw [h.len]; exact hj
  rw [List.getElem?_eq_getElem h1, List.getElem?_eq_getElem h2]
  exact h.sym i j _ _ (List.getElem?_eq_getElem h1) (List.getElem?_eq_getElem h2)
theorem sz_sqs {k i j : Nat} {hs : List Rat} {ls : List (List Rat)} (hw : ∀ r, r ∈ ls → r.length = k) (hls : AT 21 ls) (hhs : AS 21 hs) (h10 : ls.length ≤ 10) (hi : i < k) (hj : j < k) : Sz 700 (sqs hs ls i j) := by
  unfold sqs
  have h1 := sz_qsum (n := 63) (xs := (ls.zip hs).map fun z => g0 i z.1 * z.2 * g0 j z.1) sz_zero fun x hx => by
    rw [List.mem_map] at hx
    obtain ⟨⟨r, h⟩, hz, rfl⟩ := hx
    have hz' := List.of_mem_zip hz
    have at_ : ∀ i, i < k → Sz 21 (g0 i r) := fun i hi => by
      have : i < r.length := by rw [hw r hz'.1]; exact hi
      unfold g0
      rw [List.getElem?_eq_getElem this]
      exact hls r hz'.1 _ (List.getElem_mem this)
    exact (sz_mul (sz_mul (at_ i hi) (hhs h hz'.2)) (at_ j hj)).mono (by omega)
  refine h1.mono ?_
  have : ((ls.zip hs).map fun z => g0 i z.1 * z.2 * g0 j z.1).length ≤ 10 := by
    rw [List.length_map, List.length_zip]; omega
  have := Nat.mul_le_mul_right (63 + 1) this
  omega
theorem at_mk {k n : Nat} {F : Nat → Nat → Rat} (h : ∀ i j, i < k → j < k → Sz n (F i j)) : AT n (mk k F) := fun r hr x hx => by
  unfold mk at hr
  rw [List.mem_map] at hr
  obtain ⟨i, hi, rfl⟩ := hr
  rw [List.mem_map] at hx
  obtain ⟨j, hj, rfl⟩ := hx
  exact h i j (List.mem_range.mp hi) (List.mem_range.mp hj)
def SqI (k B m : Nat) (j : Nat) (s : List Rat × List (List Rat)) (ρ : DEnv) : Prop := ∃ (es : List D) (d : Option D), ρ = [some (.lst es), some (.int (k : Nat)), none, none, some (.lst (s.1.map Q)), some (.lst (s.2.map Rw)), d, none] ∧ Urn (B + 100 * (m - j)) es ∧
  s.1.length = j ∧ s.2.length = j ∧ (∀ r, r ∈ s.2 → r.length = k) ∧ AT 21 s.2 ∧ AS 21 s.1
theorem sq_step {k B m : Nat} (hk : k ≤ 10) (hm : m ≤ 10) (j : Nat) (s : List Rat × List (List Rat)) (ρ : DEnv) (hj : j < m) (I : SqI k B m j s ρ) : ∃ (s' : List Rat × List (List Rat)) (ρ' : DEnv),
    (gNm 6 (natD j) ρ).bind (fSeq (fApp 4 (fCallU 0 m__law_number fNil)) (fApp 5 (fCallU 0 m__law_line (fCons (fVar 1) fNil)))) = some (.nx ρ') ∧ SqI k B m (j + 1) s' ρ' := by
  obtain ⟨es, d, rfl, U, l1, l2, hw, hls, hhs⟩ := I
  obtain ⟨hs, ls⟩ := s
  dsimp only at l1 l2 hw hls hhs ⊢
  obtain ⟨q, es1, sq, U1, e1⟩ := ev_number (B := B + 100 * (m - (j + 1)) + 4 * k) (U.mono (by omega))
  obtain ⟨xs, es2, hx, ax, U2, e2⟩ := ev_line (by omega) U1
  refine ⟨(hs ++ [q], ls ++ [xs]), [some (.lst es2), some (.int (k : Nat)), none, none, some (.lst ((hs ++ [q]).map Q)), some (.lst ((ls ++ [xs]).map Rw)), some (natD j), none], ?_, es2, some (natD j), rfl, U2, by simp [l1], by simp [l2], fun r hr => ?_, fun r hr => ?_, fun x hx' => ?_⟩
  · rw [show gNm 6 (natD j) [some (.lst es), some (.int (k : Nat)), none, none, some (.lst (hs.map Q)), some (.lst (ls.map Rw)), d, none] = some [some (.lst es), some (.int (k : Nat)), none, none, some (.lst (hs.map Q)), some (.lst (ls.map Rw)), some (natD j), none] from by simp [gNm], Option.bind_some]
    have h1 := line_1000 (n := hs.length) (by omega)
    have h2 := line_1000 (n := ls.length) (by omega)
    rw [seq_nx (ρ1 := [some (.lst es1), some (.int (k : Nat)), none, none, some (.lst ((hs ++ [q]).map Q)), some (.lst (ls.map Rw)), some (natD j), none]) (by
      unfold fApp
      rw [e_callU (es := es) (ds := []) rfl (by simp) e1]
      simp [h1])]
    unfold fApp
    rw [e_callU (es := es1) (ds := [.int (k : Nat)]) rfl (by simp) e2]
    simp [h2]
  · rcases List.mem_append.mp hr with z | z
    · exact hw r z
    · rw [List.mem_singleton.mp z]; exact hx
  · rcases List.mem_append.mp hr with z | z
    · exact hls r z
    · rw [List.mem_singleton.mp z]; exact ax
  · rcases List.mem_append.mp hx' with z | z
    · exact hhs x z
    · rw [List.mem_singleton.mp z]; exact sq
end W

namespace W
open PySem L2 Dl
theorem pl_form1 {f1 f2 f3 : List D → List D → Option (D × List D)} {g : List D → Option D} {k : Nat} {es es1 es' : List D} {d : Option D} {t : List (List Rat)} (hk : k ≤ 1000) (hl : t.length ≤ 1000) (h0 : f1 es [.int 3] = some (.int 0, es1))
    (e : loopD (gNm 3) (fApp 2 (fBin gAdd (fOfL (fComp (fItems (fVar 2)) (gNm 7) fYes (fBin gIx (fVar 7) (fVar 3)) [7])) (fCall gList (fCons (fCallU 0 f2 (fCons (fBin Dl.gSub (fVar 1) (fVar 3)) fNil)) fNil)))) ((List.range' 0 k).map natD) [some (.lst es1), some (.int (k : Nat)), some (.lst []), none, none, none, none, none] =
      some (.nx [some (.lst es'), some (.int (k : Nat)), some (.lst (t.map fun r => .lst (r.map Q))), d, none, none, none, none])) :
    outU 8 (c__law_form f1 f2 f3 g) es [.int (k : Nat)] = some (Tb t, es') := by
  refine outU_rt (ρ := [some (.lst es'), some (.int (k : Nat)), some (.lst (t.map fun r => .lst (r.map Q))), d, none, none, none, none]) ?_ rfl
  unfold c__law_form
  rw [show startD 8 (.lst es :: [.int (k : Nat)]) = [some (.lst es), some (.int (k : Nat)), none, none, none, none, none, none] from rfl]
  refine seq_rt ?_
  have c0 : fB (fBin gEq (fCallU 0 f1 (fCons (fC (.int 3)) fNil)) (fC (.int 0))) [some (.lst es), some (.int (k : Nat)), none, none, none, none, none, none] = some (true, [some (.lst es1), some (.int (k : Nat)), none, none, none, none, none, none]) := by
    rw [ap_B, e_bin (e_callU (es := es) (ds := [.int 3]) rfl (by simp) h0) (ap_C _ _) (gEq_int 0 0)]
    rfl
  rw [if_t c0]
  rw [seq_nx (ρ1 := [some (.lst es1), some (.int (k : Nat)), some (.lst []), none, none, none, none, none]) (by simp [fSetL, fLst])]
  rw [seq_nx (by
    rw [for_nx (ds := (List.range' 0 k).map natD) (ρ1 := [some (.lst es1), some (.int (k : Nat)), some (.lst []), none, none, none, none, none]) (by rw [← range_0]; exact rng1 (by simp) hk)]
    exact e)]
  have c1 := comp_all (its := fItems (fVar 2)) (g := gNm 7) (c := fYes) (e := fCall gTuple (fCons (fVar 7) fNil)) (vs := [7]) (ρ := [some (.lst es'), some (.int (k : Nat)), some (.lst (t.map fun r => .lst (r.map Q))), d, none, none, none, none])
    (fun r : List Rat => D.lst (r.map Q)) Rw (xs := t) (by simp [fItems, itemsD]) (len_line hl) (fun r hr => by
      simp [cstep, gNm, fYes, wipeD])
  refine e_ret (e_call (ds := [.lst (t.map Rw)]) ?_ (tuple_LT _))
  rw [ap_cons, ap_ofL, c1]
  rfl
theorem pl_form2 {f1 f2 f3 : List D → List D → Option (D × List D)} {g : List D → Option D} {k m j : Nat} {es es1 es2 es' A B : List D} {d : Option D} {T : D} (hm : m ≤ 1000) (hj : j ≠ 0) (hmj : m = 1 + a') (h0 : f1 es [.int 3] = some (.int (j : Nat), es1))
    (h1 : f1 es1 [.int (k : Nat)] = some (.int (a' : Nat), es2))
    (e : loopD (gNm 6) (fSeq (fApp 4 (fCallU 0 f3 fNil)) (fApp 5 (fCallU 0 f2 (fCons (fVar 1) fNil)))) ((List.range' 0 m).map natD) [some (.lst es2), some (.int (k : Nat)), none, none, some (.lst []), some (.lst []), none, none] =
      some (.nx [some (.lst es'), some (.int (k : Nat)), none, none, some (.lst A), some (.lst B), d, none])) (e2 : g [.lst A, .lst B] = some T) :
    outU 8 (c__law_form f1 f2 f3 g) es [.int (k : Nat)] = some (T, es') := by
  refine outU_rt (ρ := [some (.lst es'), some (.int (k : Nat)), none, none, some (.lst A), some (.lst B), d, none]) ?_ rfl
  unfold c__law_form
  rw [show startD 8 (.lst es :: [.int (k : Nat)]) = [some (.lst es), some (.int (k : Nat)), none, none, none, none, none, none] from rfl]
  have hj' : ¬ (j : Int) = 0 := by omega
  have c0 : fB (fBin gEq (fCallU 0 f1 (fCons (fC (.int 3)) fNil)) (fC (.int 0))) [some (.lst es), some (.int (k : Nat)), none, none, none, none, none, none] = some (false, [some (.lst es1), some (.int (k : Nat)), none, none, none, none, none, none]) := by
    rw [ap_B, e_bin (e_callU (es := es) (ds := [.int 3]) rfl (by simp) h0) (ap_C _ _) (gEq_int _ 0)]
    simp [asB, hj]
  rw [seq_nx (ρ1 := [some (.lst es1), some (.int (k : Nat)), none, none, none, none, none, none]) (by rw [if_f c0]; rfl)]
  rw [seq_nx (ρ1 := [some (.lst es1), some (.int (k : Nat)), none, none, some (.lst []), some (.lst []), none, none]) (by simp [fPar, fLst])]
  have c1 : fBin gAdd (fC (.int 1)) (fCallU 0 f1 (fCons (fVar 1) fNil)) [some (.lst es1), some (.int (k : Nat)), none, none, some (.lst []), some (.lst []), none, none] = some (.int (m : Nat), [some (.lst es2), some (.int (k : Nat)), none, none, some (.lst []), some (.lst []), none, none]) :=
    e_bin (ap_C _ _) (e_callU (es := es1) (ds := [.int (k : Nat)]) rfl (by simp) h1) (by subst hmj; simp [gAdd])
  rw [seq_nx (by
    rw [for_nx (ds := (List.range' 0 m).map natD) (ρ1 := [some (.lst es2), some (.int (k : Nat)), none, none, some (.lst []), some (.lst []), none, none]) (by
      rw [← range_0]
      unfold fRng1
      rw [ap_cons, c1, Option.bind_some, ap_nil, Option.map_some, Option.bind_some]
      dsimp only
      rw [if_pos]
      · rw [Int.toNat_natCast, range_nat]
      · refine ⟨Int.le_trans (b := 0) (by decide +kernel) (Int.natCast_nonneg m), Int.lt_of_le_of_lt (b := 1000) ?_ (by decide +kernel)⟩
        exact_mod_cast hm)]
    exact e)]
  exact e_ret (e_call (ds := [.lst A, .lst B]) (by simp) e2)
theorem ev_form {k B : Nat} {es : List D} (h1 : 1 ≤ k) (hk : k ≤ 10) (U : Urn (B + 3000) es) : ∃ (t : List (List Rat)) (es' : List D), Form k t ∧ AT 700 t ∧ Urn B es' ∧ m__law_form es [.int (k : Nat)] = some (Tb t, es') := by
  obtain ⟨j, es1, hj, U1, e1⟩ := ev_take (B := B + 2999) (lim := 3) U (by decide) (by decide)
  by_cases h0 : j = 0
  · subst h0
    obtain ⟨t, ρ', e, I⟩ := loop_upto (FrmI k B) k 0 [] [some (.lst es1), some (.int (k : Nat)), some (.lst []), none, none, none, none, none] ⟨es1, none, rfl, U1.mono (by omega), ⟨rfl, fun r h => by simp at h, fun r h => by simp at h, fun a b r s h _ => by simp at h⟩⟩
      fun j s ρ _ hj I => frm_step hk j s ρ (by omega) I
    obtain ⟨es', d, rfl, U', H⟩ := I
    rw [Nat.zero_add] at H U'
    refine ⟨t, es', H.form, fun r hr x hx => (H.sz r hr x hx).mono (by decide), U'.mono (by omega), ?_⟩
    exact pl_form1 (by omega) (by rw [H.len]; omega) e1 e
  · obtain ⟨a, es2, ha, U2, e2⟩ := ev_take (B := B + 2998) (lim := k) U1 (by omega) (by omega)
    obtain ⟨s', ρ', e, I⟩ := loop_upto (SqI k B (1 + a)) (1 + a) 0 ([], []) [some (.lst es2), some (.int (k : Nat)), none, none, some (.lst []), some (.lst []), none, none]
      ⟨es2, none, rfl, U2.mono (by omega), rfl, rfl, fun r h => by simp at h, fun r h => by simp at h, fun r h => by simp at h⟩
      fun j s ρ _ hj I => sq_step hk (m := 1 + a) (by omega) j s ρ (by omega) I
    obtain ⟨es', d, rfl, U', l1, l2, hw, hls, hhs⟩ := I
    obtain ⟨hs, ls⟩ := s'
    dsimp only at l1 l2 hw hls hhs e ⊢
    rw [Nat.zero_add] at l1 l2 U'
    have e3 := ev_of_squares (n := 21) (k := k) (hs := hs) (ls := ls) (by omega) (by intro z; subst z; simp at l2; omega) (by omega) hk hw hls hhs (by decide)
    refine ⟨mk k (sqs hs ls), es', form_mk fun i j _ _ => sqs_symm hs ls i j, at_mk fun i j hi hj => sz_sqs hw hls hhs (by omega) hi hj, U'.mono (by omega), ?_⟩
    exact pl_form2 (by omega) h0 rfl e1 e2 e e3
end W

namespace W
open PySem L2 Dl
/-! the law's own comparison: a thing is the same as itself -/
mutual
inductive Sm : Nat → D → Prop
  | int {k : Nat} (i : Int) : Sm k (.int i)
  | bl {k : Nat} (b : Bool) : Sm k (.bl b)
  | tup {k : Nat} {ds : List D} : ds.length ≤ 1000 → Sms k ds → Sm (k + 1) (.tup ds)
inductive Sms : Nat → List D → Prop
  | nil {k : Nat} : Sms k []
  | cons {k : Nat} {d : D} {ds : List D} : Sm k d → Sms k ds → Sms k (d :: ds)
end
theorem Sms.mem {k : Nat} : ∀ {ds : List D}, Sms k ds → ∀ d, d ∈ ds → Sm k d
  | _, .nil, _, h => by simp at h
  | _, .cons h t, d, hd => by
    rcases List.mem_cons.mp hd with z | z
    · rw [z]; exact h
    · exact Sms.mem t d z
theorem sm_Q (k : Nat) (q : Rat) : Sm (k + 1) (Q q) := .tup (by simp) (.cons (.int _) (.cons (.int _) .nil))
theorem zip_self {α : Type} : ∀ xs : List α, (xs.zip xs) = xs.map fun x => (x, x)
  | [] => rfl
  | x :: r => by rw [List.zip_cons_cons, zip_self r, List.map_cons]
theorem same_refl : ∀ (n k : Nat) (d : D), Sm k d → k < n → mr__law_same n [d, d] = some (.bl true)
  | 0, k, d, _, h => absurd h (Nat.not_lt_zero _)
  | n + 1, k, d, h, hk => by
    show outP false 4 (b__law_same (mr__law_same n)) [d, d] = _
    have ih := same_refl n
    generalize mr__law_same n = f at ih
    unfold b__law_same c__law_same
    cases h with
    | int i =>
      refine out_rt (ρ := [some (.int i), some (.int i), none, none]) ?_
      rw [show startD 4 [.int i, .int i] = [some (.int i), some (.int i), none, none] from rfl]
      rw [seq_nx (ρ1 := [some (.int i), some (.int i), none, none]) (by rw [if_f (ρ1 := [some (.int i), some (.int i), none, none]) (by simp [fIsi, isTup, asB])]; rfl)]
      rw [seq_nx (ρ1 := [some (.int i), some (.int i), none, none]) (by rw [if_f (ρ1 := [some (.int i), some (.int i), none, none]) (by simp [fOrT, fIsi, isBool, gIs, Dl.isNon, asB])]; rfl)]
      refine e_ret ?_
      simp [fAndV, fIsi, isInt, fNotV, isBool, asB]
    | bl b =>
      refine out_rt (ρ := [some (.bl b), some (.bl b), none, none]) ?_
      rw [show startD 4 [.bl b, .bl b] = [some (.bl b), some (.bl b), none, none] from rfl]
      rw [seq_nx (ρ1 := [some (.bl b), some (.bl b), none, none]) (by rw [if_f (ρ1 := [some (.bl b), some (.bl b), none, none]) (by simp [fIsi, isTup, asB])]; rfl)]
      refine seq_rt ?_
      rw [if_t (ρ1 := [some (.bl b), some (.bl b), none, none]) (by simp [fOrT, fIsi, isBool, gIs, Dl.isNon, asB])]
      refine e_ret ?_
      have e : gEq (.bl b) (.bl b) = some (.bl true) := by cases b <;> rfl
      simp [fIf, gIs, Dl.isNon, asB, fAndV, fIsi, isBool, e]
    | tup hl hs =>
      rename_i k' ds
      refine out_rt (ρ := [some (.tup ds), some (.tup ds), none, none]) ?_
      rw [show startD 4 [.tup ds, .tup ds] = [some (.tup ds), some (.tup ds), none, none] from rfl]
      refine seq_rt ?_
      rw [if_t (ρ1 := [some (.tup ds), some (.tup ds), none, none]) (by simp [fIsi, isTup, asB])]
      have c1 := comp_all (its := fZip (fCons (fVar 0) (fCons (fVar 1) fNil))) (g := gTp 2 (gsCons (gNm 2) (gsCons (gNm 3) gsNil))) (c := fYes) (e := fCall f (fCons (fVar 2) (fCons (fVar 3) fNil))) (vs := [2, 3]) (ρ := [some (.tup ds), some (.tup ds), none, none])
        (fun d : D => .tup [d, d]) (fun _ => .bl true) (xs := ds) (by simp [fZip, zipD, zip_self]) (len_line hl) (fun d hd => by
          have := ih k' d (hs.mem d hd) (by omega)
          simp [cstep, gTp, gsCons, gNm, gsNil, fYes, wipeD, this])
      refine e_ret ?_
      have gl : gLen [.tup ds] = some (.int (ds.length : Nat)) := rfl
      unfold fAndV
      simp [fIsi, isTup, asB, gl, c1, bls_true]
theorem ev_same {k : Nat} {d : D} (h : Sm k d) (hk : k < 16) : m__law_same [d, d] = some (.bl true) := same_refl 16 k d h hk
end W

namespace W
open PySem L2 Dl
/-! stairs -/
def at2 (t : List (List Rat)) (i c : Nat) : Rat := g0 c (t[i]?.getD [])
def hereF (s : List (List Rat) × List Nat) (c : Nat) : List Nat := (List.range' s.2.length (s.1.length - s.2.length)).filter fun a => decide (at2 s.1 a c ≠ 0)
def swapF (t : List (List Rat)) (p h : Nat) : List (List Rat) := (t.set p (t[h]?.getD [])).set h (t[p]?.getD [])
def clearF (t : List (List Rat)) (p c : Nat) : List (List Rat) :=
  let lead := rscale (t[p]?.getD []) (1 / at2 t p c)
  (t.map fun r => if g0 c r ≠ 0 then rsub r (rscale lead (g0 c r)) else r).set p lead
def stepF (s : List (List Rat) × List Nat) (c : Nat) : List (List Rat) × List Nat := match hereF s c with
  | [] => s
  | h :: _ => (clearF (swapF s.1 s.2.length h) s.2.length c, s.2 ++ [c])
def stairsF (t : List (List Rat)) (w : Nat) : List (List Rat) × List Nat := (List.range w).foldl stepF (t, [])
theorem lay_nats : ∀ l : List Nat, PyData.canLayAll0 (toPys (l.map natD)) = true ∧ PyData.depthAll (toPys (l.map natD)) = 0
  | [] => ⟨rfl, rfl⟩
  | a :: r => by
    obtain ⟨h1, h2⟩ := lay_nats r
    refine ⟨?_, ?_⟩
    · show (true && PyData.canLayAll0 (toPys (r.map natD))) = true
      rw [h1]; rfl
    · show max 0 (PyData.depthAll (toPys (r.map natD))) = 0
      rw [h2]; rfl
theorem ne_nil_nats (l : List Nat) : gNe (.lst (l.map natD)) (.lst []) = some (.bl (!l.isEmpty)) := by
  have h1 : SeqAt.shaped (toPy (.lst (l.map natD))) = true := by
    unfold SeqAt.shaped
    obtain ⟨a, b⟩ := lay_nats l
    simp only [toPy, PyData.canLay0, PyData.depth, a, b]
    rfl
  have h2 : SeqAt.shaped (toPy (.lst [])) = true := by decide +kernel
  unfold gNe eqOk
  rw [h1, h2]
  cases l with
  | nil => rfl
  | cons a r => rfl
theorem rng2 {a b : Nat} {fs : LFn} {ρ : DEnv} (h : fs ρ = some ([.int (a : Nat), .int (b : Nat)], ρ)) (ha : a ≤ 1000) (hb : b ≤ 1000) : fRng2 fs ρ = some ((List.range' a (b - a)).map natD, ρ) := by
  unfold fRng2
  rw [h, Option.bind_some]
  dsimp only
  rw [if_pos]
  · congr 2
    unfold rangeD
    rw [List.range'_eq_map_range, List.map_map, show ((b : Int) - (a : Int)).toNat = b - a by omega]
    refine List.map_congr_left fun i _ => ?_
    unfold natD
    simp
  · refine ⟨Int.le_trans (b := 0) (by decide +kernel) (Int.natCast_nonneg a), Int.lt_of_le_of_lt (b := 1000) ?_ (by decide +kernel), Int.le_trans (b := 0) (by decide +kernel) (Int.natCast_nonneg b), Int.lt_of_le_of_lt (b := 1000) ?_ (by decide +kernel)⟩
    · exact_mod_cast ha
    · exact_mod_cast hb
/-- the rows as a list of one's own -/
def LT (t : List (List Rat)) : D := .lst (t.map Rw)
theorem ix_LT {t : List (List Rat)} {j : Nat} (h : j < t.length) : gIx (LT t) (natD j) = some (Rw (t[j]?.getD [])) := by
  show atI (t.map Rw) ((j : Nat) : Int) = _
  rw [Dl.atI_nat, List.getElem?_map, List.getElem?_eq_getElem h]
  rfl
theorem ix_Rn {xs : List Rat} {j : Nat} (h : j < xs.length) : gIx (Rw xs) (natD j) = some (Q (g0 j xs)) := ix_R h
theorem filter_enc {p : Nat → Prop} [DecidablePred p] : ∀ l : List Nat, l.filterMap (fun a => if p a then some (natD a) else none) = (l.filter fun a => decide (p a)).map natD
  | [] => rfl
  | a :: r => by
    rw [List.filterMap_cons, List.filter_cons]
    by_cases h : p a
    · simp [h, filter_enc r]
    · simp [h, filter_enc r]
theorem here_ev {t : List (List Rat)} {ss : List Nat} {c w : Nat} {x0 x1 : D} {d5 d6 d7 : Option D} (hc : c < w) (hw : ∀ r, r ∈ t → r.length = w) (ht : t.length ≤ 1000) (hs : ss.length ≤ 1000) :
    fComp (fRng2 (fCons (fCall gLen (fCons (fVar 3) fNil)) (fCons (fCall gLen (fCons (fVar 2) fNil)) fNil))) (gNm 9) (fB (fBin gNe (fBin gIx (fBin gIx (fVar 2) (fVar 9)) (fVar 4)) (fC (.tup [.int 0, .int 1])))) (fVar 9) [9] [some x0, some x1, some (LT t), some (.lst (ss.map natD)), some (natD c), d5, d6, d7, none, none] =
      some ((hereF (t, ss) c).map natD, [some x0, some x1, some (LT t), some (.lst (ss.map natD)), some (natD c), d5, d6, d7, none, none]) := by
  have e := comp_step (its := fRng2 (fCons (fCall gLen (fCons (fVar 3) fNil)) (fCons (fCall gLen (fCons (fVar 2) fNil)) fNil))) (g := gNm 9) (c := fB (fBin gNe (fBin gIx (fBin gIx (fVar 2) (fVar 9)) (fVar 4)) (fC (.tup [.int 0, .int 1])))) (e := fVar 9) (vs := [9]) (ρ := [some x0, some x1, some (LT t), some (.lst (ss.map natD)), some (natD c), d5, d6, d7, none, none])
    natD (fun a => if at2 t a c ≠ 0 then some (natD a) else none) (xs := List.range' ss.length (t.length - ss.length)) (rng2 (by simp [LT, gLen]) hs ht) (by rw [List.length_range']; exact Nat.le_trans (Nat.sub_le _ _) (Nat.le_trans ht (by decide))) (fun a ha => by
      have ha' : a < t.length := by
        have := List.mem_range'_1.mp ha
        omega
      have h1 := ix_LT ha'
      have h2 : gIx (Rw (t[a]?.getD [])) (natD c) = some (Q (at2 t a c)) := by
        have : t[a]?.getD [] ∈ t := by rw [List.getElem?_eq_getElem ha']; exact List.getElem_mem ha'
        exact ix_Rn (by rw [hw _ this]; exact hc)
      have h3 : gNe (Q (at2 t a c)) (.tup [.int 0, .int 1]) = some (.bl (!decide (at2 t a c = 0))) := gNe_Q _ 0
      by_cases hz : at2 t a c = 0
      · rw [hz] at h2 h3
        simp [cstep, gNm, wipeD, h1, h2, h3, asB, hz]
      · simp [cstep, gNm, wipeD, h1, h2, h3, asB, hz])
  rw [filter_enc] at e
  exact e
end W

namespace W
open PySem L2 Dl
theorem swap_len (t : List (List Rat)) (p h : Nat) : (swapF t p h).length = t.length := by simp [swapF]
theorem mem_set {α : Type} {l : List α} {i : Nat} {x y : α} (h : y ∈ l.set i x) : y ∈ l ∨ y = x := by
  rcases List.mem_or_eq_of_mem_set h with z | z
  · exact .inl z
  · exact .inr z
theorem getD_mem {t : List (List Rat)} {i : Nat} (h : i < t.length) : t[i]?.getD [] ∈ t := by
  rw [List.getElem?_eq_getElem h]; exact List.getElem_mem h
theorem swap_mem {t : List (List Rat)} {p h : Nat} (hp : p < t.length) (hh : h < t.length) {r : List Rat} (hr : r ∈ swapF t p h) : r ∈ t := by
  unfold swapF at hr
  rcases mem_set hr with z | z
  · rcases mem_set z with y | y
    · exact y
    · rw [y]; exact getD_mem hh
  · rw [z]; exact getD_mem hp
theorem swap_at {t : List (List Rat)} {p h : Nat} (hp : p < t.length) (hh : h < t.length) : (swapF t p h)[p]?.getD [] = t[h]?.getD [] := by
  unfold swapF
  by_cases e : h = p
  · subst e
    rw [List.getElem?_set_self (by simpa using hp)]
    rfl
  · rw [List.getElem?_set_ne e, List.getElem?_set_self hp]
    rfl
/-- the four steps behind a found row -/
theorem clear_ev {n c w p h : Nat} {t : List (List Rat)} {ss : List Nat} {hs : List Nat} {x0 x1 : D} {d7 : Option D} (hc : c < w) (hw : ∀ r, r ∈ t → r.length = w) (ht : t.length ≤ 1000) (hwl : w ≤ 1000) (hp : p < t.length) (hh : h < t.length) (hl : ss.length = p) (hA : AT n t) (hz : at2 t h c ≠ 0) (hn : n ≤ 10000000) :
    (fSeq (fSet 6 (fCall gLen (fCons (fVar 3) fNil)))
    (fSeq (fAsg (gTp 2 (gsCons (gIxT 2 (fVar 6)) (gsCons (gIxT 2 (fBin gIx (fVar 5) (fC (.int 0)))) gsNil))) (fTup (fCons (fBin gIx (fVar 2) (fBin gIx (fVar 5) (fC (.int 0)))) (fCons (fBin gIx (fVar 2) (fVar 6)) fNil))))
    (fSeq (fSet 7 (fCall m_row_scaled (fCons (fBin gIx (fVar 2) (fVar 6)) (fCons (fCall m_over (fCons (fC (.tup [.int 1, .int 1])) (fCons (fBin gIx (fBin gIx (fVar 2) (fVar 6)) (fVar 4)) fNil))) fNil))))
    (fSeq (fSetL 2 (fComp (fItems (fVar 2)) (gNm 8) fYes (fIf (fB (fBin gNe (fBin gIx (fVar 8) (fVar 4)) (fC (.tup [.int 0, .int 1])))) (fCall m_row_less (fCons (fVar 8) (fCons (fCall m_row_scaled (fCons (fVar 7) (fCons (fBin gIx (fVar 8) (fVar 4)) fNil))) fNil))) (fVar 8)) [8]))
    (fSeq (fSetIx 2 (fVar 7) (fVar 6))
    (fApp 3 (fVar 4))))))) [some x0, some x1, some (LT t), some (.lst (ss.map natD)), some (natD c), some (.lst ((h :: hs).map natD)), d6, d7, none, none] =
      some (.nx [some x0, some x1, some (LT (clearF (swapF t p h) p c)), some (.lst ((ss ++ [c]).map natD)), some (natD c), some (.lst ((h :: hs).map natD)), some (natD p),
        some (Rw (rscale (t[h]?.getD []) (1 / at2 t h c))), none, none]) := by
  have g5 : gIx (.lst ((h :: hs).map natD)) (.int 0) = some (natD h) := by
    show atI (natD h :: hs.map natD) 0 = _
    simp [atI, ixN]
  rw [seq_nx (ρ1 := [some x0, some x1, some (LT t), some (.lst (ss.map natD)), some (natD c), some (.lst ((h :: hs).map natD)), some (natD p), d7, none, none]) (by
    simp [fSet, gLen, natD, hl])]
  have st : (t.set p (t[h]?.getD [])).length = t.length := List.length_set
  rw [seq_nx (ρ1 := [some x0, some x1, some (LT (swapF t p h)), some (.lst (ss.map natD)), some (natD c), some (.lst ((h :: hs).map natD)), some (natD p), d7, none, none]) (by
    have i1 := ix_LT hh
    have i2 := ix_LT hp
    have q1 : ixN t.length ((p : Nat) : Int) = some p := by
      unfold ixN; rw [if_pos (Int.natCast_nonneg p), if_pos (by exact_mod_cast hp)]; rfl
    have q2 : ixN t.length ((h : Nat) : Int) = some h := by
      unfold ixN; rw [if_pos (Int.natCast_nonneg h), if_pos (by exact_mod_cast hh)]; rfl
    have e1 : fTup (fCons (fBin gIx (fVar 2) (fBin gIx (fVar 5) (fC (.int 0)))) (fCons (fBin gIx (fVar 2) (fVar 6)) fNil)) [some x0, some x1, some (LT t), some (.lst (ss.map natD)), some (natD c), some (.lst ((h :: hs).map natD)), some (natD p), d7, none, none] =
        some (.tup [Rw (t[h]?.getD []), Rw (t[p]?.getD [])], [some x0, some x1, some (LT t), some (.lst (ss.map natD)), some (natD c), some (.lst ((h :: hs).map natD)), some (natD p), d7, none, none]) := by
      unfold fTup
      have g5' := g5
      generalize D.lst ((h :: hs).map natD) = X at g5' ⊢
      simp [g5', i1, i2, size_2]
    have t1 : gIxT 2 (fVar 6) (Rw (t[h]?.getD [])) [some x0, some x1, some (LT t), some (.lst (ss.map natD)), some (natD c), some (.lst ((h :: hs).map natD)), some (natD p), d7, none, none] =
        some [some x0, some x1, some (LT (t.set p (t[h]?.getD []))), some (.lst (ss.map natD)), some (natD c), some (.lst ((h :: hs).map natD)), some (natD p), d7, none, none] := by
      unfold gIxT
      simp only [ap_var, LT, natD, asI, List.getElem?_cons_succ, List.getElem?_cons_zero, Option.join_some, Option.map_some, Option.bind_some, List.length_map, q1]
      simp [List.map_set]
    have t2 : gIxT 2 (fBin gIx (fVar 5) (fC (.int 0))) (Rw (t[p]?.getD [])) [some x0, some x1, some (LT (t.set p (t[h]?.getD []))), some (.lst (ss.map natD)), some (natD c), some (.lst ((h :: hs).map natD)), some (natD p), d7, none, none] =
        some [some x0, some x1, some (LT (swapF t p h)), some (.lst (ss.map natD)), some (natD c), some (.lst ((h :: hs).map natD)), some (natD p), d7, none, none] := by
      unfold gIxT
      have g5' := g5
      generalize D.lst ((h :: hs).map natD) = X at g5' ⊢
      simp only [ap_bin, ap_C, ap_var, g5', List.getElem?_cons_succ, List.getElem?_cons_zero, Option.join_some, Option.map_some, Option.bind_some]
      simp only [LT, natD, asI, Option.bind_some, List.length_map, st, q2]
      simp [swapF, List.map_set]
    unfold fAsg
    rw [e1, Option.bind_some]
    simp only [gTp, gsCons, gsNil, List.length_cons, List.length_nil]
    rw [if_pos trivial, t1, Option.bind_some]
    simp only [gsCons, t2, Option.bind_some, gsNil]
    rfl)]
  have hsl := swap_len t p h
  have hsm : ∀ r, r ∈ swapF t p h → r ∈ t := fun r hr => swap_mem hp hh hr
  have hsp := swap_at hp hh
  have hps : p < (swapF t p h).length := by rw [hsl]; exact hp
  have hrow : t[h]?.getD [] ∈ t := getD_mem hh
  have hrl : (t[h]?.getD []).length = w := hw _ hrow
  have szp : Sz n (at2 t h c) := by
    unfold at2 g0
    rw [List.getElem?_eq_getElem (by rw [hrl]; exact hc)]
    exact hA _ hrow _ (List.getElem_mem _)
  have e_over := ev_over (a := 1) (b := at2 t h c) sz_one szp (by omega) hz
  have szq : Sz (1 + n) (1 / at2 t h c) := sz_div sz_one szp hz
  have e_lead := ev_row_scaled (hA _ hrow) szq (by rw [hrl]; exact hwl) (by omega)
  have aslead : AS (n + (1 + n)) (rscale (t[h]?.getD []) (1 / at2 t h c)) := as_rscale (hA _ hrow) szq
  have clr : clearF (swapF t p h) p c = ((swapF t p h).map fun r => if g0 c r ≠ 0 then rsub r (rscale (rscale (t[h]?.getD []) (1 / at2 t h c)) (g0 c r)) else r).set p (rscale (t[h]?.getD []) (1 / at2 t h c)) := by
    unfold clearF at2
    rw [hsp]
  have llen : (rscale (t[h]?.getD []) (1 / at2 t h c)).length = w := by simp [rscale, hrl]
  generalize hsw : swapF t p h = sw at hsl hsm hsp hps clr ⊢
  generalize hld : rscale (t[h]?.getD []) (1 / at2 t h c) = ld at e_lead aslead clr llen ⊢
  generalize D.lst ((h :: hs).map natD) = X5 at g5 ⊢
  rw [seq_nx (ρ1 := [some x0, some x1, some (LT sw), some (.lst (ss.map natD)), some (natD c), some X5, some (natD p), some (Rw ld), none, none]) (by
    have i1 := ix_LT hps
    rw [hsp] at i1
    have i2 : gIx (Rw (t[h]?.getD [])) (natD c) = some (Q (at2 t h c)) := ix_Rn (by rw [hrl]; exact hc)
    simp [fSet, i1, i2, Q1, e_over, e_lead])]
  rw [seq_nx (ρ1 := [some x0, some x1, some (LT (sw.map fun r => if g0 c r ≠ 0 then rsub r (rscale ld (g0 c r)) else r)), some (.lst (ss.map natD)), some (natD c), some X5, some (natD p), some (Rw ld), none, none]) (by
    have c1 := comp_all (its := fItems (fVar 2)) (g := gNm 8) (c := fYes) (e := fIf (fB (fBin gNe (fBin gIx (fVar 8) (fVar 4)) (fC (.tup [.int 0, .int 1])))) (fCall m_row_less (fCons (fVar 8) (fCons (fCall m_row_scaled (fCons (fVar 7) (fCons (fBin gIx (fVar 8) (fVar 4)) fNil))) fNil))) (fVar 8)) (vs := [8])
      (ρ := [some x0, some x1, some (LT sw), some (.lst (ss.map natD)), some (natD c), some X5, some (natD p), some (Rw ld), none, none])
      Rw (fun r => Rw (if g0 c r ≠ 0 then rsub r (rscale ld (g0 c r)) else r)) (xs := sw) (by simp [fItems, LT, itemsD]) (len_line (by rw [hsl]; exact ht)) (fun r hr => by
        have hr' := hsm r hr
        have hcr : c < r.length := by rw [hw r hr']; exact hc
        have i1 := ix_Rn hcr
        have sz : Sz n (g0 c r) := by
          unfold g0
          rw [List.getElem?_eq_getElem hcr]
          exact hA r hr' _ (List.getElem_mem hcr)
        have e1 := ev_row_scaled aslead sz (by rw [llen]; exact hwl) (by omega)
        have e2 := ev_row_less (hA r hr') (as_rscale aslead sz) (by rw [hw r hr']; exact hwl) (by omega)
        have i3 : gNe (Q (g0 c r)) (.tup [.int 0, .int 1]) = some (.bl (!decide (g0 c r = 0))) := gNe_Q _ 0
        generalize m_row_less = f1 at e2 ⊢
        generalize m_row_scaled = f2 at e1 ⊢
        by_cases h0 : g0 c r = 0
        · rw [h0] at i1 i3
          simp [cstep, gNm, fYes, wipeD, i1, i3, asB, h0]
        · simp [cstep, gNm, fYes, wipeD, i1, i3, asB, h0, e1, e2])
    rw [mapR (fun r => if g0 c r ≠ 0 then rsub r (rscale ld (g0 c r)) else r)] at c1
    unfold fSetL
    rw [c1]
    rfl)]
  rw [clr]
  rw [seq_nx (ρ1 := [some x0, some x1, some (LT ((sw.map fun r => if g0 c r ≠ 0 then rsub r (rscale ld (g0 c r)) else r).set p ld)), some (.lst (ss.map natD)), some (natD c), some X5, some (natD p), some (Rw ld), none, none]) (by
    have q1 : ixN sw.length ((p : Nat) : Int) = some p := by
      unfold ixN; rw [if_pos (Int.natCast_nonneg p), if_pos (by exact_mod_cast hps)]; rfl
    simp [fSetIx, LT, natD, asI, q1, List.map_set])]
  have hsl2 : ss.length < sizeLine := Nat.lt_of_lt_of_le (show ss.length < 1000 by omega) (by decide)
  simp [fApp, hsl2, natD]
end W

namespace W
open PySem L2 Dl
def gr (n : Nat) : Nat → Nat
  | 0 => n
  | j + 1 => 4 * gr n j + 2
theorem gr_mono (n : Nat) : ∀ {i j : Nat}, i ≤ j → gr n i ≤ gr n j := fun {i j} h => by
  induction h with
  | refl => exact Nat.le_refl _
  | step _ ih => exact Nat.le_trans ih (by show _ ≤ 4 * gr n _ + 2; omega)
theorem clear_rows {n w p c : Nat} {t : List (List Rat)} (hp : p < t.length) (hw : ∀ r, r ∈ t → r.length = w) (hA : AT n t) (hc : c < w) (hz : at2 t p c ≠ 0) : (∀ r, r ∈ clearF t p c → r.length = w ∧ AS (4 * n + 2) r) ∧ (clearF t p c).length = t.length := by
  have hrow := getD_mem hp
  have sz : ∀ r, r ∈ t → Sz n (g0 c r) := fun r hr => by
    have hcr : c < r.length := by rw [hw r hr]; exact hc
    unfold g0
    rw [List.getElem?_eq_getElem hcr]
    exact hA r hr _ (List.getElem_mem hcr)
  have szq : Sz (1 + n) (1 / at2 t p c) := sz_div sz_one (sz _ hrow) hz
  have aslead : AS (n + (1 + n)) (rscale (t[p]?.getD []) (1 / at2 t p c)) := as_rscale (hA _ hrow) szq
  refine ⟨fun r hr => ?_, by simp [clearF]⟩
  unfold clearF at hr
  rcases mem_set hr with z | z
  · rw [List.mem_map] at z
    obtain ⟨r', hr', rfl⟩ := z
    split
    · refine ⟨by simp [rsub, rscale, hw r' hr', hw _ hrow], fun x hx => ?_⟩
      exact (as_rsub (hA r' hr') (as_rscale aslead (sz r' hr')) x hx).mono (by omega)
    · exact ⟨hw r' hr', fun x hx => (hA r' hr' x hx).mono (by omega)⟩
  · subst z
    exact ⟨by simp [rscale, hw _ hrow], fun x hx => (aslead x hx).mono (by omega)⟩
def StI (x0 x1 : D) (n w L : Nat) (t0 : List (List Rat)) (j : Nat) (s : List (List Rat) × List Nat) (ρ : DEnv) : Prop :=
  ∃ d4 d5 d6 d7, ρ = [some x0, some x1, some (LT s.1), some (.lst (s.2.map natD)), d4, d5, d6, d7, none, none] ∧ s = (List.range j).foldl stepF (t0, []) ∧
    s.1.length = L ∧ (∀ r, r ∈ s.1 → r.length = w) ∧ AT (gr n j) s.1 ∧ s.2.length ≤ j
theorem st_step {x0 x1 : D} {n w L : Nat} {t0 : List (List Rat)} (hL : L ≤ 1000) (hw1 : w ≤ 100) (hg : gr n w ≤ 10000000) (j : Nat) (s : List (List Rat) × List Nat) (ρ : DEnv) (hj : j < w) (I : StI x0 x1 n w L t0 j s ρ) : ∃ (s' : List (List Rat) × List Nat) (ρ' : DEnv),
    (gNm 4 (natD j) ρ).bind (fSeq (fSet 5 (fOfL (fComp (fRng2 (fCons (fCall gLen (fCons (fVar 3) fNil)) (fCons (fCall gLen (fCons (fVar 2) fNil)) fNil))) (gNm 9) (fB (fBin gNe (fBin gIx (fBin gIx (fVar 2) (fVar 9)) (fVar 4)) (fC (.tup [.int 0, .int 1])))) (fVar 9) [9])))
    (fIfS (fB (fBin gNe (fVar 5) (fOfL (fLst fNil)))) (fSeq (fSet 6 (fCall gLen (fCons (fVar 3) fNil)))
    (fSeq (fAsg (gTp 2 (gsCons (gIxT 2 (fVar 6)) (gsCons (gIxT 2 (fBin gIx (fVar 5) (fC (.int 0)))) gsNil))) (fTup (fCons (fBin gIx (fVar 2) (fBin gIx (fVar 5) (fC (.int 0)))) (fCons (fBin gIx (fVar 2) (fVar 6)) fNil))))
    (fSeq (fSet 7 (fCall m_row_scaled (fCons (fBin gIx (fVar 2) (fVar 6)) (fCons (fCall m_over (fCons (fC (.tup [.int 1, .int 1])) (fCons (fBin gIx (fBin gIx (fVar 2) (fVar 6)) (fVar 4)) fNil))) fNil))))
    (fSeq (fSetL 2 (fComp (fItems (fVar 2)) (gNm 8) fYes (fIf (fB (fBin gNe (fBin gIx (fVar 8) (fVar 4)) (fC (.tup [.int 0, .int 1])))) (fCall m_row_less (fCons (fVar 8) (fCons (fCall m_row_scaled (fCons (fVar 7) (fCons (fBin gIx (fVar 8) (fVar 4)) fNil))) fNil))) (fVar 8)) [8]))
    (fSeq (fSetIx 2 (fVar 7) (fVar 6))
    (fApp 3 (fVar 4))))))) fSkip)) = some (.nx ρ') ∧ StI x0 x1 n w L t0 (j + 1) s' ρ' := by
  obtain ⟨d4, d5, d6, d7, rfl, es, hl, hw, hA, hs⟩ := I
  obtain ⟨t, ss⟩ := s
  dsimp only at es hl hw hA hs ⊢
  have es' : (List.range (j + 1)).foldl stepF (t0, []) = stepF (t, ss) j := by rw [List.range_succ, List.foldl_append, ← es]; rfl
  rw [show gNm 4 (natD j) [some x0, some x1, some (LT t), some (.lst (ss.map natD)), d4, d5, d6, d7, none, none] = some [some x0, some x1, some (LT t), some (.lst (ss.map natD)), some (natD j), d5, d6, d7, none, none] from by simp [gNm], Option.bind_some]
  have eh := here_ev (x0 := x0) (x1 := x1) (d5 := d5) (d6 := d6) (d7 := d7) hj hw (by omega) (show ss.length ≤ 1000 by omega)
  rw [seq_nx (ρ1 := [some x0, some x1, some (LT t), some (.lst (ss.map natD)), some (natD j), some (.lst ((hereF (t, ss) j).map natD)), d6, d7, none, none]) (by
    unfold fSet
    rw [ap_ofL, eh]
    rfl)]
  have en := ne_nil_nats (hereF (t, ss) j)
  have ec : fB (fBin gNe (fVar 5) (fOfL (fLst fNil))) [some x0, some x1, some (LT t), some (.lst (ss.map natD)), some (natD j), some (.lst ((hereF (t, ss) j).map natD)), d6, d7, none, none] = some (!(hereF (t, ss) j).isEmpty, [some x0, some x1, some (LT t), some (.lst (ss.map natD)), some (natD j), some (.lst ((hereF (t, ss) j).map natD)), d6, d7, none, none]) := by
    rw [ap_B, e_bin (x := .lst ((hereF (t, ss) j).map natD)) (y := .lst []) (ρ1 := [some x0, some x1, some (LT t), some (.lst (ss.map natD)), some (natD j), some (.lst ((hereF (t, ss) j).map natD)), d6, d7, none, none]) (ρ2 := [some x0, some x1, some (LT t), some (.lst (ss.map natD)), some (natD j), some (.lst ((hereF (t, ss) j).map natD)), d6, d7, none, none]) (by simp) (by simp [fLst]) en]
    rfl
  cases hh : hereF (t, ss) j with
  | nil =>
    rw [hh] at ec
    refine ⟨(t, ss), _, by rw [if_f ec]; rfl, some (natD j), _, d6, d7, rfl, ?_, hl, hw, fun r hr x hx => (hA r hr x hx).mono (gr_mono n (Nat.le_succ j)), by show ss.length ≤ j + 1; omega⟩
    rw [es']
    unfold stepF
    rw [hh]
  | cons h rest =>
    rw [hh] at ec
    have hm : h ∈ hereF (t, ss) j := by rw [hh]; exact List.mem_cons_self
    unfold hereF at hm
    rw [List.mem_filter] at hm
    obtain ⟨h1, h2⟩ := hm
    have h1' := List.mem_range'_1.mp h1
    dsimp only at h1' h2
    have hz : at2 t h j ≠ 0 := by simpa using h2
    have hht : h < t.length := by omega
    have hpt : ss.length < t.length := by omega
    have hgj : gr n j ≤ 10000000 := Nat.le_trans (gr_mono n (Nat.le_of_lt hj)) hg
    have e := clear_ev (n := gr n j) (c := j) (w := w) (p := ss.length) (h := h) (t := t) (ss := ss) (hs := rest) (x0 := x0) (x1 := x1) (d6 := d6) (d7 := d7) hj hw (by omega) (by omega) hpt hht rfl hA hz hgj
    have hps : ss.length < (swapF t ss.length h).length := by rw [swap_len]; exact hpt
    have hz' : at2 (swapF t ss.length h) ss.length j ≠ 0 := by unfold at2; rw [swap_at hpt hht]; exact hz
    obtain ⟨q1, q2⟩ := clear_rows (n := gr n j) hps (fun r hr => hw r (swap_mem hpt hht hr)) (fun r hr => hA r (swap_mem hpt hht hr)) hj hz'
    refine ⟨(clearF (swapF t ss.length h) ss.length j, ss ++ [j]), _, by rw [if_t ec]; exact e, _, _, _, _, rfl, ?_, by dsimp only; rw [q2, swap_len, hl], fun r hr => (q1 r hr).1, fun r hr => (q1 r hr).2, by simp; omega⟩
    rw [es']
    unfold stepF
    rw [hh]
theorem ev_stairs {d : D} {n w : Nat} {t : List (List Rat)} (hd : itemsD d = some (t.map Rw)) (hw : ∀ r, r ∈ t → r.length = w) (ht : t.length ≤ 1000) (hw1 : w ≤ 100) (hA : AT n t) (hg : gr n w ≤ 10000000) :
    m_stairs [d, .int (w : Nat)] = some (.tup [LT (stairsF t w).1, .lst ((stairsF t w).2.map natD)]) ∧ (stairsF t w).2.length ≤ w ∧ (stairsF t w).1.length = t.length ∧ (∀ r, r ∈ (stairsF t w).1 → r.length = w) ∧ AT (gr n w) (stairsF t w).1 := by
  obtain ⟨s', ρ', e, I⟩ := loop_upto (StI d (.int (w : Nat)) n w t.length t) w 0 (t, []) [some d, some (.int (w : Nat)), some (LT t), some (.lst []), none, none, none, none, none, none] ⟨none, none, none, none, rfl, rfl, rfl, hw, hA, Nat.le_refl _⟩
    fun j s ρ _ hj I => st_step ht hw1 hg j s ρ (by omega) I
  obtain ⟨d4, d5, d6, d7, rfl, es, hl, hw', hA', hs⟩ := I
  rw [Nat.zero_add] at es hA' hs
  have es' : s' = stairsF t w := es
  subst es'
  refine ⟨?_, hs, hl, hw', hA'⟩
  refine out_rt (ρ := [some d, some (.int (w : Nat)), some (LT (stairsF t w).1), some (.lst ((stairsF t w).2.map natD)), d4, d5, d6, d7, none, none]) ?_
  unfold b_stairs c_stairs
  rw [show startD 10 [d, .int (w : Nat)] = [some d, some (.int (w : Nat)), none, none, none, none, none, none, none, none] from rfl]
  have c1 := comp_all (its := fItems (fVar 0)) (g := gNm 8) (c := fYes) (e := fCall gTuple (fCons (fVar 8) fNil)) (vs := [8]) (ρ := [some d, some (.int (w : Nat)), none, none, none, none, none, none, none, none])
    Rw Rw (xs := t) (by simp [fItems, hd]) (len_line ht) (fun r hr => by simp [cstep, gNm, fYes, wipeD])
  rw [seq_nx (ρ1 := [some d, some (.int (w : Nat)), some (LT t), some (.lst []), none, none, none, none, none, none]) (by
    unfold fPar
    rw [ap_cons, ap_ofL, c1]
    simp [fLst, LT])]
  rw [seq_nx (by
    rw [for_nx (ds := (List.range' 0 w).map natD) (ρ1 := [some d, some (.int (w : Nat)), some (LT t), some (.lst []), none, none, none, none, none, none]) (by rw [← range_0]; exact rng1 (by simp) (by omega))]
    exact e)]
  refine e_ret ?_
  simp [fTup, size_2]
end W

namespace W
open PySem L2 Dl
def rankF (t : List (List Rat)) (w : Nat) : Nat := (stairsF t w).2.length
theorem ev_rank {d : D} {n w : Nat} {t : List (List Rat)} (hd : itemsD d = some (t.map Rw)) (hw : ∀ r, r ∈ t → r.length = w) (ht : t.length ≤ 1000) (hw1 : w ≤ 100) (hA : AT n t) (hg : gr n w ≤ 10000000) : m_rank [d, .int (w : Nat)] = some (.int (rankF t w : Nat)) ∧ rankF t w ≤ w := by
  obtain ⟨e, h1, _⟩ := ev_stairs hd hw ht hw1 hA hg
  refine ⟨?_, h1⟩
  refine out_rt (ρ := [some d, some (.int (w : Nat))]) ?_
  unfold b_rank c_rank
  rw [show startD 2 [d, .int (w : Nat)] = [some d, some (.int (w : Nat))] from rfl]
  generalize m_stairs = f at e ⊢
  refine e_ret (e_call (ds := [.lst ((stairsF t w).2.map natD)]) ?_ (by show some (D.int (((stairsF t w).2.map natD).length : Nat)) = _; rw [List.length_map]; rfl))
  have a1 : fCall f (fCons (fVar 0) (fCons (fVar 1) fNil)) [some d, some (.int (w : Nat))] = some (.tup [LT (stairsF t w).1, .lst ((stairsF t w).2.map natD)], [some d, some (.int (w : Nat))]) := e_call (ds := [d, .int (w : Nat)]) (by simp) e
  rw [ap_cons, e_bin a1 (ap_C _ _) (show gIx (.tup [LT (stairsF t w).1, .lst ((stairsF t w).2.map natD)]) (.int 1) = some (.lst ((stairsF t w).2.map natD)) from rfl)]
  rfl
def unitF (k : Nat) : List (List Rat) := mk k fun i j => if j = i then 1 else 0
theorem unit_in {k i : Nat} (hk : k ≤ 1000) : fComp (fRng1 (fCons (fVar 0) fNil)) (gNm 2) fYes (fIf (fB (fBin gEq (fVar 2) (fVar 1))) (fC (.tup [.int 1, .int 1])) (fC (.tup [.int 0, .int 1]))) [2] [some (.int (k : Nat)), some (natD i), none] =
    some (((List.range k).map fun j => if j = i then (1 : Rat) else 0).map Q, [some (.int (k : Nat)), some (natD i), none]) := by
  have e2 := comp_all (its := fRng1 (fCons (fVar 0) fNil)) (g := gNm 2) (c := fYes) (e := fIf (fB (fBin gEq (fVar 2) (fVar 1))) (fC (.tup [.int 1, .int 1])) (fC (.tup [.int 0, .int 1]))) (vs := [2]) (ρ := [some (.int (k : Nat)), some (natD i), none])
    natD (fun j => Q (if j = i then 1 else 0)) (xs := List.range k) (rng1 (by simp) hk) (by rw [List.length_range]; exact Nat.le_trans hk (by decide)) (fun j _ => by
      have e3 : gEq (natD j) (natD i) = some (.bl (decide (j = i))) := by
        unfold natD
        rw [gEq_int]
        congr 2
        rw [decide_eq_decide]
        omega
      by_cases h : j = i
      · subst h
        simp [cstep, gNm, fYes, wipeD, fIf, e3, asB, Q1]
      · simp [cstep, gNm, fYes, wipeD, fIf, e3, asB, h, Q0])
  rw [mapQ (fun j => if j = i then (1 : Rat) else 0)] at e2
  exact e2
theorem unit_out {k : Nat} {E : DFn} {g : Nat → List Rat} (hk : k ≤ 1000) (hE : ∀ i, E [some (.int (k : Nat)), some (natD i), none] = some (Rw (g i), [some (.int (k : Nat)), some (natD i), none])) :
    fComp (fRng1 (fCons (fVar 0) fNil)) (gNm 1) fYes E [1] [some (.int (k : Nat)), none, none] = some (((List.range k).map g).map Rw, [some (.int (k : Nat)), none, none]) := by
  have e1 := comp_all (its := fRng1 (fCons (fVar 0) fNil)) (g := gNm 1) (c := fYes) (e := E) (vs := [1]) (ρ := [some (.int (k : Nat)), none, none])
    natD (fun i => Rw (g i)) (xs := List.range k) (rng1 (by simp) hk) (by rw [List.length_range]; exact Nat.le_trans hk (by decide)) (fun i _ => by
      simp [cstep, gNm, fYes, wipeD, hE i])
  rw [mapR g] at e1
  exact e1
theorem unit_mid {k i : Nat} (hk : k ≤ 1000) : fCall gTuple (fCons (fOfL (fComp (fRng1 (fCons (fVar 0) fNil)) (gNm 2) fYes (fIf (fB (fBin gEq (fVar 2) (fVar 1))) (fC (.tup [.int 1, .int 1])) (fC (.tup [.int 0, .int 1]))) [2])) fNil) [some (.int (k : Nat)), some (natD i), none] =
    some (Rw ((List.range k).map fun j => if j = i then (1 : Rat) else 0), [some (.int (k : Nat)), some (natD i), none]) := by
  have e2 := unit_in (i := i) hk
  refine e_call (ds := [.lst (((List.range k).map fun j => if j = i then (1 : Rat) else 0).map Q)]) ?_ (tuple_L _)
  rw [ap_cons, ap_ofL, e2, Option.map_some, Option.bind_some, ap_nil, Option.map_some]
theorem ev_unit_rows {k : Nat} (hk : k ≤ 1000) : m_unit_rows [.int (k : Nat)] = some (Tb (unitF k)) := by
  have e1 := unit_out (k := k) (g := fun i => (List.range k).map fun j => if j = i then (1 : Rat) else 0) hk fun i => unit_mid hk
  refine out_rt (ρ := [some (.int (k : Nat)), none, none]) ?_
  unfold b_unit_rows c_unit_rows
  rw [show startD 3 [.int (k : Nat)] = [some (.int (k : Nat)), none, none] from rfl]
  refine e_ret (e_call (ds := [.lst ((unitF k).map Rw)]) ?_ (tuple_LT _))
  rw [ap_cons, ap_ofL, e1, Option.map_some, Option.bind_some, ap_nil, Option.map_some]
  rfl
theorem unit_row {k : Nat} {r : List Rat} (h : r ∈ unitF k) : r.length = k ∧ AS 1 r := by
  refine ⟨mk_wid h, fun x hx => ?_⟩
  have := at_mk (k := k) (n := 1) (F := fun i j => if j = i then 1 else 0) (fun i j _ _ => by
    split
    · exact sz_one
    · exact sz_zero)
  exact this r h x hx
end W

namespace W
open PySem L2 Dl
/-- nothing is free of as many rows as there are columns -/
theorem pl_free {f1 f2 : List D → Option D} {k : Nat} {t us : List (List Rat)} (e1 : f1 [.int (k : Nat)] = some (Tb us)) (hk : t.length = k) (hkl : k ≤ 1000)
    (h : ∀ u, u ∈ us → ∃ r : Nat, r ≤ k ∧ f2 [.lst ((t ++ [u]).map Rw), .int (k : Nat)] = some (.int (r : Nat))) : outP false 5 (c_free_with f1 f2) [LT t, .int (k : Nat)] = some (.lst []) := by
  have step : ∀ (l : List (List Rat)) (d : Option D), (∀ u, u ∈ l → u ∈ us) → ∃ d', loopD (gNm 4) (fIfS (fB (fBin gGt (fCall f2 (fCons (fOfL (fLst (fStar (fVar 2) (fCons (fVar 4) fNil)))) (fCons (fVar 1) fNil))) (fCall gLen (fCons (fVar 2) fNil)))) (fSeq (fApp 2 (fVar 4))
    (fApp 3 (fVar 4))) fSkip) (l.map Rw) [some (LT t), some (.int (k : Nat)), some (LT t), some (.lst []), d] = some (.nx [some (LT t), some (.int (k : Nat)), some (LT t), some (.lst []), d']) := by
    intro l
    induction l with
    | nil => intro d _; exact ⟨d, rfl⟩
    | cons u r ih =>
      intro d hu
      obtain ⟨q, hq, e⟩ := h u (hu u List.mem_cons_self)
      obtain ⟨d', e'⟩ := ih (some (Rw u)) fun y hy => hu y (List.mem_cons_of_mem _ hy)
      refine ⟨d', ?_⟩
      rw [List.map_cons]
      unfold loopD
      rw [show gNm 4 (Rw u) [some (LT t), some (.int (k : Nat)), some (LT t), some (.lst []), d] = some [some (LT t), some (.int (k : Nat)), some (LT t), some (.lst []), some (Rw u)] from by simp [gNm], Option.bind_some]
      have hsz : t.length + 1 ≤ sizeLine := Nat.le_trans (show t.length + 1 ≤ 1001 by omega) (by decide)
      have a1 : fCall f2 (fCons (fOfL (fLst (fStar (fVar 2) (fCons (fVar 4) fNil)))) (fCons (fVar 1) fNil)) [some (LT t), some (.int (k : Nat)), some (LT t), some (.lst []), some (Rw u)] = some (.int (q : Nat), [some (LT t), some (.int (k : Nat)), some (LT t), some (.lst []), some (Rw u)]) := by
        refine e_call (ds := [.lst ((t ++ [u]).map Rw), .int (k : Nat)]) ?_ e
        simp [fLst, fStar, LT, itemsD, hsz]
      have a2 : fCall gLen (fCons (fVar 2) fNil) [some (LT t), some (.int (k : Nat)), some (LT t), some (.lst []), some (Rw u)] = some (.int (k : Nat), [some (LT t), some (.int (k : Nat)), some (LT t), some (.lst []), some (Rw u)]) := by
        refine e_call (ds := [LT t]) (by simp) ?_
        show some (D.int ((t.map Rw).length : Nat)) = _
        rw [List.length_map, hk]
      have hn : ¬ ((k : Int) < (q : Int)) := by omega
      rw [if_f (ρ1 := [some (LT t), some (.int (k : Nat)), some (LT t), some (.lst []), some (Rw u)]) (by
        rw [ap_B, e_bin a1 a2 (show gGt (.int (q : Nat)) (.int (k : Nat)) = some (.bl (decide ((k : Int) < (q : Int)))) from rfl)]
        simp [asB]; omega)]
      exact e'
  obtain ⟨d', e'⟩ := step us none fun u hu => hu
  refine out_rt (ρ := [some (LT t), some (.int (k : Nat)), some (LT t), some (.lst []), d']) ?_
  unfold c_free_with
  rw [show startD 5 [LT t, .int (k : Nat)] = [some (LT t), some (.int (k : Nat)), none, none, none] from rfl]
  rw [seq_nx (ρ1 := [some (LT t), some (.int (k : Nat)), some (LT t), some (.lst []), none]) (by simp [fPar, fCallL, gListL, LT, fLst])]
  rw [seq_nx (by
    rw [for_nx (ds := us.map Rw) (ρ1 := [some (LT t), some (.int (k : Nat)), some (LT t), some (.lst []), none]) (by
      unfold fItems
      rw [e_call (ds := [.int (k : Nat)]) (ρ1 := [some (LT t), some (.int (k : Nat)), some (LT t), some (.lst []), none]) (by simp) e1]
      rfl)]
    exact e')]
  exact e_ret (by simp)
theorem ev_free_with {n k : Nat} {t : List (List Rat)} (h1 : 1 ≤ n) (hk : t.length = k) (hkl : k ≤ 100) (hw : ∀ r, r ∈ t → r.length = k) (hA : AT n t) (hg : gr n k ≤ 10000000) : m_free_with [LT t, .int (k : Nat)] = some (.lst []) :=
  pl_free (ev_unit_rows (by omega)) hk (by omega) fun u hu => by
    obtain ⟨e, h⟩ := ev_rank (d := .lst ((t ++ [u]).map Rw)) (n := n) (w := k) (t := t ++ [u]) rfl (fun r hr => by
      rcases List.mem_append.mp hr with z | z
      · exact hw r z
      · rw [List.mem_singleton.mp z]; exact (unit_row hu).1) (by simp; omega) hkl (fun r hr => by
      rcases List.mem_append.mp hr with z | z
      · exact hA r z
      · rw [List.mem_singleton.mp z]; exact fun x hx => ((unit_row hu).2 x hx).mono h1) hg
    exact ⟨_, h, e⟩
end W

namespace W
open PySem L2 Dl
/-! the forms behind each square taken off -/
theorem sqs_cons (h : Rat) (l : List Rat) (hs : List Rat) (ls : List (List Rat)) (a b : Nat) : sqs (h :: hs) (l :: ls) a b = g0 a l * h * g0 b l + sqs hs ls a b := by
  unfold sqs
  rw [List.zip_cons_cons, List.map_cons, qsum_cons]
theorem sqs_zero {hs : List Rat} {ls : List (List Rat)} {a b : Nat} (h : ∀ l, l ∈ ls → g0 a l = 0) : sqs hs ls a b = 0 := by
  induction ls generalizing hs with
  | nil => rfl
  | cons l r ih =>
    cases hs with
    | nil => rfl
    | cons q qs =>
      rw [sqs_cons, ih fun x hx => h x (List.mem_cons_of_mem _ hx), h l List.mem_cons_self]
      grind
section
variable {k : Nat} {hs : List Rat} {ls : List (List Rat)} (S : Stairs k hs ls)
def left (hs : List Rat) (ls : List (List Rat)) (i : Nat) : Nat → Nat → Rat := sqs (hs.drop i) (ls.drop i)
theorem drop_split {i : Nat} (S : Stairs k hs ls) (hi : i < k) : ∃ h l, hs[i]? = some h ∧ ls[i]? = some l ∧ hs.drop i = h :: hs.drop (i + 1) ∧ ls.drop i = l :: ls.drop (i + 1) := by
  have h1 : i < hs.length := by rw [S.hl]; exact hi
  have h2 : i < ls.length := by rw [S.ll]; exact hi
  exact ⟨hs[i], ls[i], List.getElem?_eq_getElem h1, List.getElem?_eq_getElem h2, List.drop_eq_getElem_cons h1, List.drop_eq_getElem_cons h2⟩
theorem later {i a : Nat} (S : Stairs k hs ls) (ha : a < i) : ∀ l, l ∈ ls.drop i → g0 a l = 0 := fun l hl => by
  obtain ⟨j, hj⟩ := List.getElem?_of_mem hl
  rw [List.getElem?_drop] at hj
  exact (S.tri (i + j) l hj).1.lo a (by omega)
theorem left_zero {i a b : Nat} (S : Stairs k hs ls) (ha : a < i) : left hs ls i a b = 0 := sqs_zero (later S ha)
theorem left_succ {i : Nat} (S : Stairs k hs ls) (hi : i < k) : ∃ h l, hs[i]? = some h ∧ ls[i]? = some l ∧ 0 < h ∧ (∀ a b, left hs ls i a b = g0 a l * h * g0 b l + left hs ls (i + 1) a b) ∧ (∀ b, left hs ls i i b = h * g0 b l) ∧ left hs ls i i i = h := by
  obtain ⟨h, l, e1, e2, e3, e4⟩ := drop_split S hi
  have pos := (S.pos h (List.mem_of_getElem? e1)).1
  have one := (S.tri i l e2).1.one
  have st : ∀ a b, left hs ls i a b = g0 a l * h * g0 b l + left hs ls (i + 1) a b := fun a b => by
    unfold left
    rw [e3, e4, sqs_cons]
  have row : ∀ b, left hs ls i i b = h * g0 b l := fun b => by
    rw [st, left_zero S (Nat.lt_succ_self i), one]
    grind
  exact ⟨h, l, e1, e2, pos, st, row, by rw [row, one]; grind⟩
theorem left_end (S : Stairs k hs ls) (a b : Nat) : left hs ls k a b = 0 := by
  unfold left
  rw [List.drop_of_length_le (by rw [S.hl]; exact Nat.le_refl _)]
  rw [List.drop_of_length_le (by rw [S.ll]; exact Nat.le_refl _)]
  rfl
/-- a square taken off -/
theorem left_off {i a b : Nat} (S : Stairs k hs ls) (hi : i < k) : left hs ls i a b - left hs ls i i b * (left hs ls i i a * (1 / left hs ls i i i)) = left hs ls (i + 1) a b := by
  obtain ⟨h, l, e1, e2, pos, st, row, d⟩ := left_succ S hi
  have hz : h ≠ 0 := fun z => by rw [z] at pos; exact absurd pos (by decide)
  rw [d, row a, row b, st a b]
  generalize left hs ls (i + 1) a b = X
  generalize g0 a l = p
  generalize g0 b l = q
  grind
end
end W

namespace W
open PySem L2 Dl
theorem mk_at {k a b : Nat} {F : Nat → Nat → Rat} (ha : a < k) (hb : b < k) : at2 (mk k F) a b = F a b := by
  unfold at2 mk g0
  simp [ha, hb]
theorem mk_row {k a : Nat} {F : Nat → Nat → Rat} (ha : a < k) : (mk k F)[a]?.getD [] = (List.range k).map fun j => F a j := by
  unfold mk
  simp [ha]
theorem ix2 {k a b : Nat} {F : Nat → Nat → Rat} (ha : a < k) (hb : b < k) : ∃ r, gIx (Tb (mk k F)) (natD a) = some (Rw r) ∧ gIx (Rw r) (natD b) = some (Q (F a b)) ∧ r = (List.range k).map fun j => F a j := by
  refine ⟨(mk k F)[a]?.getD [], ix_T (by rw [mk_len]; exact ha), ?_, mk_row ha⟩
  have h := ix_Rn (xs := (mk k F)[a]?.getD []) (j := b) (by rw [mk_row ha]; simpa using hb)
  rw [h]
  have := mk_at (F := F) ha hb
  unfold at2 at this
  rw [this]
theorem piv_loop {k i : Nat} {F : Nat → Nat → Rat} (hi : i < k) (hz : ∀ a, a < i → F a a = 0) (hn : F i i ≠ 0) : ∀ (m j : Nat) (d : Option D), j ≤ i → i < j + m → j + m ≤ k →
    loopD (gNm 2) (fIfS (fB (fBin gNe (fBin gIx (fBin gIx (fVar 0) (fVar 2)) (fVar 2)) (fC (.tup [.int 0, .int 1])))) (fRet (fTup (fCons (fVar 2) (fCons (fVar 2) fNil)))) fSkip) ((List.range' j m).map natD) [some (Tb (mk k F)), some (.int (k : Nat)), d, none, none, none] =
      some (.rt (.tup [natD i, natD i]) [some (Tb (mk k F)), some (.int (k : Nat)), some (natD i), none, none, none])
  | 0, j, d, h1, h2, h3 => by omega
  | m + 1, j, d, h1, h2, h3 => by
    rw [List.range'_succ, List.map_cons]
    unfold loopD
    rw [show gNm 2 (natD j) [some (Tb (mk k F)), some (.int (k : Nat)), d, none, none, none] = some [some (Tb (mk k F)), some (.int (k : Nat)), some (natD j), none, none, none] from by simp [gNm], Option.bind_some]
    obtain ⟨r, e1, e2, _⟩ := ix2 (F := F) (a := j) (b := j) (show j < k by omega) (show j < k by omega)
    have e3 : gNe (Q (F j j)) (.tup [.int 0, .int 1]) = some (.bl (!decide (F j j = 0))) := gNe_Q _ 0
    by_cases hj : j = i
    · subst hj
      rw [if_t (ρ1 := [some (Tb (mk k F)), some (.int (k : Nat)), some (natD j), none, none, none]) (by simp [e1, e2, e3, asB, hn])]
      simp [fTup, size_2, oLoop]
    · have h0 := hz j (by omega)
      rw [h0] at e2 e3
      rw [if_f (ρ1 := [some (Tb (mk k F)), some (.int (k : Nat)), some (natD j), none, none, none]) (by simp [e1, e2, e3, asB])]
      show loopD _ _ _ _ = _
      exact piv_loop hi hz hn m (j + 1) (some (natD j)) (by omega) (by omega) (by omega)
theorem ev_first_pivot {k i : Nat} {F : Nat → Nat → Rat} (hk : k ≤ 1000) (hi : i < k) (hz : ∀ a, a < i → F a a = 0) (hn : F i i ≠ 0) : m_first_pivot [Tb (mk k F)] = some (.tup [natD i, natD i]) := by
  refine out_rt (ρ := [some (Tb (mk k F)), some (.int (k : Nat)), some (natD i), none, none, none]) ?_
  unfold b_first_pivot c_first_pivot
  rw [show startD 6 [Tb (mk k F)] = [some (Tb (mk k F)), none, none, none, none, none] from rfl]
  rw [seq_nx (ρ1 := [some (Tb (mk k F)), some (.int (k : Nat)), none, none, none, none]) (by simp [fSet, mk_len])]
  refine seq_rt ?_
  rw [for_nx (ds := (List.range' 0 k).map natD) (ρ1 := [some (Tb (mk k F)), some (.int (k : Nat)), none, none, none, none]) (by rw [← range_0]; exact rng1 (by simp) hk)]
  exact piv_loop hi hz hn k 0 none (by omega) (by omega) (by omega)
end W

namespace W
open PySem L2 Dl
theorem zero_loop {k : Nat} {F : Nat → Nat → Rat} (hz : ∀ a, a < k → F a a = 0) : ∀ (m j : Nat) (d : Option D), j + m ≤ k →
    ∃ d', loopD (gNm 2) (fIfS (fB (fBin gNe (fBin gIx (fBin gIx (fVar 0) (fVar 2)) (fVar 2)) (fC (.tup [.int 0, .int 1])))) (fRet (fTup (fCons (fVar 2) (fCons (fVar 2) fNil)))) fSkip) ((List.range' j m).map natD) [some (Tb (mk k F)), some (.int (k : Nat)), d, none, none, none] =
      some (.nx [some (Tb (mk k F)), some (.int (k : Nat)), d', none, none, none])
  | 0, j, d, h => ⟨d, rfl⟩
  | m + 1, j, d, h => by
    obtain ⟨d', e⟩ := zero_loop hz m (j + 1) (some (natD j)) (by omega)
    refine ⟨d', ?_⟩
    rw [List.range'_succ, List.map_cons]
    unfold loopD
    rw [show gNm 2 (natD j) [some (Tb (mk k F)), some (.int (k : Nat)), d, none, none, none] = some [some (Tb (mk k F)), some (.int (k : Nat)), some (natD j), none, none, none] from by simp [gNm], Option.bind_some]
    obtain ⟨r, e1, e2, _⟩ := ix2 (F := F) (a := j) (b := j) (show j < k by omega) (show j < k by omega)
    have e3 : gNe (Q (F j j)) (.tup [.int 0, .int 1]) = some (.bl (!decide (F j j = 0))) := gNe_Q _ 0
    have h0 := hz j (by omega)
    rw [h0] at e2 e3
    rw [if_f (ρ1 := [some (Tb (mk k F)), some (.int (k : Nat)), some (natD j), none, none, none]) (by simp [e1, e2, e3, asB])]
    exact e
theorem comp2_nil {α : Type} {g : GFn} {c c1 : TFn} {its1 : LFn} {g1 : GFn} {e : DFn} {vs1 : List Nat} {ρ : DEnv} (enc : α → D) : ∀ {xs : List α}, (∀ x, x ∈ xs → ∃ ρ1 ρ2 ds ρ3, g (enc x) ρ = some ρ1 ∧ c ρ1 = some (true, ρ2) ∧ its1 ρ2 = some (ds, ρ3) ∧ compD g1 c1 e (wipeD ρ3 vs1) ds = some []) → compD2 g c its1 g1 c1 e vs1 ρ (xs.map enc) = some []
  | [], _ => rfl
  | x :: r, h => by
    obtain ⟨ρ1, ρ2, ds, ρ3, e1, e2, e3, e4⟩ := h x List.mem_cons_self
    have ih := comp2_nil (c := c) (c1 := c1) (its1 := its1) (g1 := g1) (e := e) (vs1 := vs1) enc (xs := r) fun y hy => h y (List.mem_cons_of_mem _ hy)
    rw [List.map_cons]
    unfold compD2
    rw [e1, Option.bind_some, e2, Option.bind_some]
    dsimp only
    rw [if_pos rfl, e3, Option.bind_some]
    dsimp only
    rw [e4, Option.bind_some, ih]
    rfl
theorem zero_comp {k : Nat} {F : Nat → Nat → Rat} {d : Option D} (hk : k ≤ 1000) (hz : ∀ a b, a < k → b < k → F a b = 0) :
    fComp2 (fRng1 (fCons (fVar 1) fNil)) (gNm 4) fYes (fRng1 (fCons (fVar 1) fNil)) (gNm 5) (fB (fBin gNe (fBin gIx (fBin gIx (fVar 0) (fVar 4)) (fVar 5)) (fC (.tup [.int 0, .int 1])))) (fTup (fCons (fVar 4) (fCons (fVar 5) fNil))) [4, 5] [5] [some (Tb (mk k F)), some (.int (k : Nat)), d, none, none, none] =
      some ([], [some (Tb (mk k F)), some (.int (k : Nat)), d, none, none, none]) := by
  unfold fComp2
  rw [rng1 (n := k) (by simp) hk, Option.bind_some]
  dsimp only
  rw [show wipeD [some (Tb (mk k F)), some (.int (k : Nat)), d, none, none, none] [4, 5] = [some (Tb (mk k F)), some (.int (k : Nat)), d, none, none, none] from rfl]
  rw [comp2_nil natD (xs := List.range k) fun a ha => ?_]
  · rfl
  · have ha := List.mem_range.mp ha
    refine ⟨[some (Tb (mk k F)), some (.int (k : Nat)), d, none, some (natD a), none], _, (List.range k).map natD, [some (Tb (mk k F)), some (.int (k : Nat)), d, none, some (natD a), none], by simp [gNm], rfl, rng1 (by simp) hk, ?_⟩
    have := compD_step (g := gNm 5) (c := fB (fBin gNe (fBin gIx (fBin gIx (fVar 0) (fVar 4)) (fVar 5)) (fC (.tup [.int 0, .int 1])))) (e := fTup (fCons (fVar 4) (fCons (fVar 5) fNil))) (ρ := wipeD [some (Tb (mk k F)), some (.int (k : Nat)), d, none, some (natD a), none] [5]) natD (fun _ => none) (xs := List.range k) (fun b hb => by
      have hb := List.mem_range.mp hb
      obtain ⟨r, e1, e2, _⟩ := ix2 (F := F) ha hb
      have e3 : gNe (Q (F a b)) (.tup [.int 0, .int 1]) = some (.bl (!decide (F a b = 0))) := gNe_Q _ 0
      rw [hz a b ha hb] at e2 e3
      simp [cstep, gNm, wipeD, e1, e2, e3, asB])
    rw [this]
    simp
theorem ev_first_none {k : Nat} {F : Nat → Nat → Rat} (hk : k ≤ 1000) (hz : ∀ a b, a < k → b < k → F a b = 0) : m_first_pivot [Tb (mk k F)] = some (.tup []) := by
  obtain ⟨d', e⟩ := zero_loop (fun a ha => hz a a ha ha) k 0 none (by omega)
  refine out_rt (ρ := [some (Tb (mk k F)), some (.int (k : Nat)), d', some (.lst []), none, none]) ?_
  unfold b_first_pivot c_first_pivot
  rw [show startD 6 [Tb (mk k F)] = [some (Tb (mk k F)), none, none, none, none, none] from rfl]
  rw [seq_nx (ρ1 := [some (Tb (mk k F)), some (.int (k : Nat)), none, none, none, none]) (by simp [fSet, mk_len])]
  rw [seq_nx (by
    rw [for_nx (ds := (List.range' 0 k).map natD) (ρ1 := [some (Tb (mk k F)), some (.int (k : Nat)), none, none, none, none]) (by rw [← range_0]; exact rng1 (by simp) hk)]
    exact e)]
  rw [seq_nx (ρ1 := [some (Tb (mk k F)), some (.int (k : Nat)), d', some (.lst []), none, none]) (by
    unfold fSet
    rw [ap_ofL, zero_comp hk hz]
    rfl)]
  have en := ne_nil_nats []
  have ec : fB (fBin gNe (fVar 3) (fOfL (fLst fNil))) [some (Tb (mk k F)), some (.int (k : Nat)), d', some (.lst []), none, none] = some (false, [some (Tb (mk k F)), some (.int (k : Nat)), d', some (.lst []), none, none]) := by
    rw [ap_B, e_bin (x := .lst []) (y := .lst []) (ρ1 := [some (Tb (mk k F)), some (.int (k : Nat)), d', some (.lst []), none, none]) (ρ2 := [some (Tb (mk k F)), some (.int (k : Nat)), d', some (.lst []), none, none]) (by simp) (by simp [fLst]) en]
    rfl
  refine e_ret ?_
  rw [ap_if, ec]
  simp [fTup]
end W

namespace W
open PySem L2 Dl
def rowF (k : Nat) (F : Nat → Nat → Rat) (i : Nat) : List Rat := (List.range k).map fun j => F i j
theorem ev_pivot_squares {k i n : Nat} {F : Nat → Nat → Rat} (hi : i < k) (hn : F i i ≠ 0) (sz : Sz n (F i i)) (h : n ≤ 10000000) : m_pivot_squares [Tb (mk k F), .tup [natD i, natD i]] = some (.lst [.tup [Q (1 / F i i), Rw (rowF k F i)]]) := by
  obtain ⟨r, e1, e2, er⟩ := ix2 (F := F) hi hi
  have e_over := ev_over (a := 1) (b := F i i) sz_one sz (by omega) hn
  have e3 : gEq (natD i) (natD i) = some (.bl true) := by unfold natD; rw [gEq_int]; simp
  refine out_rt (ρ := [some (Tb (mk k F)), some (.tup [natD i, natD i]), some (natD i), some (natD i), none]) ?_
  unfold b_pivot_squares c_pivot_squares
  rw [show startD 5 [Tb (mk k F), .tup [natD i, natD i]] = [some (Tb (mk k F)), some (.tup [natD i, natD i]), none, none, none] from rfl]
  rw [seq_nx (ρ1 := [some (Tb (mk k F)), some (.tup [natD i, natD i]), some (natD i), some (natD i), none]) (by simp [fAsg, gTp, gsCons, gNm, gsNil])]
  refine seq_rt ?_
  rw [if_t (ρ1 := [some (Tb (mk k F)), some (.tup [natD i, natD i]), some (natD i), some (natD i), none]) (by simp [e3, asB])]
  refine e_ret ?_
  have er' : r = rowF k F i := er
  subst er'
  generalize m_over = f at e_over ⊢
  simp [fLst, fTup, Q1, e1, e2, e_over, size_2, show 1 ≤ sizeLine by decide]
theorem row_get {k i j : Nat} {F : Nat → Nat → Rat} (hj : j < k) : g0 j (rowF k F i) = F i j := by
  unfold g0 rowF
  simp [hj]
/-- a table less the products of a row scaled and the row -/
theorem tsub_mk {k i : Nat} {F : Nat → Nat → Rat} (c : Rat) : tsub (mk k F) (tprod (rscale (rowF k F i) c) (rowF k F i)) = mk k fun a b => F a b - F i b * (F i a * c) := by
  unfold tsub tprod mk rscale rowF
  rw [List.map_map, List.map_map, List.zip_map', List.map_map]
  refine List.map_congr_left fun a _ => ?_
  simp only [Function.comp, rsub, rscale]
  rw [List.map_map, List.zip_map', List.map_map]
  rfl
theorem mk_congr {k : Nat} {F G : Nat → Nat → Rat} (h : ∀ a b, a < k → b < k → F a b = G a b) : mk k F = mk k G := by
  unfold mk
  refine List.map_congr_left fun a ha => List.map_congr_left fun b hb => ?_
  exact h a b (List.mem_range.mp ha) (List.mem_range.mp hb)
theorem as_rowF {k i n : Nat} {F : Nat → Nat → Rat} (h : ∀ j, j < k → Sz n (F i j)) : AS n (rowF k F i) := fun x hx => by
  unfold rowF at hx
  rw [List.mem_map] at hx
  obtain ⟨j, hj, rfl⟩ := hx
  exact h j (List.mem_range.mp hj)
theorem ev_off {k i n : Nat} {F : Nat → Nat → Rat} (hk : k ≤ 100) (hi : i < k) (hn : F i i ≠ 0) (sz : ∀ a b, a < k → b < k → Sz n (F a b)) (h : n ≤ 10000000) :
    ∃ d1 d2, m_row_scaled [Rw (rowF k F i), Q (1 / F i i)] = some d1 ∧ m_products_table [d1, Rw (rowF k F i)] = some d2 ∧ m_table_less [Tb (mk k F), d2] = some (Tb (mk k fun a b => F a b - F i b * (F i a * (1 / F i i)))) := by
  have hr := as_rowF (i := i) fun j hj => sz i j hi hj
  have hrl : (rowF k F i).length = k := by simp [rowF]
  have szq : Sz (1 + n) (1 / F i i) := sz_div sz_one (sz i i hi hi) hn
  have e1 := ev_row_scaled hr szq (by omega) (by omega)
  have a1 := as_rscale hr szq
  have e2 := ev_products_table a1 hr (by simp [rscale, hrl]; omega) (by omega) (by omega)
  have a2 : AT (n + (n + (1 + n))) (tprod (rscale (rowF k F i) (1 / F i i)) (rowF k F i)) := fun r hr' => by
    unfold tprod at hr'
    rw [List.mem_map] at hr'
    obtain ⟨x, hx, rfl⟩ := hr'
    exact as_rscale hr (a1 x hx)
  have e3 := ev_table_less (at_mk sz) a2 (by rw [mk_len]; omega) (fun r hr => by rw [mk_wid hr]; omega) (by omega)
  rw [tsub_mk] at e3
  exact ⟨_, _, e1, e2, e3⟩
end W

namespace W
open PySem L2 Dl
section
variable {k : Nat} {hs : List Rat} {ls : List (List Rat)}
theorem sz_left (S : Stairs k hs ls) (hk : k ≤ 10) {i a b : Nat} (ha : a < k) (hb : b < k) : Sz 700 (left hs ls i a b) := by
  unfold left
  refine sz_sqs (k := k) (fun r hr => S.wid r (List.mem_of_mem_drop hr)) (fun r hr => S.sz r (List.mem_of_mem_drop hr)) (fun h hh => (S.pos h (List.mem_of_mem_drop hh)).2) ?_ ha hb
  rw [List.length_drop, S.ll]
  omega
def prD (k : Nat) (hs : List Rat) (ls : List (List Rat)) (j : Nat) : D := .tup [Q (1 / left hs ls j j j), Rw (rowF k (left hs ls j) j)]
def pivD (k i : Nat) : D := if i < k then .tup [natD i, natD i] else .tup []
theorem pivot_at (S : Stairs k hs ls) (hk : k ≤ 10) (i : Nat) (hi : i ≤ k) : m_first_pivot [Tb (mk k (left hs ls i))] = some (pivD k i) := by
  unfold pivD
  by_cases h : i < k
  · rw [if_pos h]
    obtain ⟨q, l, _, _, pos, _, _, d⟩ := left_succ S h
    exact ev_first_pivot (by omega) h (fun a ha => left_zero S ha) (by rw [d]; intro z; rw [z] at pos; exact absurd pos (by decide))
  · rw [if_neg h]
    have e : i = k := by omega
    subst e
    exact ev_first_none (by omega) fun a b _ _ => left_end S a b
theorem ne_piv (k i : Nat) : gNe (pivD k i) (.tup []) = some (.bl (decide (i < k))) := by
  unfold pivD natD
  by_cases h : i < k
  · rw [if_pos h, gNe_nm (k := 1) (l := 1) (.tup (.cons (.int _) (.cons (.int _) .nil))) (.tup .nil) (by decide) (by decide)]
    simp [h, toPy, toPys, PyData.eqv, PyData.eqvAll]
  · rw [if_neg h, gNe_nm (k := 1) (l := 1) (.tup .nil) (.tup .nil) (by decide) (by decide)]
    simp [h, toPy, toPys, PyData.eqv, PyData.eqvAll]
theorem sq_while (S : Stairs k hs ls) (hk : k ≤ 10) (x0 : D) : ∀ (m i n : Nat) (d5 d6 d7 : Option D), i + m = k → m < n →
    ∃ e5 e6 e7, loopW (fB (fBin gNe (fVar 4) (fTup fNil))) (fSeq (fSet 5 (fCall m_pivot_squares (fCons (fVar 1) (fCons (fVar 4) fNil))))
    (fSeq (fFor (fItems (fVar 5)) (gTp 2 (gsCons (gNm 6) (gsCons (gNm 7) gsNil))) (fSet 1 (fCall m_table_less (fCons (fVar 1) (fCons (fCall m_products_table (fCons (fCall m_row_scaled (fCons (fVar 7) (fCons (fVar 6) fNil))) (fCons (fVar 7) fNil))) fNil)))))
    (fSeq (fSet 2 (fBin gAdd (fVar 2) (fVar 5)))
    (fSet 4 (fCall m_first_pivot (fCons (fVar 1) fNil)))))) n [some x0, some (Tb (mk k (left hs ls i))), some (.lst ((List.range i).map (prD k hs ls))), some (.int (k : Nat)), some (pivD k i), d5, d6, d7, none] =
      some (.nx [some x0, some (Tb (mk k (left hs ls k))), some (.lst ((List.range k).map (prD k hs ls))), some (.int (k : Nat)), some (.tup []), e5, e6, e7, none])
  | m, i, 0, d5, d6, d7, h1, h2 => by omega
  | 0, i, n + 1, d5, d6, d7, h1, h2 => by
    have e : i = k := by omega
    subst e
    refine ⟨d5, d6, d7, ?_⟩
    unfold loopW
    have c := ne_piv i i
    have p : pivD i i = .tup [] := by unfold pivD; simp
    rw [p] at c ⊢
    have cc : fB (fBin gNe (fVar 4) (fTup fNil)) [some x0, some (Tb (mk i (left hs ls i))), some (.lst ((List.range i).map (prD i hs ls))), some (.int (i : Nat)), some (.tup []), d5, d6, d7, none] = some (false, [some x0, some (Tb (mk i (left hs ls i))), some (.lst ((List.range i).map (prD i hs ls))), some (.int (i : Nat)), some (.tup []), d5, d6, d7, none]) := by
      simp [fTup, c, asB]
    rw [cc]
    rfl
  | m + 1, i, n + 1, d5, d6, d7, h1, h2 => by
    have hi : i < k := by omega
    obtain ⟨q, l, _, _, pos, _, _, dd⟩ := left_succ S hi
    have hn : left hs ls i i i ≠ 0 := by rw [dd]; intro z; rw [z] at pos; exact absurd pos (by decide)
    obtain ⟨f5, f6, f7, ih⟩ := sq_while S hk x0 m (i + 1) n (some (.lst [prD k hs ls i])) (some (Q (1 / left hs ls i i i))) (some (Rw (rowF k (left hs ls i) i))) (by omega) (by omega)
    refine ⟨f5, f6, f7, ?_⟩
    unfold loopW
    have c := ne_piv k i
    rw [show decide (i < k) = true from decide_eq_true hi] at c
    have p : pivD k i = .tup [natD i, natD i] := by unfold pivD; rw [if_pos hi]
    have e1 := ev_pivot_squares (k := k) (i := i) (n := 700) (F := left hs ls i) hi hn (sz_left S hk hi hi) (by decide)
    obtain ⟨t1, t2, e2, e3, e4⟩ := ev_off (k := k) (i := i) (n := 700) (F := left hs ls i) (by omega) hi hn (fun a b ha hb => sz_left S hk ha hb) (by decide)
    rw [mk_congr (G := left hs ls (i + 1)) fun a b _ _ => left_off S hi] at e4
    have e5 := pivot_at S hk (i + 1) (by omega)
    rw [← p] at e1
    generalize pivD k i = pv at c e1 ⊢
    have cc : fB (fBin gNe (fVar 4) (fTup fNil)) [some x0, some (Tb (mk k (left hs ls i))), some (.lst ((List.range i).map (prD k hs ls))), some (.int (k : Nat)), some pv, d5, d6, d7, none] = some (true, [some x0, some (Tb (mk k (left hs ls i))), some (.lst ((List.range i).map (prD k hs ls))), some (.int (k : Nat)), some pv, d5, d6, d7, none]) := by
      simp [fTup, c, asB]
    rw [cc, Option.bind_some]
    dsimp only
    rw [if_pos rfl]
    have a1 : fCall m_pivot_squares (fCons (fVar 1) (fCons (fVar 4) fNil)) [some x0, some (Tb (mk k (left hs ls i))), some (.lst ((List.range i).map (prD k hs ls))), some (.int (k : Nat)), some pv, d5, d6, d7, none] = some (.lst [prD k hs ls i], [some x0, some (Tb (mk k (left hs ls i))), some (.lst ((List.range i).map (prD k hs ls))), some (.int (k : Nat)), some pv, d5, d6, d7, none]) :=
      e_call (ds := [Tb (mk k (left hs ls i)), pv]) (by simp) e1
    rw [seq_nx (ρ1 := [some x0, some (Tb (mk k (left hs ls i))), some (.lst ((List.range i).map (prD k hs ls))), some (.int (k : Nat)), some pv, some (.lst [prD k hs ls i]), d6, d7, none]) (by rw [e_set (i := 5) a1 (by simp)]; rfl)]
    rw [seq_nx (ρ1 := [some x0, some (Tb (mk k (left hs ls (i + 1)))), some (.lst ((List.range i).map (prD k hs ls))), some (.int (k : Nat)), some pv, some (.lst [prD k hs ls i]), some (Q (1 / left hs ls i i i)), some (Rw (rowF k (left hs ls i) i)), none]) (by
      rw [for_nx (ds := [prD k hs ls i]) (ρ1 := [some x0, some (Tb (mk k (left hs ls i))), some (.lst ((List.range i).map (prD k hs ls))), some (.int (k : Nat)), some pv, some (.lst [prD k hs ls i]), d6, d7, none]) (by simp [fItems, itemsD])]
      unfold loopD prD
      generalize m_row_scaled = g1 at e2 ⊢
      generalize m_products_table = g2 at e3 ⊢
      generalize m_table_less = g3 at e4 ⊢
      simp [gTp, gsCons, gNm, gsNil, fSet, e2, e3, e4, oLoop, loopD])]
    have la : (List.range i).length + 1 ≤ sizeLine := by rw [List.length_range]; exact Nat.le_trans (show i + 1 ≤ 1000 by omega) (by decide)
    rw [seq_nx (ρ1 := [some x0, some (Tb (mk k (left hs ls (i + 1)))), some (.lst ((List.range (i + 1)).map (prD k hs ls))), some (.int (k : Nat)), some pv, some (.lst [prD k hs ls i]), some (Q (1 / left hs ls i i i)), some (Rw (rowF k (left hs ls i) i)), none]) (by
      rw [List.length_range] at la
      simp [fSet, gAdd, la, List.range_succ])]
    rw [e_set (i := 4) (ρ1 := [some x0, some (Tb (mk k (left hs ls (i + 1)))), some (.lst ((List.range (i + 1)).map (prD k hs ls))), some (.int (k : Nat)), some pv, some (.lst [prD k hs ls i]), some (Q (1 / left hs ls i i i)), some (Rw (rowF k (left hs ls i) i)), none]) (e_call (ds := [Tb (mk k (left hs ls (i + 1)))]) (by simp) e5) (by simp), Option.bind_some]
    exact ih
end
end W

namespace W
open PySem L2 Dl
section
variable {k : Nat} {hs : List Rat} {ls : List (List Rat)}
theorem gr_700 {k : Nat} (hk : k ≤ 6) : gr 700 k ≤ 10000000 := Nat.le_trans (gr_mono 700 hk) (by decide)
def rowsF (k : Nat) (hs : List Rat) (ls : List (List Rat)) : List (List Rat) := (List.range k).map fun j => rowF k (left hs ls j) j
theorem ev_free (S : Stairs k hs ls) (hk : k ≤ 6) : m_free_with [LT (rowsF k hs ls), .int (k : Nat)] = some (.lst []) :=
  ev_free_with (n := 700) (by decide) (by simp [rowsF]) (by omega) (fun r hr => by
    unfold rowsF at hr
    rw [List.mem_map] at hr
    obtain ⟨j, hj, rfl⟩ := hr
    simp [rowF]) (fun r hr => by
    unfold rowsF at hr
    rw [List.mem_map] at hr
    obtain ⟨j, hj, rfl⟩ := hr
    have hj := List.mem_range.mp hj
    exact as_rowF fun b hb => sz_left S (by omega) hj hb) (gr_700 hk)
theorem ev_squares_by (S : Stairs k hs ls) (hk : k ≤ 6) : m_squares_by [Tb (mk k (left hs ls 0))] = some (.tup ((List.range k).map (prD k hs ls))) := by
  have p0 := pivot_at S (by omega) 0 (Nat.zero_le k)
  have ef := ev_free S hk
  obtain ⟨e5, e6, e7, ew⟩ := sq_while S (by omega) (Tb (mk k (left hs ls 0))) k 0 (mu [some (Tb (mk k (left hs ls 0))), some (Tb (mk k (left hs ls 0))), some (.lst []), some (.int (k : Nat)), some (pivD k 0), none, none, none, none]) none none none (by omega) (by unfold mu; omega)
  refine out_rt (ρ := [some (Tb (mk k (left hs ls 0))), some (Tb (mk k (left hs ls k))), some (.lst ((List.range k).map (prD k hs ls))), some (.int (k : Nat)), some (.tup []), e5, e6, e7, none]) ?_
  unfold b_squares_by c_squares_by
  rw [show startD 9 [Tb (mk k (left hs ls 0))] = [some (Tb (mk k (left hs ls 0))), none, none, none, none, none, none, none, none] from rfl]
  rw [seq_nx (ρ1 := [some (Tb (mk k (left hs ls 0))), some (Tb (mk k (left hs ls 0))), some (.lst []), some (.int (k : Nat)), none, none, none, none, none]) (by simp [fPar3, fLst, mk_len])]
  rw [seq_nx (ρ1 := [some (Tb (mk k (left hs ls 0))), some (Tb (mk k (left hs ls 0))), some (.lst []), some (.int (k : Nat)), some (pivD k 0), none, none, none, none]) (by
    rw [e_set (i := 4) (ρ1 := [some (Tb (mk k (left hs ls 0))), some (Tb (mk k (left hs ls 0))), some (.lst []), some (.int (k : Nat)), none, none, none, none, none]) (e_call (ds := [Tb (mk k (left hs ls 0))]) (by simp) p0) (by simp)]; rfl)]
  rw [seq_nx (by unfold fWhile; exact ew)]
  have c1 := comp_all (its := fItems (fVar 2)) (g := gTp 2 (gsCons (gNm 8) (gsCons (gNm 7) gsNil))) (c := fYes) (e := fVar 7) (vs := [8, 7]) (ρ := [some (Tb (mk k (left hs ls 0))), some (Tb (mk k (left hs ls k))), some (.lst ((List.range k).map (prD k hs ls))), some (.int (k : Nat)), some (.tup []), e5, e6, e7, none])
    (prD k hs ls) (fun j => Rw (rowF k (left hs ls j) j)) (xs := List.range k) (by simp [fItems, itemsD]) (len_line (by rw [List.length_range]; omega)) (fun j hj => by
      simp [cstep, prD, gTp, gsCons, gNm, gsNil, fYes, wipeD])
  rw [mapR (fun j => rowF k (left hs ls j) j)] at c1
  have a1 : fCall m_free_with (fCons (fOfL (fComp (fItems (fVar 2)) (gTp 2 (gsCons (gNm 8) (gsCons (gNm 7) gsNil))) fYes (fVar 7) [8, 7])) (fCons (fVar 3) fNil)) [some (Tb (mk k (left hs ls 0))), some (Tb (mk k (left hs ls k))), some (.lst ((List.range k).map (prD k hs ls))), some (.int (k : Nat)), some (.tup []), e5, e6, e7, none] =
      some (.lst [], [some (Tb (mk k (left hs ls 0))), some (Tb (mk k (left hs ls k))), some (.lst ((List.range k).map (prD k hs ls))), some (.int (k : Nat)), some (.tup []), e5, e6, e7, none]) := by
    refine e_call (ds := [LT (rowsF k hs ls), .int (k : Nat)]) ?_ ef
    rw [ap_cons, ap_ofL, c1, Option.map_some, Option.bind_some]
    rfl
  have a2 : fOfL (fComp (fItems (fCall m_free_with (fCons (fOfL (fComp (fItems (fVar 2)) (gTp 2 (gsCons (gNm 8) (gsCons (gNm 7) gsNil))) fYes (fVar 7) [8, 7])) (fCons (fVar 3) fNil)))) (gNm 7) fYes (fTup (fCons (fC (.tup [.int 0, .int 1])) (fCons (fVar 7) fNil))) [7]) [some (Tb (mk k (left hs ls 0))), some (Tb (mk k (left hs ls k))), some (.lst ((List.range k).map (prD k hs ls))), some (.int (k : Nat)), some (.tup []), e5, e6, e7, none] =
      some (.lst [], [some (Tb (mk k (left hs ls 0))), some (Tb (mk k (left hs ls k))), some (.lst ((List.range k).map (prD k hs ls))), some (.int (k : Nat)), some (.tup []), e5, e6, e7, none]) := by
    generalize (fCall m_free_with (fCons (fOfL (fComp (fItems (fVar 2)) (gTp 2 (gsCons (gNm 8) (gsCons (gNm 7) gsNil))) fYes (fVar 7) [8, 7])) (fCons (fVar 3) fNil))) = C at a1 ⊢
    unfold fOfL fComp fItems
    rw [a1]
    rfl
  have la : ((List.range k).map (prD k hs ls)).length + ([] : List D).length ≤ sizeLine := by
    rw [List.length_map, List.length_range]
    exact Nat.le_trans (show k + 0 ≤ 1000 by omega) (by decide)
  have a3 : gAdd (.lst ((List.range k).map (prD k hs ls))) (.lst []) = some (.lst ((List.range k).map (prD k hs ls))) := by
    show (if _ then _ else _) = _
    rw [if_pos la, List.append_nil]
  refine e_ret (e_call (ds := [.lst ((List.range k).map (prD k hs ls))]) ?_ rfl)
  rw [ap_cons, e_bin (by simp) a2 a3]
  rfl
end
end W

namespace W
open PySem L2 Dl
section
variable {k : Nat} {hs : List Rat} {ls : List (List Rat)}
theorem num_pos {q : Rat} (h : 0 < q) : 0 < q.num := by
  have h1 := Rat.num_nonneg.mpr (Rat.le_of_lt h)
  have h2 : q.num ≠ 0 := fun z => by
    rw [Rat.num_eq_zero] at z
    subst z
    exact absurd h (by decide)
  omega
theorem top_pos (S : Stairs k hs ls) {j : Nat} (hj : j < k) : 0 < (1 / left hs ls j j j).num := by
  obtain ⟨q, l, _, _, pos, _, _, d⟩ := left_succ S hj
  rw [d]
  exact num_pos (div_pos (by decide) pos)
def topD (hs : List Rat) (ls : List (List Rat)) (j : Nat) : D := .int (1 / left hs ls j j j).num
theorem ints_tops (hs : List Rat) (ls : List (List Rat)) : ∀ l : List Nat, ∃ is, intsD (l.map (topD hs ls)) = some is
  | [] => ⟨[], rfl⟩
  | j :: r => by
    obtain ⟨is, e⟩ := ints_tops hs ls r
    refine ⟨(1 / left hs ls j j j).num :: is, ?_⟩
    show (intsD (r.map (topD hs ls))).map _ = _
    rw [e]; rfl
theorem ev_signs_by (S : Stairs k hs ls) (hk : k ≤ 6) : ∃ d2 d3, m_signs_by [Tb (mk k (left hs ls 0))] = some (.tup [.int (k : Nat), d2, d3]) := by
  have e0 := ev_squares_by S hk
  obtain ⟨is, ei⟩ := ints_tops hs ls (List.range k)
  have c1 := comp_all (its := fItems (fCall m_squares_by (fCons (fVar 0) fNil))) (g := gTp 2 (gsCons (gNm 2) (gsCons (gNm 3) gsNil))) (c := fYes) (e := fBin gIx (fVar 2) (fC (.int 0))) (vs := [2, 3]) (ρ := [some (Tb (mk k (left hs ls 0))), none, none, none, none])
    (prD k hs ls) (topD hs ls) (xs := List.range k) (by
      unfold fItems
      rw [e_call (ds := [Tb (mk k (left hs ls 0))]) (ρ1 := [some (Tb (mk k (left hs ls 0))), none, none, none, none]) (by simp) e0]
      rfl) (len_line (by rw [List.length_range]; omega)) (fun j hj => by
      simp [cstep, prD, topD, gTp, gsCons, gNm, gsNil, fYes, wipeD])
  have c2 := comp_step (its := fItems (fVar 1)) (g := gNm 4) (c := fB (fBin gGt (fVar 4) (fC (.int 0)))) (e := fVar 4) (vs := [4]) (ρ := [some (Tb (mk k (left hs ls 0))), some (.lst ((List.range k).map (topD hs ls))), none, none, none])
    (topD hs ls) (fun j => some (topD hs ls j)) (xs := List.range k) (by simp [fItems, itemsD]) (len_line (by rw [List.length_range]; omega)) (fun j hj => by
      have := top_pos S (List.mem_range.mp hj)
      simp [cstep, topD, gNm, wipeD, gGt, asB, this])
  have c3 := comp_step (its := fItems (fVar 1)) (g := gNm 4) (c := fB (fBin gLt (fVar 4) (fC (.int 0)))) (e := fVar 4) (vs := [4]) (ρ := [some (Tb (mk k (left hs ls 0))), some (.lst ((List.range k).map (topD hs ls))), none, none, none])
    (topD hs ls) (fun j => none) (xs := List.range k) (by simp [fItems, itemsD]) (len_line (by rw [List.length_range]; omega)) (fun j hj => by
      have := top_pos S (List.mem_range.mp hj)
      have h2 : ¬ (1 / left hs ls j j j).num < 0 := by omega
      simp [cstep, topD, gNm, wipeD, gLt, asB, h2])
  refine ⟨.int (is.count 0 : Nat), .int (([] : List D).length : Nat), ?_⟩
  refine out_rt (ρ := [some (Tb (mk k (left hs ls 0))), some (.lst ((List.range k).map (topD hs ls))), none, none, none]) ?_
  unfold b_signs_by c_signs_by
  rw [show startD 5 [Tb (mk k (left hs ls 0))] = [some (Tb (mk k (left hs ls 0))), none, none, none, none] from rfl]
  rw [seq_nx (ρ1 := [some (Tb (mk k (left hs ls 0))), some (.lst ((List.range k).map (topD hs ls))), none, none, none]) (by
    unfold fSet
    rw [ap_ofL, c1]
    rfl)]
  have a1 : fCall gLen (fCons (fOfL (fComp (fItems (fVar 1)) (gNm 4) (fB (fBin gGt (fVar 4) (fC (.int 0)))) (fVar 4) [4])) fNil) [some (Tb (mk k (left hs ls 0))), some (.lst ((List.range k).map (topD hs ls))), none, none, none] = some (.int (k : Nat), [some (Tb (mk k (left hs ls 0))), some (.lst ((List.range k).map (topD hs ls))), none, none, none]) := by
    refine e_call (ds := [.lst ((List.range k).map (topD hs ls))]) ?_ (by show some (D.int (((List.range k).map (topD hs ls)).length : Nat)) = _; rw [List.length_map, List.length_range])
    rw [ap_cons, ap_ofL, c2, List.filterMap_eq_map']
    rfl
  have a2 : fBin gCount (fVar 1) (fC (.int 0)) [some (Tb (mk k (left hs ls 0))), some (.lst ((List.range k).map (topD hs ls))), none, none, none] = some (.int (is.count 0 : Nat), [some (Tb (mk k (left hs ls 0))), some (.lst ((List.range k).map (topD hs ls))), none, none, none]) := by
    refine e_bin (x := .lst ((List.range k).map (topD hs ls))) (y := .int 0) (by simp) (ap_C _ _) ?_
    show (intsD ((List.range k).map (topD hs ls))).map _ = _
    rw [ei]; rfl
  have a3 : fCall gLen (fCons (fOfL (fComp (fItems (fVar 1)) (gNm 4) (fB (fBin gLt (fVar 4) (fC (.int 0)))) (fVar 4) [4])) fNil) [some (Tb (mk k (left hs ls 0))), some (.lst ((List.range k).map (topD hs ls))), none, none, none] = some (.int (([] : List D).length : Nat), [some (Tb (mk k (left hs ls 0))), some (.lst ((List.range k).map (topD hs ls))), none, none, none]) := by
    refine e_call (ds := [.lst []]) ?_ rfl
    rw [ap_cons, ap_ofL, c3]
    simp
  refine e_ret ?_
  unfold fTup
  rw [ap_cons, a1, Option.bind_some, ap_cons, a2, Option.bind_some, ap_cons, a3]
  rfl
end
end W

namespace W
open PySem L2 Dl
section
variable {k m n : Nat} {hs : List Rat} {ls : List (List Rat)} {xs ys : List Rat}
theorem ev_is_positive (S : Stairs k hs ls) (hk : k ≤ 6) : m_is_positive [Tb (mk k (left hs ls 0))] = some (.bl true) := by
  obtain ⟨d2, d3, e⟩ := ev_signs_by S hk
  refine out_rt (ρ := [some (Tb (mk k (left hs ls 0)))]) ?_
  unfold b_is_positive c_is_positive
  rw [show startD 1 [Tb (mk k (left hs ls 0))] = [some (Tb (mk k (left hs ls 0)))] from rfl]
  refine e_ret (e_bin (x := .int (k : Nat)) (y := .int (k : Nat)) (ρ1 := [some (Tb (mk k (left hs ls 0)))]) ?_ (e_call (ds := [Tb (mk k (left hs ls 0))]) (by simp) (by rw [len_T, mk_len])) (by simp))
  exact e_bin (ρ1 := [some (Tb (mk k (left hs ls 0)))]) (e_call (ds := [Tb (mk k (left hs ls 0))]) (by simp) e) (ap_C _ _) rfl
theorem left_form (hs : List Rat) (ls : List (List Rat)) (k : Nat) : Form k (mk k (left hs ls 0)) := form_mk fun i j _ _ => sqs_symm _ _ i j
theorem pl_is_tabled {f1 f2 : List D → Option D} {d : D} (e1 : f1 [d] = some (.bl true)) (e2 : f2 [d] = some (.bl true)) : outP false 1 (c_is_tabled f1 f2) [d] = some (.bl true) := by
  refine out_rt (ρ := [some d]) ?_
  unfold c_is_tabled
  rw [show startD 1 [d] = [some d] from rfl]
  refine e_ret ?_
  simp [fAndV, asB, e1, e2]
theorem pl_check_table {f : List D → Option D} {d : D} (e : f [d] = some (.bl true)) : outP false 1 (c_check_table f) [d] = some .non := by
  refine out_nx (ρ := [some d]) ?_
  unfold c_check_table
  rw [if_f (ρ1 := [some d]) (by simp [startD, fNotT, asB, e])]
  rfl
theorem ev_check_table (S : Stairs k hs ls) (h1 : 1 ≤ k) (hk : k ≤ 5) : m_check_table [Tb (mk k (left hs ls 0))] = some .non :=
  pl_check_table (f := m_is_tabled) (pl_is_tabled (f1 := m_is_formed) (f2 := m_is_positive) (ev_is_formed h1 hk (left_form hs ls k)) (ev_is_positive S (by omega)))
end
end W

namespace W
open PySem L2 Dl
section
variable {k m n : Nat} {hs : List Rat} {ls t : List (List Rat)} {xs ys : List Rat}
theorem pl_energy {f1 f2 f3 : List D → Option D} {d : D} (hk : t.length = k) (e1 : f1 [Tb t] = some .non) (e2 : f2 [.int (k : Nat), Rw xs] = some .non) (e2' : f2 [.int (k : Nat), Rw ys] = some .non) (e3 : f3 [Tb t, Rw xs, Rw ys] = some d) : outP false 3 (c_energy_product f1 f2 f3) [Tb t, Rw xs, Rw ys] = some d := by
  refine out_rt (ρ := [some (Tb t), some (Rw xs), some (Rw ys)]) ?_
  unfold c_energy_product
  rw [show startD 3 [Tb t, Rw xs, Rw ys] = [some (Tb t), some (Rw xs), some (Rw ys)] from rfl]
  rw [seq_nx (ρ1 := [some (Tb t), some (Rw xs), some (Rw ys)]) (e_drop (e_call (ds := [Tb t]) (by simp) e1)), seq_nx (ρ1 := [some (Tb t), some (Rw xs), some (Rw ys)]) (e_drop (e_call (ds := [.int (k : Nat), Rw xs]) (by simp [hk]) e2)), seq_nx (ρ1 := [some (Tb t), some (Rw xs), some (Rw ys)]) (e_drop (e_call (ds := [.int (k : Nat), Rw ys]) (by simp [hk]) e2'))]
  exact e_ret (e_call (ds := [Tb t, Rw xs, Rw ys]) (by simp) e3)
theorem ev_energy (S : Stairs k hs ls) (h1 : 1 ≤ k) (hk : k ≤ 5) (hx : AS n xs) (hy : AS n ys) (hxl : xs.length = k) (hyl : ys.length = k) (hn : n ≤ 1000000) : m_energy_product [Tb (mk k (left hs ls 0)), Rw xs, Rw ys] = some (Q (dot xs (tled (mk k (left hs ls 0)) ys))) :=
  pl_energy (mk_len _ _) (ev_check_table S h1 hk) (ev_check_row hxl) (ev_check_row hyl) (ev_product_by (m := 700) (n := n) (k := k) (at_mk fun a b ha hb => sz_left S (by omega) ha hb) hx hy (by rw [mk_len]; exact Nat.le_refl _) (fun r hr => by rw [mk_wid hr]; exact Nat.le_refl _) (by omega) (by omega) (by decide) hn)
end
end W

namespace W
open PySem L2 Dl
/-! what the looks tell of anything -/
def isWh : D → Bool
  | .int _ => true
  | _ => false
def isRat : D → Bool
  | .tup [.int t, .int l] => decide (0 < l) && decide (Nat.gcd t.natAbs l.natAbs = 1)
  | _ => false
def isRow (k : Nat) : D → Bool
  | .tup ds => decide (ds.length = k) && ds.all isRat
  | _ => false
def isGrid (k : Nat) : D → Bool
  | .tup ds => decide (ds.length = k) && ds.all (isRow k)
  | _ => false
theorem any_whole (d : D) : m_is_whole [d] = some (.bl (isWh d)) := by
  unfold m_is_whole outP b_is_whole c_is_whole
  cases d <;> simp [startD, fAndV, fIsi, isInt, isBool, fNotV, asB, isWh]
theorem bls_all : ∀ bs : List Bool, gAll [.lst (bs.map D.bl)] = some (.bl (bs.all id)) := fun bs => by
  have h : ∀ xs : List Bool, blsOf (xs.map D.bl) = some xs := fun xs => by
    induction xs with
    | nil => rfl
    | cons x r ih => show (blsOf (r.map D.bl)).map (x :: ·) = _; rw [ih]; rfl
  unfold gAll
  simp only [h, Option.map_some]
theorem bls_map {α : Type} (p : α → Bool) (ds : List α) : gAll [.lst (List.map (D.bl ∘ p) ds)] = some (.bl (ds.all p)) := by
  have := bls_all (ds.map p)
  rw [List.map_map, List.all_map] at this
  exact this
theorem gLen_tup (ds : List D) : gLen [.tup ds] = some (.int (ds.length : Nat)) := rfl
/-- the form of all these looks -/
theorem pl_look1 {f : List D → Option D} {p : D → Bool} (hf : ∀ d, f [d] = some (.bl (p d))) {k : Nat} (hk : k ≤ 1000) (d : D) :
    outP false 3 (fRet (fAndV (fIsi isTup (fVar 0)) (fAndV (fBin gEq (fCall gLen (fCons (fVar 0) fNil)) (fVar 1)) (fCall gAll (fCons (fOfL (fComp (fItems (fVar 0)) (gNm 2) fYes (fCall f (fCons (fVar 2) fNil)) [2])) fNil))))) [d, .int (k : Nat)] =
      some (.bl (match d with | .tup ds => decide (ds.length = k) && ds.all p | _ => false)) := by
  refine out_rt (ρ := [some d, some (.int (k : Nat)), none]) ?_
  rw [show startD 3 [d, .int (k : Nat)] = [some d, some (.int (k : Nat)), none] from rfl]
  refine e_ret ?_
  cases d with
  | tup ds =>
    by_cases hl : ds.length = k
    · have c1 := comp_all (its := fItems (fVar 0)) (g := gNm 2) (c := fYes) (e := fCall f (fCons (fVar 2) fNil)) (vs := [2]) (ρ := [some (.tup ds), some (.int (k : Nat)), none])
        (fun d : D => d) (fun d => .bl (p d)) (xs := ds) (by simp [fItems, itemsD]) (len_line (by omega)) (fun d hd => by
          simp [cstep, gNm, fYes, wipeD, hf])
      have e2 : ds.map (fun d => D.bl (p d)) = (ds.map p).map D.bl := by rw [List.map_map]; rfl
      rw [e2] at c1
      unfold fAndV
      simp [fIsi, isTup, asB, gLen_tup, hl, c1, bls_map]
    · have hl' : ¬ ((ds.length : Nat) : Int) = k := by omega
      unfold fAndV
      simp [fIsi, isTup, asB, gLen_tup, hl, hl']
  | _ => simp [fAndV, fIsi, isTup, asB]
theorem pl_look2 {f : List D → Option D} {p : D → Bool} {k : Nat} (hf : ∀ d, f [d, .int (k : Nat)] = some (.bl (p d))) (hk : k ≤ 1000) (d : D) :
    outP false 3 (fRet (fAndV (fIsi isTup (fVar 0)) (fAndV (fBin gEq (fCall gLen (fCons (fVar 0) fNil)) (fVar 1)) (fCall gAll (fCons (fOfL (fComp (fItems (fVar 0)) (gNm 2) fYes (fCall f (fCons (fVar 2) (fCons (fVar 1) fNil))) [2])) fNil))))) [d, .int (k : Nat)] =
      some (.bl (match d with | .tup ds => decide (ds.length = k) && ds.all p | _ => false)) := by
  refine out_rt (ρ := [some d, some (.int (k : Nat)), none]) ?_
  rw [show startD 3 [d, .int (k : Nat)] = [some d, some (.int (k : Nat)), none] from rfl]
  refine e_ret ?_
  cases d with
  | tup ds =>
    by_cases hl : ds.length = k
    · have c1 := comp_all (its := fItems (fVar 0)) (g := gNm 2) (c := fYes) (e := fCall f (fCons (fVar 2) (fCons (fVar 1) fNil))) (vs := [2]) (ρ := [some (.tup ds), some (.int (k : Nat)), none])
        (fun d : D => d) (fun d => .bl (p d)) (xs := ds) (by simp [fItems, itemsD]) (len_line (by omega)) (fun d hd => by
          simp [cstep, gNm, fYes, wipeD, hf])
      have e2 : ds.map (fun d => D.bl (p d)) = (ds.map p).map D.bl := by rw [List.map_map]; rfl
      rw [e2] at c1
      unfold fAndV
      simp [fIsi, isTup, asB, gLen_tup, hl, c1, bls_map]
    · have hl' : ¬ ((ds.length : Nat) : Int) = k := by omega
      unfold fAndV
      simp [fIsi, isTup, asB, gLen_tup, hl, hl']
  | _ => simp [fAndV, fIsi, isTup, asB]
theorem any_wholes2 (d : D) : m_are_wholes [d, .int 2] = some (.bl (match d with | .tup ds => decide (ds.length = 2) && ds.all isWh | _ => false)) :=
  pl_look1 (k := 2) any_whole (by decide) d
theorem isWh_int {d : D} (h : isWh d = true) : ∃ i, d = .int i := by
  cases d <;> first | exact ⟨_, rfl⟩ | cases h
theorem any_ratio (d : D) : m_is_ratio [d] = some (.bl (isRat d)) := by
  have h1 := any_wholes2 d
  have pos : ∀ t l : Int, d = .tup [.int t, .int l] → m_is_ratio [d] = some (.bl (isRat d)) := fun t l e => by
    subst e
    have h2 := ev_divisor t l
    refine out_rt (ρ := [some (.tup [.int t, .int l])]) ?_
    unfold b_is_ratio c_is_ratio
    rw [show startD 1 [.tup [.int t, .int l]] = [some (.tup [.int t, .int l])] from rfl]
    refine e_ret ?_
    have i1 : gIx (.tup [.int t, .int l]) (.int 1) = some (.int l) := rfl
    have h1' : m_are_wholes [.tup [.int t, .int l], .int 2] = some (.bl true) := h1
    unfold fAndV
    by_cases hl : 0 < l
    · by_cases hg : Nat.gcd t.natAbs l.natAbs = 1
      · simp [asB, h1', i1, gGt, hl, h2, hg, isRat]
      · have hg' : ¬ ((Nat.gcd t.natAbs l.natAbs : Nat) : Int) = 1 := by omega
        simp only [isRat, hg, decide_false, Bool.and_false]
        simp only [ap_var, ap_C, ap_bin, ap_call, ap_cons, ap_nil, ap_B, ap_un]
        simp [asB, h1', i1, gGt, hl, h2]
        exact_mod_cast hg
    · simp [asB, h1', i1, gGt, hl, isRat]
  have neg : m_are_wholes [d, .int 2] = some (.bl false) → isRat d = false → m_is_ratio [d] = some (.bl (isRat d)) := fun h h' => by
    refine out_rt (ρ := [some d]) ?_
    unfold b_is_ratio c_is_ratio
    rw [show startD 1 [d] = [some d] from rfl]
    refine e_ret ?_
    unfold fAndV
    simp [asB, h, h']
  cases d with
  | tup ds =>
    by_cases hc : ds.length = 2 ∧ ds.all isWh = true
    · match ds, hc with
      | [a, b], ⟨_, hw⟩ =>
        simp only [List.all_cons, List.all_nil, Bool.and_true, Bool.and_eq_true] at hw
        obtain ⟨i, rfl⟩ := isWh_int hw.1
        obtain ⟨j, rfl⟩ := isWh_int hw.2
        exact pos i j rfl
    · refine neg (h1.trans ?_) ?_
      · congr 2
        show (decide (ds.length = 2) && ds.all isWh) = false
        rw [Bool.and_eq_false_iff]
        by_cases h : ds.length = 2
        · right
          exact Bool.eq_false_iff.mpr fun z => hc ⟨h, z⟩
        · left; simpa using h
      · unfold isRat
        split
        · rename_i e
          cases e
          exact absurd ⟨rfl, rfl⟩ hc
        · rfl
  | _ => exact neg h1 rfl
theorem divInt_self {t l : Int} (hl : 0 < l) : Q (Rat.divInt t l) = .tup [.int t, .int l] ↔ Nat.gcd t.natAbs l.natAbs = 1 := by
  constructor
  · intro e
    unfold Q at e
    simp only [D.tup.injEq, List.cons.injEq, D.int.injEq, and_true] at e
    have := (Rat.divInt t l).reduced
    have e2 : (Rat.divInt t l).den = l.natAbs := by omega
    rw [e.1, e2] at this
    exact this
  · intro h
    obtain ⟨h1, h2⟩ := rat_parts t l (by omega)
    rw [if_pos hl, h] at h1 h2
    unfold Q
    rw [← h1, ← h2]
    simp
theorem frac_no {d : D} (h : isTup d = false) : m__law_is_frac [d] = some (.bl false) := by
  refine out_rt (ρ := [some d, none, none]) ?_
  unfold b__law_is_frac c__law_is_frac
  rw [show startD 3 [d] = [some d, none, none] from rfl]
  refine seq_rt ?_
  rw [if_t (ρ1 := [some d, none, none]) (by simp [fOrT, fNotT, fIsi, h, asB])]
  rfl
theorem any_law_frac (d : D) : m__law_is_frac [d] = some (.bl (isRat d)) := by
  cases d with
  | tup ds =>
    by_cases hl : ds.length = 2
    · match ds, hl with
      | [a, b], _ =>
        by_cases hw : isWh a = true ∧ isWh b = true
        · obtain ⟨t, rfl⟩ := isWh_int hw.1
          obtain ⟨l, rfl⟩ := isWh_int hw.2
          refine out_rt (ρ := [some (.tup [.int t, .int l]), some (.int t), some (.int l)]) ?_
          unfold b__law_is_frac c__law_is_frac
          rw [show startD 3 [.tup [.int t, .int l]] = [some (.tup [.int t, .int l]), none, none] from rfl]
          rw [seq_nx (ρ1 := [some (.tup [.int t, .int l]), none, none]) (by rw [if_f (ρ1 := [some (.tup [.int t, .int l]), none, none]) (by simp [fOrT, fNotT, fIsi, isTup, asB, gLen_tup])]; rfl)]
          rw [seq_nx (ρ1 := [some (.tup [.int t, .int l]), some (.int t), some (.int l)]) (by simp [fAsg, gTp, gsCons, gNm, gsNil])]
          rw [seq_nx (ρ1 := [some (.tup [.int t, .int l]), some (.int t), some (.int l)]) (by rw [if_f (ρ1 := [some (.tup [.int t, .int l]), some (.int t), some (.int l)]) (by simp [fOrT, fNotT, fIsi, isBool, isInt, asB])]; rfl)]
          refine e_ret ?_
          unfold fAndV
          by_cases h0 : 0 < l
          · have h3 := ev_law_frac t l (by omega)
            have h4 : gEq (Q (Rat.divInt t l)) (.tup [.int t, .int l]) = some (.bl (decide (Nat.gcd t.natAbs l.natAbs = 1))) := by
              rw [gEq_nm (nm_Q _) (k := 1) (l := 1) (.tup (.cons (.int _) (.cons (.int _) .nil))) (by decide) (by decide)]
              congr 2
              rw [Bool.eq_iff_iff, (nm_Q _).eqv (l := 1) (.tup (.cons (.int _) (.cons (.int _) .nil))), decide_eq_true_eq]
              exact divInt_self h0
            generalize m__law_frac = g at h3 ⊢
            simp [gGt, h0, asB, h3, h4, isRat]
          · simp [gGt, h0, asB, isRat]
        · have hr : isRat (.tup [a, b]) = false := by
            unfold isRat
            split
            · rename_i e
              cases e
              exact absurd ⟨rfl, rfl⟩ hw
            · rfl
          rw [hr]
          refine out_rt (ρ := [some (.tup [a, b]), some a, some b]) ?_
          unfold b__law_is_frac c__law_is_frac
          rw [show startD 3 [.tup [a, b]] = [some (.tup [a, b]), none, none] from rfl]
          rw [seq_nx (ρ1 := [some (.tup [a, b]), none, none]) (by rw [if_f (ρ1 := [some (.tup [a, b]), none, none]) (by simp [fOrT, fNotT, fIsi, isTup, asB, gLen_tup])]; rfl)]
          rw [seq_nx (ρ1 := [some (.tup [a, b]), some a, some b]) (by simp [fAsg, gTp, gsCons, gNm, gsNil])]
          refine seq_rt ?_
          rw [if_t (ρ1 := [some (.tup [a, b]), some a, some b])]
          · rfl
          · have : (isBool a || (isBool b || (!isInt a || !isInt b))) = true := by
              cases a <;> first | rfl | (cases b <;> first | rfl | exact absurd ⟨rfl, rfl⟩ hw)
            have e : fOrT (fB (fIsi isBool (fVar 1))) (fOrT (fB (fIsi isBool (fVar 2))) (fOrT (fNotT (fB (fIsi isInt (fVar 1)))) (fNotT (fB (fIsi isInt (fVar 2)))))) [some (.tup [a, b]), some a, some b] = some ((isBool a || (isBool b || (!isInt a || !isInt b))), [some (.tup [a, b]), some a, some b]) := by
              have s1 : ∀ g : D → Bool, fB (fIsi g (fVar 1)) [some (.tup [a, b]), some a, some b] = some (g a, [some (.tup [a, b]), some a, some b]) := fun g => by simp [fIsi, asB]
              have s2 : ∀ g : D → Bool, fB (fIsi g (fVar 2)) [some (.tup [a, b]), some a, some b] = some (g b, [some (.tup [a, b]), some a, some b]) := fun g => by simp [fIsi, asB]
              simp only [fOrT, fNotT, s1, s2, Option.bind_some, Option.map_some]
              cases isBool a <;> cases isBool b <;> cases isInt a <;> cases isInt b <;> simp [s1, s2]
            rw [e, this]
    · have hl' : ¬ ((ds.length : Nat) : Int) = 2 := by omega
      have hr : isRat (.tup ds) = false := by
        unfold isRat
        split
        · rename_i e; cases e; exact absurd rfl hl
        · rfl
      rw [hr]
      refine out_rt (ρ := [some (.tup ds), none, none]) ?_
      unfold b__law_is_frac c__law_is_frac
      rw [show startD 3 [.tup ds] = [some (.tup ds), none, none] from rfl]
      refine seq_rt ?_
      rw [if_t (ρ1 := [some (.tup ds), none, none]) (by simp [fOrT, fNotT, fIsi, isTup, asB, gLen_tup, hl'])]
      rfl
  | _ => exact frac_no rfl
theorem any_row {k : Nat} (hk : k ≤ 1000) (d : D) : m_is_row [d, .int (k : Nat)] = some (.bl (isRow k d)) :=
  (pl_look1 any_ratio hk d).trans (by cases d <;> rfl)
theorem any_line {k : Nat} (hk : k ≤ 1000) (d : D) : m__law_is_line [d, .int (k : Nat)] = some (.bl (isRow k d)) :=
  (pl_look1 any_law_frac hk d).trans (by cases d <;> rfl)
theorem any_square {k : Nat} (hk : k ≤ 1000) (d : D) : m_is_square [d, .int (k : Nat)] = some (.bl (isGrid k d)) :=
  (pl_look2 (any_row hk) hk d).trans (by cases d <;> rfl)
theorem any_grid {k : Nat} (hk : k ≤ 1000) (d : D) : m__law_is_grid [d, .int (k : Nat)] = some (.bl (isGrid k d)) :=
  (pl_look2 (any_line hk) hk d).trans (by cases d <;> rfl)
def isTbl : D → Bool
  | .tup ds => decide (1 ≤ ds.length ∧ ds.length ≤ 5) && isGrid ds.length (.tup ds)
  | _ => false
theorem any_between (i : Nat) : m_is_between [.int (i : Nat), .int 1, .int 5] = some (.bl (decide (1 ≤ i ∧ i ≤ 5))) := by
  refine out_rt (ρ := [some (.int (i : Nat)), some (.int 1), some (.int 5)]) ?_
  unfold b_is_between c_is_between
  rw [show startD 3 [.int (i : Nat), .int 1, .int 5] = [some (.int (i : Nat)), some (.int 1), some (.int 5)] from rfl]
  refine e_ret ?_
  have hw : m_is_whole [.int (i : Nat)] = some (.bl true) := any_whole _
  unfold fAndV
  by_cases h1 : 1 ≤ i
  · have a1 : (1 : Int) ≤ i := by omega
    by_cases h5 : i ≤ 5
    · have a5 : (i : Int) ≤ 5 := by omega
      simp [asB, hw, fChain, gLe, a1, a5, h1, h5]
    · have a5 : ¬ (i : Int) ≤ 5 := by omega
      simp [asB, hw, fChain, gLe, a1, a5, h1, h5]
  · have a1 : ¬ (1 : Int) ≤ i := by omega
    simp [asB, hw, fChain, gLe, a1, h1]
theorem any_table (d : D) : m_is_table [d] = some (.bl (isTbl d)) := by
  refine out_rt (ρ := [some d]) ?_
  unfold b_is_table c_is_table
  rw [show startD 1 [d] = [some d] from rfl]
  refine e_ret ?_
  cases d with
  | tup ds =>
    have h1 := any_between ds.length
    unfold fAndV
    by_cases h : 1 ≤ ds.length ∧ ds.length ≤ 5
    · have h2 := any_square (k := ds.length) (by omega) (.tup ds)
      rw [decide_eq_true h] at h1
      have : isTbl (.tup ds) = isGrid ds.length (.tup ds) := by show (decide (1 ≤ ds.length ∧ ds.length ≤ 5) && isGrid ds.length (.tup ds)) = _; rw [decide_eq_true h, Bool.true_and]
      rw [this]
      generalize m_is_square = g at h2 ⊢
      generalize m_is_between = g' at h1 ⊢
      simp [fIsi, isTup, asB, gLen_tup, h1, h2]
    · rw [decide_eq_false h] at h1
      have : isTbl (.tup ds) = false := by show (decide (1 ≤ ds.length ∧ ds.length ≤ 5) && isGrid ds.length (.tup ds)) = _; rw [decide_eq_false h, Bool.false_and]
      rw [this]
      generalize m_is_between = g' at h1 ⊢
      simp [fIsi, isTup, asB, gLen_tup, h1]
  | _ => simp [fAndV, fIsi, isTup, asB, isTbl]
end W

namespace W
open PySem L2 Dl
/-! bounded things -/
inductive Bd (n : Nat) : Nat → D → Prop
  | flat {k : Nat} {d : D} : isTup d = false → (∀ i, d = .int i → bl i.natAbs ≤ n) → Bd n k d
  | tup {k : Nat} {ds : List D} : ds.length ≤ n → (∀ d, d ∈ ds → Bd n k d) → Bd n (k + 1) (.tup ds)
theorem Bd.mono {n m : Nat} (h : n ≤ m) : ∀ {k : Nat} {d : D} {l : Nat}, Bd n k d → k ≤ l → Bd m l d
  | _, _, _, .flat a b, _ => .flat a fun i e => Nat.le_trans (b i e) h
  | k + 1, _, l + 1, .tup a b, hl => .tup (Nat.le_trans a h) fun d hd => Bd.mono h (b d hd) (by omega)
  | k + 1, _, 0, .tup a b, hl => by omega
theorem Bd.int {n k : Nat} {i : Int} (h : bl i.natAbs ≤ n) : Bd n k (.int i) := .flat rfl fun j e => by cases e; exact h
theorem Bd.items {n k : Nat} {ds : List D} (h : Bd n k (.tup ds)) : ds.length ≤ n ∧ ∃ k', k = k' + 1 ∧ ∀ d, d ∈ ds → Bd n k' d := by
  cases h with
  | flat a _ => cases a
  | tup a b => exact ⟨a, _, rfl, b⟩
mutual
def bdB (n : Nat) : Nat → D → Bool
  | k, .tup ds => match k with
    | k + 1 => decide (ds.length ≤ n) && bdsB n k ds
    | 0 => false
  | _, .int i => decide (bl i.natAbs ≤ n)
  | _, _ => true
def bdsB (n : Nat) : Nat → List D → Bool
  | _, [] => true
  | k, d :: ds => bdB n k d && bdsB n k ds
end
mutual
theorem bdB_ok {n : Nat} : ∀ (k : Nat) (d : D), bdB n k d = true → Bd n k d
  | k, .tup ds, h => by
    cases k with
    | zero => simp [bdB] at h
    | succ k =>
      simp only [bdB, Bool.and_eq_true, decide_eq_true_eq] at h
      exact .tup h.1 (bdsB_ok k ds h.2)
  | k, .int i, h => by
    simp only [bdB, decide_eq_true_eq] at h
    exact .int h
  | k, .non, _ => .flat rfl nofun
  | k, .bl _, _ => .flat rfl nofun
  | k, .str _, _ => .flat rfl nofun
  | k, .lst _, _ => .flat rfl nofun
  | k, .scr _, _ => .flat rfl nofun
  | k, .dct, _ => .flat rfl nofun
theorem bdsB_ok {n : Nat} : ∀ (k : Nat) (ds : List D), bdsB n k ds = true → ∀ d, d ∈ ds → Bd n k d
  | k, [], _, d, h => by simp at h
  | k, e :: ds, h, d, hd => by
    simp only [bdsB, Bool.and_eq_true] at h
    rcases List.mem_cons.mp hd with z | z
    · rw [z]; exact bdB_ok k e h.1
    · exact bdsB_ok k ds h.2 d z
end
theorem ev_pick {B : Nat} {es ds : List D} (U : Urn (B + 1) es) (h0 : 0 < ds.length) (h1 : ds.length ≤ 1000) : ∃ (d : D) (es' : List D), d ∈ ds ∧ Urn B es' ∧ m__law_pick es [.tup ds] = some (d, es') := by
  obtain ⟨j, es', hj, U', e⟩ := ev_take U h0 (by omega)
  refine ⟨ds[j], es', List.getElem_mem hj, U', ?_⟩
  refine outU_rt (ρ := [some (.lst es'), some (.tup ds)]) ?_ rfl
  unfold b__law_pick c__law_pick
  rw [show startD 2 (.lst es :: [.tup ds]) = [some (.lst es), some (.tup ds)] from rfl]
  refine e_ret (e_bin (ρ1 := [some (.lst es), some (.tup ds)]) (x := .tup ds) rfl (e_callU (ds := [.int (ds.length : Nat)]) rfl (by simp [gLen_tup]) e) ?_)
  show atI ds ((j : Nat) : Int) = _
  rw [Dl.atI_nat, List.getElem?_eq_getElem hj]
def oddL : List D := [.non, .bl true, .bl false, .int 0, .int 1, .int (-1), .int 2, .int (10 ^ 30), .str (PySem.Str.ofString ""), .str (PySem.Str.ofString "1"), .str (PySem.Str.ofString "(1, 1)"),
  .tup [], .tup [.int 1], .tup [.int 1, .int 1], .tup [.int 0, .int 1], .tup [.int 2, .int 2], .tup [.int 0, .int 2], .tup [.int 1, .int 0], .tup [.int 1, .int (-1)], .tup [.bl true, .int 1], .tup [.int 1, .bl true],
  .tup [.int 1, .int 1, .int 1], .tup [.tup [.int 1, .int 1]], .tup [.tup [.tup [.int 1, .int 1]]], .lst [], .lst [.int 1, .int 1], .lst [.tup [.int 1, .int 1]], .dct, .tup [.non, .int 1], .tup [.str (PySem.Str.ofString "1"), .int 1],
  .tup [.tup [.int 1, .int 1], .int 1]]
theorem oddL_bd : ∀ d, d ∈ oddL → Bd 200 3 d := bdsB_ok 3 oddL (by decide +kernel)
theorem ev_odd {B : Nat} {es : List D} (U : Urn (B + 1) es) : ∃ (d : D) (es' : List D), Bd 200 3 d ∧ Urn B es' ∧ m__law_odd es [] = some (d, es') := by
  obtain ⟨d, es', hd, U', e⟩ := ev_pick (ds := oddL) U (by decide) (by decide)
  refine ⟨d, es', oddL_bd d hd, U', ?_⟩
  refine outU_rt (ρ := [some (.lst es')]) ?_ rfl
  unfold b__law_odd c__law_odd
  rw [show startD 1 (.lst es :: []) = [some (.lst es)] from rfl]
  exact e_ret (e_callU (es := es) (ds := [.tup oddL]) rfl (by rfl) e)
end W

namespace W
open PySem L2 Dl
theorem mem_cutD {α : Type} {xs : List α} {lo hi : Option Int} {x : α} (h : x ∈ cutD xs lo hi) : x ∈ xs := List.mem_of_mem_drop (List.mem_of_mem_take h)
theorem len_cutD {α : Type} (xs : List α) (lo hi : Option Int) : (cutD xs lo hi).length ≤ xs.length := by
  unfold cutD
  rw [List.length_take, List.length_drop]
  omega
theorem cut1_len {α : Type} (xs : List α) : (cutD xs none (some 1)).length ≤ 1 := by
  unfold cutD
  rw [List.length_take]
  have : HT.sIx xs.length xs.length (some 1) = min 1 xs.length := HT.sIx_nat _ _ 1
  rw [this]
  omega
theorem cut_at {α : Type} (xs : List α) (j : Nat) : cutD xs none (some (j : Nat)) = xs.take j := by
  unfold cutD
  rw [HT.sIx_nat, HT.sIx_none, List.drop_zero, Nat.sub_zero, Nat.min_comm]
  by_cases h : j ≤ xs.length
  · rw [Nat.min_eq_right h]
  · rw [Nat.min_eq_left (by omega), List.take_length, List.take_of_length_le (by omega)]
theorem cut_from {α : Type} (xs : List α) (j : Nat) : cutD xs (some (j : Nat)) none = xs.drop j := by
  unfold cutD
  rw [HT.sIx_nat, HT.sIx_none]
  by_cases h : j ≤ xs.length
  · rw [Nat.min_eq_left h]
    exact List.take_of_length_le (by rw [List.length_drop]; exact Nat.le_refl _)
  · rw [Nat.min_eq_right (by omega), List.drop_length, List.drop_of_length_le (by omega), List.take_nil]
theorem bl_b2i (b : Bool) (j : Int) (h : j.natAbs ≤ 3) : bl (b2i b + j).natAbs ≤ 3 ∧ bl (b2i b - j).natAbs ≤ 3 ∧ bl (j - b2i b).natAbs ≤ 3 ∧ bl (j * b2i b).natAbs ≤ 3 := by
  have : ∀ n : Nat, n < 8 → bl n ≤ 3 := fun n h => bl_small h
  cases b <;> unfold b2i <;> simp only [if_true, if_false, Bool.false_eq_true] <;> refine ⟨this _ ?_, this _ ?_, this _ ?_, this _ ?_⟩ <;> omega
/-- what _law_bent does with a number -/
theorem num_four {n : Nat} {d : D} (h2 : 2 ≤ n) (hn : n ≤ 900) (hi : isInt d = true) (hb : ∀ i, d = .int i → bl i.natAbs ≤ n) : ∃ a b c e : Int, gAdd d (.int 1) = some (.int a) ∧ Dl.gSub (.int 0) d = some (.int b) ∧ gMul (.int 2) d = some (.int c) ∧ Dl.gSub d (.int 3) = some (.int e) ∧
    bl a.natAbs ≤ n + 2 ∧ bl b.natAbs ≤ n + 2 ∧ bl c.natAbs ≤ n + 2 ∧ bl e.natAbs ≤ n + 2 := by
  cases d with
  | int i =>
    have h := hb i rfl
    have m : mulOk 2 i = true := mulOk_of (m := 2) (n := n) (bl_small (by decide)) h (by omega)
    refine ⟨i + 1, 0 - i, 2 * i, i - 3, rfl, rfl, ?_, rfl, ?_, ?_, ?_, ?_⟩
    · unfold gMul; simp [m]
    · exact Nat.le_trans (blA h (Nat.le_trans (bl_small (k := 1) (by decide)) (by omega))) (by omega)
    · exact Nat.le_trans (blS (i := 0) (Nat.le_trans (bl_small (k := 1) (by decide)) (by omega)) h) (by omega)
    · exact Nat.le_trans (blM (m := 2) (bl_small (by decide)) h) (by omega)
    · exact Nat.le_trans (blS h (Nat.le_trans (bl_small (k := 2) (by decide)) (by omega))) (by omega)
  | bl b =>
    refine ⟨b2i b + 1, 0 - b2i b, 2 * b2i b, b2i b - 3, rfl, rfl, rfl, rfl, ?_, ?_, ?_, ?_⟩
    · have := (bl_b2i b 1 (by decide)).1; omega
    · have := (bl_b2i b 0 (by decide)).2.2.1; omega
    · have := (bl_b2i b 2 (by decide)).2.2.2; omega
    · have := (bl_b2i b 3 (by decide)).2.1; omega
  | _ => cases hi
theorem tup_five {n k : Nat} {ds : List D} (hn : n ≤ 900) (h : Bd n k (.tup ds)) : gAdd (.tup ds) (.tup (cutD ds none (some 1))) = some (.tup (ds ++ cutD ds none (some 1))) ∧
    ∀ x, x ∈ [D.lst ds, .tup (cutD ds none (some (-1))), .tup (ds ++ cutD ds none (some 1)), .tup ds.reverse, .tup (cutD ds (some 1) none)] → Bd (n + 2) k x := by
  obtain ⟨hl, k', rfl, hm⟩ := h.items
  have h1 := cut1_len ds
  refine ⟨?_, fun x hx => ?_⟩
  · show (if _ then _ else _) = _
    rw [if_pos]
    exact Nat.le_trans (show ds.length + (cutD ds none (some 1)).length ≤ 1000 by omega) (by decide)
  · have sub : ∀ es : List D, es.length ≤ n + 2 → (∀ x, x ∈ es → x ∈ ds) → Bd (n + 2) (k' + 1) (.tup es) := fun es h1 h2 => .tup h1 fun d hd => (hm d (h2 d hd)).mono (by omega) (Nat.le_refl _)
    simp only [List.mem_cons, List.not_mem_nil, or_false] at hx
    rcases hx with rfl | rfl | rfl | rfl | rfl
    · exact .flat rfl nofun
    · exact sub _ (Nat.le_trans (len_cutD _ _ _) (by omega)) fun x h => mem_cutD h
    · exact sub _ (by rw [List.length_append]; omega) fun x h => (List.mem_append.mp h).elim id mem_cutD
    · exact sub _ (by rw [List.length_reverse]; omega) fun x h => List.mem_reverse.mp h
    · exact sub _ (Nat.le_trans (len_cutD _ _ _) (by omega)) fun x h => mem_cutD h
theorem pick_lit {ds : List D} {j : Nat} (hj : j < ds.length) : ∃ d, gIx (.tup ds) (.int (j : Nat)) = some d ∧ d ∈ ds := by
  refine ⟨ds[j], ?_, List.getElem_mem hj⟩
  show atI ds ((j : Nat) : Int) = _
  rw [Dl.atI_nat, List.getElem?_eq_getElem hj]
/-- the second part of _law_bent -/
theorem bent_rest {B n k : Nat} {es : List D} {d : D} {d2 : Option D} (h2 : 2 ≤ n) (hn : n ≤ 900) (hb : Bd n k d) (U : Urn (B + 2) es) :
    ∃ (d' : D) (es' : List D) (ρ : DEnv), Bd (n + 202) (k + 3) d' ∧ Urn B es' ∧ ρ[0]?.join = some (.lst es') ∧
    (fSeq (fSet 3 (fCallU 0 m__law_take (fCons (fC (.int 8)) fNil)))
    (fSeq (fIfS (fAndT (fB (fIsi isTup (fVar 1))) (fB (fBin gLt (fVar 3) (fC (.int 5))))) (fRet (fBin gIx (fTup (fCons (fCall gList (fCons (fVar 1) fNil)) (fCons (fSl (fVar 1) fNoP (fP (fUn gNeg (fC (.int 1))))) (fCons (fBin gAdd (fVar 1) (fSl (fVar 1) fNoP (fP (fC (.int 1))))) (fCons (fUn gRev (fVar 1)) (fCons (fSl (fVar 1) (fP (fC (.int 1))) fNoP) fNil)))))) (fVar 3))) fSkip)
    (fSeq (fIfS (fAndT (fB (fIsi isInt (fVar 1))) (fB (fBin gLt (fVar 3) (fC (.int 4))))) (fRet (fBin gIx (fTup (fCons (fBin gAdd (fVar 1) (fC (.int 1))) (fCons (fBin Dl.gSub (fC (.int 0)) (fVar 1)) (fCons (fBin gMul (fC (.int 2)) (fVar 1)) (fCons (fBin Dl.gSub (fVar 1) (fC (.int 3))) fNil))))) (fVar 3))) fSkip)
    (fRet (fCallU 0 m__law_odd fNil))))) [some (.lst es), some d, d2, none] = some (.rt d' ρ) := by
  obtain ⟨j, es1, hj, U1, e1⟩ := ev_take (B := B + 1) (lim := 8) U (by decide) (by decide)
  obtain ⟨o, es2, ho, U2, e2⟩ := ev_odd (B := B) U1
  have s1 : fSet 3 (fCallU 0 m__law_take (fCons (fC (.int 8)) fNil)) [some (.lst es), some d, d2, none] = some (.nx [some (.lst es1), some d, d2, some (.int (j : Nat))]) :=
    e_set (e_callU (es := es) (ds := [.int 8]) rfl rfl e1) (by simp)
  have hj' : (j : Int) < 5 ↔ j < 5 := by omega
  have hj4 : (j : Int) < 4 ↔ j < 4 := by omega
  rw [seq_nx s1]
  have odd : fRet (fCallU 0 m__law_odd fNil) [some (.lst es1), some d, d2, some (.int (j : Nat))] = some (.rt o [some (.lst es2), some d, d2, some (.int (j : Nat))]) := e_ret (e_callU (es := es1) (ds := []) rfl rfl e2)
  by_cases ht : isTup d = true
  · have hi : isInt d = false := by cases d <;> first | rfl | cases ht
    have c2 : fAndT (fB (fIsi isInt (fVar 1))) (fB (fBin gLt (fVar 3) (fC (.int 4)))) [some (.lst es1), some d, d2, some (.int (j : Nat))] = some (false, [some (.lst es1), some d, d2, some (.int (j : Nat))]) := by simp [fAndT, fIsi, hi, asB]
    by_cases h5 : j < 5
    · cases d with
      | tup ds =>
        obtain ⟨ga, hall⟩ := tup_five hn hb
        obtain ⟨x, e3, hx⟩ := pick_lit (ds := [D.lst ds, .tup (cutD ds none (some (-1))), .tup (ds ++ cutD ds none (some 1)), .tup ds.reverse, .tup (cutD ds (some 1) none)]) (j := j) h5
        refine ⟨x, es1, [some (.lst es1), some (.tup ds), d2, some (.int (j : Nat))], (hall x hx).mono (by omega) (by omega), U1.mono (by omega), rfl, ?_⟩
        refine seq_rt ?_
        rw [if_t (ρ1 := [some (.lst es1), some (.tup ds), d2, some (.int (j : Nat))]) (by simp [fAndT, fIsi, isTup, asB, gLt, hj', h5])]
        refine e_ret (e_bin (ρ1 := [some (.lst es1), some (.tup ds), d2, some (.int (j : Nat))]) ?_ rfl e3)
        unfold fTup
        simp [gList, fSl, fNoP, fP, gNeg, asI, gSl, ga, gRev, show 5 ≤ sizeLine by decide]
      | _ => cases ht
    · have c1 : fAndT (fB (fIsi isTup (fVar 1))) (fB (fBin gLt (fVar 3) (fC (.int 5)))) [some (.lst es1), some d, d2, some (.int (j : Nat))] = some (false, [some (.lst es1), some d, d2, some (.int (j : Nat))]) := by simp [fAndT, fIsi, ht, asB, gLt, hj', h5]
      refine ⟨o, es2, [some (.lst es2), some d, d2, some (.int (j : Nat))], ho.mono (by omega) (by omega), U2, ?_, ?_⟩
      rotate_left
      · rw [seq_nx (ρ1 := [some (.lst es1), some d, d2, some (.int (j : Nat))]) (by rw [if_f c1]; rfl), seq_nx (ρ1 := [some (.lst es1), some d, d2, some (.int (j : Nat))]) (by rw [if_f c2]; rfl)]
        exact odd
      · rfl
  · have ht : isTup d = false := by simpa using ht
    have c1 : fAndT (fB (fIsi isTup (fVar 1))) (fB (fBin gLt (fVar 3) (fC (.int 5)))) [some (.lst es1), some d, d2, some (.int (j : Nat))] = some (false, [some (.lst es1), some d, d2, some (.int (j : Nat))]) := by simp [fAndT, fIsi, ht, asB]
    by_cases h4 : isInt d = true ∧ j < 4
    · have hb' : ∀ i, d = .int i → bl i.natAbs ≤ n := by
        cases hb with
        | flat _ h => exact h
        | tup _ _ => cases ht
      obtain ⟨a, b, c, e, g1, g2, g3, g4, l1, l2, l3, l4⟩ := num_four h2 hn h4.1 hb'
      obtain ⟨x, e3, hx⟩ := pick_lit (ds := [D.int a, .int b, .int c, .int e]) (j := j) h4.2
      refine ⟨x, es1, [some (.lst es1), some d, d2, some (.int (j : Nat))], ?_, U1.mono (by omega), rfl, ?_⟩
      · simp only [List.mem_cons, List.not_mem_nil, or_false] at hx
        rcases hx with rfl | rfl | rfl | rfl <;> exact .int (by omega)
      · rw [seq_nx (ρ1 := [some (.lst es1), some d, d2, some (.int (j : Nat))]) (by rw [if_f c1]; rfl)]
        refine seq_rt ?_
        rw [if_t (ρ1 := [some (.lst es1), some d, d2, some (.int (j : Nat))]) (by simp [fAndT, fIsi, h4.1, asB, gLt, hj4, h4.2])]
        refine e_ret (e_bin (ρ1 := [some (.lst es1), some d, d2, some (.int (j : Nat))]) ?_ rfl e3)
        unfold fTup
        simp [g1, g2, g3, g4, show 4 ≤ sizeLine by decide]
    · have c2 : fAndT (fB (fIsi isInt (fVar 1))) (fB (fBin gLt (fVar 3) (fC (.int 4)))) [some (.lst es1), some d, d2, some (.int (j : Nat))] = some (false, [some (.lst es1), some d, d2, some (.int (j : Nat))]) := by
        by_cases hi : isInt d = true
        · have : ¬ j < 4 := fun z => h4 ⟨hi, z⟩
          simp [fAndT, fIsi, hi, asB, gLt, hj4, this]
        · simp [fAndT, fIsi, hi, asB]
      refine ⟨o, es2, [some (.lst es2), some d, d2, some (.int (j : Nat))], ho.mono (by omega) (by omega), U2, ?_, ?_⟩
      rotate_left
      · rw [seq_nx (ρ1 := [some (.lst es1), some d, d2, some (.int (j : Nat))]) (by rw [if_f c1]; rfl), seq_nx (ρ1 := [some (.lst es1), some d, d2, some (.int (j : Nat))]) (by rw [if_f c2]; rfl)]
        exact odd
      · rfl
theorem ev_bent : ∀ (f k n B : Nat) (d : D) (es : List D), k < f → 2 ≤ n → n ≤ 500 → Bd n k d → Urn (B + 3 * (k + 1)) es →
    ∃ (d' : D) (es' : List D), Bd (n + 202) (k + 3) d' ∧ Urn B es' ∧ mr__law_bent f es [d] = some (d', es')
  | 0, k, n, B, d, es, h, _, _, _, _ => absurd h (Nat.not_lt_zero _)
  | f + 1, k, n, B, d, es, hk, h2, hn, hb, U => by
    show ∃ (d' : D) (es' : List D), Bd (n + 202) (k + 3) d' ∧ Urn B es' ∧ outU 4 (b__law_bent (mr__law_bent f)) es [d] = some (d', es')
    have st : startD 4 (.lst es :: [d]) = [some (.lst es), some d, none, none] := rfl
    have skip : ∀ es1, fAndT (fB (fIsi isTup (fVar 1))) (fAndT (fB (fBin gNe (fVar 1) (fTup fNil))) (fB (fBin gGt (fCallU 0 m__law_take (fCons (fC (.int 4)) fNil)) (fC (.int 0))))) [some (.lst es), some d, none, none] = some (false, [some (.lst es1), some d, none, none]) →
        Urn (B + 2) es1 → ∃ (d' : D) (es' : List D), Bd (n + 202) (k + 3) d' ∧ Urn B es' ∧ outU 4 (b__law_bent (mr__law_bent f)) es [d] = some (d', es') := fun es1 c U1 => by
      obtain ⟨d', es', ρ, h1, h2, h3, h4⟩ := bent_rest (d2 := none) h2 (by omega) hb U1
      refine ⟨d', es', h1, h2, outU_rt (ρ := ρ) ?_ h3⟩
      unfold b__law_bent c__law_bent
      rw [st, seq_nx (ρ1 := [some (.lst es1), some d, none, none]) (by rw [if_f c]; rfl)]
      exact h4
    by_cases ht : isTup d = true
    · cases d with
      | tup ds =>
        obtain ⟨hl, k', rfl, hm⟩ := hb.items
        by_cases h0 : ds = []
        · subst h0
          refine skip es ?_ (U.mono (by omega))
          have e : gNe (.tup []) (.tup []) = some (.bl false) := by rfl
          simp [fAndT, fIsi, isTup, asB, fTup, e]
        · obtain ⟨j, es1, hj, U1, e1⟩ := ev_take (B := B + 3 * (k' + 1) + 2) (lim := 4) (U.mono (by omega)) (by decide) (by decide)
          have e0 : gNe (.tup ds) (.tup []) = some (.bl true) := by
            have hne : ds.isEmpty = false := by cases ds <;> first | rfl | exact absurd rfl h0
            unfold gNe
            split
            · simp only [toPy, toPys, PyData.eqv]
              cases ds with
              | nil => exact absurd rfl h0
              | cons a r => simp [toPys, PyData.eqvAll]
            · show some (D.bl (!ds.isEmpty)) = _
              rw [hne]; rfl
          have ctk : fB (fBin gGt (fCallU 0 m__law_take (fCons (fC (.int 4)) fNil)) (fC (.int 0))) [some (.lst es), some (.tup ds), none, none] = some (decide (0 < (j : Int)), [some (.lst es1), some (.tup ds), none, none]) := by
            rw [ap_B, e_bin (e_callU (es := es) (ds := [.int 4]) rfl rfl e1) (ap_C _ _) (d := .bl (decide (0 < (j : Int)))) rfl]
            rfl
          have cc : fAndT (fB (fIsi isTup (fVar 1))) (fAndT (fB (fBin gNe (fVar 1) (fTup fNil))) (fB (fBin gGt (fCallU 0 m__law_take (fCons (fC (.int 4)) fNil)) (fC (.int 0))))) [some (.lst es), some (.tup ds), none, none] = some (decide (0 < (j : Int)), [some (.lst es1), some (.tup ds), none, none]) := by
            have a1 : fB (fIsi isTup (fVar 1)) [some (.lst es), some (.tup ds), none, none] = some (true, [some (.lst es), some (.tup ds), none, none]) := by simp [fIsi, isTup, asB]
            have a2 : fB (fBin gNe (fVar 1) (fTup fNil)) [some (.lst es), some (.tup ds), none, none] = some (true, [some (.lst es), some (.tup ds), none, none]) := by simp [fTup, e0, asB]
            unfold fAndT
            simp only [a1, a2, Option.bind_some, if_true]
            exact ctk
          by_cases hj0 : 0 < j
          · have hlen : 0 < ds.length := by cases ds <;> first | exact absurd rfl h0 | simp
            obtain ⟨i, es2, hi, U2, e2⟩ := ev_take (B := B + 3 * (k' + 1)) (U1.mono (by omega)) hlen (by omega)
            obtain ⟨x, es3, hx, U3, e3⟩ := ev_bent f k' n B ds[i] es2 (by omega) h2 hn (hm _ (List.getElem_mem hi)) U2
            have hlim : ∀ a : Nat, a ≤ 1000 → a ≤ sizeLine := fun a h => Nat.le_trans h (by decide)
            refine ⟨.tup (ds.take i ++ [x] ++ ds.drop (i + 1)), es3, .tup ?_ fun y hy => ?_, U3, ?_⟩
            · simp only [List.length_append, List.length_take, List.length_drop, List.length_cons, List.length_nil]; omega
            · rw [List.mem_append, List.mem_append] at hy
              rcases hy with (hy | hy) | hy
              · exact (hm y (List.mem_of_mem_take hy)).mono (by omega) (by omega)
              · rw [List.mem_singleton] at hy; rw [hy]; exact hx.mono (Nat.le_refl _) (by omega)
              · exact (hm y (List.mem_of_mem_drop hy)).mono (by omega) (by omega)
            · refine outU_rt (ρ := [some (.lst es3), some (.tup ds), some (.int (i : Nat)), none]) ?_ rfl
              unfold b__law_bent c__law_bent
              rw [st]
              refine seq_rt ?_
              rw [if_t (ρ1 := [some (.lst es1), some (.tup ds), none, none]) (by rw [cc]; simp [hj0])]
              rw [seq_nx (ρ1 := [some (.lst es2), some (.tup ds), some (.int (i : Nat)), none]) (e_set (e_callU (es := es1) (ds := [.int (ds.length : Nat)]) rfl (by simp [gLen_tup]) e2) (by simp))]
              generalize mr__law_bent f = g at e3 ⊢
              have b1 : fSl (fVar 1) fNoP (fP (fVar 2)) [some (.lst es2), some (.tup ds), some (.int (i : Nat)), none] = some (.tup (ds.take i), [some (.lst es2), some (.tup ds), some (.int (i : Nat)), none]) := by
                simp [fSl, fNoP, fP, asI, gSl, cut_at]
              have b2 : fTup (fCons (fCallU 0 g (fCons (fBin gIx (fVar 1) (fVar 2)) fNil)) fNil) [some (.lst es2), some (.tup ds), some (.int (i : Nat)), none] = some (.tup [x], [some (.lst es3), some (.tup ds), some (.int (i : Nat)), none]) := by
                have : fCallU 0 g (fCons (fBin gIx (fVar 1) (fVar 2)) fNil) [some (.lst es2), some (.tup ds), some (.int (i : Nat)), none] = some (x, [some (.lst es3), some (.tup ds), some (.int (i : Nat)), none]) :=
                  e_callU (es := es2) (ds := [ds[i]]) rfl (by
                    have : gIx (.tup ds) (.int (i : Nat)) = some ds[i] := by
                      show atI ds ((i : Nat) : Int) = _
                      rw [Dl.atI_nat, List.getElem?_eq_getElem hi]
                    simp [this]) e3
                unfold fTup
                rw [ap_cons, this]
                simp [show 1 ≤ sizeLine by decide]
              have b3 : fSl (fVar 1) (fP (fBin gAdd (fVar 2) (fC (.int 1)))) fNoP [some (.lst es3), some (.tup ds), some (.int (i : Nat)), none] = some (.tup (ds.drop (i + 1)), [some (.lst es3), some (.tup ds), some (.int (i : Nat)), none]) := by
                have : gSl (.tup ds) (some ((i : Int) + 1)) none = some (.tup (ds.drop (i + 1))) := by
                  show some (D.tup (cutD ds (some ((i : Int) + 1)) none)) = _
                  rw [show (i : Int) + 1 = ((i + 1 : Nat) : Int) from rfl, cut_from]
                simp [fSl, fNoP, fP, asI, gAdd, this]
              refine e_ret (e_bin (e_bin b1 b2 (d := .tup (ds.take i ++ [x])) ?_) b3 ?_)
              · show (if _ then _ else _) = _
                rw [if_pos (hlim _ (by simp only [List.length_take, List.length_cons, List.length_nil]; omega))]
              · show (if _ then _ else _) = _
                rw [if_pos (hlim _ (by simp only [List.length_append, List.length_take, List.length_drop, List.length_cons, List.length_nil]; omega))]
          · refine skip es1 ?_ (U1.mono (by omega))
            rw [cc]
            have : ¬ 0 < (j : Int) := by omega
            rw [decide_eq_false this]
      | _ => cases ht
    · refine skip es ?_ (U.mono (by omega))
      simp [fAndT, fIsi, ht, asB]
end W

namespace W
open PySem L2 Dl
theorem bd_square {t : List (List Rat)} {k : Nat} (hl : t.length = k) (hk : k ≤ 200) (h : ∀ r, r ∈ t → r.length = k ∧ AS 21 r) : Bd 200 3 (Tb t) := by
  refine .tup (by rw [List.length_map]; omega) fun d hd => ?_
  obtain ⟨r, hr, rfl⟩ := List.mem_map.mp hd
  refine .tup (by rw [List.length_map, (h r hr).1]; omega) fun d hd => ?_
  obtain ⟨q, hq, rfl⟩ := List.mem_map.mp hd
  have hs := (h r hr).2 q hq
  refine .tup (by simp) fun d hd => ?_
  simp only [List.mem_cons, List.not_mem_nil, or_false] at hd
  rcases hd with rfl | rfl
  · exact .int (Nat.le_trans hs.1 (by decide))
  · exact .int (Nat.le_trans hs.den (by decide))
theorem bent_loop {B : Nat} (body : SFn) (hbody : body = fSet 1 (fCallU 0 m__law_bent (fCons (fVar 1) fNil))) : ∀ (l : List Nat) (n k : Nat) (es : List D) (d : D) (d2 : Option D), 2 ≤ n → n + 202 * l.length ≤ 604 → k + 3 * l.length ≤ 9 → Bd n k d → Urn (B + 30 * l.length) es →
    ∃ (d' : D) (es' : List D) (d2' : Option D), Bd 604 9 d' ∧ Urn B es' ∧ loopD (gNm 2) body (l.map natD) [some (.lst es), some d, d2, none] = some (.nx [some (.lst es'), some d', d2', none])
  | [], n, k, es, d, d2, h0, h1, h2, hb, U => ⟨d, es, d2, hb.mono (by simpa using h1) (by simpa using h2), U, rfl⟩
  | j :: r, n, k, es, d, d2, h0, h1, h2, hb, U => by
    rw [List.length_cons] at h1 h2 U
    obtain ⟨x, es1, hx, U1, e1⟩ := ev_bent 16 k n (B + 30 * r.length) d es (by omega) h0 (by omega) hb (U.mono (by omega))
    obtain ⟨d', es', d2', hd', U', e'⟩ := bent_loop body hbody r (n + 202) (k + 3) es1 x (some (natD j)) (by omega) (by omega) (by omega) hx U1
    refine ⟨d', es', d2', hd', U', ?_⟩
    have s1 : body [some (.lst es), some d, some (natD j), none] = some (.nx [some (.lst es1), some x, some (natD j), none]) := by
      rw [hbody]
      exact e_set (e_callU (es := es) (ds := [d]) rfl rfl e1) (by simp)
    rw [List.map_cons]
    unfold loopD
    have g1 : gNm 2 (natD j) [some (.lst es), some d, d2, none] = some [some (.lst es), some d, some (natD j), none] := rfl
    rw [g1, Option.bind_some, s1]
    exact e'
theorem e_callK {pi : List Nat} {m : List D → Option D} {fs : LFn} {ρ ρ1 : DEnv} {ds ds' : List D} {d : D} (h : fs ρ = some (ds, ρ1)) (hp : permV pi ds = ds') (hm : m ds' = some d) : fCallK pi m fs ρ = some (d, ρ1) := by
  unfold fCallK
  rw [h, Option.bind_some, hp, hm]
  rfl
theorem e_callV {i : Nat} {m : List D → List D → Option (D × List D)} {fs : LFn} {ρ ρ1 : DEnv} {es es' ds : List D} {d x : D} (h0 : ρ[i]?.join = some x) (h : fs ρ = some (ds, ρ1)) (hi : ρ1[i]?.join = some (.lst es)) (hm : m es ds = some (d, es')) : fCallU i m fs ρ = some (d, ρ1.set i (some (.lst es'))) := by
  unfold fCallU
  rw [h0, Option.bind_some, h, Option.bind_some]
  dsimp only
  rw [hi]
  dsimp only
  rw [hm]
  rfl
theorem e_arg1 {f : DFn} {ρ ρ1 : DEnv} {d : D} (h : f ρ = some (d, ρ1)) : fCons f fNil ρ = some ([d], ρ1) := by rw [ap_cons, h]; rfl
theorem rngV {n : Nat} {fs : LFn} {ρ ρ1 : DEnv} (h : fs ρ = some ([.int (n : Nat)], ρ1)) (hn : n ≤ 1000) : fRng1 fs ρ = some ((List.range n).map natD, ρ1) := by
  unfold fRng1
  rw [h, Option.bind_some]
  dsimp only
  rw [if_pos]
  · rw [Int.toNat_natCast, range_nat]
  · refine ⟨Int.le_trans (b := 0) (by decide +kernel) (Int.natCast_nonneg n), Int.lt_of_le_of_lt (b := 1000) ?_ (by decide +kernel)⟩
    exact_mod_cast hn
theorem sm_pair (a b : Bool) : Sm 2 (.tup [.bl a, .bl b]) := .tup (by simp) (.cons (.bl _) (.cons (.bl _) .nil))
theorem ev_any_right {B : Nat} {es : List D} (U : Urn (B + 300) es) : ∃ es', Urn B es' ∧ m__law_is_any_right es [] = some (.bl true, es') := by
  obtain ⟨j, es1, hj, U1, e1⟩ := ev_take (B := B + 299) (lim := 8) U (by decide) (by decide)
  have c1 : fB (fBin gGt (fCallU 0 m__law_take (fCons (fC (.int 8)) fNil)) (fC (.int 0))) [some (.lst es), none, none, none] = some (decide (0 < (j : Int)), [some (.lst es1), none, none, none]) := by
    rw [ap_B, e_bin (e_callU (es := es) (ds := [.int 8]) rfl rfl e1) (ap_C _ _) (d := .bl (decide (0 < (j : Int)))) rfl]
    rfl
  have first : ∃ (d : D) (es2 : List D), Bd 200 3 d ∧ Urn (B + 100) es2 ∧ fIf (fB (fBin gGt (fCallU 0 m__law_take (fCons (fC (.int 8)) fNil)) (fC (.int 0)))) (fCallU 0 m__law_square (fCons (fBin gAdd (fC (.int 1)) (fCallU 0 m__law_take (fCons (fC (.int 6)) fNil))) fNil)) (fCallU 0 m__law_odd fNil) [some (.lst es), none, none, none] = some (d, [some (.lst es2), none, none, none]) := by
    by_cases h0 : 0 < j
    · obtain ⟨i, es2, hi, U2, e2⟩ := ev_take (B := B + 298) (lim := 6) U1 (by decide) (by decide)
      have hk : 4 * (1 + i) * (1 + i) ≤ 144 := by
        have : 1 + i ≤ 6 := by omega
        exact Nat.mul_le_mul (Nat.mul_le_mul_left 4 this) this
      obtain ⟨t, es3, hl, ht, U3, e3⟩ := ev_square (B := B + 100) (k := 1 + i) (es := es2) (by omega) (U2.mono (by omega))
      refine ⟨Tb t, es3, bd_square hl (by omega) ht, U3, ?_⟩
      rw [ap_if, c1, Option.bind_some]
      dsimp only
      rw [if_pos (by simp; omega)]
      have a1 : fBin gAdd (fC (.int 1)) (fCallU 0 m__law_take (fCons (fC (.int 6)) fNil)) [some (.lst es1), none, none, none] = some (.int ((1 + i : Nat) : Int), [some (.lst es2), none, none, none]) :=
        e_bin (ap_C _ _) (e_callU (es := es1) (ds := [.int 6]) rfl rfl e2) (by simp [gAdd])
      exact e_callV rfl (e_arg1 a1) rfl e3
    · obtain ⟨d, es2, hd, U2, e2⟩ := ev_odd (B := B + 298) U1
      refine ⟨d, es2, hd, U2.mono (by omega), ?_⟩
      rw [ap_if, c1, Option.bind_some]
      dsimp only
      rw [if_neg (by simp; omega)]
      exact e_callU (es := es1) (ds := []) rfl rfl e2
  obtain ⟨d, es2, hd, U2, e2⟩ := first
  obtain ⟨m, es3, hm, U3, e3⟩ := ev_take (B := B + 99) (lim := 3) U2 (by decide) (by decide)
  obtain ⟨x, es4, d2, hx, U4, e4⟩ := bent_loop (B := B) _ rfl (List.range m) 200 3 es3 d none (by decide) (by rw [List.length_range]; omega) (by rw [List.length_range]; omega) hd (by rw [List.length_range]; exact U3.mono (by omega))
  refine ⟨es4, U4, ?_⟩
  refine outU_rt (ρ := [some (.lst es4), some x, d2, some (.bl (isTbl x))]) ?_ rfl
  unfold b__law_is_any_right c__law_is_any_right
  rw [show startD 4 (.lst es :: []) = [some (.lst es), none, none, none] from rfl]
  rw [seq_nx (ρ1 := [some (.lst es2), some d, none, none]) (e_set e2 (by simp))]
  rw [seq_nx (ρ1 := [some (.lst es4), some x, d2, none]) (by
    have hr : fRng1 (fCons (fCallU 0 m__law_take (fCons (fC (.int 3)) fNil)) fNil) [some (.lst es2), some d, none, none] = some ((List.range m).map natD, [some (.lst es3), some d, none, none]) := by
      have a : fCallU 0 m__law_take (fCons (fC (.int 3)) fNil) [some (.lst es2), some d, none, none] = some (.int (m : Nat), [some (.lst es3), some d, none, none]) := e_callU (es := es2) (ds := [.int 3]) rfl rfl e3
      exact rngV (e_arg1 a) (by omega)
    rw [for_nx hr]
    exact e4)]
  have due : fAndV (fIsi isTup (fVar 1)) (fAndV (fChain gLt gLt (fC (.int 0)) (fCall gLen (fCons (fVar 1) fNil)) (fC (.int 6))) (fCall m__law_is_grid (fCons (fVar 1) (fCons (fCall gLen (fCons (fVar 1) fNil)) fNil)))) [some (.lst es4), some x, d2, none] = some (.bl (isTbl x), [some (.lst es4), some x, d2, none]) := by
    unfold fAndV
    cases x with
    | tup ds =>
      by_cases h : 1 ≤ ds.length ∧ ds.length ≤ 5
      · have h2 := any_grid (k := ds.length) (by omega) (.tup ds)
        have : isTbl (.tup ds) = isGrid ds.length (.tup ds) := by show (decide (1 ≤ ds.length ∧ ds.length ≤ 5) && isGrid ds.length (.tup ds)) = _; rw [decide_eq_true h, Bool.true_and]
        rw [this]
        generalize m__law_is_grid = g at h2 ⊢
        have a1 : (0 : Int) < ds.length := by omega
        have a2 : (ds.length : Int) < 6 := by omega
        have l1 : gLt (.int 0) (.int (ds.length : Nat)) = some (.bl true) := by unfold gLt; simp only [a1, decide_true]
        have l2 : gLt (.int (ds.length : Nat)) (.int 6) = some (.bl true) := by unfold gLt; simp only [a2, decide_true]
        simp [fIsi, isTup, asB, gLen_tup, fChain, l1, l2, h2]
      · have : isTbl (.tup ds) = false := by show (decide (1 ≤ ds.length ∧ ds.length ≤ 5) && isGrid ds.length (.tup ds)) = _; rw [decide_eq_false h, Bool.false_and]
        rw [this]
        by_cases h1 : 1 ≤ ds.length
        · have a1 : (0 : Int) < ds.length := by omega
          have a2 : ¬ (ds.length : Int) < 6 := by omega
          have l1 : gLt (.int 0) (.int (ds.length : Nat)) = some (.bl true) := by unfold gLt; simp only [a1, decide_true]
          have l2 : gLt (.int (ds.length : Nat)) (.int 6) = some (.bl false) := by unfold gLt; simp only [a2, decide_false]
          simp [fIsi, isTup, asB, gLen_tup, fChain, l1, l2]
        · have a1 : ¬ (0 : Int) < ds.length := by omega
          have l1 : gLt (.int 0) (.int (ds.length : Nat)) = some (.bl false) := by unfold gLt; simp only [a1, decide_false]
          simp [fIsi, isTup, asB, gLen_tup, fChain, l1]
    | _ => simp [fIsi, isTup, asB, isTbl]
  rw [seq_nx (ρ1 := [some (.lst es4), some x, d2, some (.bl (isTbl x))]) (e_set due (by simp))]
  have t1 := any_table x
  have s1 := ev_same (sm_pair (isTbl x) (isTbl x)) (by decide)
  refine e_ret (e_call (ds := [.tup [.bl (isTbl x), .bl (isTbl x)], .tup [.bl (isTbl x), .bl (isTbl x)]]) ?_ s1)
  have k1 : ∀ ρ : DEnv, ρ[1]?.join = some x → fCallK [0] m_is_table (fCons (fVar 1) fNil) ρ = some (.bl (isTbl x), ρ) := fun ρ h => e_callK (ds := [x]) (ds' := [x]) (by simp [h]) rfl t1
  generalize m_is_table = g at t1 k1 ⊢
  generalize isTbl x = b at t1 k1 ⊢
  unfold fTup
  simp [t1, k1, size_2]
end W

namespace Dl
/-! sums of n terms -/
def S : Nat → (Nat → Rat) → Rat
  | 0, _ => 0
  | n + 1, f => S n f + f n
theorem S_congr {n : Nat} {f g : Nat → Rat} (h : ∀ i, i < n → f i = g i) : S n f = S n g := by
  induction n with
  | zero => rfl
  | succ n ih =>
    show S n f + f n = S n g + g n
    rw [ih fun i hi => h i (by omega), h n (by omega)]
theorem S_zero {n : Nat} {f : Nat → Rat} (h : ∀ i, i < n → f i = 0) : S n f = 0 := by
  induction n with
  | zero => rfl
  | succ n ih =>
    show S n f + f n = 0
    rw [ih fun i hi => h i (by omega), h n (by omega), Rat.add_zero]
theorem S_add (n : Nat) (f g : Nat → Rat) : S n (fun i => f i + g i) = S n f + S n g := by
  induction n with
  | zero => show (0 : Rat) = 0 + 0; grind
  | succ n ih =>
    show S n _ + (f n + g n) = S n f + f n + (S n g + g n)
    rw [ih]; grind
theorem S_sub (n : Nat) (f g : Nat → Rat) : S n (fun i => f i - g i) = S n f - S n g := by
  induction n with
  | zero => show (0 : Rat) = 0 - 0; grind
  | succ n ih =>
    show S n _ + (f n - g n) = S n f + f n - (S n g + g n)
    rw [ih]; grind
theorem S_mulL (n : Nat) (c : Rat) (f : Nat → Rat) : S n (fun i => c * f i) = c * S n f := by
  induction n with
  | zero => show (0 : Rat) = c * 0; grind
  | succ n ih =>
    show S n _ + c * f n = c * (S n f + f n)
    rw [ih]; grind
theorem S_mulR (n : Nat) (c : Rat) (f : Nat → Rat) : S n (fun i => f i * c) = S n f * c := by
  induction n with
  | zero => show (0 : Rat) = 0 * c; grind
  | succ n ih =>
    show S n _ + f n * c = (S n f + f n) * c
    rw [ih]; grind
theorem S_swap (m n : Nat) (f : Nat → Nat → Rat) : S m (fun i => S n fun j => f i j) = S n fun j => S m fun i => f i j := by
  induction m with
  | zero => exact (S_zero fun j _ => rfl).symm
  | succ m ih =>
    show S m _ + S n _ = S n fun j => S m _ + f m j
    rw [ih, S_add]
theorem S_cons (n : Nat) (f : Nat → Rat) : S (n + 1) f = f 0 + S n fun i => f (i + 1) := by
  induction n with
  | zero => show (0 : Rat) + f 0 = f 0 + 0; grind
  | succ n ih =>
    show S (n + 1) f + f (n + 1) = f 0 + (S n (fun i => f (i + 1)) + f (n + 1))
    rw [ih]; grind
/-- one term alone -/
theorem S_one {n i : Nat} {f : Nat → Rat} (hi : i < n) (h : ∀ j, j < n → j ≠ i → f j = 0) : S n f = f i := by
  induction n with
  | zero => omega
  | succ n ih =>
    show S n f + f n = f i
    by_cases e : i = n
    · subst e
      rw [S_zero fun j hj => h j (by omega) (by omega)]; grind
    · rw [ih (by omega) fun j hj => h j (by omega), h n (by omega) (fun z => e z.symm)]; grind
/-- the number of a row at a place -/
def at0 (xs : List Rat) (i : Nat) : Rat := xs[i]?.getD 0
@[simp] theorem at0_nil (i : Nat) : at0 [] i = 0 := rfl
@[simp] theorem at0_zero (x : Rat) (r : List Rat) : at0 (x :: r) 0 = x := rfl
@[simp] theorem at0_succ (x : Rat) (r : List Rat) (i : Nat) : at0 (x :: r) (i + 1) = at0 r i := by unfold at0; simp
theorem dot_S : ∀ (xs ys : List Rat) (k : Nat), xs.length = k → ys.length = k → dot xs ys = S k fun i => at0 xs i * at0 ys i
  | [], _, k, h, _ => by cases h; rfl
  | x :: xs, [], k, h, h' => by simp at h h'; omega
  | x :: xs, y :: ys, 0, h, _ => by simp at h
  | x :: xs, y :: ys, k + 1, h, h' => by
    rw [dot_cons, dot_S xs ys k (by simpa using h) (by simpa using h'), S_cons]
    simp
end Dl

namespace W
open PySem L2 Dl
theorem any_loop {B : Nat} (body : SFn) (hbody : body = fIfS (fNotT (fB (fCallU 0 m__law_is_any_right fNil))) (fRet (fC (.bl false))) fSkip) : ∀ (l : List Nat) (es : List D) (d1 : Option D), Urn (B + 300 * l.length) es →
    ∃ (es' : List D) (d1' : Option D), Urn B es' ∧ loopD (gNm 1) body (l.map natD) [some (.lst es), d1, none, none, none, none, none, none, none] = some (.nx [some (.lst es'), d1', none, none, none, none, none, none, none])
  | [], es, d1, U => ⟨es, d1, U, rfl⟩
  | j :: r, es, d1, U => by
    rw [List.length_cons] at U
    obtain ⟨es1, U1, e1⟩ := ev_any_right (B := B + 300 * r.length) (U.mono (by omega))
    obtain ⟨es', d1', U', e'⟩ := any_loop body hbody r es1 (some (natD j)) U1
    refine ⟨es', d1', U', ?_⟩
    have s1 : body [some (.lst es), some (natD j), none, none, none, none, none, none, none] = some (.nx [some (.lst es1), some (natD j), none, none, none, none, none, none, none]) := by
      rw [hbody, if_f (ρ1 := [some (.lst es1), some (natD j), none, none, none, none, none, none, none])]
      · rfl
      · unfold fNotT
        rw [ap_B, e_callU (es := es) (ds := []) rfl rfl e1]
        rfl
    rw [List.map_cons]
    unfold loopD
    have g1 : gNm 1 (natD j) [some (.lst es), d1, none, none, none, none, none, none, none] = some [some (.lst es), some (natD j), none, none, none, none, none, none, none] := rfl
    rw [g1, Option.bind_some, s1]
    exact e'
theorem left_0 (hs : List Rat) (ls : List (List Rat)) : left hs ls 0 = sqs hs ls := by unfold left; rw [List.drop_zero, List.drop_zero]
theorem at0_map (k : Nat) (f : Nat → Rat) {i : Nat} (hi : i < k) : at0 ((List.range k).map f) i = f i := by
  unfold at0; simp [hi]
theorem tled_mk {k : Nat} {F : Nat → Nat → Rat} {ys : List Rat} (hy : ys.length = k) : tled (mk k F) ys = (List.range k).map fun i => S k fun j => F i j * at0 ys j := by
  unfold tled mk
  rw [List.map_map]
  refine List.map_congr_left fun i _ => ?_
  show dot ((List.range k).map fun j => F i j) ys = _
  rw [dot_S _ _ k (by simp) hy]
  exact S_congr fun j hj => by rw [at0_map k _ hj]
theorem energy_sym {k : Nat} {F : Nat → Nat → Rat} {xs ys : List Rat} (hF : ∀ i j, F i j = F j i) (hx : xs.length = k) (hy : ys.length = k) : dot ys (tled (mk k F) xs) = dot xs (tled (mk k F) ys) := by
  have h : ∀ (xs ys : List Rat), xs.length = k → ys.length = k → dot xs (tled (mk k F) ys) = S k fun i => S k fun j => at0 xs i * F i j * at0 ys j := fun xs ys hx hy => by
    rw [tled_mk hy, dot_S _ _ k hx (by simp)]
    refine S_congr fun i hi => ?_
    rw [at0_map k _ hi, ← S_mulL]
    exact S_congr fun j _ => by grind
  rw [h ys xs hy hx, h xs ys hx hy, S_swap]
  refine S_congr fun i _ => S_congr fun j _ => ?_
  rw [hF j i]; grind
theorem sm_QQ (a b : Rat) : Sm 3 (.tup [Q a, Q b]) := .tup (by simp) (.cons (sm_Q 1 _) (.cons (sm_Q 1 _) .nil))
theorem pl_right {k : Nat} {es es1 es2 es3 es4 es5 es6 : List D} {d1 : Option D} {T X Y G L : D} {a b c : Rat}
    (e1 : loopD (gNm 1) (fIfS (fNotT (fB (fCallU 0 m__law_is_any_right fNil))) (fRet (fC (.bl false))) fSkip) ((List.range 3).map natD) [some (.lst es), none, none, none, none, none, none, none, none] = some (.nx [some (.lst es1), d1, none, none, none, none, none, none, none]))
    (e2 : m__law_size es1 [] = some (.int (k : Nat), es2)) (e3 : m__law_form es2 [.int (k : Nat)] = some (T, es3)) (e4 : m__law_line es3 [.int (k : Nat)] = some (X, es4)) (e5 : m__law_line es4 [.int (k : Nat)] = some (Y, es5))
    (e6 : m__law_table es5 [.int (k : Nat)] = some (G, es6)) (a1 : m__law_at [T, X] = some (Q a)) (w1 : m_worth [T, X] = some (Q a)) (g1 : m__law_go [G, Y] = some L) (d7 : m__law_dot [X, L] = some (Q b))
    (p1 : m_energy_product [G, X, Y] = some (Q b)) (p2 : m_energy_product [G, Y, X] = some (Q b)) (w2 : m_worth [G, Y] = some (Q c)) (a2 : m__law_at [G, Y] = some (Q c)) : m__law_right es [] = some (.bl true, es6) := by
  have s1 := ev_same (sm_QQ a a) (by decide)
  have s2 := ev_same (sm_QQ b b) (by decide)
  have s3 := ev_same (sm_Q 2 c) (by decide)
  have k1 : ∀ ρ : DEnv, ρ[4]?.join = some X → ρ[3]?.join = some T → fCallK [1, 0] m_worth (fCons (fVar 4) (fCons (fVar 3) fNil)) ρ = some (Q a, ρ) := fun ρ h h' => e_callK (ds := [X, T]) (ds' := [T, X]) (by simp [h, h']) rfl w1
  have k2 : ∀ ρ : DEnv, ρ[4]?.join = some X → ρ[5]?.join = some Y → ρ[7]?.join = some G → fCallK [2, 1, 0] m_energy_product (fCons (fVar 4) (fCons (fVar 5) (fCons (fVar 7) fNil))) ρ = some (Q b, ρ) := fun ρ h h' h'' => e_callK (ds := [X, Y, G]) (ds' := [G, Y, X]) (by simp [h, h', h'']) rfl p2
  refine outU_rt (ρ := [some (.lst es6), d1, some (.int (k : Nat)), some T, some X, some Y, some (Q b), some G, some (.tup [Q b, Q b])]) ?_ rfl
  unfold b__law_right c__law_right
  rw [show startD 9 (.lst es :: []) = [some (.lst es), none, none, none, none, none, none, none, none] from rfl]
  rw [seq_nx (ρ1 := [some (.lst es1), d1, none, none, none, none, none, none, none]) (by
    rw [for_nx (ds := (List.range 3).map natD) (ρ1 := [some (.lst es), none, none, none, none, none, none, none, none]) (rngV (n := 3) (by simp) (by decide))]
    exact e1)]
  rw [seq_nx (ρ1 := [some (.lst es2), d1, some (.int (k : Nat)), none, none, none, none, none, none]) (e_set (e_callU (es := es1) (ds := []) rfl rfl e2) (by simp))]
  rw [seq_nx (ρ1 := [some (.lst es5), d1, some (.int (k : Nat)), some T, some X, some Y, none, none, none]) (by
    have c1 : fCallU 0 m__law_form (fCons (fVar 2) fNil) [some (.lst es2), d1, some (.int (k : Nat)), none, none, none, none, none, none] = some (T, [some (.lst es3), d1, some (.int (k : Nat)), none, none, none, none, none, none]) := e_callU (es := es2) (ds := [.int (k : Nat)]) rfl (by simp) e3
    have c2 : fCallU 0 m__law_line (fCons (fVar 2) fNil) [some (.lst es3), d1, some (.int (k : Nat)), none, none, none, none, none, none] = some (X, [some (.lst es4), d1, some (.int (k : Nat)), none, none, none, none, none, none]) := e_callU (es := es3) (ds := [.int (k : Nat)]) rfl (by simp) e4
    have c3 : fCallU 0 m__law_line (fCons (fVar 2) fNil) [some (.lst es4), d1, some (.int (k : Nat)), none, none, none, none, none, none] = some (Y, [some (.lst es5), d1, some (.int (k : Nat)), none, none, none, none, none, none]) := e_callU (es := es4) (ds := [.int (k : Nat)]) rfl (by simp) e5
    unfold fPar3
    rw [ap_cons, c1, Option.bind_some, ap_cons, c2, Option.bind_some, ap_cons, c3]
    simp)]
  rw [seq_nx (ρ1 := [some (.lst es5), d1, some (.int (k : Nat)), some T, some X, some Y, some (Q a), none, none]) (by
    have c := e_call (g := m__law_at) (fs := fCons (fVar 3) (fCons (fVar 4) fNil)) (ρ := [some (.lst es5), d1, some (.int (k : Nat)), some T, some X, some Y, none, none, none]) (ds := [T, X]) (ρ1 := [some (.lst es5), d1, some (.int (k : Nat)), some T, some X, some Y, none, none, none]) (by simp) a1
    exact e_set c (by simp))]
  have r1 : fTup (fCons (fCall m_worth (fCons (fVar 3) (fCons (fVar 4) fNil))) (fCons (fCallK [1, 0] m_worth (fCons (fVar 4) (fCons (fVar 3) fNil))) fNil)) [some (.lst es5), d1, some (.int (k : Nat)), some T, some X, some Y, some (Q a), none, none] = some (.tup [Q a, Q a], [some (.lst es5), d1, some (.int (k : Nat)), some T, some X, some Y, some (Q a), none, none]) := by
    have c := e_call (g := m_worth) (fs := fCons (fVar 3) (fCons (fVar 4) fNil)) (ρ := [some (.lst es5), d1, some (.int (k : Nat)), some T, some X, some Y, some (Q a), none, none]) (ds := [T, X]) (ρ1 := [some (.lst es5), d1, some (.int (k : Nat)), some T, some X, some Y, some (Q a), none, none]) (by simp) w1
    have c' := k1 [some (.lst es5), d1, some (.int (k : Nat)), some T, some X, some Y, some (Q a), none, none] rfl rfl
    unfold fTup
    rw [ap_cons, c, Option.bind_some, ap_cons, c']
    simp [size_2]
  have r2 : fTup (fCons (fVar 6) (fCons (fVar 6) fNil)) [some (.lst es5), d1, some (.int (k : Nat)), some T, some X, some Y, some (Q a), none, none] = some (.tup [Q a, Q a], [some (.lst es5), d1, some (.int (k : Nat)), some T, some X, some Y, some (Q a), none, none]) := by
    unfold fTup; simp [size_2]
  rw [seq_nx (ρ1 := [some (.lst es5), d1, some (.int (k : Nat)), some T, some X, some Y, some (Q a), none, none]) (by
    rw [if_f (ρ1 := [some (.lst es5), d1, some (.int (k : Nat)), some T, some X, some Y, some (Q a), none, none])]
    · rfl
    · unfold fNotT
      rw [ap_B, e_call (ds := [.tup [Q a, Q a], .tup [Q a, Q a]]) (by rw [ap_cons, r1, Option.bind_some, e_arg1 r2]; rfl) s1]
      rfl)]
  rw [seq_nx (ρ1 := [some (.lst es6), d1, some (.int (k : Nat)), some T, some X, some Y, some (Q a), some G, none]) (e_set (e_callU (es := es5) (ds := [.int (k : Nat)]) rfl (by simp) e6) (by simp))]
  have l1 : fCall m__law_go (fCons (fVar 7) (fCons (fVar 5) fNil)) [some (.lst es6), d1, some (.int (k : Nat)), some T, some X, some Y, some (Q a), some G, none] = some (L, [some (.lst es6), d1, some (.int (k : Nat)), some T, some X, some Y, some (Q a), some G, none]) := e_call (ds := [G, Y]) (by simp) g1
  rw [seq_nx (ρ1 := [some (.lst es6), d1, some (.int (k : Nat)), some T, some X, some Y, some (Q b), some G, none]) (by
    have c := e_call (g := m__law_dot) (fs := fCons (fVar 4) (fCons (fCall m__law_go (fCons (fVar 7) (fCons (fVar 5) fNil))) fNil)) (ρ := [some (.lst es6), d1, some (.int (k : Nat)), some T, some X, some Y, some (Q a), some G, none]) (ds := [X, L]) (ρ1 := [some (.lst es6), d1, some (.int (k : Nat)), some T, some X, some Y, some (Q a), some G, none]) (by
      rw [ap_cons, ap_var, show ([some (.lst es6), d1, some (.int (k : Nat)), some T, some X, some Y, some (Q a), some G, none] : DEnv)[4]?.join = some X from rfl, Option.map_some, Option.bind_some, e_arg1 l1]; rfl) d7
    exact e_set c (by simp))]
  have q3 : fTup (fCons (fCall m_energy_product (fCons (fVar 7) (fCons (fVar 4) (fCons (fVar 5) fNil)))) (fCons (fCallK [2, 1, 0] m_energy_product (fCons (fVar 4) (fCons (fVar 5) (fCons (fVar 7) fNil)))) fNil)) [some (.lst es6), d1, some (.int (k : Nat)), some T, some X, some Y, some (Q b), some G, none] = some (.tup [Q b, Q b], [some (.lst es6), d1, some (.int (k : Nat)), some T, some X, some Y, some (Q b), some G, none]) := by
    have c := e_call (g := m_energy_product) (fs := fCons (fVar 7) (fCons (fVar 4) (fCons (fVar 5) fNil))) (ρ := [some (.lst es6), d1, some (.int (k : Nat)), some T, some X, some Y, some (Q b), some G, none]) (ds := [G, X, Y]) (ρ1 := [some (.lst es6), d1, some (.int (k : Nat)), some T, some X, some Y, some (Q b), some G, none]) (by simp) p1
    have c' := k2 [some (.lst es6), d1, some (.int (k : Nat)), some T, some X, some Y, some (Q b), some G, none] rfl rfl rfl
    unfold fTup
    rw [ap_cons, c, Option.bind_some, ap_cons, c']
    simp [size_2]
  rw [seq_nx (ρ1 := [some (.lst es6), d1, some (.int (k : Nat)), some T, some X, some Y, some (Q b), some G, some (.tup [Q b, Q b])]) (e_set q3 (by simp))]
  have r3 : fTup (fCons (fVar 6) (fCons (fVar 6) fNil)) [some (.lst es6), d1, some (.int (k : Nat)), some T, some X, some Y, some (Q b), some G, some (.tup [Q b, Q b])] = some (.tup [Q b, Q b], [some (.lst es6), d1, some (.int (k : Nat)), some T, some X, some Y, some (Q b), some G, some (.tup [Q b, Q b])]) := by
    unfold fTup; simp [size_2]
  refine e_ret ?_
  have f1 : fB (fCall m__law_same (fCons (fVar 8) (fCons (fTup (fCons (fVar 6) (fCons (fVar 6) fNil))) fNil))) [some (.lst es6), d1, some (.int (k : Nat)), some T, some X, some Y, some (Q b), some G, some (.tup [Q b, Q b])] = some (true, [some (.lst es6), d1, some (.int (k : Nat)), some T, some X, some Y, some (Q b), some G, some (.tup [Q b, Q b])]) := by
    rw [ap_B, e_call (ds := [.tup [Q b, Q b], .tup [Q b, Q b]]) (by rw [ap_cons, ap_var, show ([some (.lst es6), d1, some (.int (k : Nat)), some T, some X, some Y, some (Q b), some G, some (.tup [Q b, Q b])] : DEnv)[8]?.join = some (.tup [Q b, Q b]) from rfl, Option.map_some, Option.bind_some, e_arg1 r3]; rfl) s2]
    rfl
  unfold fAndV
  rw [f1, Option.bind_some]
  dsimp only
  rw [if_pos rfl]
  have h1 := e_call (g := m_worth) (fs := fCons (fVar 7) (fCons (fVar 5) fNil)) (ρ := [some (.lst es6), d1, some (.int (k : Nat)), some T, some X, some Y, some (Q b), some G, some (.tup [Q b, Q b])]) (ds := [G, Y]) (ρ1 := [some (.lst es6), d1, some (.int (k : Nat)), some T, some X, some Y, some (Q b), some G, some (.tup [Q b, Q b])]) (by simp) w2
  have h2 := e_call (g := m__law_at) (fs := fCons (fVar 7) (fCons (fVar 5) fNil)) (ρ := [some (.lst es6), d1, some (.int (k : Nat)), some T, some X, some Y, some (Q b), some G, some (.tup [Q b, Q b])]) (ds := [G, Y]) (ρ1 := [some (.lst es6), d1, some (.int (k : Nat)), some T, some X, some Y, some (Q b), some G, some (.tup [Q b, Q b])]) (by simp) a2
  exact e_call (ds := [Q c, Q c]) (by rw [ap_cons, h1, Option.bind_some, e_arg1 h2]; rfl) s3
theorem ev_right {es : List D} (U : Urn 1000000 es) : ∃ es', m__law_right es [] = some (.bl true, es') := by
  obtain ⟨es1, d1, U1, e1⟩ := any_loop (B := 900000) _ rfl (List.range 3) es none (U.mono (by decide))
  obtain ⟨k, es2, hk1, hk4, U2, e2⟩ := ev_size (B := 899999) U1
  obtain ⟨t, es3, F, at3, U3, e3⟩ := ev_form (B := 800000) (k := k) hk1 (by omega) (U2.mono (by decide))
  obtain ⟨xs, es4, hxl, hxa, U4, e4⟩ := ev_line (B := 700000) (k := k) (by omega) (U3.mono (by omega))
  obtain ⟨ys, es5, hyl, hya, U5, e5⟩ := ev_line (B := 600000) (k := k) (by omega) (U4.mono (by omega))
  obtain ⟨hs, ls, es6, S, U6, e6⟩ := ev_table (B := 500000) (k := k) hk1 (by omega) (U5.mono (by omega))
  rw [← left_0] at e6
  have at7 : AT 700 (mk k (left hs ls 0)) := at_mk fun a b ha hb => sz_left S (by omega) ha hb
  have F7 := left_form hs ls k
  have w1 := ev_worth F at3 (n := 21) hxa hxl hk1 (by omega) (by decide) (by decide)
  have w2 := ev_worth F7 at7 (n := 21) hya hyl hk1 (by omega) (by decide) (by decide)
  have a1 := ev_law_at at3 (xs := xs) (fun x h => (hxa x h).mono (by decide)) (k := k) (by rw [F.len]; exact Nat.le_refl _) (fun r hr => by rw [F.wid r hr]; exact Nat.le_refl _) (by omega) (by omega) (by decide)
  have a2 := ev_law_at at7 (xs := ys) (fun x h => (hya x h).mono (by decide)) (k := k) (by rw [F7.len]; exact Nat.le_refl _) (fun r hr => by rw [F7.wid r hr]; exact Nat.le_refl _) (by omega) (by omega) (by decide)
  have g1 := ev_law_go at7 (xs := ys) (fun x h => (hya x h).mono (by decide)) (by rw [F7.len]; omega) (fun r hr => by rw [F7.wid r hr]; omega) (by decide)
  have hA : AS (1 + 6 * (700 + 700 + 1)) (tled (mk k (left hs ls 0)) ys) := fun x hx' => (as_tled at7 (n := 700) (fun x h => (hya x h).mono (by decide)) (k := 6) (fun r hr => by rw [F7.wid r hr]; omega)) x hx'
  have d7 := ev_law_dot (n := 1 + 6 * (700 + 700 + 1)) (xs := xs) (ys := tled (mk k (left hs ls 0)) ys) (fun x hx' => (hxa x hx').mono (by decide)) hA (by omega) (by decide)
  have p1 := ev_energy S hk1 (by omega) hxa hya hxl hyl (by decide)
  have p2 := ev_energy S hk1 (by omega) hya hxa hyl hxl (by decide)
  have sym : dot ys (tled (mk k (left hs ls 0)) xs) = dot xs (tled (mk k (left hs ls 0)) ys) := energy_sym (fun i j => sqs_symm _ _ i j) hxl hyl
  rw [sym] at p2
  refine ⟨es6, ?_⟩
  exact pl_right (k := k) (a := wor t xs) (b := dot xs (tled (mk k (left hs ls 0)) ys)) (c := wor (mk k (left hs ls 0)) ys) e1 e2 e3 e4 e5 e6 a1 w1 g1 d7 p1 p2 w2 a2
end W

namespace W
open PySem L2 Dl
theorem gMod_ne {i j : Int} (h : j ≠ 0) : gMod (.int i) (.int j) = some (.int (i.fmod j)) := by unfold gMod; exact if_pos h
theorem gMul_ok {i j : Int} (h : mulOk i j = true) : gMul (.int i) (.int j) = some (.int (i * j)) := by unfold gMul; exact if_pos h
theorem fm_nn (x : Int) : 0 ≤ x.fmod 2147483497 ∧ x.fmod 2147483497 < 2147483497 := ⟨Int.fmod_nonneg_of_pos _ (by decide), Int.fmod_lt_of_pos _ (by decide)⟩
theorem fm_nn' (x : Int) : 0 ≤ x.fmod 2147483549 ∧ x.fmod 2147483549 < 2147483549 := ⟨Int.fmod_nonneg_of_pos _ (by decide), Int.fmod_lt_of_pos _ (by decide)⟩
theorem urn_step (s t : D) (c m : Int) (h0 : 0 ≤ m) (h1 : m < 1099511627776) : fBin gMod (fCall gInt (fCons (fBin gAdd (fBin gAdd (fBin gMul (fVar 2) (fC (.int 58313))) (fBin gMod (fCall gInt (fCons (fVar 3) fNil)) (fC (.int 2147483549)))) (fC (.int 11))) fNil)) (fC (.int 2147483497)) [some s, some t, some (.int m), some (.int c), none] =
    some (.int ((m * 58313 + c.fmod 2147483549 + 11).fmod 2147483497), [some s, some t, some (.int m), some (.int c), none]) := by
  have m1 : mulOk m 58313 = true := mulOk_of (m := 40) (n := 40) (bl_small (by omega)) (bl_small (by decide)) (by decide)
  have e2 := gMul_ok m1
  have e3 := gMod_ne (i := c) (j := 2147483549) (by decide)
  have e4 := gMod_ne (i := m * 58313 + c.fmod 2147483549 + 11) (j := 2147483497) (by decide)
  exact e_bin (e_call (e_arg1 (e_bin (e_bin (e_bin rfl (ap_C _ _) e2) (e_bin (e_call (ds := [.int c]) (e_arg1 rfl) rfl) (ap_C _ _) e3) rfl) (ap_C _ _) rfl)) rfl) (ap_C _ _) e4
def urnB : SFn := fSet 2 (fBin gMod (fCall gInt (fCons (fBin gAdd (fBin gAdd (fBin gMul (fVar 2) (fC (.int 58313))) (fBin gMod (fCall gInt (fCons (fVar 3) fNil)) (fC (.int 2147483549)))) (fC (.int 11))) fNil)) (fC (.int 2147483497)))
theorem urnB_step (s t : D) (c m : Int) (h0 : 0 ≤ m) (h1 : m < 1099511627776) : ∃ m', 0 ≤ m' ∧ m' < 1099511627776 ∧ urnB [some s, some t, some (.int m), some (.int c), none] = some (.nx [some s, some t, some (.int m'), some (.int c), none]) := by
  have hm := fm_nn (m * 58313 + c.fmod 2147483549 + 11)
  refine ⟨_, hm.1, Int.lt_trans hm.2 (by decide), ?_⟩
  exact e_set (urn_step s t c m h0 h1) (by simp)
theorem urn_loop (s t : D) : ∀ (l : List Int) (m : Int) (d3 : Option D), 0 ≤ m → m < 1099511627776 → ∃ (m' : Int) (d3' : Option D), 0 ≤ m' ∧ m' < 1099511627776 ∧ loopD (gNm 3) urnB (l.map D.int) [some s, some t, some (.int m), d3, none] = some (.nx [some s, some t, some (.int m'), d3', none])
  | [], m, d3, h0, h1 => ⟨m, d3, h0, h1, rfl⟩
  | c :: r, m, d3, h0, h1 => by
    obtain ⟨m1, k0, k1, s1⟩ := urnB_step s t c m h0 h1
    obtain ⟨m', d3', g0, g1, e⟩ := urn_loop s t r m1 (some (.int c)) k0 k1
    refine ⟨m', d3', g0, g1, ?_⟩
    rw [List.map_cons]
    unfold loopD
    have g1 : gNm 3 (.int c) [some s, some t, some (.int m), d3, none] = some [some s, some t, some (.int m), some (.int c), none] := rfl
    rw [g1, Option.bind_some, s1]
    exact e
theorem ev_urn (ns : List Int) (t : Nat) (ht : t ≤ 10) : ∃ es, Urn 1000000 es ∧ m__law_urn [.scr ns, .int (t : Nat)] = some (.lst es) := by
  have m0 : mulOk 6151 (t : Nat) = true := mulOk_of (m := 40) (n := 40) (bl_small (by decide)) (bl_small (by omega)) (by decide)
  obtain ⟨m', d3', g0, g1, e⟩ := urn_loop (.scr ns) (.int (t : Nat)) (cutD ns none (some 8)) (12307 + 6151 * t) none (by omega) (by omega)
  let own : Int := if (t : Int) < ns.length then (atI ns (t : Nat)).getD 0 else 0
  let mx : Int := (m' * 29 + own.fmod 2147483549 * 30011 + 3).fmod 2147483497
  let big : Int := if own < 0 ∨ own ≥ 10 ^ 15 then (if own < 0 then -own else own) else 0
  refine ⟨[.int big, .int mx, .int 0, .int 1], ⟨big, mx, 0, 1, rfl, by decide, by decide⟩, ?_⟩
  refine out_rt (ρ := [some (.scr ns), some (.int (t : Nat)), some (.int mx), d3', some (.int own)]) ?_
  unfold b__law_urn c__law_urn
  rw [show startD 5 [.scr ns, .int (t : Nat)] = [some (.scr ns), some (.int (t : Nat)), none, none, none] from rfl]
  have e0 : gMul (.int 6151) (.int (t : Nat)) = some (.int (6151 * (t : Nat))) := gMul_ok m0
  rw [seq_nx (ρ1 := [some (.scr ns), some (.int (t : Nat)), some (.int (12307 + 6151 * (t : Nat))), none, none]) (by simp [fSet, e0, gAdd])]
  rw [seq_nx (by
    rw [for_nx (ds := (cutD ns none (some 8)).map D.int) (ρ1 := [some (.scr ns), some (.int (t : Nat)), some (.int (12307 + 6151 * (t : Nat))), none, none]) (by simp [fItems, fSl, fNoP, fP, asI, gSl, itemsD])]
    exact e)]
  have so : fIf (fB (fBin gLt (fVar 1) (fCall gLen (fCons (fVar 0) fNil)))) (fCall gInt (fCons (fBin gIx (fVar 0) (fVar 1)) fNil)) (fC (.int 0)) [some (.scr ns), some (.int (t : Nat)), some (.int m'), d3', none] = some (.int own, [some (.scr ns), some (.int (t : Nat)), some (.int m'), d3', none]) := by
    have gl : gLen [.scr ns] = some (.int (ns.length : Nat)) := rfl
    show _ = some (D.int (if (t : Int) < ns.length then (atI ns (t : Nat)).getD 0 else 0), _)
    by_cases h : (t : Int) < ns.length
    · have hx : ∃ x, atI ns ((t : Nat) : Int) = some x := by
        refine ⟨ns[t]'(by omega), ?_⟩
        rw [Dl.atI_nat, List.getElem?_eq_getElem]
      obtain ⟨x, hx⟩ := hx
      have hi : gIx (.scr ns) (.int (t : Nat)) = some (.int x) := by show (atI ns _).map _ = _; rw [hx]; rfl
      have l1 : gLt (.int (t : Nat)) (.int (ns.length : Nat)) = some (.bl true) := by unfold gLt; simp only [h, decide_true]
      rw [if_pos h, hx]
      simp [gl, l1, asB, hi, gInt]
    · have l1 : gLt (.int (t : Nat)) (.int (ns.length : Nat)) = some (.bl false) := by unfold gLt; simp only [h, decide_false]
      rw [if_neg h]
      simp [gl, l1, asB]
  rw [seq_nx (ρ1 := [some (.scr ns), some (.int (t : Nat)), some (.int m'), d3', some (.int own)]) (e_set so (by simp))]
  clear_value own
  have hf := fm_nn' own
  have m1 : mulOk m' 29 = true := mulOk_of (m := 40) (n := 40) (bl_small (by omega)) (bl_small (by decide)) (by decide)
  have m2 : mulOk (own.fmod 2147483549) 30011 = true := mulOk_of (m := 40) (n := 40) (bl_small (by omega)) (bl_small (by decide)) (by decide)
  have e1 : gMul (.int m') (.int 29) = some (.int (m' * 29)) := gMul_ok m1
  have e2 : gMod (.int own) (.int 2147483549) = some (.int (own.fmod 2147483549)) := gMod_ne (by decide)
  have e3 : gMul (.int (own.fmod 2147483549)) (.int 30011) = some (.int (own.fmod 2147483549 * 30011)) := gMul_ok m2
  have e4 : gMod (.int (m' * 29 + own.fmod 2147483549 * 30011 + 3)) (.int 2147483497) = some (.int mx) := gMod_ne (by decide)
  have s2 : fBin gMod (fCall gInt (fCons (fBin gAdd (fBin gAdd (fBin gMul (fVar 2) (fC (.int 29))) (fBin gMul (fBin gMod (fCall gInt (fCons (fVar 4) fNil)) (fC (.int 2147483549))) (fC (.int 30011)))) (fC (.int 3))) fNil)) (fC (.int 2147483497)) [some (.scr ns), some (.int (t : Nat)), some (.int m'), d3', some (.int own)] = some (.int mx, [some (.scr ns), some (.int (t : Nat)), some (.int m'), d3', some (.int own)]) := by
    exact e_bin (e_call (e_arg1 (e_bin (e_bin (e_bin rfl (ap_C _ _) e1) (e_bin (e_bin (e_call (ds := [.int own]) (e_arg1 rfl) rfl) (ap_C _ _) e2) (ap_C _ _) e3) rfl) (ap_C _ _) rfl)) rfl) (ap_C _ _) e4
  rw [seq_nx (ρ1 := [some (.scr ns), some (.int (t : Nat)), some (.int mx), d3', some (.int own)]) (e_set s2 (by simp))]
  clear_value mx
  have p15 : gPow (.int 10) (.int 15) = some (.int (10 ^ 15)) := rfl
  have s3 : fIf (fOrT (fB (fBin gLt (fVar 4) (fC (.int 0)))) (fB (fBin gGe (fVar 4) (fBin gPow (fC (.int 10)) (fC (.int 15)))))) (fCall gAbs (fCons (fVar 4) fNil)) (fC (.int 0)) [some (.scr ns), some (.int (t : Nat)), some (.int mx), d3', some (.int own)] = some (.int big, [some (.scr ns), some (.int (t : Nat)), some (.int mx), d3', some (.int own)]) := by
    show _ = some (D.int (if own < 0 ∨ own ≥ 10 ^ 15 then (if own < 0 then -own else own) else 0), _)
    by_cases h1 : own < 0
    · simp [fOrT, gLt, h1, asB, gAbs]
    · by_cases h2 : own ≥ 10 ^ 15
      · have h3 : (10 ^ 15 : Int) ≤ own := h2
        rw [if_pos (.inr h2), if_neg h1]
        simp only [fOrT, ap_if, ap_B, ap_bin, ap_var, ap_C, ap_call, ap_cons, ap_nil, List.getElem?_cons_succ, List.getElem?_cons_zero, Option.join_some, Option.map_some, Option.bind_some, p15, gLt, gGe, h1, h3, decide_true, decide_false, asB, Bool.false_eq_true, if_false, if_true, gAbs]
      · have h3 : ¬ (10 ^ 15 : Int) ≤ own := h2
        rw [if_neg (fun z => z.elim h1 h2)]
        simp only [fOrT, ap_if, ap_B, ap_bin, ap_var, ap_C, ap_call, ap_cons, ap_nil, List.getElem?_cons_succ, List.getElem?_cons_zero, Option.join_some, Option.map_some, Option.bind_some, p15, gLt, gGe, h1, h3, decide_true, decide_false, asB, Bool.false_eq_true, if_false, if_true, gAbs]
  unfold fRetL fLst
  rw [ap_cons, s3]
  simp [show 4 ≤ sizeLine by decide]
theorem law_true (ns : List Int) (hn : ns.length ≤ 63) : m_law [.scr ns] = some (.bl true) := by
  let n : Nat := max 1 (min ns.length 2)
  have h2 : n ≤ 2 := by show max 1 (min ns.length 2) ≤ 2; omega
  refine out_rt (ρ := [some (.scr ns), none]) ?_
  unfold b_law c_law
  rw [show startD 2 [.scr ns] = [some (.scr ns), none] from rfl]
  have c1 := comp_all (its := fRng1 (fCons (fCall gMax2 (fCons (fC (.int 1)) (fCons (fCall gMin2 (fCons (fCall gLen (fCons (fVar 0) fNil)) (fCons (fC (.int 2)) fNil))) fNil))) fNil)) (g := gNm 1) (c := fYes) (e := fCallUF m__law_right (fCallF m__law_urn (fCons (fVar 0) (fCons (fVar 1) fNil)))) (vs := [1]) (ρ := [some (.scr ns), none])
    natD (fun _ => .bl true) (xs := List.range n) (by
      refine rngV (n := n) ?_ (by omega)
      have gl : gLen [.scr ns] = some (.int (ns.length : Nat)) := rfl
      have a1 : gMin2 [.int (ns.length : Nat), .int 2] = some (.int (min ns.length 2 : Nat)) := by
        unfold gMin2
        dsimp only
        congr 2
        split <;> omega
      have a2 : gMax2 [.int 1, .int (min ns.length 2 : Nat)] = some (.int (n : Nat)) := by
        unfold gMax2
        dsimp only
        congr 2
        show _ = ((max 1 (min ns.length 2) : Nat) : Int)
        split <;> omega
      simp only [ap_call, ap_cons, ap_nil, ap_var, ap_C, List.getElem?_cons_zero, Option.join_some, Option.map_some, Option.bind_some, gl, a1, a2]) (by rw [List.length_range]; exact Nat.le_trans h2 (by decide)) (fun j hj => by
      have hj := List.mem_range.mp hj
      obtain ⟨es, U, e⟩ := ev_urn ns j (by omega)
      obtain ⟨es', e'⟩ := ev_right U
      have g1 : gNm 1 (natD j) (wipeD [some (.scr ns), none] [1]) = some [some (.scr ns), some (natD j)] := rfl
      have e0 : m__law_urn [.scr ns, natD j] = some (.lst es) := e
      unfold cstep
      rw [g1, Option.bind_some]
      simp only [fYes, Option.bind_some, if_true]
      unfold fCallUF fCallF
      simp only [ap_cons, ap_nil, ap_var, List.getElem?_cons_succ, List.getElem?_cons_zero, Option.join_some, Option.map_some, Option.bind_some, e0, asL, e'])
  refine e_ret (e_call (ds := [.lst ((List.range n).map fun _ => .bl true)]) ?_ (bls_true _))
  rw [ap_cons, ap_ofL, c1]
  rfl
end W

set_option maxHeartbeats 0
namespace W
open PySem PySem.Spec PyProof.Rows L2 Dl
theorem facts {P : Program} {w : World} {K : PySem.W.Frag} {h : Heap} {mg : Str → Option Value} {f : Addr} (X : K.In h) (G : h.Ns mainGlobals mg) (hfa : mg ("law" : Str) = some (.ref f)) (c : SaysY SAY K) (hT : P.given.tree = none) :
    ∃ fd : FuncData, (∀ (s : Shared) (v : Value), BindsTo s fd ⟨[v], []⟩ [("script", v)]) ∧ ∀ base : Heap, K.In base → base.Ns mainGlobals mg → FnOk P w K mg base CX0 55 f fd ["script"] (spP K 1 false m_law) := by
  obtain ⟨fd, F⟩ := c.1.def_ 67 (d := d_law) rfl
  have e := hfa.symm.trans (He.glo_ok X G (c.1.fact 67 (f := .glo "law") rfl))
  cases e
  have b := FunD.bindsA (ps := ["script"]) F fun _ _ _ _ _ _ us hl => match us, hl with | [_], _ => rfl
  exact ⟨fd, fun s v => b s [v] rfl, fun base KX Gb => okF_law KX Gb c hT F⟩
theorem told {K : PySem.W.Frag} (hm : ∀ ns : List Int, ns.length ≤ 63 → m_law [.scr ns] = some (.bl true)) (H : Hp) (a : Addr) (ns : List Int) (hl : ns.length ≤ 63) (hO : Only H) (hS : SqL K H a (ns.map V.int)) : spP K 1 false m_law [.ref a] H (fun v _ => v = .bl true) fun _ _ _ => False :=
  ⟨fun _ => False, [.scr ns], fun _ z => z.elim, rfl, .cons (.scr (ScrAt.of hO hS)) .nil, .bl true, hm ns hl, fun v H' _ r => by cases r; rfl⟩
open PySem PySem.W PySem.Calls PyProof.Rows in
theorem holds_of (hm : ∀ ns : List Int, ns.length ≤ 63 → m_law [.scr ns] = some (.bl true)) : PySem.Challenge.rw_splitcosts_k02_tables_of_anything.Holds := by
  w_on; o_law
  refine HandSHeadRun.head_imp (r := OpenLaw.row PySem.Challenge.rw_splitcosts_k02_tables_of_anything) (q := view (OpenLaw.row PySem.Challenge.rw_splitcosts_k02_tables_of_anything).prog [0, 83]) (H := hk) (ob := ob) (M := 4000) (loose := loose) (d := HandSHeadRun.topDef (OpenLaw.row PySem.Challenge.rw_splitcosts_k02_tables_of_anything).prog 83) (kwd := []) ob_eq
    run (by kernel_rfl) (by kernel_rfl) (by kernel_rfl) (by rfl) (by first | assumption | decide +kernel) (by decide +kernel) ⟨rfl, rfl, rfl, rfl, rfl, by decide +kernel⟩ ?hw ?hc
  case hw => w_witness2
  case hc =>
    refine L2.walk_ofE (l := PySem.Challenge.rw_splitcosts_k02_tables_of_anything) (n := 63) (k := 55) (x := "script") (CX := L2.CX0) rfl (by decide) (by kernel_rfl) ⟨rfl, by decide, by decide⟩ ?F (fun _ _ _ _ z => z)
    intro w mg fa h Y G hmg0
    obtain ⟨K, KX, c⟩ := Y
    have hmg : mg ("law" : PySem.Str) = some (.ref fa) := by
      have e : (HandSHeadRun.topDef (OpenLaw.row PySem.Challenge.rw_splitcosts_k02_tables_of_anything).prog 83).name = ("law" : PySem.Str) := by kernel_rfl
      rw [← e]
      exact hmg0
    obtain ⟨fd, hb, hF⟩ := facts (P := (PySem.Challenge.rw_splitcosts_k02_tables_of_anything).prog) (w := w) KX G hmg c rfl
    exact ⟨K, fd, _, KX, hb, fun H a ns hl hO hS => told hm H a ns hl hO hS, hF⟩
end W

theorem PySem.Challenge.cw_splitcosts_k02_tables_of_anything_holds : PySem.Challenge.rw_splitcosts_k02_tables_of_anything.Holds := by
  exact W.holds_of W.law_true
