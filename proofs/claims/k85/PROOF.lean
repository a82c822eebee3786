import PyProof.Rows.All
import Wide.All
import OpenK.AllK
import Wide.FinOn
import HandS.ForMost
import HandS.Exc
import HandS.ExcOwn
import HandS.WordsExc
import HandS.CallSlots
import HandS.ExcInit
import HandS.ExcSuper
import HandS.IsInst
import HandS.TryMany
import HandS.Wide
import HandS.TupLe
import HandS.TupAny
import HandS.TupMul
import HandS.StrMore
import KE.SortData
import HandS.Replace
import KE.DatumOrd
import KE.KExcSuper
import KE.KSuper
import HandS.ExcField
import KE.GoesNew
import KE.GoesMore
import HandS.Iter
import HandS.Dict
import PyProof.FString5
import HandS.Ends
import HandS.Text
import Open.Row
import PySem.Challenge.RW_wholeoverlaps_k85_whole_lyndon_words_and
set_option Elab.async false
set_option linter.all false
set_option maxRecDepth 100000
/-! DL: a layer of plain data over HandS. -/
namespace DL
open PySem PySem.Spec PyProof.Rows L2

/-- plain data -/
inductive D where
  | non | bl (b : Bool) | int (i : Int) | str (s : Str) | tup (ds : List D) | lst (ds : List D)
  | dk (ks : List Key) (ds : List D) | dt (ks : List (List Key)) (ds : List D)
  deriving Inhabited

section
variable (K : PySem.W.Frag)
mutual
/-- the value v bears the data d, its objects in G -/
inductive Rep (G : Hp) : V → D → Prop
  | non : Rep G .non .non
  | bl (b : Bool) : Rep G (.bl b) (.bl b)
  | int (i : Int) : Rep G (.int i) (.int i)
  | str (s : Str) : Rep G (.str s) (.str s)
  | tup {a : Addr} {vs : List V} {ds : List D} : SqT K G a vs → Reps G vs ds → Rep G (.ref a) (.tup ds)
  | lst {a : Addr} {vs : List V} {ds : List D} : G a = some (.lst vs) → Reps G vs ds → Rep G (.ref a) (.lst ds)
  | dk {a : Addr} {ks : List Key} {vs : List V} {ds : List D} : G a = some (.dK (ks.zip vs)) → ks.length = vs.length → Reps G vs ds → Rep G (.ref a) (.dk ks ds)
  | dt {a : Addr} {ks : List (List Key)} {vs : List V} {ds : List D} : G a = some (.dT (ks.zip vs)) → ks.length = vs.length → Reps G vs ds → Rep G (.ref a) (.dt ks ds)
inductive Reps (G : Hp) : List V → List D → Prop
  | nil : Reps G [] []
  | cons {v : V} {d : D} {vs : List V} {ds : List D} : Rep G v d → Reps G vs ds → Reps G (v :: vs) (d :: ds)
end
end

section
variable {K : PySem.W.Frag} {G G' : Hp}
theorem sqT_same (h : Same G G') {a : Addr} {vs : List V} (x : SqT K G a vs) : SqT K G' a vs := by
  rcases x with (x | ⟨o, x⟩) | x
  · exact .inl (.inl (h _ _ x))
  · exact .inl (.inr ⟨o, h _ _ x⟩)
  · exact .inr x
mutual
theorem Rep.mono (h : Same G G') : ∀ {v : V} {d : D}, Rep K G v d → Rep K G' v d
  | _, _, .non => .non
  | _, _, .bl b => .bl b
  | _, _, .int i => .int i
  | _, _, .str s => .str s
  | _, _, .tup x r => .tup (sqT_same h x) (Reps.mono h r)
  | _, _, .lst x r => .lst (h _ _ x) (Reps.mono h r)
  | _, _, .dk x l r => .dk (h _ _ x) l (Reps.mono h r)
  | _, _, .dt x l r => .dt (h _ _ x) l (Reps.mono h r)
theorem Reps.mono (h : Same G G') : ∀ {v : List V} {d : List D}, Reps K G v d → Reps K G' v d
  | _, _, .nil => .nil
  | _, _, .cons r rs => .cons (Rep.mono h r) (Reps.mono h rs)
end
theorem Reps.len : ∀ {vs : List V} {ds : List D}, Reps K G vs ds → vs.length = ds.length
  | _, _, .nil => rfl
  | _, _, .cons _ r => by rw [List.length_cons, List.length_cons, r.len]
theorem Reps.get : ∀ {vs : List V} {ds : List D} {i : Nat} {d : D}, Reps K G vs ds → ds[i]? = some d → ∃ v, vs[i]? = some v ∧ Rep K G v d
  | _, _, _, _, .nil, e => by simp at e
  | _, _, 0, _, .cons r _, e => by simp at e; subst e; exact ⟨_, rfl, r⟩
  | _, _, i + 1, d, .cons _ t, e => by
    obtain ⟨v, h1, h2⟩ := Reps.get (i := i) (d := d) t (by simpa using e)
    exact ⟨v, by simpa using h1, h2⟩
theorem Reps.getV : ∀ {vs : List V} {ds : List D} {i : Nat} {v : V}, Reps K G vs ds → vs[i]? = some v → ∃ d, ds[i]? = some d ∧ Rep K G v d
  | _, _, _, _, .nil, e => by simp at e
  | _, _, 0, _, .cons r _, e => by simp at e; subst e; exact ⟨_, rfl, r⟩
  | _, _, i + 1, v, .cons _ t, e => by
    obtain ⟨d, h1, h2⟩ := Reps.getV (i := i) (v := v) t (by simpa using e)
    exact ⟨d, by simpa using h1, h2⟩
theorem Reps.app : ∀ {vs ws : List V} {ds es : List D}, Reps K G vs ds → Reps K G ws es → Reps K G (vs ++ ws) (ds ++ es)
  | _, _, _, _, .nil, s => s
  | _, _, _, _, .cons r t, s => .cons r (Reps.app t s)
theorem Reps.take (n : Nat) : ∀ {vs : List V} {ds : List D}, Reps K G vs ds → Reps K G (vs.take n) (ds.take n) := by
  induction n with
  | zero => intro vs ds _; exact .nil
  | succ n ih =>
    intro vs ds r
    cases r with
    | nil => exact .nil
    | cons r t => exact .cons r (ih t)
theorem Reps.drop (n : Nat) : ∀ {vs : List V} {ds : List D}, Reps K G vs ds → Reps K G (vs.drop n) (ds.drop n) := by
  induction n with
  | zero => intro vs ds r; exact r
  | succ n ih =>
    intro vs ds r
    cases r with
    | nil => exact .nil
    | cons r t => exact ih t
theorem Reps.set {v : V} {d : D} (r : Rep K G v d) : ∀ {vs : List V} {ds : List D} (i : Nat), Reps K G vs ds → Reps K G (vs.set i v) (ds.set i d)
  | _, _, _, .nil => .nil
  | _, _, 0, .cons _ t => .cons r t
  | _, _, i + 1, .cons q t => .cons q (Reps.set r i t)
theorem Reps.eraseIdx : ∀ {vs : List V} {ds : List D} (i : Nat), Reps K G vs ds → Reps K G (vs.eraseIdx i) (ds.eraseIdx i)
  | _, _, _, .nil => .nil
  | _, _, 0, .cons _ t => t
  | _, _, i + 1, .cons q t => .cons q (Reps.eraseIdx i t)
theorem Reps.ints : ∀ {vs : List V} {ns : List Int}, Reps K G vs (ns.map D.int) → vs = ns.map V.int
  | _, [], .nil => rfl
  | _, n :: ns, .cons r t => by
    cases r
    rw [Reps.ints t]
    rfl
theorem Reps.strs : ∀ {vs : List V} {ns : List Str}, Reps K G vs (ns.map D.str) → vs = ns.map V.str
  | _, [], .nil => rfl
  | _, n :: ns, .cons r t => by
    cases r
    rw [Reps.strs t]
    rfl
theorem Reps.bls : ∀ {vs : List V} {ns : List Bool}, Reps K G vs (ns.map D.bl) → vs = ns.map V.bl
  | _, [], .nil => rfl
  | _, n :: ns, .cons r t => by
    cases r
    rw [Reps.bls t]
    rfl
theorem Reps.ofInts : ∀ (ns : List Int), Reps K G (ns.map V.int) (ns.map D.int)
  | [] => .nil
  | n :: ns => .cons (.int n) (Reps.ofInts ns)
theorem Reps.ofStrs : ∀ (ns : List Str), Reps K G (ns.map V.str) (ns.map D.str)
  | [] => .nil
  | n :: ns => .cons (.str n) (Reps.ofStrs ns)
end

/-! ### worlds -/
/-- G: what never changes; H: the heap; o: the cells that may change -/
structure Wd where
  G : Hp
  H : Hp
  o : Addr → Prop
structure Step (w w' : Wd) : Prop where
  keep : ∀ a x, w.H a = some x → ¬ w.o a → w'.H a = some x
  froz : Same w.G w'.G
  newG : ∀ a, w'.G a ≠ none → w.G a ≠ none ∨ w.H a = none ∨ w.o a
  own : ∀ a, w'.o a → w.o a ∨ w.H a = none
  there : ∀ a, w.H a ≠ none → w'.H a ≠ none
theorem Step.refl (w : Wd) : Step w w := ⟨fun _ _ h _ => h, Same.refl _, fun _ h => .inl h, fun _ h => .inl h, fun _ h => h⟩
theorem Step.trans {w w1 w2 : Wd} (a : Step w w1) (b : Step w1 w2) : Step w w2 where
  keep := fun x v h n => b.keep x v (a.keep x v h n) fun q => by
    rcases a.own x q with q | q
    · exact n q
    · rw [h] at q; cases q
  froz := a.froz.trans b.froz
  newG := fun x h => by
    rcases b.newG x h with h | h | h
    · exact a.newG x h
    · refine .inr (.inl ?_)
      cases e : w.H x with
      | none => rfl
      | some v => exact absurd h (a.there x (by rw [e]; exact fun z => nomatch z))
    · rcases a.own x h with h | h
      · exact .inr (.inr h)
      · exact .inr (.inl h)
  own := fun x h => by
    rcases b.own x h with h | h
    · exact a.own x h
    · refine .inr ?_
      cases e : w.H x with
      | none => rfl
      | some v => exact absurd h (a.there x (by rw [e]; exact fun z => nomatch z))
  there := fun x h => b.there x (a.there x h)

theorem Step.back {w w1 : Wd} (s : Step w w1) {a : Addr} (h : w1.H a = none) : w.H a = none := by
  cases e : w.H a with
  | none => rfl
  | some v => exact absurd h (s.there a (by rw [e]; exact fun z => nomatch z))

/-! ### slots -/
inductive Sl where
  | any | val (d : D) | own (d : D) | mt (d : D) | bor (d : D)
  deriving Inhabited
abbrev SE := List Sl

section
variable (K : PySem.W.Frag)
/-- a container at a, its items in G -/
def Con (w : Wd) (a : Addr) : D → Prop
  | .lst ds => ∃ vs, w.H a = some (.lst vs) ∧ Reps K w.G vs ds
  | .dk ks ds => ∃ vs, w.H a = some (.dK (ks.zip vs)) ∧ ks.length = vs.length ∧ Reps K w.G vs ds
  | .dt ks ds => ∃ vs, w.H a = some (.dT (ks.zip vs)) ∧ ks.length = vs.length ∧ Reps K w.G vs ds
  | _ => False
/-- .. that is read alone (a list of the module, the script) -/
def ConB (w : Wd) (a : Addr) : D → Prop
  | .lst ds => ∃ vs, Rd w.H a (.lst vs) ∧ Reps K w.G vs ds
  | .dk ks ds => ∃ vs, w.H a = some (.dK (ks.zip vs)) ∧ ks.length = vs.length ∧ Reps K w.G vs ds
  | .dt ks ds => ∃ vs, w.H a = some (.dT (ks.zip vs)) ∧ ks.length = vs.length ∧ Reps K w.G vs ds
  | _ => False
def SlOk (w : Wd) (pa : Option Addr) : Option (Option V) → Sl → Prop
  | _, .any => True
  | some (some v), .val d => Rep K w.G v d
  | some (some (.ref a)), .own d => w.o a ∧ Con K w a d
  | some (some (.ref a)), .mt d => w.o a ∧ Con K w a d ∧ pa = some a
  | some (some (.ref a)), .bor d => ¬ w.o a ∧ ConB K w a d
  | _, _ => False
def Sl.mine : Sl → Bool
  | .own _ => true
  | .mt _ => true
  | _ => false
structure Sts (w : Wd) (ps : Nat → Option Addr) (σ : L2.St) (ρ : SE) : Prop where
  sub : Same w.G w.H
  disj : ∀ a, w.o a → w.G a = none
  tr : ∀ a, w.o a → w.H a ≠ none
  len : σ.length = ρ.length
  sl : ∀ (i : Nat) (s : Sl), ρ[i]? = some s → SlOk K w (ps i) σ[i]? s
  apart : ∀ (i j : Nat) (s t : Sl) (a : Addr), i ≠ j → ρ[i]? = some s → ρ[j]? = some t → s.mine = true → t.mine = true → σ[i]? = some (some (.ref a)) → σ[j]? = some (some (.ref a)) → False
end

section
variable {K : PySem.W.Frag} {w w' : Wd}
theorem Con.step_ne (s : Step w w') {a : Addr} (n : ¬ w.o a) : ∀ {d : D}, Con K w a d → Con K w' a d
  | .lst ds, ⟨vs, h, r⟩ => ⟨vs, s.keep a _ h n, r.mono s.froz⟩
  | .dk ks ds, ⟨vs, h, l, r⟩ => ⟨vs, s.keep a _ h n, l, r.mono s.froz⟩
  | .dt ks ds, ⟨vs, h, l, r⟩ => ⟨vs, s.keep a _ h n, l, r.mono s.froz⟩
  | .non, h => h | .bl _, h => h | .int _, h => h | .str _, h => h | .tup _, h => h
theorem rd_keep {H H' : Hp} {a : Addr} {u : HO} (k : ∀ x, H a = some x → H' a = some x) (h : Rd H a u) : Rd H' a u := by
  rcases h with h | ⟨o, h⟩
  · exact .inl (k _ h)
  · exact .inr ⟨o, k _ h⟩
theorem ConB.step_ne (s : Step w w') {a : Addr} (n : ¬ w.o a) : ∀ {d : D}, ConB K w a d → ConB K w' a d
  | .lst ds, ⟨vs, h, r⟩ => ⟨vs, rd_keep (fun x q => s.keep a x q n) h, r.mono s.froz⟩
  | .dk ks ds, ⟨vs, h, l, r⟩ => ⟨vs, s.keep a _ h n, l, r.mono s.froz⟩
  | .dt ks ds, ⟨vs, h, l, r⟩ => ⟨vs, s.keep a _ h n, l, r.mono s.froz⟩
  | .non, h => h | .bl _, h => h | .int _, h => h | .str _, h => h | .tup _, h => h
theorem Con.b {a : Addr} : ∀ {d : D}, Con K w a d → ConB K w a d
  | .lst ds, ⟨vs, h, r⟩ => ⟨vs, .inl h, r⟩
  | .dk ks ds, h => h
  | .dt ks ds, h => h
  | .non, h => h | .bl _, h => h | .int _, h => h | .str _, h => h | .tup _, h => h
end

/-! ### outcomes -/
inductive R (α : Type) where
  | ok (a : α) (ρ : SE) | raise (c : Str) (d : D) (ρ : SE) | stuck
def R.bind {α β : Type} : R α → (α → SE → R β) → R β
  | .ok a ρ, f => f a ρ
  | .raise c d ρ, _ => .raise c d ρ
  | .stuck, _ => .stuck
inductive Rv where
  | v (d : D) | o (d : D)
inductive O where
  | nx (ρ : SE) | rt (r : Rv) (ρ : SE) | bk (ρ : SE) | ct (ρ : SE) | raise (c : Str) (d : D) (ρ : SE) | stuck
def R.to {α : Type} : R α → (α → SE → O) → O
  | .ok a ρ, f => f a ρ
  | .raise c d ρ, _ => .raise c d ρ
  | .stuck, _ => .stuck
inductive FR where
  | ok (r : Rv) (out : Option D) | raise (c : Str) (d : D) | stuck
inductive Mo where
  | v | b | m
  deriving DecidableEq

def R.Post {α : Type} (ok : α → SE → Prop) (bad : Str → D → SE → Prop) : R α → Prop
  | .ok a ρ => ok a ρ
  | .raise c d ρ => bad c d ρ
  | .stuck => False
theorem R.Post.bind {α β : Type} {ok : β → SE → Prop} {bad : Str → D → SE → Prop} {r : R α} {f : α → SE → R β} (h : (r.bind f).Post ok bad) : r.Post (fun a ρ => (f a ρ).Post ok bad) bad := by
  cases r <;> exact h
theorem R.Post.imp {α : Type} {ok ok' : α → SE → Prop} {bad bad' : Str → D → SE → Prop} {r : R α} (h : r.Post ok bad) (h1 : ∀ a ρ, ok a ρ → ok' a ρ) (h2 : ∀ c d ρ, bad c d ρ → bad' c d ρ) : r.Post ok' bad' := by
  cases r with
  | ok a ρ => exact h1 _ _ h
  | raise c d ρ => exact h2 _ _ _ h
  | stuck => exact h

/-! ### contexts -/
section
variable {ι : Type}
structure Fam (P : Program) (w : World) (K : PySem.W.Frag) (mg : Str → Option Value) (base : Heap) (N : List Str) (k : Nat) (W : WX) (X : ι → Cx) : Prop where
  hP : ∀ i, (X i).prog = P
  hw : ∀ i, (X i).w = w
  hK : ∀ i, (X i).K = K
  hm : ∀ i, (X i).mg = mg
  hb : ∀ i, (X i).base = base
  hN : ∀ i, (X i).N = N
  nd : N.Nodup
  calm : ∀ i, (X i).calm = true
  room : ∀ i, Room k (X i).A
  tk : ∀ i, Takes (X i) W
  po : ∀ i, PassesOwn (model (X i).prog (X i).w) (X i).A (X i).env (X i).xe
end

/-- an exception in the air: its class c, its value d -/
def PX (K : PySem.W.Frag) (mg : Str → Option Value) (W : WX) (w : Wd) (ps : Nat → Option Addr) (σ : L2.St) (c : Str) (d : D) (ρ : SE) : Prop :=
  ∀ C w' dx v, mg c = some (.ref C) → Step w w' → w'.o = w.o → Sts K w' ps σ ρ → w'.H dx = some (.xd [("value", v)]) → w'.G dx = none → w.H dx = none → Rep K w'.G v d → W (.ref C) (some dx) σ w'.H
theorem PX.step {K : PySem.W.Frag} {mg : Str → Option Value} {W : WX} {w w1 : Wd} {ps : Nat → Option Addr} {σ : L2.St} {c : Str} {d : D} {ρ : SE} (h : PX K mg W w ps σ c d ρ) (s : Step w w1) (e : w1.o = w.o) : PX K mg W w1 ps σ c d ρ :=
  fun C w' dx v h1 h2 h3 h4 h5 h6 h7 => h C w' dx v h1 (s.trans h2) (h3.trans e) h4 h5 h6 (s.back h7)

section
variable (K : PySem.W.Frag) (mg : Str → Option Value) (W : WX)
/-- the reading t gives F's value -/
def SemE (t : TE) (F : SE → R D) : Prop := ∀ (w : Wd) (ps : Nat → Option Addr) (σ : L2.St) (ρ : SE) (Q : VK), Sts K w ps σ ρ →
  (F ρ).Post (fun d ρ' => ∀ v w', Step w w' → w'.o = w.o → Sts K w' ps σ ρ' → Rep K w'.G v d → Q v w'.H) (PX K mg W w ps σ) → t σ w.H Q
/-- no slot that is only read stands at a -/
def NoB (σ : L2.St) (ρ : SE) (a : Addr) : Prop := ∀ (j : Nat) (d : D), ρ[j]? = some (.bor d) → σ[j]? ≠ some (some (.ref a))
/-- .. a new container -/
def SemO (t : TE) (F : SE → R D) : Prop := ∀ (w : Wd) (ps : Nat → Option Addr) (σ : L2.St) (ρ : SE) (Q : VK), Sts K w ps σ ρ →
  (F ρ).Post (fun d ρ' => ∀ a w', Step w w' → w'.o = w.o → Sts K w' ps σ ρ' → Con K w' a d → w'.G a = none → w.H a = none → NoB σ ρ' a → Q (.ref a) w'.H) (PX K mg W w ps σ) → t σ w.H Q
/-- .. a container that is only looked into, here and now -/
def SemB (t : TE) (F : SE → R D) : Prop := ∀ (w : Wd) (ps : Nat → Option Addr) (σ : L2.St) (ρ : SE) (Q : VK), Sts K w ps σ ρ →
  (F ρ).Post (fun d ρ' => ∀ a w', Step w w' → w'.o = w.o → Sts K w' ps σ ρ' → ConB K w' a d → Q (.ref a) w'.H) (PX K mg W w ps σ) → t σ w.H Q
/-- a test -/
def SemT (t : TT) (F : SE → R Bool) : Prop := ∀ (w : Wd) (ps : Nat → Option Addr) (σ : L2.St) (ρ : SE) (Q : Bool → Hp → Prop), Sts K w ps σ ρ →
  (F ρ).Post (fun d ρ' => ∀ w', Step w w' → w'.o = w.o → Sts K w' ps σ ρ' → Q d w'.H) (PX K mg W w ps σ) → t σ w.H Q
def SemA (t : TA) (F : SE → R (List D)) : Prop := ∀ (w : Wd) (ps : Nat → Option Addr) (σ : L2.St) (ρ : SE) (Q : List V → Hp → Prop), Sts K w ps σ ρ →
  (F ρ).Post (fun ds ρ' => ∀ vs w', Step w w' → w'.o = w.o → Sts K w' ps σ ρ' → Reps K w'.G vs ds → Q vs w'.H) (PX K mg W w ps σ) → t σ w.H Q
/-- a statement's end -/
def PostS (w : Wd) (ps : Nat → Option Addr) (D_ : Ends) : O → Prop
  | .nx ρ => ∀ σ' w', Step w w' → Sts K w' ps σ' ρ → D_.nx σ' w'.H
  | .bk ρ => ∀ σ' w', Step w w' → Sts K w' ps σ' ρ → D_.bk σ' w'.H
  | .ct ρ => ∀ σ' w', Step w w' → Sts K w' ps σ' ρ → D_.ct σ' w'.H
  | .rt (.v d) ρ => ∀ σ' w' v, Step w w' → Sts K w' ps σ' ρ → Rep K w'.G v d → D_.rt v w'.H
  | .rt (.o d) ρ => ∀ σ' w' a, Step w w' → Sts K w' ps σ' ρ → Con K w' a d → w'.G a = none → (w.H a = none ∨ w.o a) → (∀ (i : Nat) (s : Sl), ρ[i]? = some s → s.mine = true → σ'[i]? ≠ some (some (.ref a))) → D_.rt (.ref a) w'.H
  | .raise c d ρ => ∀ C σ' w' dx v, mg c = some (.ref C) → Step w w' → Sts K w' ps σ' ρ → w'.H dx = some (.xd [("value", v)]) → w'.G dx = none → w.H dx = none → Rep K w'.G v d → W (.ref C) (some dx) σ' w'.H
  | .stuck => False
def SemS (t : TS) (F : SE → O) : Prop := ∀ (w : Wd) (ps : Nat → Option Addr) (σ : L2.St) (ρ : SE) (D_ : Ends), Sts K w ps σ ρ → PostS K mg W w ps D_ (F ρ) → t D_ σ w.H
end
theorem PostS.step {K : PySem.W.Frag} {mg : Str → Option Value} {W : WX} {w w1 : Wd} {ps : Nat → Option Addr} {D_ : Ends} {o : O} (s : Step w w1) (h : PostS K mg W w ps D_ o) : PostS K mg W w1 ps D_ o := by
  cases o with
  | nx ρ => exact fun σ' w' s' => h σ' w' (s.trans s')
  | bk ρ => exact fun σ' w' s' => h σ' w' (s.trans s')
  | ct ρ => exact fun σ' w' s' => h σ' w' (s.trans s')
  | rt r ρ =>
    cases r with
    | v d => exact fun σ' w' v s' => h σ' w' v (s.trans s')
    | o d =>
      refine fun σ' w' a s' h1 h2 h3 h4 => h σ' w' a (s.trans s') h1 h2 h3 ?_
      rcases h4 with h4 | h4
      · exact .inl (s.back h4)
      · rcases s.own a h4 with q | q
        · exact .inr q
        · exact .inl q
  | raise c d ρ => exact fun C σ' w' dx v h1 s' h2 h3 h4 h5 => h C σ' w' dx v h1 (s.trans s') h2 h3 h4 (s.back h5)
  | stuck => exact h
/-- an expression's end goes on into a statement's -/
theorem PostS.to {K : PySem.W.Frag} {mg : Str → Option Value} {W : WX} {w : Wd} {ps : Nat → Option Addr} {σ : L2.St} {D_ : Ends} {α : Type} {r : R α} {f : α → SE → O} (h : PostS K mg W w ps D_ (r.to f)) :
    r.Post (fun a ρ => PostS K mg W w ps D_ (f a ρ)) (PX K mg W w ps σ) := by
  cases r with
  | ok a ρ => exact h
  | raise c d ρ => exact fun C w' dx v h1 s e st hd hg ho r => h C σ w' dx v h1 s st hd hg ho r
  | stuck => exact h
end DL

set_option Elab.async false
set_option linter.all false
set_option maxRecDepth 100000
namespace DL
open PySem PySem.Spec PyProof.Rows L2

/-! ### a new object -/
section
variable {K : PySem.W.Frag} {w : Wd} {ps : Nat → Option Addr} {σ : L2.St} {ρ : SE}
/-- frozen at once -/
abbrev Wd.gnew (w : Wd) (p : Addr) (o : HO) : Wd := ⟨upd w.G p o, upd w.H p o, w.o⟩
/-- not (yet) frozen -/
abbrev Wd.hnew (w : Wd) (p : Addr) (o : HO) : Wd := ⟨w.G, upd w.H p o, w.o⟩
theorem upd_ne_none {H : Hp} {a p : Addr} {o : HO} (h : H a ≠ none) : upd H p o a ≠ none := by
  unfold upd
  split
  · exact fun z => nomatch z
  · exact h
theorem Same.new {H : Hp} {p : Addr} {o : HO} (hp : H p = none) : Same H (upd H p o) := fun b x e => by
  rw [upd_ne (ne_of_none e hp)]
  exact e
theorem Sts.gfree (st : Sts K w ps σ ρ) {p : Addr} (hp : w.H p = none) : w.G p = none := by
  cases e : w.G p with
  | none => rfl
  | some x => rw [st.sub p x e] at hp; cases hp
theorem Sts.ofree (st : Sts K w ps σ ρ) {p : Addr} (hp : w.H p = none) : ¬ w.o p := fun h => st.tr p h hp
theorem Sts.gnew (st : Sts K w ps σ ρ) {p : Addr} (o : HO) (hp : w.H p = none) : Step w (w.gnew p o) where
  keep := fun a x h _ => Same.new hp a x h
  froz := Same.new (st.gfree hp)
  newG := fun a h => by
    by_cases e : a = p
    · subst e
      exact .inr (.inl hp)
    · exact .inl (by rw [show (w.gnew p o).G = upd w.G p o from rfl, upd_ne e] at h; exact h)
  own := fun a h => .inl h
  there := fun a h => upd_ne_none h
theorem Sts.hnew (st : Sts K w ps σ ρ) {p : Addr} (o : HO) (hp : w.H p = none) : Step w (w.hnew p o) where
  keep := fun a x h _ => Same.new hp a x h
  froz := Same.refl _
  newG := fun a h => .inl h
  own := fun a h => .inl h
  there := fun a h => upd_ne_none h
theorem Con.grow {w' : Wd} (hG : Same w.G w'.G) {a : Addr} (hH : ∀ x, w.H a = some x → w'.H a = some x) : ∀ {d : D}, Con K w a d → Con K w' a d
  | .lst ds, ⟨vs, h, r⟩ => ⟨vs, hH _ h, r.mono hG⟩
  | .dk ks ds, ⟨vs, h, l, r⟩ => ⟨vs, hH _ h, l, r.mono hG⟩
  | .dt ks ds, ⟨vs, h, l, r⟩ => ⟨vs, hH _ h, l, r.mono hG⟩
  | .non, h => h | .bl _, h => h | .int _, h => h | .str _, h => h | .tup _, h => h
theorem ConB.grow {w' : Wd} (hG : Same w.G w'.G) {a : Addr} (hH : ∀ x, w.H a = some x → w'.H a = some x) : ∀ {d : D}, ConB K w a d → ConB K w' a d
  | .lst ds, ⟨vs, h, r⟩ => ⟨vs, rd_keep hH h, r.mono hG⟩
  | .dk ks ds, ⟨vs, h, l, r⟩ => ⟨vs, hH _ h, l, r.mono hG⟩
  | .dt ks ds, ⟨vs, h, l, r⟩ => ⟨vs, hH _ h, l, r.mono hG⟩
  | .non, h => h | .bl _, h => h | .int _, h => h | .str _, h => h | .tup _, h => h
theorem SlOk.grow {w' : Wd} (hG : Same w.G w'.G) (hH : ∀ a x, w.H a = some x → w'.H a = some x) (ho : w'.o = w.o) {pa : Option Addr} : ∀ {x : Option (Option V)} {s : Sl}, SlOk K w pa x s → SlOk K w' pa x s := fun {x s} h => by
  cases s with
  | any => unfold SlOk; trivial
  | val d =>
    cases x with
    | none => exact h
    | some x => cases x with
      | none => exact h
      | some v => exact Rep.mono hG h
  | own d =>
    cases x with
    | none => exact h
    | some x => cases x with
      | none => exact h
      | some v => cases v with
        | ref a => exact ⟨by rw [ho]; exact h.1, h.2.grow hG (hH a)⟩
        | _ => exact h
  | mt d =>
    cases x with
    | none => exact h
    | some x => cases x with
      | none => exact h
      | some v => cases v with
        | ref a => exact ⟨by rw [ho]; exact h.1, h.2.1.grow hG (hH a), h.2.2⟩
        | _ => exact h
  | bor d =>
    cases x with
    | none => exact h
    | some x => cases x with
      | none => exact h
      | some v => cases v with
        | ref a => exact ⟨by rw [ho]; exact h.1, h.2.grow hG (hH a)⟩
        | _ => exact h
/-- the world grows -/
theorem Sts.grow {w' : Wd} (st : Sts K w ps σ ρ) (hG : Same w.G w'.G) (hH : Same w.H w'.H) (ho : w'.o = w.o) (sub : Same w'.G w'.H) (nw : ∀ a, w'.G a ≠ none → w.G a ≠ none ∨ w.H a = none) : Sts K w' ps σ ρ where
  sub := sub
  disj := fun a h => by
    rw [ho] at h
    cases e : w'.G a with
    | none => rfl
    | some x =>
      rcases nw a (by rw [e]; exact fun z => nomatch z) with q | q
      · exact absurd (st.disj a h) q
      · exact absurd q (st.tr a h)
  tr := fun a h => by
    rw [ho] at h
    cases e : w.H a with
    | none => exact absurd e (st.tr a h)
    | some x => rw [hH a x e]; exact fun z => nomatch z
  len := st.len
  sl := fun i s h => (st.sl i s h).grow hG hH ho
  apart := st.apart
theorem Sts.gnewS (st : Sts K w ps σ ρ) {p : Addr} (o : HO) (hp : w.H p = none) : Sts K (w.gnew p o) ps σ ρ :=
  st.grow (Same.new (st.gfree hp)) (Same.new hp) rfl (fun a x h => by
    by_cases e : a = p
    · subst e
      have h : upd w.G a o a = some x := h
      rw [upd_same] at h
      show upd w.H a o a = some x
      rw [upd_same]; exact h
    · have h : upd w.G p o a = some x := h
      rw [upd_ne e] at h
      show upd w.H p o a = some x
      rw [upd_ne e]; exact st.sub a x h) fun a h => by
    by_cases e : a = p
    · subst e; exact .inr hp
    · have h : upd w.G p o a ≠ none := h
      rw [upd_ne e] at h; exact .inl h
theorem Sts.hnewS (st : Sts K w ps σ ρ) {p : Addr} (o : HO) (hp : w.H p = none) : Sts K (w.hnew p o) ps σ ρ :=
  st.grow (Same.refl _) (Same.new hp) rfl (fun a x h => Same.new hp a x (st.sub a x h)) fun a h => .inl h
/-- a container of nobody's is frozen -/
abbrev Wd.frz (w : Wd) (p : Addr) (o : HO) : Wd := ⟨upd w.G p o, w.H, w.o⟩
theorem frz_step {p : Addr} {o : HO} {w0 : Wd} (s : Step w0 w) (hg : w.G p = none) (hn : w0.H p = none) : Step w0 (w.frz p o) where
  keep := s.keep
  froz := s.froz.trans (Same.new hg)
  newG := fun a h => by
    by_cases e : a = p
    · subst e; exact .inr (.inl hn)
    · have h : upd w.G p o a ≠ none := h
      rw [upd_ne e] at h
      exact s.newG a h
  own := s.own
  there := s.there
theorem frz_sts {p : Addr} {o : HO} (st : Sts K w ps σ ρ) (hg : w.G p = none) (hh : w.H p = some o) (ho : ¬ w.o p) : Sts K (w.frz p o) ps σ ρ where
  sub := fun a x h => by
    by_cases e : a = p
    · subst e
      have h : upd w.G a o a = some x := h
      rw [upd_same] at h
      exact hh.trans h
    · have h : upd w.G p o a = some x := h
      rw [upd_ne e] at h
      exact st.sub a x h
  disj := fun a h => by
    have e : a ≠ p := fun e => ho (e ▸ h)
    show upd w.G p o a = none
    rw [upd_ne e]
    exact st.disj a h
  tr := st.tr
  len := st.len
  sl := fun i s h => SlOk.grow (w' := w.frz p o) (Same.new hg) (fun _ _ h => h) rfl (st.sl i s h)
  apart := st.apart
/-- what a container says of itself once it is frozen -/
theorem Con.rep {p : Addr} : ∀ {d : D}, Con K w p d → w.G p = none → ∃ o, w.H p = some o ∧ Rep K (upd w.G p o) (.ref p) d
  | .lst ds, ⟨vs, h, r⟩, hg => ⟨_, h, .lst upd_same (r.mono (Same.new hg))⟩
  | .dk ks ds, ⟨vs, h, l, r⟩, hg => ⟨_, h, .dk upd_same l (r.mono (Same.new hg))⟩
  | .dt ks ds, ⟨vs, h, l, r⟩, hg => ⟨_, h, .dt upd_same l (r.mono (Same.new hg))⟩
  | .non, h, _ => h.elim | .bl _, h, _ => h.elim | .int _, h, _ => h.elim | .str _, h, _ => h.elim | .tup _, h, _ => h.elim
/-- a frozen container may be looked into -/
theorem Rep.conB (st : Sts K w ps σ ρ) {v : V} : ∀ {d : D}, Rep K w.G v d → (match d with | .lst _ => True | .dk _ _ => True | .dt _ _ => True | _ => False) → ∃ a, v = .ref a ∧ ConB K w a d ∧ ¬ w.o a
  | .lst ds, r, _ => by
    cases r with
    | lst h r => exact ⟨_, rfl, ⟨_, .inl (st.sub _ _ h), r⟩, fun z => by rw [st.disj _ z] at h; cases h⟩
  | .dk ks ds, r, _ => by
    cases r with
    | dk h l r => exact ⟨_, rfl, ⟨_, st.sub _ _ h, l, r⟩, fun z => by rw [st.disj _ z] at h; cases h⟩
  | .dt ks ds, r, _ => by
    cases r with
    | dt h l r => exact ⟨_, rfl, ⟨_, st.sub _ _ h, l, r⟩, fun z => by rw [st.disj _ z] at h; cases h⟩
  | .non, _, h => h.elim | .bl _, _, h => h.elim | .int _, _, h => h.elim | .str _, _, h => h.elim | .tup _, _, h => h.elim
end

section
variable {K : PySem.W.Frag} {w : Wd} {ps : Nat → Option Addr} {σ : L2.St} {ρ : SE}
theorem nn_some {α : Type} {a : α} : (some a : Option α) ≠ none := fun z => nomatch z
theorem ConB.tracked {a : Addr} : ∀ {d : D}, ConB K w a d → w.H a ≠ none
  | .lst ds, ⟨vs, h, r⟩ => by
    rcases h with h | ⟨o, h⟩ <;> (rw [h]; exact nn_some)
  | .dk ks ds, ⟨vs, h, _⟩ => by rw [h]; exact nn_some
  | .dt ks ds, ⟨vs, h, _⟩ => by rw [h]; exact nn_some
  | .non, h => h.elim | .bl _, h => h.elim | .int _, h => h.elim | .str _, h => h.elim | .tup _, h => h.elim
theorem Con.tracked {a : Addr} {d : D} (h : Con K w a d) : w.H a ≠ none := h.b.tracked
theorem Sts.noB (st : Sts K w ps σ ρ) {a : Addr} (n : w.H a = none) : NoB σ ρ a := fun j d h z => by
  have q := st.sl j _ h
  rw [z] at q
  exact q.2.tracked n
end

/-! ### judgements -/
section
variable (K : PySem.W.Frag) (mg : Str → Option Value) (W : WX) {ι : Type} (X : ι → Cx)
structure BE (e : Expr) (F : SE → R D) : Prop where
  ex : ∃ t, (∀ i, PE (X i) e t) ∧ SemE K mg W t F
structure BO (e : Expr) (F : SE → R D) : Prop where
  ex : ∃ t, (∀ i, PE (X i) e t) ∧ SemO K mg W t F
structure BB (e : Expr) (F : SE → R D) : Prop where
  ex : ∃ t, (∀ i, PE (X i) e t) ∧ SemB K mg W t F
structure BT (e : Expr) (F : SE → R Bool) : Prop where
  ex : ∃ t, (∀ i, PT (X i) e t) ∧ SemT K mg W t F
structure BW (e : Expr) (F : SE → R Bool) : Prop where
  ex : ∃ t, (∀ i, PW (X i) e t) ∧ SemT K mg W t F
structure BA (es : List Expr) (F : SE → R (List D)) : Prop where
  ex : ∃ t, (∀ i, PA (X i) es t) ∧ SemA K mg W t F
structure BS (st : Stmt) (F : SE → O) : Prop where
  ex : ∃ t, (∀ i, PS (X i) st t) ∧ SemS K mg W t F
structure BSs (st : List Stmt) (F : SE → O) : Prop where
  ex : ∃ t, (∀ i, PSs (X i) st t) ∧ SemS K mg W t F
end

/-! ### the functions -/
def R.of {α : Type} (ρ : SE) : Option α → R α
  | some a => .ok a ρ
  | none => .stuck
def eVar (i : Nat) : SE → R D := fun ρ => match ρ[i]? with
  | some (.val d) => .ok d ρ
  | _ => .stuck
def eC (d : D) : SE → R D := fun ρ => .ok d ρ
def eBin (g : D → D → Option D) (Fa Fb : SE → R D) : SE → R D := fun ρ => (Fa ρ).bind fun x ρ1 => (Fb ρ1).bind fun y ρ2 => R.of ρ2 (g x y)
def eUn (g : D → Option D) (Fa : SE → R D) : SE → R D := fun ρ => (Fa ρ).bind fun x ρ1 => R.of ρ1 (g x)
def eArgs (g : List D → Option D) (Fa : SE → R (List D)) : SE → R D := fun ρ => (Fa ρ).bind fun x ρ1 => R.of ρ1 (g x)
def tBool (F : SE → R D) : SE → R Bool := fun ρ => (F ρ).bind fun x ρ1 => match x with
  | .bl b => .ok b ρ1
  | _ => .stuck
def tAndF (Fa Fb : SE → R Bool) : SE → R Bool := fun ρ => (Fa ρ).bind fun x ρ1 => if x = true then Fb ρ1 else .ok false ρ1
def tOrF (Fa Fb : SE → R Bool) : SE → R Bool := fun ρ => (Fa ρ).bind fun x ρ1 => if x = true then .ok true ρ1 else Fb ρ1
def tNotF (Fa : SE → R Bool) : SE → R Bool := fun ρ => (Fa ρ).bind fun x ρ1 => .ok (!x) ρ1
def eAnd (Fa Fb : SE → R D) : SE → R D := fun ρ => (Fa ρ).bind fun x ρ1 => match x with
  | .bl true => Fb ρ1
  | .bl false => .ok (.bl false) ρ1
  | _ => .stuck
def eOr (Fa Fb : SE → R D) : SE → R D := fun ρ => (Fa ρ).bind fun x ρ1 => match x with
  | .bl true => .ok (.bl true) ρ1
  | .bl false => Fb ρ1
  | _ => .stuck
def eNot (Fa : SE → R D) : SE → R D := fun ρ => (Fa ρ).bind fun x ρ1 => match x with
  | .bl b => .ok (.bl (!b)) ρ1
  | _ => .stuck
def eIf (Ft : SE → R Bool) (Fa Fb : SE → R D) : SE → R D := fun ρ => (Ft ρ).bind fun x ρ1 => if x = true then Fa ρ1 else Fb ρ1
def aNil : SE → R (List D) := fun ρ => .ok [] ρ
def aCons (Fa : SE → R D) (Fr : SE → R (List D)) : SE → R (List D) := fun ρ => (Fa ρ).bind fun x ρ1 => (Fr ρ1).bind fun xs ρ2 => .ok (x :: xs) ρ2
def eTup (Fa : SE → R (List D)) : SE → R D := fun ρ => (Fa ρ).bind fun xs ρ1 => if xs.length ≤ sizeLine then .ok (.tup xs) ρ1 else .stuck
def eLst (Fa : SE → R (List D)) : SE → R D := fun ρ => (Fa ρ).bind fun xs ρ1 => if xs.length ≤ sizeLine then .ok (.lst xs) ρ1 else .stuck

/-- what an operation on two values, on a list of values gives -/
def BinD (K : PySem.W.Frag) (r : R2) (g : D → D → Option D) : Prop := ∀ (w : Wd) (ps : Nat → Option Addr) (σ : L2.St) (ρ : SE) (x y : V) (a b d : D) (Q : VK), Sts K w ps σ ρ → Rep K w.G x a → Rep K w.G y b → g a b = some d →
  (∀ v w', Step w w' → w'.o = w.o → Sts K w' ps σ ρ → Rep K w'.G v d → Q v w'.H) → r x y w.H Q
def BinO (K : PySem.W.Frag) (r : R2) (g : D → D → Option D) : Prop := ∀ (w : Wd) (ps : Nat → Option Addr) (σ : L2.St) (ρ : SE) (x y : V) (a b d : D) (Q : VK), Sts K w ps σ ρ → Rep K w.G x a → Rep K w.G y b → g a b = some d →
  (∀ a w', Step w w' → w'.o = w.o → Sts K w' ps σ ρ → Con K w' a d → w'.G a = none → w.H a = none → Q (.ref a) w'.H) → r x y w.H Q
def UnD (K : PySem.W.Frag) (r : V → Hp → VK → Prop) (g : D → Option D) : Prop := ∀ (w : Wd) (ps : Nat → Option Addr) (σ : L2.St) (ρ : SE) (x : V) (a d : D) (Q : VK), Sts K w ps σ ρ → Rep K w.G x a → g a = some d →
  (∀ v w', Step w w' → w'.o = w.o → Sts K w' ps σ ρ → Rep K w'.G v d → Q v w'.H) → r x w.H Q
def ArgD (K : PySem.W.Frag) (r : List V → Hp → VK → Prop) (g : List D → Option D) : Prop := ∀ (w : Wd) (ps : Nat → Option Addr) (σ : L2.St) (ρ : SE) (xs : List V) (as : List D) (d : D) (Q : VK), Sts K w ps σ ρ → Reps K w.G xs as → g as = some d →
  (∀ v w', Step w w' → w'.o = w.o → Sts K w' ps σ ρ → Rep K w'.G v d → Q v w'.H) → r xs w.H Q
def ArgO (K : PySem.W.Frag) (r : List V → Hp → VK → Prop) (g : List D → Option D) : Prop := ∀ (w : Wd) (ps : Nat → Option Addr) (σ : L2.St) (ρ : SE) (xs : List V) (as : List D) (d : D) (Q : VK), Sts K w ps σ ρ → Reps K w.G xs as → g as = some d →
  (∀ a w', Step w w' → w'.o = w.o → Sts K w' ps σ ρ → Con K w' a d → w'.G a = none → w.H a = none → Q (.ref a) w'.H) → r xs w.H Q

section
variable {K : PySem.W.Frag} {mg : Str → Option Value} {W : WX} {P : Program} {wd : World} {base : Heap} {N : List Str} {k : Nat} {ι : Type} {X : ι → Cx}
variable {a b c e : Expr} {Fa Fb Fc : SE → R D} {pos : Pos}

theorem post_of {α : Type} {ρ : SE} {o : Option α} {ok : α → SE → Prop} {bad : Str → D → SE → Prop} (h : (R.of ρ o).Post ok bad) : ∃ a, o = some a ∧ ok a ρ := by
  cases o with
  | none => exact h.elim
  | some a => exact ⟨a, rfl, h⟩

theorem b_var (hf : Fam P wd K mg base N k W X) (i : Nat) {x : Str} (hN : N[i]? = some x := by rfl) (hv : ∀ j, Vis (X j).env.scope x := by first | exact fun _ => Or.inl rfl | exact fun _ => Or.inr (Or.inl rfl) | exact fun _ => Or.inr (Or.inr rfl))
    (hd : (x == ("__debug__" : Str)) = false := by decide) (hcd : (x == ("__classdict__" : Str)) = false := by decide) : BE K mg W X (.Name x pos) (eVar i) := by
  refine ⟨tVar i, fun j => pe_var (by rw [hf.hN]; exact hN) (hv j) hd hcd, fun w ps σ ρ Q st h => ?_⟩
  unfold eVar at h
  split at h
  · rename_i d e
    have q := st.sl i _ e
    cases e1 : σ[i]? with
    | none => rw [e1] at q; exact q.elim
    | some x =>
      cases x with
      | none => rw [e1] at q; exact q.elim
      | some v =>
        rw [e1] at q
        exact ⟨v, e1, h v w (Step.refl w) rfl st q⟩
  · exact h.elim
theorem b_int {i : Int} {j} : BE K mg W X (.Constant (.int i) j pos) (eC (.int i)) := ⟨_, fun _ => pe_int, fun w ps σ ρ Q st h => h _ w (Step.refl w) rfl st (.int i)⟩
theorem b_bl {i : Bool} {j} : BE K mg W X (.Constant (.bool i) j pos) (eC (.bl i)) := ⟨_, fun _ => pe_bl, fun w ps σ ρ Q st h => h _ w (Step.refl w) rfl st (.bl i)⟩
theorem b_non {j} : BE K mg W X (.Constant .none j pos) (eC .non) := ⟨_, fun _ => pe_non, fun w ps σ ρ Q st h => h _ w (Step.refl w) rfl st .non⟩
theorem b_str {i : Str} {j} : BE K mg W X (.Constant (.str i) j pos) (eC (.str i)) := ⟨_, fun _ => pe_str, fun w ps σ ρ Q st h => h _ w (Step.refl w) rfl st (.str i)⟩
/-- a constant of the module -/
theorem b_glob (hf : Fam P wd K mg base N k W X) {x : Str} {u : Value} (hm : mg x = some u) {v : V} {d : D} (r : RelV v u) (rd : ∀ G, Rep K G v d) (hg : ∀ j, Gl (X j) x := by exact fun _ => rfl) (hd : (x == ("__debug__" : Str)) = false := by decide) : BE K mg W X (.Name x pos) (eC d) :=
  ⟨_, fun j => pe_glob (hg j) (by rw [hf.hm]; exact hm) r hd, fun w ps σ ρ Q st h => h _ w (Step.refl w) rfl st (rd _)⟩

/-- a new container as a frozen one -/
theorem BO.be (h : BO K mg W X e Fa) : BE K mg W X e Fa := by
  obtain ⟨t, p, s⟩ := h.ex
  refine ⟨t, p, fun w ps σ ρ Q st h => s w ps σ ρ Q st (h.imp (fun d ρ' q a w' s1 o1 st1 c1 g1 n1 _ => ?_) fun _ _ _ q => q)⟩
  obtain ⟨o, hh, r⟩ := c1.rep g1
  exact q (.ref a) (w'.frz a o) (frz_step s1 g1 n1) o1 (frz_sts st1 g1 hh (by rw [o1]; exact st.ofree n1)) r

theorem b_op {op : Operator} {r : R2} {g : D → D → Option D} (ho : ∀ i, OpR (X i) (binaryOp op) r) (hg : BinD K r g) (ha : BE K mg W X a Fa) (hb : BE K mg W X b Fb) : BE K mg W X (.BinOp a op b pos) (eBin g Fa Fb) := by
  obtain ⟨ta, pa, sa⟩ := ha.ex
  obtain ⟨tb, pb, sb⟩ := hb.ex
  refine ⟨_, fun i => pe_op (ho i) (pa i) (pb i), fun w ps σ ρ Q st h => sa w ps σ ρ _ st (h.bind.imp (fun x ρ1 h1 v1 w1 s1 o1 st1 r1 => ?_) fun _ _ _ q => q)⟩
  refine sb w1 ps σ ρ1 _ st1 (h1.bind.imp (fun y ρ2 h2 v2 w2 s2 o2 st2 r2 => ?_) fun _ _ _ q => q.step s1 o1)
  obtain ⟨d, e, h3⟩ := post_of h2
  exact hg w2 ps σ ρ2 v1 v2 x y d Q st2 (r1.mono s2.froz) r2 e fun v w3 s3 o3 st3 r3 => h3 v w3 (s1.trans (s2.trans s3)) (o3.trans (o2.trans o1)) st3 r3
theorem b_opO {op : Operator} {r : R2} {g : D → D → Option D} (ho : ∀ i, OpR (X i) (binaryOp op) r) (hg : BinO K r g) (ha : BE K mg W X a Fa) (hb : BE K mg W X b Fb) : BO K mg W X (.BinOp a op b pos) (eBin g Fa Fb) := by
  obtain ⟨ta, pa, sa⟩ := ha.ex
  obtain ⟨tb, pb, sb⟩ := hb.ex
  refine ⟨_, fun i => pe_op (ho i) (pa i) (pb i), fun w ps σ ρ Q st h => sa w ps σ ρ _ st (h.bind.imp (fun x ρ1 h1 v1 w1 s1 o1 st1 r1 => ?_) fun _ _ _ q => q)⟩
  refine sb w1 ps σ ρ1 _ st1 (h1.bind.imp (fun y ρ2 h2 v2 w2 s2 o2 st2 r2 => ?_) fun _ _ _ q => q.step s1 o1)
  obtain ⟨d, e, h3⟩ := post_of h2
  refine hg w2 ps σ ρ2 v1 v2 x y d Q st2 (r1.mono s2.froz) r2 e fun v w3 s3 o3 st3 r3 g3 n3 => h3 v w3 (s1.trans (s2.trans s3)) (o3.trans (o2.trans o1)) st3 r3 g3 ?_ (st2.noB n3)
  cases e4 : w.H v with
  | none => rfl
  | some z => exact absurd n3 ((s1.trans s2).there v (by rw [e4]; exact fun z => nomatch z))
theorem b_un {op : UnaryOp} {r : V → Hp → VK → Prop} {g : D → Option D} (ho : ∀ i, UnR (X i) (unaryOp op) r) (hg : UnD K r g) (ha : BE K mg W X a Fa) : BE K mg W X (.UnaryOp op a pos) (eUn g Fa) := by
  obtain ⟨ta, pa, sa⟩ := ha.ex
  refine ⟨_, fun i => pe_un (ho i) (pa i), fun w ps σ ρ Q st h => sa w ps σ ρ _ st (h.bind.imp (fun x ρ1 h1 v1 w1 s1 o1 st1 r1 => ?_) fun _ _ _ q => q)⟩
  obtain ⟨d, e, h3⟩ := post_of h1
  exact hg w1 ps σ ρ1 v1 x d Q st1 r1 e fun v w3 s3 o3 st3 r3 => h3 v w3 (s1.trans s3) (o3.trans o1) st3 r3
theorem semCmp {r : R2} {g : D → D → Option D} {ta tb : TE} (hg : BinD K r g) (sa : SemE K mg W ta Fa) (sb : SemE K mg W tb Fb) : SemE K mg W (tOp r ta tb) (eBin g Fa Fb) := fun w ps σ ρ Q st h =>
  sa w ps σ ρ _ st (h.bind.imp (fun x ρ1 h1 v1 w1 s1 o1 st1 r1 => sb w1 ps σ ρ1 _ st1 (h1.bind.imp (fun y ρ2 h2 v2 w2 s2 o2 st2 r2 => by
    obtain ⟨d, e, h3⟩ := post_of h2
    exact hg w2 ps σ ρ2 v1 v2 x y d Q st2 (r1.mono s2.froz) r2 e fun v w3 s3 o3 st3 r3 => h3 v w3 (s1.trans (s2.trans s3)) (o3.trans (o2.trans o1)) st3 r3) fun _ _ _ q => q.step s1 o1)) fun _ _ _ q => q)
theorem b_cmp {op : CmpOp} {r : R2} {g : D → D → Option D} (ho : ∀ i, OpR (X i) (compareOp op) r) (hg : BinD K r g) (ha : BE K mg W X a Fa) (hb : BE K mg W X b Fb) (hm : behindInMarks op b = false := by first | exact nomark _ | rfl) :
    BE K mg W X (.Compare a [op] [b] pos) (eBin g Fa Fb) := by
  obtain ⟨ta, pa, sa⟩ := ha.ex
  obtain ⟨tb, pb, sb⟩ := hb.ex
  exact ⟨_, fun i => pe_cmpR (ho i) (pa i) (pb i) hm, semCmp hg sa sb⟩
theorem semTest {t : TE} (s : SemE K mg W t Fa) : SemT K mg W (tTest t) (tBool Fa) := fun w ps σ ρ Q st h =>
  s w ps σ ρ _ st (h.bind.imp (fun x ρ1 h1 v1 w1 s1 o1 st1 r1 => by
    cases r1 with
    | bl b => exact ⟨b, rfl, h1 w1 s1 o1 st1⟩
    | _ => exact h1.elim) fun _ _ _ q => q)
theorem t_cmp {op : CmpOp} {r : R2} {g : D → D → Option D} (ho : ∀ i, OpR (X i) (compareOp op) r) (hg : BinD K r g) (ha : BE K mg W X a Fa) (hb : BE K mg W X b Fb) (hm : behindInMarks op b = false := by first | exact nomark _ | rfl) :
    BT K mg W X (.Compare a [op] [b] pos) (tBool (eBin g Fa Fb)) := by
  obtain ⟨ta, pa, sa⟩ := ha.ex
  obtain ⟨tb, pb, sb⟩ := hb.ex
  exact ⟨_, fun i => pt_cmpR (ho i) (pa i) (pb i) hm, semTest (semCmp hg sa sb)⟩
theorem semB {t : TE} (s : SemE K mg W t Fa) : SemT K mg W (tB t) (tBool Fa) := fun w ps σ ρ Q st h =>
  s w ps σ ρ _ st (h.bind.imp (fun x ρ1 h1 v1 w1 s1 o1 st1 r1 => by
    cases r1 with
    | bl b => exact ⟨b, rfl, h1 w1 s1 o1 st1⟩
    | _ => exact h1.elim) fun _ _ _ q => q)
theorem t_val (ha : BE K mg W X a Fa) (he : ∀ i whole, isTrue a (X i).env whole = (do let v ← whole; standAt a.pos; holding [v] (truthy v)) := by intro _ _; rfl) : BT K mg W X a (tBool Fa) := by
  obtain ⟨ta, pa, sa⟩ := ha.ex
  exact ⟨_, fun i => pt_val (pa i) (he i), semB sa⟩
theorem t_not {F : SE → R Bool} (ha : BT K mg W X a F) : BT K mg W X (.UnaryOp .Not a pos) (tNotF F) := by
  obtain ⟨ta, pa, sa⟩ := ha.ex
  refine ⟨_, fun i => pt_not (pa i), fun w ps σ ρ Q st h => sa w ps σ ρ _ st (h.bind.imp (fun x ρ1 h1 w1 s1 o1 st1 => h1 w1 s1 o1 st1) fun _ _ _ q => q)⟩
theorem w_and1 {F : SE → R Bool} (ha : BT K mg W X a F) : BW K mg W X (.BoolOp .And [a] pos) F := by
  obtain ⟨ta, pa, sa⟩ := ha.ex
  exact ⟨_, fun i => pw_and1 (pa i), sa⟩
theorem w_or1 {F : SE → R Bool} (ha : BT K mg W X a F) : BW K mg W X (.BoolOp .Or [a] pos) F := by
  obtain ⟨ta, pa, sa⟩ := ha.ex
  exact ⟨_, fun i => pw_or1 (pa i), sa⟩
theorem w_and {rest : List Expr} {F G : SE → R Bool} (ha : BT K mg W X a F) (hb : BW K mg W X (.BoolOp .And (b :: rest) pos) G) : BW K mg W X (.BoolOp .And (a :: b :: rest) pos) (tAndF F G) := by
  obtain ⟨ta, pa, sa⟩ := ha.ex
  obtain ⟨tb, pb, sb⟩ := hb.ex
  refine ⟨_, fun i => pw_and (pa i) (pb i), fun w ps σ ρ Q st h => sa w ps σ ρ _ st (h.bind.imp (fun x ρ1 h1 w1 s1 o1 st1 => ?_) fun _ _ _ q => q)⟩
  cases x with
  | true => exact iteT (sb w1 ps σ ρ1 _ st1 (R.Post.imp (r := G ρ1) h1 (fun y ρ2 h2 w2 s2 o2 st2 => h2 w2 (s1.trans s2) (o2.trans o1) st2) fun _ _ _ q => q.step s1 o1))
  | false => exact iteF (h1 w1 s1 o1 st1)
theorem w_or {rest : List Expr} {F G : SE → R Bool} (ha : BT K mg W X a F) (hb : BW K mg W X (.BoolOp .Or (b :: rest) pos) G) : BW K mg W X (.BoolOp .Or (a :: b :: rest) pos) (tOrF F G) := by
  obtain ⟨ta, pa, sa⟩ := ha.ex
  obtain ⟨tb, pb, sb⟩ := hb.ex
  refine ⟨_, fun i => pw_or (pa i) (pb i), fun w ps σ ρ Q st h => sa w ps σ ρ _ st (h.bind.imp (fun x ρ1 h1 w1 s1 o1 st1 => ?_) fun _ _ _ q => q)⟩
  cases x with
  | false => exact iteF (sb w1 ps σ ρ1 _ st1 (R.Post.imp (r := G ρ1) h1 (fun y ρ2 h2 w2 s2 o2 st2 => h2 w2 (s1.trans s2) (o2.trans o1) st2) fun _ _ _ q => q.step s1 o1))
  | true => exact iteT (h1 w1 s1 o1 st1)
theorem t_w {F : SE → R Bool} (h : BW K mg W X e F) : BT K mg W X e F := by
  obtain ⟨ta, pa, sa⟩ := h.ex
  exact ⟨_, fun i => (pa i).pt, sa⟩
theorem b_one {op} (ha : BE K mg W X a Fa) : BE K mg W X (.BoolOp op [a] pos) Fa := by
  obtain ⟨ta, pa, sa⟩ := ha.ex
  exact ⟨_, fun i => pe_one (pa i), sa⟩
theorem b_and {rest : List Expr} (ha : BE K mg W X a Fa) (hb : BE K mg W X (.BoolOp .And (b :: rest) pos) Fb) : BE K mg W X (.BoolOp .And (a :: b :: rest) pos) (eAnd Fa Fb) := by
  obtain ⟨ta, pa, sa⟩ := ha.ex
  obtain ⟨tb, pb, sb⟩ := hb.ex
  refine ⟨_, fun i => pe_and (pa i) (pb i), fun w ps σ ρ Q st h => sa w ps σ ρ _ st (h.bind.imp (fun x ρ1 h1 v1 w1 s1 o1 st1 r1 => ?_) fun _ _ _ q => q)⟩
  cases r1 with
  | bl x =>
    refine ⟨x, rfl, ?_⟩
    cases x with
    | true => exact iteT (sb w1 ps σ ρ1 _ st1 (R.Post.imp (r := Fb ρ1) h1 (fun y ρ2 h2 v2 w2 s2 o2 st2 r2 => h2 v2 w2 (s1.trans s2) (o2.trans o1) st2 r2) fun _ _ _ q => q.step s1 o1))
    | false => exact iteF (h1 _ w1 s1 o1 st1 (.bl false))
  | _ => exact h1.elim
theorem b_or {rest : List Expr} (ha : BE K mg W X a Fa) (hb : BE K mg W X (.BoolOp .Or (b :: rest) pos) Fb) : BE K mg W X (.BoolOp .Or (a :: b :: rest) pos) (eOr Fa Fb) := by
  obtain ⟨ta, pa, sa⟩ := ha.ex
  obtain ⟨tb, pb, sb⟩ := hb.ex
  refine ⟨_, fun i => pe_or (pa i) (pb i), fun w ps σ ρ Q st h => sa w ps σ ρ _ st (h.bind.imp (fun x ρ1 h1 v1 w1 s1 o1 st1 r1 => ?_) fun _ _ _ q => q)⟩
  cases r1 with
  | bl x =>
    refine ⟨x, rfl, ?_⟩
    cases x with
    | false => exact iteF (sb w1 ps σ ρ1 _ st1 (R.Post.imp (r := Fb ρ1) h1 (fun y ρ2 h2 v2 w2 s2 o2 st2 r2 => h2 v2 w2 (s1.trans s2) (o2.trans o1) st2 r2) fun _ _ _ q => q.step s1 o1))
    | true => exact iteT (h1 _ w1 s1 o1 st1 (.bl true))
  | _ => exact h1.elim
theorem b_not (ha : BE K mg W X a Fa) : BE K mg W X (.UnaryOp .Not a pos) (eNot Fa) := by
  obtain ⟨ta, pa, sa⟩ := ha.ex
  refine ⟨_, fun i => pe_not (pa i), fun w ps σ ρ Q st h => sa w ps σ ρ _ st (h.bind.imp (fun x ρ1 h1 v1 w1 s1 o1 st1 r1 => ?_) fun _ _ _ q => q)⟩
  cases r1 with
  | bl x => exact ⟨x, rfl, h1 _ w1 s1 o1 st1 (.bl _)⟩
  | _ => exact h1.elim
theorem b_if {F : SE → R Bool} (hc : BT K mg W X c F) (ha : BE K mg W X a Fa) (hb : BE K mg W X b Fb) : BE K mg W X (.IfExp c a b pos) (eIf F Fa Fb) := by
  obtain ⟨tc, pc, sc⟩ := hc.ex
  obtain ⟨ta, pa, sa⟩ := ha.ex
  obtain ⟨tb, pb, sb⟩ := hb.ex
  refine ⟨_, fun i => pe_ifExp (pc i) (pa i) (pb i), fun w ps σ ρ Q st h => sc w ps σ ρ _ st (h.bind.imp (fun x ρ1 h1 w1 s1 o1 st1 => ?_) fun _ _ _ q => q)⟩
  cases x with
  | true => exact iteT (sa w1 ps σ ρ1 _ st1 (R.Post.imp (r := Fa ρ1) h1 (fun y ρ2 h2 v2 w2 s2 o2 st2 r2 => h2 v2 w2 (s1.trans s2) (o2.trans o1) st2 r2) fun _ _ _ q => q.step s1 o1))
  | false => exact iteF (sb w1 ps σ ρ1 _ st1 (R.Post.imp (r := Fb ρ1) h1 (fun y ρ2 h2 v2 w2 s2 o2 st2 r2 => h2 v2 w2 (s1.trans s2) (o2.trans o1) st2 r2) fun _ _ _ q => q.step s1 o1))
theorem a_nil : BA K mg W X [] aNil := ⟨_, fun _ => pa_nil, fun w ps σ ρ Q st h => h [] w (Step.refl w) rfl st .nil⟩
theorem a_cons {es : List Expr} {Fr : SE → R (List D)} (ha : BE K mg W X a Fa) (hr : BA K mg W X es Fr) (hs : ∀ i, starEach (a :: es) (X i).env = (false, eval a (X i).env) :: starEach es (X i).env := by intro _; rfl) : BA K mg W X (a :: es) (aCons Fa Fr) := by
  obtain ⟨ta, pa, sa⟩ := ha.ex
  obtain ⟨tb, pb, sb⟩ := hr.ex
  refine ⟨_, fun i => pa_cons (pa i) (pb i) (hs i), fun w ps σ ρ Q st h => sa w ps σ ρ _ st (h.bind.imp (fun x ρ1 h1 v1 w1 s1 o1 st1 r1 => ?_) fun _ _ _ q => q)⟩
  exact sb w1 ps σ ρ1 _ st1 (h1.bind.imp (fun y ρ2 h2 v2 w2 s2 o2 st2 r2 => h2 _ w2 (s1.trans s2) (o2.trans o1) st2 (.cons (r1.mono s2.froz) r2)) fun _ _ _ q => q.step s1 o1)
theorem b_tup {es : List Expr} {F : SE → R (List D)} {x1} (h : BA K mg W X es F) : BE K mg W X (.Tuple es x1 pos) (eTup F) := by
  obtain ⟨ta, pa, sa⟩ := h.ex
  refine ⟨_, fun i => pe_tup (pa i), fun w ps σ ρ Q st h => sa w ps σ ρ _ st (h.bind.imp (fun xs ρ1 h1 vs w1 s1 o1 st1 r1 => ?_) fun _ _ _ q => q)⟩
  split at h1
  · rename_i hl
    refine ⟨by rw [r1.len]; exact hl, fun p hp => h1 (.ref p) (w1.gnew p (.tup vs)) (s1.trans (st1.gnew _ hp)) o1 (st1.gnewS _ hp) (.tup (SqT.of upd_same) (r1.mono (Same.new (st1.gfree hp))))⟩
  · exact h1.elim
theorem b_lst {es : List Expr} {F : SE → R (List D)} (h : BA K mg W X es F) : BO K mg W X (.List es pos) (eLst F) := by
  obtain ⟨ta, pa, sa⟩ := h.ex
  refine ⟨_, fun i => pe_lst (pa i), fun w ps σ ρ Q st h => sa w ps σ ρ _ st (h.bind.imp (fun xs ρ1 h1 vs w1 s1 o1 st1 r1 => ?_) fun _ _ _ q => q)⟩
  split at h1
  · rename_i hl
    refine ⟨by rw [r1.len]; exact hl, fun p hp => h1 p (w1.hnew p (.lst vs)) (s1.trans (st1.hnew _ hp)) o1 (st1.hnewS _ hp) ⟨vs, upd_same, r1⟩ (st1.gfree hp) ?_ (st1.noB hp)⟩
    cases e4 : w.H p with
    | none => rfl
    | some z => exact absurd hp (s1.there p (by rw [e4]; exact fun z => nomatch z))
  · exact h1.elim
end
end DL

set_option Elab.async false
set_option linter.all false
set_option maxRecDepth 100000
namespace DL
open PySem PySem.Spec PyProof.Rows L2

section
variable {K : PySem.W.Frag} {w w' : Wd} {ps : Nat → Option Addr} {σ : L2.St} {ρ : SE}
/-- what a slot of one's own says -/
theorem slot_mine {i : Nat} {s : Sl} (st : Sts K w ps σ ρ) (h : ρ[i]? = some s) (hm : s.mine = true) : ∃ a d, σ[i]? = some (some (.ref a)) ∧ w.o a ∧ Con K w a d ∧ (s = .own d ∨ (s = .mt d ∧ ps i = some a)) := by
  have q := st.sl i s h
  cases s with
  | own d =>
    cases e : σ[i]? with
    | none => rw [e] at q; exact q.elim
    | some x => cases x with
      | none => rw [e] at q; exact q.elim
      | some v => cases v with
        | ref a => rw [e] at q; exact ⟨a, d, rfl, q.1, q.2, .inl rfl⟩
        | _ => rw [e] at q; exact q.elim
  | mt d =>
    cases e : σ[i]? with
    | none => rw [e] at q; exact q.elim
    | some x => cases x with
      | none => rw [e] at q; exact q.elim
      | some v => cases v with
        | ref a => rw [e] at q; exact ⟨a, d, rfl, q.1, q.2.1, .inr ⟨rfl, q.2.2⟩⟩
        | _ => rw [e] at q; exact q.elim
  | any => cases hm
  | val d => cases hm
  | bor d => cases hm
theorem get_set {α : Type} {l : List α} {i j : Nat} {x y : α} (h : (l.set i x)[j]? = some y) : (j = i ∧ y = x ∧ i < l.length) ∨ (j ≠ i ∧ l[j]? = some y) := by
  by_cases e : i = j
  · subst e
    by_cases hl : i < l.length
    · rw [List.getElem?_set_self hl] at h
      exact .inl ⟨rfl, (Option.some.inj h).symm, hl⟩
    · rw [List.getElem?_eq_none (by rw [List.length_set]; omega)] at h
      cases h
  · rw [List.getElem?_set_ne e] at h
    exact .inr ⟨fun q => e q.symm, h⟩
theorem mine_val {d : D} : (Sl.val d).mine = true → False := fun h => nomatch h
/-- a slot takes a frozen value -/
theorem Sts.setVal (st : Sts K w ps σ ρ) {i : Nat} {v : V} {d : D} (r : Rep K w.G v d) (hi : i < ρ.length) : Sts K w ps (σ.set i (some v)) (ρ.set i (.val d)) where
  sub := st.sub
  disj := st.disj
  tr := st.tr
  len := by rw [List.length_set, List.length_set, st.len]
  sl := fun j s h => by
    rcases get_set h with ⟨rfl, rfl, _⟩ | ⟨ne, h⟩
    · rw [List.getElem?_set_self (by rw [st.len]; exact hi)]
      exact r
    · rw [List.getElem?_set_ne (fun q => ne q.symm)]
      exact st.sl j s h
  apart := fun j1 j2 s t a ne h1 h2 m1 m2 e1 e2 => by
    rcases get_set h1 with ⟨rfl, rfl, _⟩ | ⟨n1, h1⟩
    · exact mine_val m1
    · rcases get_set h2 with ⟨rfl, rfl, _⟩ | ⟨n2, h2⟩
      · exact mine_val m2
      · rw [List.getElem?_set_ne (fun q => n1 q.symm)] at e1
        rw [List.getElem?_set_ne (fun q => n2 q.symm)] at e2
        exact st.apart j1 j2 s t a ne h1 h2 m1 m2 e1 e2
/-- a slot is forgotten -/
theorem Sts.forget1 (st : Sts K w ps σ ρ) (i : Nat) : Sts K w ps σ (ρ.set i .any) where
  sub := st.sub
  disj := st.disj
  tr := st.tr
  len := by rw [List.length_set, st.len]
  sl := fun j s h => by
    rcases get_set h with ⟨rfl, rfl, _⟩ | ⟨ne, h⟩
    · unfold SlOk; trivial
    · exact st.sl j s h
  apart := fun j1 j2 s t a ne h1 h2 m1 m2 e1 e2 => by
    rcases get_set h1 with ⟨rfl, rfl, _⟩ | ⟨n1, h1⟩
    · cases m1
    · rcases get_set h2 with ⟨rfl, rfl, _⟩ | ⟨n2, h2⟩
      · cases m2
      · exact st.apart j1 j2 s t a ne h1 h2 m1 m2 e1 e2
def forget : List Nat → SE → SE
  | [], ρ => ρ
  | i :: is, ρ => forget is (ρ.set i .any)
theorem Sts.forget : ∀ {is : List Nat} {ρ : SE}, Sts K w ps σ ρ → Sts K w ps σ (forget is ρ)
  | [], _, st => st
  | i :: is, _, st => Sts.forget (is := is) (st.forget1 i)
/-- the world with one more cell of one's own -/
abbrev Wd.own (w : Wd) (a : Addr) : Wd := ⟨w.G, w.H, fun b => w.o b ∨ b = a⟩
theorem Step.toOwn {w0 : Wd} (s : Step w0 w) {a : Addr} (n : w0.H a = none) : Step w0 (w.own a) where
  keep := s.keep
  froz := s.froz
  newG := s.newG
  own := fun b h => by
    rcases h with h | rfl
    · exact s.own b h
    · exact .inr n
  there := s.there
/-- a slot takes a new container -/
theorem Sts.setOwn (st : Sts K w ps σ ρ) {i : Nat} {a : Addr} {d : D} (c : Con K w a d) (hg : w.G a = none) (ho : ¬ w.o a) (hb : ∀ (j : Nat) (d : D), ρ[j]? = some (.bor d) → σ[j]? ≠ some (some (.ref a))) (hi : i < ρ.length) : Sts K (w.own a) ps (σ.set i (some (.ref a))) (ρ.set i (.own d)) where
  sub := st.sub
  disj := fun b h => by
    rcases h with h | rfl
    · exact st.disj b h
    · exact hg
  tr := fun b h => by
    rcases h with h | rfl
    · exact st.tr b h
    · exact c.tracked
  len := by rw [List.length_set, List.length_set, st.len]
  sl := fun j s h => by
    rcases get_set h with ⟨rfl, rfl, _⟩ | ⟨ne, h⟩
    · rw [List.getElem?_set_self (by rw [st.len]; exact hi)]
      exact ⟨.inr rfl, by cases d <;> exact c⟩
    · rw [List.getElem?_set_ne (fun q => ne q.symm)]
      have q := st.sl j s h
      cases s with
      | any => unfold SlOk; trivial
      | val d' =>
        cases e : σ[j]? with
        | none => rw [e] at q; exact q
        | some x => cases x with
          | none => rw [e] at q; exact q
          | some v => rw [e] at q; exact q
      | own d' =>
        cases e : σ[j]? with
        | none => rw [e] at q; exact q
        | some x => cases x with
          | none => rw [e] at q; exact q
          | some v => cases v with
            | ref b => rw [e] at q; exact ⟨.inl q.1, by have := q.2; cases d' <;> exact this⟩
            | _ => rw [e] at q; exact q
      | mt d' =>
        cases e : σ[j]? with
        | none => rw [e] at q; exact q
        | some x => cases x with
          | none => rw [e] at q; exact q
          | some v => cases v with
            | ref b => rw [e] at q; exact ⟨.inl q.1, by have := q.2.1; cases d' <;> exact this, q.2.2⟩
            | _ => rw [e] at q; exact q
      | bor d' =>
        cases e : σ[j]? with
        | none => rw [e] at q; exact q
        | some x => cases x with
          | none => rw [e] at q; exact q
          | some v => cases v with
            | ref b =>
              rw [e] at q
              refine ⟨fun z => ?_, by have := q.2; cases d' <;> exact this⟩
              rcases z with z | rfl
              · exact q.1 z
              · exact hb j d' h e
            | _ => rw [e] at q; exact q
  apart := fun j1 j2 s t b ne h1 h2 m1 m2 e1 e2 => by
    rcases get_set h1 with ⟨rfl, rfl, _⟩ | ⟨n1, h1⟩
    · rcases get_set h2 with ⟨rfl, _, _⟩ | ⟨n2, h2⟩
      · exact ne rfl
      · rw [List.getElem?_set_self (by rw [st.len]; exact hi)] at e1
        rw [List.getElem?_set_ne (fun q => n2 q.symm)] at e2
        obtain ⟨a2, d2, q1, q2, _⟩ := slot_mine st h2 m2
        rw [q1] at e2
        cases e1; cases e2
        exact ho q2
    ·
      rcases get_set h2 with ⟨rfl, rfl, _⟩ | ⟨n2, h2⟩
      · rw [List.getElem?_set_self (by rw [st.len]; exact hi)] at e2
        rw [List.getElem?_set_ne (fun q => n1 q.symm)] at e1
        obtain ⟨a2, d2, q1, q2, _⟩ := slot_mine st ‹ρ[j1]? = some s› m1
        rw [q1] at e1
        cases e1; cases e2
        exact ho q2
      · rw [List.getElem?_set_ne (fun q => n1 q.symm)] at e1
        rw [List.getElem?_set_ne (fun q => n2 q.symm)] at e2
        exact st.apart j1 j2 s t b ne h1 h2 m1 m2 e1 e2
/-- a slot of one's own is frozen -/
def frzS (i : Nat) (ρ : SE) : SE := match ρ[i]? with
  | some (.own d) => ρ.set i (.val d)
  | _ => ρ
theorem Sts.frzS (st : Sts K w ps σ ρ) (i : Nat) : ∃ w', Step w w' ∧ w'.H = w.H ∧ Sts K w' ps σ (frzS i ρ) := by
  unfold DL.frzS
  split
  · rename_i d e
    obtain ⟨a, d', q1, q2, q3, q4⟩ := slot_mine st e rfl
    have ed : d' = d := by
      rcases q4 with q4 | ⟨q4, _⟩
      · cases q4; rfl
      · cases q4
    subst ed
    obtain ⟨o, hh, rr⟩ := q3.rep (st.disj a q2)
    have hg := st.disj a q2
    refine ⟨⟨upd w.G a o, w.H, fun b => w.o b ∧ b ≠ a⟩, ⟨fun _ _ h _ => h, Same.new hg, fun b h => ?_, fun b h => .inl h.1, fun _ h => h⟩, rfl, ⟨?_, ?_, fun b h => st.tr b h.1, by rw [List.length_set, st.len], fun j s h => ?_, fun j1 j2 s t b ne h1 h2 m1 m2 e1 e2 => ?_⟩⟩
    · by_cases e1 : b = a
      · subst e1; exact .inr (.inr q2)
      · have h : upd w.G a o b ≠ none := h
        rw [upd_ne e1] at h; exact .inl h
    · intro b x h
      by_cases e1 : b = a
      · subst e1
        have h : upd w.G b o b = some x := h
        rw [upd_same] at h
        exact hh.trans h
      · have h : upd w.G a o b = some x := h
        rw [upd_ne e1] at h; exact st.sub b x h
    · intro b h
      show upd w.G a o b = none
      rw [upd_ne h.2]; exact st.disj b h.1
    · rcases get_set h with ⟨rfl, rfl, _⟩ | ⟨ne, h⟩
      · rw [q1]; exact rr
      · have q := st.sl j s h
        have hG : Same w.G (upd w.G a o) := Same.new hg
        cases s with
        | any => unfold SlOk; trivial
        | val d' =>
          cases e : σ[j]? with
          | none => rw [e] at q; exact q
          | some x => cases x with
            | none => rw [e] at q; exact q
            | some v => rw [e] at q; exact Rep.mono hG q
        | own d' =>
          cases e2 : σ[j]? with
          | none => rw [e2] at q; exact q
          | some x => cases x with
            | none => rw [e2] at q; exact q
            | some v => cases v with
              | ref b => rw [e2] at q; exact ⟨⟨q.1, fun z => st.apart i j _ _ a (fun z => ne z.symm) e h rfl rfl q1 (by rw [e2, z])⟩, Con.grow (w' := ⟨upd w.G a o, w.H, _⟩) hG (fun _ h => h) q.2⟩
              | _ => rw [e2] at q; exact q
        | mt d' =>
          cases e2 : σ[j]? with
          | none => rw [e2] at q; exact q
          | some x => cases x with
            | none => rw [e2] at q; exact q
            | some v => cases v with
              | ref b => rw [e2] at q; exact ⟨⟨q.1, fun z => st.apart i j _ _ a (fun z => ne z.symm) e h rfl rfl q1 (by rw [e2, z])⟩, Con.grow (w' := ⟨upd w.G a o, w.H, _⟩) hG (fun _ h => h) q.2.1, q.2.2⟩
              | _ => rw [e2] at q; exact q
        | bor d' =>
          cases e2 : σ[j]? with
          | none => rw [e2] at q; exact q
          | some x => cases x with
            | none => rw [e2] at q; exact q
            | some v => cases v with
              | ref b => rw [e2] at q; exact ⟨fun z => q.1 z.1, ConB.grow (w' := ⟨upd w.G a o, w.H, _⟩) hG (fun _ h => h) q.2⟩
              | _ => rw [e2] at q; exact q
    · rcases get_set h1 with ⟨rfl, rfl, _⟩ | ⟨n1, h1⟩
      · exact mine_val m1
      · rcases get_set h2 with ⟨rfl, rfl, _⟩ | ⟨n2, h2⟩
        · exact mine_val m2
        · exact st.apart j1 j2 s t b ne h1 h2 m1 m2 e1 e2
  · exact ⟨w, Step.refl w, rfl, st⟩
end

/-! ### statements -/
def sNx : SE → O := fun ρ => .nx ρ
def sSeq (F G : SE → O) : SE → O := fun ρ => match F ρ with
  | .nx ρ1 => G ρ1
  | o => o
def sIf (Ft : SE → R Bool) (F G : SE → O) : SE → O := fun ρ => (Ft ρ).to fun b ρ1 => if b = true then F ρ1 else G ρ1
def sRet (F : SE → R D) : SE → O := fun ρ => (F ρ).to fun d ρ1 => .rt (.v d) ρ1
def sRetO (F : SE → R D) : SE → O := fun ρ => (F ρ).to fun d ρ1 => .rt (.o d) ρ1
def sRetN : SE → O := fun ρ => .rt (.v .non) ρ
/-- the slot is taken from its owner and handed back -/
def sRetS (i : Nat) : SE → O := fun ρ => match ρ[i]? with
  | some (.own d) => .rt (.o d) (ρ.set i .any)
  | _ => .stuck
def sDrop (F : SE → R D) : SE → O := fun ρ => (F ρ).to fun _ ρ1 => .nx ρ1
/-- a slot that may be set: no parameter that is changed in place -/
def setS (i : Nat) (s : Sl) (ρ : SE) : Option SE := match ρ[i]? with
  | some (.mt _) => none
  | some _ => some (ρ.set i s)
  | none => none
def O.of : Option SE → O
  | some ρ => .nx ρ
  | none => .stuck
def sSet (i : Nat) (F : SE → R D) : SE → O := fun ρ => (F ρ).to fun d ρ1 => O.of (setS i (.val d) ρ1)
def sSetO (i : Nat) (F : SE → R D) : SE → O := fun ρ => (F ρ).to fun d ρ1 => O.of (setS i (.own d) ρ1)
def sFrz (i : Nat) (F : SE → O) : SE → O := fun ρ => F (frzS i ρ)
def whileF (Ft : SE → R Bool) (Fb : SE → O) (wp : List Nat) : Nat → SE → O
  | 0, _ => .stuck
  | n + 1, ρ => (Ft (forget wp ρ)).to fun b ρ1 => if b = true then (match Fb ρ1 with
      | .nx ρ2 => whileF Ft Fb wp n ρ2
      | .ct ρ2 => whileF Ft Fb wp n ρ2
      | .bk ρ2 => .nx (forget wp ρ2)
      | o => o) else .nx ρ1
def sWhile (n : SE → Nat) (Ft : SE → R Bool) (Fb : SE → O) (wp : List Nat) : SE → O := fun ρ => whileF Ft Fb wp (n ρ) ρ
def forF (g : D → SE → Option SE) (Fb : SE → O) (wp : List Nat) : List D → SE → O
  | [], ρ => .nx (forget wp ρ)
  | d :: ds, ρ => match g d (forget wp ρ) with
    | none => .stuck
    | some ρ1 => (match Fb ρ1 with
      | .nx ρ2 => forF g Fb wp ds ρ2
      | .ct ρ2 => forF g Fb wp ds ρ2
      | .bk ρ2 => .nx (forget wp ρ2)
      | o => o)
def sFor (Fi : SE → R (List D)) (g : D → SE → Option SE) (Fb : SE → O) (wp : List Nat) : SE → O := fun ρ => (Fi ρ).to fun ds ρ1 => forF g Fb wp ds ρ1
def sRaise (c : Str) (F : SE → R D) : SE → O := fun ρ => (F ρ).to fun d ρ1 => .raise c d ρ1

/-- an iterator's items -/
structure Src (K : PySem.W.Frag) (w : Wd) (J : It) (ds : List D) : Prop where
  go : ∀ (i : Nat) (w' : Wd), Step w w' → i < ds.length → J.go i w'.H
  yld : ∀ (i : Nat) (w' : Wd) (x : V) (H' : Hp) (d : D) (ps : Nat → Option Addr) (σ : L2.St) (ρ : SE), Step w w' → Sts K w' ps σ ρ → ds[i]? = some d → J.yld i w'.H x H' → ∃ G', Step w' ⟨G', H', w'.o⟩ ∧ Sts K ⟨G', H', w'.o⟩ ps σ ρ ∧ Rep K G' x d
  stop : ∀ (w' : Wd), Step w w' → J.stop ds.length w'.H
theorem Src.step {K : PySem.W.Frag} {w w1 : Wd} {J : It} {ds : List D} (h : Src K w J ds) (s : Step w w1) : Src K w1 J ds :=
  ⟨fun i w' s' => h.go i w' (s.trans s'), fun i w' x H' d ps σ ρ s' => h.yld i w' x H' d ps σ ρ (s.trans s'), fun w' s' => h.stop w' (s.trans s')⟩

section
variable (K : PySem.W.Frag) (mg : Str → Option Value) (W : WX) {ι : Type} (X : ι → Cx)
def SemI (t : TI) (F : SE → R (List D)) : Prop := ∀ (w : Wd) (ps : Nat → Option Addr) (σ : L2.St) (ρ : SE) (Q : It → Hp → Prop), Sts K w ps σ ρ →
  (F ρ).Post (fun ds ρ' => ∀ J w', Step w w' → w'.o = w.o → Sts K w' ps σ ρ' → Src K w' J ds → Q J w'.H) (PX K mg W w ps σ) → t σ w.H Q
structure BI (tg e : Expr) (F : SE → R (List D)) : Prop where
  ex : ∃ t, (∀ i, PI (X i) tg e t) ∧ SemI K mg W t F
/-- a target: its slots -/
def SemG (t : TG) (g : D → SE → Option SE) (is : List Nat) : Prop := ∀ (w : Wd) (ps : Nat → Option Addr) (σ : L2.St) (ρ ρ' : SE) (x : V) (d : D) (Q : L2.St → Hp → Prop), Sts K w ps σ ρ → Rep K w.G x d → g d ρ = some ρ' →
  (∀ σ', Sts K w ps σ' ρ' → (∀ vs : List Nat, (∀ i ∈ is, i ∈ vs) → wipe σ' vs = wipe σ vs) → Q σ' w.H) → t x σ w.H Q
structure BG (tg : Expr) (g : D → SE → Option SE) (is : List Nat) : Prop where
  ex : ∃ t, (∀ i, PG (X i) tg t) ∧ SemG K t g is
end

section
variable {K : PySem.W.Frag} {mg : Str → Option Value} {W : WX} {P : Program} {wd : World} {base : Heap} {N : List Str} {k : Nat} {ι : Type} {X : ι → Cx}
variable {a b c e : Expr} {Fa Fb Fc : SE → R D} {pos : Pos}

theorem ss_nil : BSs K mg W X [] sNx := ⟨_, fun _ => pss_nil, fun w ps σ ρ D_ st h => h σ w (Step.refl w) st⟩
theorem ss_cons {s : Stmt} {rest : List Stmt} {F G : SE → O} (h1 : BS K mg W X s F) (h2 : BSs K mg W X rest G) : BSs K mg W X (s :: rest) (sSeq F G) := by
  obtain ⟨ta, pa, sa⟩ := h1.ex
  obtain ⟨tb, pb, sb⟩ := h2.ex
  refine ⟨_, fun i => pss_cons (pa i) (pb i), fun w ps σ ρ D_ st h => sa w ps σ ρ _ st ?_⟩
  unfold sSeq at h
  cases e : F ρ with
  | nx ρ1 =>
    rw [e] at h
    exact fun σ1 w1 s1 st1 => sb w1 ps σ1 ρ1 D_ st1 (PostS.step s1 h)
  | bk ρ1 => rw [e] at h; exact h
  | ct ρ1 => rw [e] at h; exact h
  | rt r ρ1 => rw [e] at h; cases r <;> exact h
  | raise c d ρ1 => rw [e] at h; exact h
  | stuck => rw [e] at h; exact h
theorem ss_one {s : Stmt} {F : SE → O} (h1 : BS K mg W X s F) : BSs K mg W X [s] F := by
  obtain ⟨ta, pa, sa⟩ := h1.ex
  exact ⟨_, fun i => pss_one (pa i), sa⟩
theorem s_frz {s : Stmt} {F : SE → O} (i : Nat) (h1 : BS K mg W X s F) : BS K mg W X s (sFrz i F) := by
  obtain ⟨ta, pa, sa⟩ := h1.ex
  refine ⟨ta, pa, fun w ps σ ρ D_ st h => ?_⟩
  obtain ⟨w1, s1, e1, st1⟩ := st.frzS i
  rw [← e1]
  exact sa w1 ps σ _ D_ st1 (PostS.step s1 h)
theorem s_pass : BS K mg W X (.Pass pos) sNx := ⟨_, fun _ => ps_pass, fun w ps σ ρ D_ st h => h σ w (Step.refl w) st⟩
theorem s_doc {x j pos'} : BS K mg W X (.Expr (.Constant (.str x) j pos) pos') sNx := ⟨_, fun _ => ps_doc, fun w ps σ ρ D_ st h => h σ w (Step.refl w) st⟩
theorem s_break : BS K mg W X (.Break pos) (fun ρ => .bk ρ) := ⟨_, fun _ => ps_break, fun w ps σ ρ D_ st h => h σ w (Step.refl w) st⟩
theorem s_cont : BS K mg W X (.Continue pos) (fun ρ => .ct ρ) := ⟨_, fun _ => ps_continue, fun w ps σ ρ D_ st h => h σ w (Step.refl w) st⟩
theorem s_if {F : SE → R Bool} {ya yb : List Stmt} {G H : SE → O} (hc : BT K mg W X c F) (ha : BSs K mg W X ya G) (hb : BSs K mg W X yb H) : BS K mg W X (.If c ya yb pos) (sIf F G H) := by
  obtain ⟨tc, pc, sc⟩ := hc.ex
  obtain ⟨ta, pa, sa⟩ := ha.ex
  obtain ⟨tb, pb, sb⟩ := hb.ex
  refine ⟨_, fun i => ps_if (pc i) (pa i) (pb i), fun w ps σ ρ D_ st h => sc w ps σ ρ _ st (h.to.imp (fun x ρ1 h1 w1 s1 o1 st1 => ?_) fun _ _ _ q => q)⟩
  cases x with
  | true => exact iteT (sa w1 ps σ ρ1 _ st1 (PostS.step s1 h1))
  | false => exact iteF (sb w1 ps σ ρ1 _ st1 (PostS.step s1 h1))
theorem s_ret (ha : BE K mg W X a Fa) : BS K mg W X (.Return (some a) pos) (sRet Fa) := by
  obtain ⟨ta, pa, sa⟩ := ha.ex
  exact ⟨_, fun i => ps_ret (pa i), fun w ps σ ρ D_ st h => sa w ps σ ρ _ st (h.to.imp (fun x ρ1 h1 v1 w1 s1 o1 st1 r1 => h1 σ w1 v1 s1 st1 r1) fun _ _ _ q => q)⟩
theorem s_retO (ha : BO K mg W X a Fa) : BS K mg W X (.Return (some a) pos) (sRetO Fa) := by
  obtain ⟨ta, pa, sa⟩ := ha.ex
  refine ⟨_, fun i => ps_ret (pa i), fun w ps σ ρ D_ st h => sa w ps σ ρ _ st (h.to.imp (fun x ρ1 h1 v1 w1 s1 o1 st1 c1 g1 n1 _ => h1 σ w1 v1 s1 st1 c1 g1 (.inl n1) fun i s h2 m2 z => ?_) fun _ _ _ q => q)⟩
  obtain ⟨a2, d2, q1, q2, _⟩ := slot_mine st1 h2 m2
  rw [q1] at z
  cases z
  rw [o1] at q2
  exact st.ofree n1 q2
theorem s_retN : BS K mg W X (.Return none pos) sRetN := ⟨_, fun _ => ps_retN, fun w ps σ ρ D_ st h => h σ w .non (Step.refl w) st .non⟩
theorem s_retS (hf : Fam P wd K mg base N k W X) (i : Nat) {x : Str} {p : Pos} (hN : N[i]? = some x := by rfl) (hv : ∀ j, Vis (X j).env.scope x := by first | exact fun _ => Or.inl rfl | exact fun _ => Or.inr (Or.inl rfl) | exact fun _ => Or.inr (Or.inr rfl))
    (hd : (x == ("__debug__" : Str)) = false := by decide) (hcd : (x == ("__classdict__" : Str)) = false := by decide) : BS K mg W X (.Return (some (.Name x p)) pos) (sRetS i) := by
  refine ⟨_, fun j => ps_ret (pe_var (i := i) (by rw [hf.hN]; exact hN) (hv j) hd hcd), fun w ps σ ρ D_ st h => ?_⟩
  unfold sRetS at h
  split at h
  · rename_i d e
    obtain ⟨a, d', q1, q2, q3, q4⟩ := slot_mine st e rfl
    have ed : d' = d := by
      rcases q4 with q4 | ⟨q4, _⟩
      · cases q4; rfl
      · cases q4
    subst ed
    refine ⟨.ref a, q1, h σ w a (Step.refl w) (st.forget1 i) q3 (st.disj a q2) (.inr q2) fun j s h2 m2 z => ?_⟩
    rcases get_set h2 with ⟨rfl, rfl, _⟩ | ⟨ne, h2⟩
    · cases m2
    · exact st.apart i j _ _ a (fun z => ne z.symm) e h2 rfl m2 q1 z
  · exact h.elim
theorem s_expr (ha : BE K mg W X a Fa) (hs : ∀ i, swapsWith a none pos.line (X i).env = pure false := by intro _; rfl) : BS K mg W X (.Expr a pos) (sDrop Fa) := by
  obtain ⟨ta, pa, sa⟩ := ha.ex
  exact ⟨_, fun i => ps_expr (pa i) (hs i), fun w ps σ ρ D_ st h => sa w ps σ ρ _ st (h.to.imp (fun x ρ1 h1 v1 w1 s1 o1 st1 r1 => h1 σ w1 s1 st1) fun _ _ _ q => q)⟩
theorem setS_lt {i : Nat} {s : Sl} {ρ ρ' : SE} (h : setS i s ρ = some ρ') : ρ' = ρ.set i s ∧ i < ρ.length := by
  unfold setS at h
  split at h
  · cases h
  · rename_i e
    cases h
    refine ⟨rfl, ?_⟩
    by_cases hl : i < ρ.length
    · exact hl
    · rw [List.getElem?_eq_none (by omega)] at e; cases e
  · cases h
theorem postO {w : Wd} {ps : Nat → Option Addr} {D_ : Ends} {o : Option SE} (h : PostS K mg W w ps D_ (O.of o)) : ∃ ρ', o = some ρ' ∧ ∀ σ' w', Step w w' → Sts K w' ps σ' ρ' → D_.nx σ' w'.H := by
  cases o with
  | none => exact h.elim
  | some ρ' => exact ⟨ρ', rfl, h⟩
theorem s_set (hf : Fam P wd K mg base N k W X) (i : Nat) {x : Str} {p : Pos} (ha : BE K mg W X a Fa) (hN : N[i]? = some x := by rfl) (hx : ∀ j, Loc (X j).env.scope x := by first | exact fun _ => Or.inl rfl | exact fun _ => Or.inr rfl)
    (hs : ∀ j, swapsWith a (some (.Name x p)) pos.line (X j).env = pure false := by intro _; rfl) (hfn : ∀ j, (X j).fn x = true ∨ (X j).env.scope.names.lookup x = some .local := by first | exact fun _ => .inl rfl | exact fun _ => .inr rfl) :
    BS K mg W X (.Assign [.Name x p] a pos) (sSet i Fa) := by
  obtain ⟨ta, pa, sa⟩ := ha.ex
  refine ⟨_, fun j => ps_set (i := i) (by rw [hf.hN]; exact hf.nd) (by rw [hf.hN]; exact hN) (hx j) (pa j) (hs j) (hfn j), fun w ps σ ρ D_ st h => sa w ps σ ρ _ st (h.to.imp (fun d ρ1 h1 v1 w1 s1 o1 st1 r1 => ?_) fun _ _ _ q => q)⟩
  obtain ⟨ρ2, e2, h2⟩ := postO h1
  obtain ⟨rfl, hl⟩ := setS_lt e2
  exact h2 _ w1 s1 (st1.setVal r1 hl)
theorem s_setO (hf : Fam P wd K mg base N k W X) (i : Nat) {x : Str} {p : Pos} (ha : BO K mg W X a Fa) (hN : N[i]? = some x := by rfl) (hx : ∀ j, Loc (X j).env.scope x := by first | exact fun _ => Or.inl rfl | exact fun _ => Or.inr rfl)
    (hs : ∀ j, swapsWith a (some (.Name x p)) pos.line (X j).env = pure false := by intro _; rfl) (hfn : ∀ j, (X j).fn x = true ∨ (X j).env.scope.names.lookup x = some .local := by first | exact fun _ => .inl rfl | exact fun _ => .inr rfl) :
    BS K mg W X (.Assign [.Name x p] a pos) (sSetO i Fa) := by
  obtain ⟨ta, pa, sa⟩ := ha.ex
  refine ⟨_, fun j => ps_set (i := i) (by rw [hf.hN]; exact hf.nd) (by rw [hf.hN]; exact hN) (hx j) (pa j) (hs j) (hfn j), fun w ps σ ρ D_ st h => sa w ps σ ρ _ st (h.to.imp (fun d ρ1 h1 v1 w1 s1 o1 st1 c1 g1 n1 b1 => ?_) fun _ _ _ q => q)⟩
  obtain ⟨ρ2, e2, h2⟩ := postO h1
  obtain ⟨rfl, hl⟩ := setS_lt e2
  exact h2 _ (w1.own v1) (s1.toOwn n1) (st1.setOwn c1 g1 (by rw [o1]; exact st.ofree n1) b1 hl)
end
end DL

set_option Elab.async false
set_option linter.all false
set_option maxRecDepth 100000
namespace DL
open PySem PySem.Spec PyProof.Rows L2

/-! ### raise -/
/-- the class c (at C) makes exceptions of one argument, kept as value -/
def Mks (X : Cx) (c : Str) (C : Addr) : Prop := ∀ (e : Expr) (te : TE) (p pos : Pos), starEach [e] X.env = (false, eval e X.env) :: starEach [] X.env → PE X e te → PMk X (.Call (.Name c p) [e] [] pos) (fun σ H Q => te σ H fun v H1 => ∀ d, H1 d = none → Q (.ref C) (some d) (upd H1 d (.xd [("value", v)])))

section
variable {K : PySem.W.Frag} {mg : Str → Option Value} {W : WX} {P : Program} {wd : World} {base : Heap} {N : List Str} {k : Nat} {ι : Type} {X : ι → Cx}
variable {a b c e : Expr} {Fa Fb Fc : SE → R D} {pos : Pos}
theorem s_raise (hf : Fam P wd K mg base N k W X) {x : Str} {C : Addr} {p pos' : Pos} (hC : mg x = some (.ref C)) (hm : ∀ i, Mks (X i) x C) (ha : BE K mg W X a Fa) (he : ∀ i, starEach [a] (X i).env = (false, eval a (X i).env) :: starEach [] (X i).env := by intro _; rfl) : BS K mg W X (.Raise (some (.Call (.Name x p) [a] [] pos)) none pos') (sRaise x Fa) := by
  obtain ⟨ta, pa, sa⟩ := ha.ex
  refine ⟨_, fun i => ps_raise (hf.calm i) (hf.tk i) (hm i a ta p pos (he i) (pa i)), fun w ps σ ρ D_ st h => sa w ps σ ρ _ st (h.to.imp (fun d ρ1 h1 v1 w1 s1 o1 st1 r1 dx hdx => ?_) fun _ _ _ q => q)⟩
  exact h1 C σ (w1.hnew dx (.xd [("value", v1)])) dx v1 hC (s1.trans (st1.hnew _ hdx)) (st1.hnewS _ hdx) upd_same (st1.gfree hdx) (s1.back hdx) r1

/-! ### targets -/
theorem wipe_get (vs : List Nat) : ∀ (σ : L2.St) (j : Nat), (wipe σ vs)[j]? = if j ∈ vs then (if j < σ.length then some none else none) else σ[j]? := by
  induction vs with
  | nil =>
    intro σ j
    rw [if_neg (by simp)]
    rfl
  | cons u vs ih =>
    intro σ j
    show ((wipe σ vs).set u none)[j]? = _
    by_cases eu : u = j
    · subst eu
      rw [if_pos (by simp)]
      by_cases hl : u < σ.length
      · rw [List.getElem?_set_self (by rw [wipe_length]; exact hl), if_pos hl]
      · rw [List.getElem?_eq_none (by rw [List.length_set, wipe_length]; omega), if_neg hl]
    · rw [List.getElem?_set_ne eu, ih]
      by_cases hj : j ∈ vs
      · rw [if_pos hj, if_pos (List.mem_cons_of_mem _ hj)]
      · rw [if_neg hj, if_neg (fun q => by
          rcases List.mem_cons.mp q with q | q
          · exact eu q.symm
          · exact hj q)]
theorem wipe_set {v : Option V} {vs : List Nat} {σ : L2.St} {i : Nat} (hi : i ∈ vs) : wipe (σ.set i v) vs = wipe σ vs := by
  apply List.ext_getElem?
  intro j
  rw [wipe_get, wipe_get, List.length_set]
  by_cases hj : j ∈ vs
  · rw [if_pos hj, if_pos hj]
  · rw [if_neg hj, if_neg hj, List.getElem?_set_ne (fun q => hj (by rw [← q]; exact hi))]
def gNm (i : Nat) : D → SE → Option SE := fun d ρ => setS i (.val d) ρ
theorem g_name (hf : Fam P wd K mg base N k W X) (i : Nat) {x : Str} (hN : N[i]? = some x := by rfl) (hx : ∀ j, Loc (X j).env.scope x := by first | exact fun _ => Or.inl rfl | exact fun _ => Or.inr rfl)
    (hfn : ∀ j, (X j).fn x = true ∨ (X j).env.scope.names.lookup x = some .local := by first | exact fun _ => .inl rfl | exact fun _ => .inr rfl) : BG K X (.Name x pos) (gNm i) [i] :=
  ⟨gName i, fun j => pg_name (by rw [hf.hN]; exact hf.nd) (by rw [hf.hN]; exact hN) (hx j) (hfn j), fun w ps σ ρ ρ' x d Q st r e h => by
    obtain ⟨rfl, hl⟩ := setS_lt e
    exact h _ (st.setVal r hl) fun vs hv => wipe_set (hv i (by simp))⟩
def SemGs (K : PySem.W.Frag) (t : TGs) (g : List D → SE → Option SE) (is : List Nat) : Prop := ∀ (w : Wd) (ps : Nat → Option Addr) (σ : L2.St) (ρ ρ' : SE) (xs : List V) (ds : List D) (Q : L2.St → Hp → Prop), Sts K w ps σ ρ → Reps K w.G xs ds → g ds ρ = some ρ' →
  (∀ σ', Sts K w ps σ' ρ' → (∀ vs : List Nat, (∀ i ∈ is, i ∈ vs) → wipe σ' vs = wipe σ vs) → Q σ' w.H) → t xs σ w.H Q
structure BGs (K : PySem.W.Frag) {ι : Type} (X : ι → Cx) (n : Nat) (tgs : List Expr) (g : List D → SE → Option SE) (is : List Nat) : Prop where
  ex : ∃ t, (∀ i, PGs (X i) tgs t) ∧ SemGs K t g is ∧ (∀ ds ρ ρ', g ds ρ = some ρ' → ds.length = n)
def gsNil : List D → SE → Option SE := fun ds ρ => match ds with
  | [] => some ρ
  | _ => none
def gsCons (g : D → SE → Option SE) (gs : List D → SE → Option SE) : List D → SE → Option SE := fun ds ρ => match ds with
  | [] => none
  | d :: r => match g d ρ with
    | some ρ1 => gs r ρ1
    | none => none
theorem gs_nil : BGs K X 0 [] gsNil [] := by
  refine ⟨gNil, fun _ => pgs_nil, fun w ps σ ρ ρ' xs ds Q st r e h => ?_, fun ds ρ ρ' e => ?_⟩
  · cases r with
    | nil => cases e; exact ⟨rfl, h σ st fun _ _ => rfl⟩
    | cons _ _ => cases e
  · cases ds with
    | nil => rfl
    | cons _ _ => cases e
theorem gs_cons {t : Expr} {ts : List Expr} {g : D → SE → Option SE} {gs : List D → SE → Option SE} {is js : List Nat} {n : Nat} (h1 : BG K X t g is) (h2 : BGs K X n ts gs js)
    (hs : ∀ i, (assignEach (t :: ts) (X i).env).map (·.2) = assign t (X i).env :: (assignEach ts (X i).env).map (·.2) := by intro _; rfl) : BGs K X (n + 1) (t :: ts) (gsCons g gs) (is ++ js) := by
  obtain ⟨t1, p1, s1⟩ := h1.ex
  obtain ⟨t2, p2, s2, l2⟩ := h2.ex
  refine ⟨_, fun i => pgs_cons (p1 i) (p2 i) (hs i), fun w ps σ ρ ρ' xs ds Q st r e h => ?_, fun ds ρ ρ' e => ?_⟩
  · cases r with
    | nil => cases e
    | cons r rs =>
      rename_i v d vs ds
      unfold gsCons at e
      simp only at e
      split at e
      · rename_i ρ1 e1
        refine ⟨v, vs, rfl, s1 w ps σ ρ ρ1 v d _ st r e1 fun σ1 st1 hw1 => ?_⟩
        refine s2 w ps σ1 ρ1 ρ' vs ds _ st1 rs e fun σ2 st2 hw2 => h σ2 st2 fun us hu => ?_
        rw [hw2 us fun i hi => hu i (List.mem_append_right _ hi), hw1 us fun i hi => hu i (List.mem_append_left _ hi)]
      · cases e
  · cases ds with
    | nil => cases e
    | cons d ds =>
      unfold gsCons at e
      simp only at e
      split at e
      · rw [List.length_cons, l2 _ _ _ e]
      · cases e
def gTupF (gs : List D → SE → Option SE) : D → SE → Option SE := fun d ρ => match d with
  | .tup ds => gs ds ρ
  | _ => none
theorem g_tup (hf : Fam P wd K mg base N k W X) {es : List Expr} {kk : Nat} {gs : List D → SE → Option SE} {is : List Nat} {n : Nat} (h : BGs K X n es gs is)
    (hn : ∀ i, (assignEach es (X i).env).length = n := by intro _; rfl) (hst : ∀ i, (assignEach es (X i).env).findIdx? (·.1) = none := by intro _; rfl) : BG K X (.Tuple es kk pos) (gTupF gs) is := by
  obtain ⟨t, p, s, l⟩ := h.ex
  refine ⟨gTup K n t, fun i => by
    have q := pg_tup (pos := pos) (k := kk) (hf.calm i) (p i) (hn i) (hst i)
    rw [hf.hK i] at q
    exact q, fun w ps σ ρ ρ' x d Q st r e h => ?_⟩
  unfold gTupF at e
  split at e
  · rename_i ds
    cases r with
    | tup hs rs =>
      rename_i a vs
      refine ⟨a, vs, rfl, sqT_same st.sub hs, ?_, s w ps σ ρ ρ' vs ds Q st rs e h⟩
      rw [rs.len]
      exact l _ _ _ e
  · cases e

/-! ### for -/
theorem s_for (hf : Fam P wd K mg base N k W X) {tg iter : Expr} {body : List Stmt} {Fi : SE → R (List D)} {g : D → SE → Option SE} {is wp : List Nat} {Fb : SE → O} (hi : BI K mg W X tg iter Fi) (hg : BG K X tg g is) (hb : BSs K mg W X body Fb)
    (hs : ∀ i x, foldedSetIterable iter (X i).env x = pure x := by intro _ _; rfl) : BS K mg W X (.For tg iter body [] pos) (sFor Fi g Fb wp) := by
  obtain ⟨ti, pi, si⟩ := hi.ex
  obtain ⟨tg', pg, sg⟩ := hg.ex
  obtain ⟨tb, pb, sb⟩ := hb.ex
  refine ⟨_, fun i => ps_for (hf.po i) (hf.calm i) (pi i) (pg i) (pb i) (hs i), fun w ps σ ρ D_ st h => si w ps σ ρ _ st (h.to.imp (fun ds ρ1 h1 J w1 s1 o1 st1 sr => ?_) fun _ _ _ q => q)⟩
  refine ⟨fun i m σ' H => ∃ w' ρ', w'.H = H ∧ Step w1 w' ∧ Sts K w' ps σ' ρ' ∧ i + m = ds.length ∧ PostS K mg W w' ps D_ (forF g Fb wp (ds.drop i) ρ'), ⟨ds.length, w1, ρ1, rfl, Step.refl _, st1, by omega, PostS.step s1 h1⟩, fun i m σ' H hW => ?_⟩
  obtain ⟨w', ρ', rfl, s', st', em, hp⟩ := hW
  by_cases hlt : i < ds.length
  · refine .inr ⟨sr.go i w' s' hlt, fun σ2 H2 => ∃ w2 ρ2, w2.H = H2 ∧ Step w' w2 ∧ Sts K w2 ps σ2 ρ2 ∧ PostS K mg W w2 ps D_ (forF g Fb wp (ds.drop (i + 1)) ρ2), fun σ2 H2 hN => ?_, fun x H2 hy => ?_⟩
    · obtain ⟨w2, ρ2, e2, s2, st2, hp2⟩ := hN
      exact ⟨m - 1, by omega, w2, ρ2, e2, s'.trans s2, st2, by omega, hp2⟩
    · have ed : ds[i]? = some ds[i] := List.getElem?_eq_getElem hlt
      obtain ⟨G', s3, st3, r3⟩ := sr.yld i w' x H2 ds[i] ps σ' ρ' s' st' ed hy
      rw [List.drop_eq_getElem_cons hlt] at hp
      unfold forF at hp
      split at hp
      · exact hp.elim
      · rename_i ρ2 e2
        refine sg ⟨G', H2, w'.o⟩ ps σ' _ ρ2 x ds[i] _ (st3.forget (is := wp)) r3 e2 fun σ4 st4 _ => ?_
        refine sb ⟨G', H2, w'.o⟩ ps σ4 ρ2 _ st4 ?_
        cases eb : Fb ρ2 with
        | nx ρ5 =>
          rw [eb] at hp
          exact fun σ5 w5 s5 st5 => ⟨w5, ρ5, rfl, s3.trans s5, st5, PostS.step (s3.trans s5) hp⟩
        | ct ρ5 =>
          rw [eb] at hp
          exact fun σ5 w5 s5 st5 => ⟨w5, ρ5, rfl, s3.trans s5, st5, PostS.step (s3.trans s5) hp⟩
        | bk ρ5 =>
          rw [eb] at hp
          exact fun σ5 w5 s5 st5 => hp σ5 w5 (s3.trans s5) (st5.forget (is := wp))
        | rt r ρ5 =>
          rw [eb] at hp
          have hp := PostS.step s3 hp
          cases r <;> exact hp
        | raise c d ρ5 =>
          rw [eb] at hp
          exact PostS.step s3 hp
        | stuck => rw [eb] at hp; exact hp.elim
  · have e : ds.length = i := by omega
    refine .inl ⟨by rw [← e]; exact sr.stop w' s', ?_⟩
    rw [List.drop_of_length_le (by omega)] at hp
    exact hp σ' w' (Step.refl _) (st'.forget (is := wp))

/-! ### while -/
theorem s_while (hf : Fam P wd K mg base N k W X) {body : List Stmt} {Ft : SE → R Bool} {Fb : SE → O} (n : SE → Nat) (wp : List Nat) (hc : BT K mg W X c Ft) (hb : BSs K mg W X body Fb) : BS K mg W X (.While c body [] pos) (sWhile n Ft Fb wp) := by
  obtain ⟨tc, pc, sc⟩ := hc.ex
  obtain ⟨tb, pb, sb⟩ := hb.ex
  refine ⟨_, fun i => ps_while (hf.po i) (pc i) (pb i), fun w ps σ ρ D_ st h => ?_⟩
  refine ⟨fun m σ' H => ∃ w' ρ', w'.H = H ∧ Step w w' ∧ Sts K w' ps σ' ρ' ∧ PostS K mg W w' ps D_ (whileF Ft Fb wp m ρ'), ⟨n ρ, w, ρ, rfl, Step.refl w, st, h⟩, fun m σ' H hW => ?_⟩
  obtain ⟨w', ρ', rfl, s', st', hp⟩ := hW
  cases m with
  | zero => exact hp.elim
  | succ m =>
    unfold whileF at hp
    refine sc w' ps σ' _ _ (st'.forget (is := wp)) ((hp.to (σ := σ')).imp (fun x ρ1 h1 w1 s1 o1 st1 => ?_) fun _ _ _ q => q)
    · cases x with
      | false => exact iteF (h1 σ' w1 s1 st1)
      | true =>
        refine iteT ⟨fun σ2 H2 => ∃ w2 ρ2, w2.H = H2 ∧ Step w1 w2 ∧ Sts K w2 ps σ2 ρ2 ∧ PostS K mg W w2 ps D_ (whileF Ft Fb wp m ρ2), fun σ2 H2 hN => ?_, ?_⟩
        · obtain ⟨w2, ρ2, e2, s2, st2, hp2⟩ := hN
          exact ⟨m, Nat.lt_succ_self m, w2, ρ2, e2, s'.trans (s1.trans s2), st2, hp2⟩
        · refine sb w1 ps σ' ρ1 _ st1 ?_
          simp only [if_true] at h1
          cases eb : Fb ρ1 with
          | nx ρ5 =>
            rw [eb] at h1
            exact fun σ5 w5 s5 st5 => ⟨w5, ρ5, rfl, s5, st5, PostS.step (s1.trans s5) h1⟩
          | ct ρ5 =>
            rw [eb] at h1
            exact fun σ5 w5 s5 st5 => ⟨w5, ρ5, rfl, s5, st5, PostS.step (s1.trans s5) h1⟩
          | bk ρ5 =>
            rw [eb] at h1
            exact fun σ5 w5 s5 st5 => h1 σ5 w5 (s1.trans s5) (st5.forget (is := wp))
          | rt r ρ5 =>
            rw [eb] at h1
            have h1 := PostS.step s1 h1
            cases r <;> exact h1
          | raise c d ρ5 =>
            rw [eb] at h1
            exact PostS.step s1 h1
          | stuck => rw [eb] at h1; exact h1.elim


/-! ### what is walked -/
theorem src_range {w : Wd} {lo : Int} {n : Nat} : Src K w (Itr lo n) ((List.range n).map fun i => D.int (lo + (i : Nat))) where
  go := fun i w' s h => by
    rw [List.length_map, List.length_range] at h
    exact h
  yld := fun i w' x H' d ps σ ρ s st e hy => by
    obtain ⟨rfl, rfl⟩ := hy
    rw [List.getElem?_map] at e
    have : d = .int (lo + (i : Nat)) := by
      cases e1 : (List.range n)[i]? with
      | none => rw [e1] at e; cases e
      | some j =>
        rw [e1] at e
        have ej : j = i := by
          have := List.getElem?_eq_some_iff.mp e1
          obtain ⟨h1, h2⟩ := this
          rw [List.getElem_range] at h2
          exact h2.symm
        subst ej
        exact (Option.some.inj e).symm
    subst this
    exact ⟨w'.G, Step.refl _, st, .int _⟩
  stop := fun w' s => by
    rw [List.length_map, List.length_range]
    exact Nat.le_refl n
def okI (i : Int) : Bool := decide (-(2 ^ 62) ≤ i) && decide (i < 2 ^ 62)
def iR1 : List D → Option (List D)
  | [.int j] => if okI j = true then some ((List.range j.toNat).map fun i => D.int (0 + (i : Nat))) else none
  | _ => none
def iR2 : List D → Option (List D)
  | [.int i, .int j] => if okI i = true ∧ okI j = true then some ((List.range (j - i).toNat).map fun k => D.int (i + (k : Nat))) else none
  | _ => none
def iOf (g : List D → Option (List D)) (F : SE → R (List D)) : SE → R (List D) := fun ρ => (F ρ).bind fun xs ρ1 => R.of ρ1 (g xs)
theorem okI_iff {i : Int} (h : okI i = true) : -(2 ^ 62) ≤ i ∧ i < 2 ^ 62 := by
  unfold okI at h
  rw [Bool.and_eq_true, decide_eq_true_eq, decide_eq_true_eq] at h
  exact h
theorem i_range1 (hf : Fam P wd K mg base N k W X) {tg : Expr} {p : Pos} {F : SE → R (List D)} (hm : mg "range" = none) (ha : BA K mg W X [a] F) (hg : ∀ i, Gl (X i) "range" := by exact fun _ => rfl) (hs : ∀ i, starEach [a] (X i).env = [(false, eval a (X i).env)] := by exact fun _ => rfl) :
    BI K mg W X tg (.Call (.Name "range" p) [a] [] pos) (iOf iR1 F) := by
  obtain ⟨ta, pa, sa⟩ := ha.ex
  refine ⟨_, fun i => pi_range1 (hg i) (by rw [hf.hm]; exact hm) (pa i) (hs i), fun w ps σ ρ Q st h => sa w ps σ ρ _ st (h.bind.imp (fun xs ρ1 h1 vs w1 s1 o1 st1 r1 => ?_) fun _ _ _ q => q)⟩
  obtain ⟨ds, e, h2⟩ := post_of h1
  unfold iR1 at e
  split at e
  · rename_i j
    split at e
    · rename_i hj
      cases e
      obtain ⟨b1, b2⟩ := okI_iff hj
      cases r1 with
      | cons r rr =>
        cases rr
        cases r
        exact ⟨j, rfl, b1, b2, h2 _ w1 s1 o1 st1 src_range⟩
    · cases e
  · cases e
theorem i_range2 (hf : Fam P wd K mg base N k W X) {tg : Expr} {p : Pos} {F : SE → R (List D)} (hm : mg "range" = none) (ha : BA K mg W X [a, b] F) (hg : ∀ i, Gl (X i) "range" := by exact fun _ => rfl)
    (hs : ∀ i, starEach [a, b] (X i).env = [(false, eval a (X i).env), (false, eval b (X i).env)] := by exact fun _ => rfl) (hs2 : ∀ i, starEach [b] (X i).env = [(false, eval b (X i).env)] := by exact fun _ => rfl) :
    BI K mg W X tg (.Call (.Name "range" p) [a, b] [] pos) (iOf iR2 F) := by
  obtain ⟨ta, pa, sa⟩ := ha.ex
  refine ⟨_, fun i => pi_range2 (hg i) (by rw [hf.hm]; exact hm) (pa i) (hs i) (hs2 i), fun w ps σ ρ Q st h => sa w ps σ ρ _ st (h.bind.imp (fun xs ρ1 h1 vs w1 s1 o1 st1 r1 => ?_) fun _ _ _ q => q)⟩
  obtain ⟨ds, e, h2⟩ := post_of h1
  unfold iR2 at e
  split at e
  · rename_i i j
    split at e
    · rename_i hj
      cases e
      obtain ⟨b1, b2⟩ := okI_iff hj.1
      obtain ⟨b3, b4⟩ := okI_iff hj.2
      cases r1 with
      | cons r rr => cases rr with
        | cons r2 rr =>
          cases rr
          cases r
          cases r2
          exact ⟨i, j, rfl, ⟨b1, b2, b3, b4⟩, h2 _ w1 s1 o1 st1 src_range⟩
    · cases e
  · cases e

/-! ### a list, a tuple, a text -/
def iSq (K : PySem.W.Frag) (tl : TE) : TI := fun σ H R => tl σ H fun x H1 => (∃ a, x = .ref a ∧ (∃ xs, SqL K H1 a xs) ∧ R (Itl K a) H1) ∨ (∃ a, x = .ref a ∧ (∃ xs, SqT K H1 a xs) ∧ R (Itt K a) H1) ∨ (∃ z, x = .str z ∧ R (Its z) H1)
theorem pi_sq {X : Cx} {tg l : Expr} {tl : TE} (hl : PE X l tl) : PI X tg l (iSq X.K tl) := by
  refine ⟨fun pins s σ H R I h => ?_⟩
  refine thn (hl.run pins s σ H _ I h) fun v s1 ⟨x, H1, I1, r1, q1⟩ => ?_
  rcases q1 with ⟨a, e, ⟨xs, hq⟩, q⟩ | ⟨a, e, ⟨xs, hq⟩, q⟩ | ⟨z, e, q⟩
  · subst e
    cases r1
    obtain ⟨its, rv, p, hz⟩ := I1.list hq
    refine wpAny_pyIter_list p.isList ?_
    refine ⟨s1.heap.objs.size, [s1.heap.objs.size], _, _, H1, rfl, I1.kept (t' := s1.toks) fun b o e => Heap.get?_push_of_some _ e, turn_list a _, ⟨_, Heap.get?_push_size _ rfl, rfl, rfl⟩, fun b hb => ?_, q⟩
    have e : b = s1.heap.objs.size := by simpa using hb
    subst e
    exact I1.fpOk (Nat.le_refl _) (I1.hok.fresh (Nat.le_refl _))
  · subst e
    cases r1
    obtain ⟨its, rv, p, hz⟩ := I1.tuple hq
    refine wpAny_pyIter_tuple (show s1.heap.IsTuple a its.toArray from p) ?_
    refine ⟨s1.heap.objs.size, [s1.heap.objs.size], _, _, H1, rfl, I1.kept (t' := s1.toks) fun b o e => Heap.get?_push_of_some _ e, turn_tuple a _, ⟨_, Heap.get?_push_size _ rfl, rfl, rfl⟩, fun b hb => ?_, q⟩
    have e : b = s1.heap.objs.size := by simpa using hb
    subst e
    exact I1.fpOk (Nat.le_refl _) (I1.hok.fresh (Nat.le_refl _))
  · subst e
    obtain ⟨t, rfl⟩ := r1
    cases ha : z.cps.all (· < 128)
    · exact wpAny_pyIter_wide ha (pi_one (tk := s1.toks) I1 _ (turn_str _ z t "str_iterator" (.inr rfl)) ⟨_, Heap.get?_push_size _ rfl, rfl, rfl⟩ q)
    · exact wpAny_pyIter_ascii ha (pi_one (tk := s1.toks) I1 _ (turn_str _ z t "str_ascii_iterator" (.inl rfl)) ⟨_, Heap.get?_push_size _ rfl, rfl, rfl⟩ q)
def signs (z : Str) : List D := z.cps.toList.map fun c => D.str ⟨#[c]⟩
def seqItems : D → Option (List D)
  | .lst ds => some ds
  | .tup ds => some ds
  | .str z => some (signs z)
  | _ => none
def iSeq (F : SE → R D) : SE → R (List D) := fun ρ => (F ρ).bind fun x ρ1 => R.of ρ1 (seqItems x)
theorem sql_inj {K : PySem.W.Frag} {H : Hp} {a : Addr} {vs xs : List V} (h : H a = some (.lst vs)) (q : Rd H a (.lst xs)) : xs = vs := by
  rcases q with q | ⟨o, q⟩
  · rw [h] at q; cases q; rfl
  · rw [h] at q; cases q
/-- a list that stays as it is -/
theorem src_list {w : Wd} {a : Addr} {vs : List V} {ds : List D} (h : Rd w.H a (.lst vs)) (ho : ¬ w.o a) (r : Reps K w.G vs ds) : Src K w (Itl K a) ds where
  go := fun i w' s hi => ⟨vs, vs[i]'(by rw [r.len]; exact hi), .inl (rd_keep (fun x q => s.keep a x q ho) h), List.getElem?_eq_getElem _⟩
  yld := fun i w' x H' d ps σ ρ s st e hy => by
    obtain ⟨rfl, hy⟩ := hy
    have q := hy vs (.inl (rd_keep (fun x q => s.keep a x q ho) h))
    obtain ⟨d', e', r'⟩ := r.getV q
    rw [e] at e'
    cases e'
    exact ⟨w'.G, Step.refl _, st, r'.mono s.froz⟩
  stop := fun w' s => ⟨vs, .inl (rd_keep (fun x q => s.keep a x q ho) h), by rw [r.len]; exact Nat.le_refl _⟩
theorem src_tup {w : Wd} {a : Addr} {vs : List V} {ds : List D} {ps : Nat → Option Addr} {σ : L2.St} {ρ : SE} (st0 : Sts K w ps σ ρ) (h : SqT K w.G a vs) (r : Reps K w.G vs ds) : Src K w (Itt K a) ds := by
  have key : ∀ w', Step w w' → SqT K w'.H a vs := fun w' s => by
    rcases h with (h | ⟨o, h⟩) | h
    · exact .inl (.inl (s.keep a _ (st0.sub _ _ h) fun z => by rw [st0.disj _ z] at h; cases h))
    · exact .inl (.inr ⟨o, s.keep a _ (st0.sub _ _ h) fun z => by rw [st0.disj _ z] at h; cases h⟩)
    · exact .inr h
  refine ⟨fun i w' s hi => ⟨vs, vs[i]'(by rw [r.len]; exact hi), key w' s, List.getElem?_eq_getElem _⟩, fun i w' x H' d ps σ ρ s st e hy => ?_, fun w' s => ⟨vs, key w' s, by rw [r.len]; exact Nat.le_refl _⟩⟩
  obtain ⟨rfl, hy⟩ := hy
  have q := hy vs (key w' s)
  obtain ⟨d', e', r'⟩ := r.getV q
  rw [e] at e'
  cases e'
  exact ⟨w'.G, Step.refl _, st, r'.mono s.froz⟩
theorem src_str {w : Wd} {z : Str} : Src K w (Its z) (signs z) where
  go := fun i w' s hi => by
    unfold signs at hi
    rw [List.length_map, Array.length_toList] at hi
    exact hi
  yld := fun i w' x H' d ps σ ρ s st e hy => by
    obtain ⟨rfl, c, e1, rfl⟩ := hy
    unfold signs at e
    rw [List.getElem?_map, Array.getElem?_toList, e1] at e
    cases e
    exact ⟨w'.G, Step.refl _, st, .str _⟩
  stop := fun w' s => by
    unfold signs
    rw [List.length_map, Array.length_toList]
    exact Nat.le_refl _
theorem i_seq (hf : Fam P wd K mg base N k W X) {tg : Expr} (ha : BE K mg W X a Fa) : BI K mg W X tg a (iSeq Fa) := by
  obtain ⟨ta, pa, sa⟩ := ha.ex
  refine ⟨iSq K ta, fun i => by
    have q := pi_sq (tg := tg) (pa i)
    rw [hf.hK i] at q
    exact q, fun w ps σ ρ Q st h => sa w ps σ ρ _ st (h.bind.imp (fun x ρ1 h1 v w1 s1 o1 st1 r1 => ?_) fun _ _ _ q => q)⟩
  obtain ⟨ds, e, h2⟩ := post_of h1
  cases r1 with
  | lst hl rs =>
    cases e
    rename_i a vs
    exact .inl ⟨a, rfl, ⟨vs, .inl (.inl (st1.sub _ _ hl))⟩, h2 _ w1 s1 o1 st1 (src_list (.inl (st1.sub _ _ hl)) (fun z => by rw [st1.disj _ z] at hl; cases hl) rs)⟩
  | tup ht rs =>
    cases e
    rename_i a vs
    exact .inr (.inl ⟨a, rfl, ⟨vs, sqT_same st1.sub ht⟩, h2 _ w1 s1 o1 st1 (src_tup st1 ht rs)⟩)
  | str z =>
    cases e
    exact .inr (.inr ⟨z, rfl, h2 _ w1 s1 o1 st1 src_str⟩)
  | _ => cases e
end
end DL

set_option Elab.async false
set_option linter.all false
set_option maxRecDepth 100000
namespace DL
open PySem PySem.Spec PyProof.Rows L2

/-! ### defs -/
def entry : List Mo → List D → SE
  | .v :: ms, d :: ds => .val d :: entry ms ds
  | .b :: ms, d :: ds => .bor d :: entry ms ds
  | .m :: ms, d :: ds => .mt d :: entry ms ds
  | _, _ => []
def mPos : List Mo → Option Nat
  | [] => none
  | .m :: _ => some 0
  | _ :: ms => (mPos ms).map (· + 1)
def outOf (ms : List Mo) (ρ : SE) : Option (Option D) := match mPos ms with
  | none => some none
  | some j => match ρ[j]? with
    | some (.mt d) => some (some d)
    | _ => none
def runDef (n : Nat) (ms : List Mo) (F : SE → O) (as : List D) : FR :=
  if as.length = ms.length then (match F (entry ms as ++ List.replicate (n - ms.length) .any) with
    | .rt r ρ => (match outOf ms ρ with
      | some o => .ok r o
      | none => .stuck)
    | .nx ρ => (match outOf ms ρ with
      | some o => .ok (.v .non) o
      | none => .stuck)
    | .raise c d _ => if mPos ms = none then .raise c d else .stuck
    | _ => .stuck)
  else .stuck

section
variable (K : PySem.W.Frag) (mg : Str → Option Value)
def OutOk (w : Wd) (ps : Nat → Option Addr) (ms : List Mo) (out : Option D) : Prop := ∀ j, ms[j]? = some .m → ∃ a d, ps j = some a ∧ out = some d ∧ Con K w a d ∧ w.G a = none
def PostF (w : Wd) (ps : Nat → Option Addr) (ms : List Mo) (Q : VK) (E : XK) : FR → Prop
  | .ok (.v d) out => ∀ v w', Step w w' → Same w'.G w'.H → Rep K w'.G v d → OutOk K w' ps ms out → Q v w'.H
  | .ok (.o d) out => ∀ a w', Step w w' → Same w'.G w'.H → Con K w' a d → w'.G a = none → w.H a = none → OutOk K w' ps ms out → Q (.ref a) w'.H
  | .raise c d => mPos ms = none ∧ ∀ C dx v w', mg c = some (.ref C) → Step w w' → Same w'.G w'.H → w'.H dx = some (.xd [("value", v)]) → w'.G dx = none → w.H dx = none → Rep K w'.G v d → E (.ref C) (some dx) w'.H
  | .stuck => False
/-- a def's promise: it gives fn of its arguments -/
def spD (fn : List D → FR) (ms : List Mo) : Sp := fun vs H Q E => ∃ (w : Wd) (ps : Nat → Option Addr) (as : List D), w.H = H ∧ Sts K w ps (vs.map some) (entry ms as) ∧ (∀ a, w.o a → ∃ j : Nat, ms[j]? = some .m ∧ ps j = some a) ∧ as.length = ms.length ∧ vs.length = ms.length ∧
  PostF K mg w ps ms Q E (fn as)
end
theorem entry_len : ∀ {ms : List Mo} {as : List D}, as.length = ms.length → (entry ms as).length = ms.length
  | [], [], _ => rfl
  | .v :: ms, d :: ds, h => by show _ + 1 = _ + 1; rw [entry_len (by simpa using h)]
  | .b :: ms, d :: ds, h => by show _ + 1 = _ + 1; rw [entry_len (by simpa using h)]
  | .m :: ms, d :: ds, h => by show _ + 1 = _ + 1; rw [entry_len (by simpa using h)]
theorem entry_m : ∀ {ms : List Mo} {as : List D} {j : Nat} {s : Sl}, (entry ms as)[j]? = some s → s.mine = true → ms[j]? = some .m
  | .v :: ms, d :: ds, 0, s, h, hm => by cases h; cases hm
  | .b :: ms, d :: ds, 0, s, h, hm => by cases h; cases hm
  | .m :: ms, d :: ds, 0, s, h, hm => rfl
  | .v :: ms, d :: ds, j + 1, s, h, hm => entry_m (ms := ms) (as := ds) (j := j) h hm
  | .b :: ms, d :: ds, j + 1, s, h, hm => entry_m (ms := ms) (as := ds) (j := j) h hm
  | .m :: ms, d :: ds, j + 1, s, h, hm => entry_m (ms := ms) (as := ds) (j := j) h hm
  | [], _, _, _, h, _ => by simp [entry] at h
  | .v :: ms, [], _, _, h, _ => by simp [entry] at h
  | .b :: ms, [], _, _, h, _ => by simp [entry] at h
  | .m :: ms, [], _, _, h, _ => by simp [entry] at h
theorem mPos_some : ∀ {ms : List Mo} {j : Nat}, mPos ms = some j → ms[j]? = some .m
  | .m :: ms, j, h => by cases h; rfl
  | .v :: ms, j, h => by
    obtain ⟨i, h1, rfl⟩ := Option.map_eq_some_iff.mp h
    simpa using mPos_some h1
  | .b :: ms, j, h => by
    obtain ⟨i, h1, rfl⟩ := Option.map_eq_some_iff.mp h
    simpa using mPos_some h1
  | [], j, h => by cases h
theorem mPos_none : ∀ {ms : List Mo} {j : Nat}, mPos ms = none → ms[j]? ≠ some .m
  | .m :: ms, j, h, _ => by cases h
  | .v :: ms, 0, h, e => by cases e
  | .b :: ms, 0, h, e => by cases e
  | .v :: ms, j + 1, h, e => mPos_none (j := j) (Option.map_eq_none_iff.mp h) e
  | .b :: ms, j + 1, h, e => mPos_none (j := j) (Option.map_eq_none_iff.mp h) e
  | [], j, h, e => by simp at e
/-- at most one parameter is changed in place -/
def Mo1 (ms : List Mo) : Prop := ∀ i j : Nat, ms[i]? = some .m → ms[j]? = some .m → i = j
theorem mo1_of {ms : List Mo} (h : (ms.filter (· = .m)).length ≤ 1) : Mo1 ms := by
  have key : ∀ (ms : List Mo) (i j : Nat), i < j → ms[i]? = some .m → ms[j]? = some .m → 2 ≤ (ms.filter (· = .m)).length := by
    intro ms
    induction ms with
    | nil => intro i j _ h; simp at h
    | cons m ms ih =>
      intro i j hij h1 h2
      cases j with
      | zero => omega
      | succ j =>
        cases i with
        | zero =>
          cases h1
          have h3 : Mo.m ∈ ms.filter (· = .m) := List.mem_filter.mpr ⟨List.mem_of_getElem? h2, by decide⟩
          have h4 := List.length_pos_of_mem h3
          rw [List.filter_cons_of_pos (by decide), List.length_cons]
          omega
        | succ i =>
          have := ih i j (by omega) h1 h2
          rw [List.filter_cons]
          split
          · rw [List.length_cons]; omega
          · exact this
  intro i j h1 h2
  rcases Nat.lt_trichotomy i j with q | q | q
  · have := key ms i j q h1 h2; omega
  · exact q
  · have := key ms j i q h2 h1; omega

section
variable {K : PySem.W.Frag} {mg : Str → Option Value} {P : Program} {wd : World} {base : Heap} {N : List Str} {k : Nat}
theorem start_sts {w : Wd} {ps : Nat → Option Addr} {vs : List V} {ρ : SE} (st : Sts K w ps (vs.map some) ρ) : Sts K w ps (L2.start N vs) (ρ ++ List.replicate (N.length - vs.length) .any) where
  sub := st.sub
  disj := st.disj
  tr := st.tr
  len := by
    unfold L2.start
    rw [List.length_append, List.length_append, List.length_replicate, List.length_replicate, st.len]
  sl := fun i s h => by
    have hl := st.len
    unfold L2.start
    by_cases hi : i < ρ.length
    · rw [List.getElem?_append_left hi] at h
      rw [List.getElem?_append_left (by omega)]
      exact st.sl i s h
    · rw [List.getElem?_append_right (by omega), List.getElem?_replicate] at h
      split at h
      · cases h; unfold SlOk; trivial
      · cases h
  apart := fun i j s t a ne h1 h2 m1 m2 e1 e2 => by
    have hl := st.len
    unfold L2.start at e1 e2
    by_cases hi : i < ρ.length
    · by_cases hj : j < ρ.length
      · rw [List.getElem?_append_left hi] at h1
        rw [List.getElem?_append_left hj] at h2
        rw [List.getElem?_append_left (by omega)] at e1 e2
        exact st.apart i j s t a ne h1 h2 m1 m2 e1 e2
      · rw [List.getElem?_append_right (by omega), List.getElem?_replicate] at h2
        split at h2
        · cases h2; cases m2
        · cases h2
    · rw [List.getElem?_append_right (by omega), List.getElem?_replicate] at h1
      split at h1
      · cases h1; cases m1
      · cases h1

theorem fam_def {ps : List Str} {qual : Str} {scope : Scope} {f : Addr} {cdv : Value} {A : Around} {outer : List PySem.Env} {s : Shared} {H : Hp} {E : XK} (S : FnScope N ps scope) (hr : Room k (A.deeper (envOfC qual scope s.heap.objs.size f cdv))) :
    Fam P wd K mg base N k (fun cls d _ H => E cls d H) (fun _ : Unit => cxOf (L2.CX P wd) P wd K mg base N qual scope f cdv A outer s H E) where
  hP := fun _ => rfl
  hw := fun _ => rfl
  hK := fun _ => rfl
  hm := fun _ => rfl
  hb := fun _ => rfl
  hN := fun _ => rfl
  nd := S.nd
  calm := fun _ => rfl
  room := fun _ => hr
  tk := fun _ => takes_of rfl rfl rfl rfl
  po := fun _ => passes_of rfl

/-- THE RULE for a def -/
theorem fn_mk {x qual : Str} {st : Stmt} {f : Addr} {fd : FuncData} {pn : List Str} (F : Fun K x qual st f fd) (S : FnScope N pn (defScope st)) (ms : List Mo) (hl : ms.length = pn.length) (hm : (ms.filter (· = .m)).length ≤ 1) {G : SE → O}
    (hb : ∀ (cdv : Value) (A : Around) (outer : List PySem.Env) (s : Shared) (H : Hp) (E : XK), Fam P wd K mg base N k (fun cls d _ H => E cls d H) (fun _ : Unit => cxOf (L2.CX P wd) P wd K mg base N qual (defScope st) f cdv A outer s H E) →
      BSs K mg (fun cls d _ H => E cls d H) (fun _ : Unit => cxOf (L2.CX P wd) P wd K mg base N qual (defScope st) f cdv A outer s H E) (defBody st) G) :
    FnOk P wd K mg base (L2.CX P wd) (k + 1) f fd pn (spD K mg (runDef N.length ms G) ms) := by
  refine F.okX S (fun vs H Q E h => ?_) (fun cdv A outer s H vs Q E hr h => ?_)
  · obtain ⟨w, ps, as, _, _, _, _, h5, _⟩ := h
    rw [h5, hl]
  · obtain ⟨w, ps, as, rfl, sts, ho, hla, hlv, hp⟩ := h
    obtain ⟨t, pt, sem⟩ := (hb cdv A outer s w.H E (fam_def S hr)).ex
    refine ⟨t, pt (), ?_⟩
    have st0 := start_sts (N := N) sts
    rw [hlv] at st0
    refine sem w ps _ _ _ st0 ?_
    unfold runDef at hp
    rw [if_pos hla] at hp
    -- what stands behind the body
    have outs : ∀ {w' : Wd} {σ' : L2.St} {ρ' : SE} {o : Option D}, Sts K w' ps σ' ρ' → outOf ms ρ' = some o → OutOk K w' ps ms o := fun {w' σ' ρ' o} st' e j hj => by
      unfold outOf at e
      split at e
      · rename_i e0
        exact absurd hj (mPos_none e0)
      · rename_i i e0
        have ei : i = j := mo1_of hm i j (mPos_some e0) hj
        subst ei
        split at e
        · rename_i d e1
          cases e
          obtain ⟨a, d', q1, q2, q3, q4⟩ := slot_mine st' e1 rfl
          rcases q4 with q4 | ⟨q4, q5⟩
          · cases q4
          · cases q4
            exact ⟨a, d, q5, rfl, q3, st'.disj a q2⟩
        · cases e
    generalize hbody : G (entry ms as ++ List.replicate (N.length - ms.length) Sl.any) = out at hp ⊢
    cases out with
    | nx ρ' =>
      intro σ' w' s' st'
      cases e : outOf ms ρ' with
      | none => simp only [e] at hp; exact hp.elim
      | some o => simp only [e] at hp; exact hp .non w' s' st'.sub .non (outs st' e)
    | bk ρ' => exact hp.elim
    | ct ρ' => exact hp.elim
    | rt r ρ' =>
      cases e : outOf ms ρ' with
      | none => simp only [e] at hp; exact hp.elim
      | some o =>
        simp only [e] at hp
        cases r with
        | v d => exact fun σ' w' v s' st' r' => hp v w' s' st'.sub r' (outs st' e)
        | o d =>
          refine fun σ' w' a s' st' c' g' n' hne => hp a w' s' st'.sub c' g' ?_ (outs st' e)
          rcases n' with n' | n'
          · exact n'
          · obtain ⟨j, hj, hps⟩ := ho a n'
            have e2 := e
            unfold outOf at e2
            split at e2
            · rename_i e0
              exact absurd hj (mPos_none e0)
            · rename_i i e0
              have ei : i = j := mo1_of hm i j (mPos_some e0) hj
              subst ei
              split at e2
              · rename_i d' e1
                obtain ⟨a2, d2, q1, q2, q3, q4⟩ := slot_mine st' e1 rfl
                rcases q4 with q4 | ⟨q4, q5⟩
                · cases q4
                · rw [hps] at q5
                  cases q5
                  exact absurd q1 (hne i _ e1 rfl)
              · cases e2
    | raise c d ρ' =>
      simp only at hp
      split at hp
      · rename_i e0
        obtain ⟨_, hp⟩ := hp
        intro C σ' w' dx v hC s' st' hx hg hx' r'
        exact hp C dx v w' hC s' st'.sub hx hg hx' r'
      · exact hp.elim
    | stuck => exact hp.elim
end
end DL

set_option Elab.async false
set_option linter.all false
set_option maxRecDepth 100000
namespace DL
open PySem PySem.Spec PyProof.Rows L2

/-! ### calls of defs -/
/-- what is handed on: a value, or a slot itself (lent) -/
inductive Pv where
  | d (d : D) | s (i : Nat)
def isCon : D → Bool
  | .lst _ => true
  | .dk _ _ => true
  | .dt _ _ => true
  | _ => false
/-- what a slot holds, where it holds a container -/
def conOf (ρ : SE) (i : Nat) : Option D := match ρ[i]? with
  | some (.own d) => some d
  | some (.mt d) => some d
  | some (.bor d) => some d
  | some (.val d) => if isCon d = true then some d else none
  | _ => none
def mineOf (ρ : SE) (i : Nat) : Option D := match ρ[i]? with
  | some (.own d) => some d
  | some (.mt d) => some d
  | _ => none
def giveB (ρ : SE) : Mo → Pv → Option D
  | .v, .d d => some d
  | .b, .d d => if isCon d = true then some d else none
  | .b, .s i => conOf ρ i
  | _, _ => none
def giveAll (ρ : SE) : List Mo → List Pv → Option (List D)
  | [], [] => some []
  | m :: ms, p :: pvs => match giveB ρ m p, giveAll ρ ms pvs with
    | some d, some ds => some (d :: ds)
    | _, _ => none
  | _, _ => none
def pNil : SE → R (List Pv) := fun ρ => .ok [] ρ
def pE (F : SE → R D) (Fr : SE → R (List Pv)) : SE → R (List Pv) := fun ρ => (F ρ).bind fun d ρ1 => (Fr ρ1).bind fun ps ρ2 => .ok (.d d :: ps) ρ2
def pS (i : Nat) (Fr : SE → R (List Pv)) : SE → R (List Pv) := fun ρ => match ρ[i]? with
  | some .any => .stuck
  | none => .stuck
  | _ => (Fr ρ).bind fun ps ρ2 => .ok (.s i :: ps) ρ2
section
variable (K : PySem.W.Frag) (mg : Str → Option Value) (W : WX) {ι : Type} (X : ι → Cx)
inductive PvOk (w : Wd) (σ : L2.St) : List V → List Pv → Prop
  | nil : PvOk w σ [] []
  | d {v : V} {d : D} {vs : List V} {ps : List Pv} : Rep K w.G v d → PvOk w σ vs ps → PvOk w σ (v :: vs) (.d d :: ps)
  | s {v : V} {i : Nat} {vs : List V} {ps : List Pv} : σ[i]? = some (some v) → PvOk w σ vs ps → PvOk w σ (v :: vs) (.s i :: ps)
def SemP (t : TA) (F : SE → R (List Pv)) : Prop := ∀ (w : Wd) (ps : Nat → Option Addr) (σ : L2.St) (ρ : SE) (Q : List V → Hp → Prop), Sts K w ps σ ρ →
  (F ρ).Post (fun pvs ρ' => ∀ vs w', Step w w' → w'.o = w.o → Sts K w' ps σ ρ' → PvOk K w' σ vs pvs → Q vs w'.H) (PX K mg W w ps σ) → t σ w.H Q
structure BP (es : List Expr) (F : SE → R (List Pv)) : Prop where
  ex : ∃ t, (∀ i, PA (X i) es t) ∧ SemP K mg W t F
end
section
variable {K : PySem.W.Frag} {mg : Str → Option Value} {W : WX} {P : Program} {wd : World} {base : Heap} {N : List Str} {k : Nat} {ι : Type} {X : ι → Cx}
variable {a b c e : Expr} {Fa Fb Fc : SE → R D} {pos : Pos}
theorem PvOk.step {w w' : Wd} {σ : L2.St} (s : Step w w') : ∀ {vs : List V} {ps : List Pv}, PvOk K w σ vs ps → PvOk K w' σ vs ps
  | _, _, .nil => .nil
  | _, _, .d r t => .d (r.mono s.froz) (PvOk.step s t)
  | _, _, .s e t => .s e (PvOk.step s t)
theorem p_nil : BP K mg W X [] pNil := ⟨_, fun _ => pa_nil, fun w ps σ ρ Q st h => h [] w (Step.refl w) rfl st .nil⟩
theorem p_e {es : List Expr} {Fr : SE → R (List Pv)} (ha : BE K mg W X a Fa) (hr : BP K mg W X es Fr) (hs : ∀ i, starEach (a :: es) (X i).env = (false, eval a (X i).env) :: starEach es (X i).env := by intro _; rfl) : BP K mg W X (a :: es) (pE Fa Fr) := by
  obtain ⟨ta, pa, sa⟩ := ha.ex
  obtain ⟨tb, pb, sb⟩ := hr.ex
  refine ⟨_, fun i => pa_cons (pa i) (pb i) (hs i), fun w ps σ ρ Q st h => sa w ps σ ρ _ st (h.bind.imp (fun x ρ1 h1 v1 w1 s1 o1 st1 r1 => ?_) fun _ _ _ q => q)⟩
  exact sb w1 ps σ ρ1 _ st1 (h1.bind.imp (fun y ρ2 h2 v2 w2 s2 o2 st2 r2 => h2 _ w2 (s1.trans s2) (o2.trans o1) st2 (.d (r1.mono s2.froz) r2)) fun _ _ _ q => q.step s1 o1)
theorem p_s (hf : Fam P wd K mg base N k W X) (i : Nat) {x : Str} {p : Pos} {es : List Expr} {Fr : SE → R (List Pv)} (hr : BP K mg W X es Fr) (hN : N[i]? = some x := by rfl) (hv : ∀ j, Vis (X j).env.scope x := by first | exact fun _ => Or.inl rfl | exact fun _ => Or.inr (Or.inl rfl) | exact fun _ => Or.inr (Or.inr rfl))
    (hs : ∀ j, starEach (.Name x p :: es) (X j).env = (false, eval (.Name x p) (X j).env) :: starEach es (X j).env := by intro _; rfl)
    (hd : (x == ("__debug__" : Str)) = false := by decide) (hcd : (x == ("__classdict__" : Str)) = false := by decide) : BP K mg W X (.Name x p :: es) (pS i Fr) := by
  obtain ⟨tb, pb, sb⟩ := hr.ex
  refine ⟨_, fun j => pa_cons (pe_var (i := i) (by rw [hf.hN]; exact hN) (hv j) hd hcd) (pb j) (hs j), fun w ps σ ρ Q st h => ?_⟩
  have key : ∀ s, ρ[i]? = some s → s ≠ .any → ((Fr ρ).bind fun ps ρ2 => R.ok (Pv.s i :: ps) ρ2).Post (fun pvs ρ' => ∀ vs w', Step w w' → w'.o = w.o → Sts K w' ps σ ρ' → PvOk K w' σ vs pvs → Q vs w'.H) (PX K mg W w ps σ) → tCons (tVar i) tb σ w.H Q := fun s e ne h => by
    have q := st.sl i s e
    have : ∃ v, σ[i]? = some (some v) := by
      cases e1 : σ[i]? with
      | none => rw [e1] at q; cases s <;> first | exact absurd rfl ne | exact q.elim
      | some x => cases x with
        | none => rw [e1] at q; cases s <;> first | exact absurd rfl ne | exact q.elim
        | some v => exact ⟨v, rfl⟩
    obtain ⟨v, e1⟩ := this
    refine ⟨v, e1, sb w ps σ ρ _ st (h.bind.imp (fun y ρ2 h2 v2 w2 s2 o2 st2 r2 => h2 _ w2 s2 o2 st2 (.s e1 r2)) fun _ _ _ q => q)⟩
  unfold pS at h
  split at h
  · exact h.elim
  · exact h.elim
  · rename_i n1 n2
    cases e : ρ[i]? with
    | none => exact absurd e n2
    | some s => exact key s e (fun z => n1 (by rw [e, z])) h

theorem con_rep {w : Wd} {ps : Nat → Option Addr} {σ : L2.St} {ρ : SE} (st : Sts K w ps σ ρ) {v : V} {d : D} (hc : isCon d = true) (r : Rep K w.G v d) : ∃ a, v = .ref a ∧ ConB K w a d ∧ ¬ w.o a :=
  Rep.conB st r (by cases d <;> first | trivial | (exact absurd hc (by decide)))
/-- a slot's container is looked into -/
theorem conOf_ok {w : Wd} {ps : Nat → Option Addr} {σ : L2.St} {ρ : SE} {i : Nat} {d : D} (st : Sts K w ps σ ρ) (h : conOf ρ i = some d) : ∃ a, σ[i]? = some (some (.ref a)) ∧ ConB K w a d := by
  unfold conOf at h
  split at h
  · rename_i d' e
    cases h
    obtain ⟨a, d2, q1, q2, q3, q4⟩ := slot_mine st e rfl
    rcases q4 with q4 | ⟨q4, _⟩ <;> cases q4
    exact ⟨a, q1, q3.b⟩
  · rename_i d' e
    cases h
    obtain ⟨a, d2, q1, q2, q3, q4⟩ := slot_mine st e rfl
    rcases q4 with q4 | ⟨q4, _⟩ <;> cases q4
    exact ⟨a, q1, q3.b⟩
  · rename_i d' e
    cases h
    have q := st.sl i _ e
    cases e1 : σ[i]? with
    | none => rw [e1] at q; exact q.elim
    | some x => cases x with
      | none => rw [e1] at q; exact q.elim
      | some v => cases v with
        | ref a => rw [e1] at q; exact ⟨a, rfl, q.2⟩
        | _ => rw [e1] at q; exact q.elim
  · rename_i d' e
    split at h
    · rename_i hc
      cases h
      have q := st.sl i _ e
      cases e1 : σ[i]? with
      | none => rw [e1] at q; exact q.elim
      | some x => cases x with
        | none => rw [e1] at q; exact q.elim
        | some v =>
          rw [e1] at q
          obtain ⟨a, rfl, c, _⟩ := con_rep st hc q
          exact ⟨a, rfl, c⟩
    · cases h
  · cases h
theorem mineOf_ok {w : Wd} {ps : Nat → Option Addr} {σ : L2.St} {ρ : SE} {i : Nat} {d : D} (st : Sts K w ps σ ρ) (h : mineOf ρ i = some d) : ∃ a s, σ[i]? = some (some (.ref a)) ∧ w.o a ∧ Con K w a d ∧ ρ[i]? = some s ∧ s.mine = true := by
  unfold mineOf at h
  split at h
  · rename_i d' e
    cases h
    obtain ⟨a, d2, q1, q2, q3, q4⟩ := slot_mine st e rfl
    rcases q4 with q4 | ⟨q4, _⟩ <;> cases q4
    exact ⟨a, _, q1, q2, q3, e, rfl⟩
  · rename_i d' e
    cases h
    obtain ⟨a, d2, q1, q2, q3, q4⟩ := slot_mine st e rfl
    rcases q4 with q4 | ⟨q4, _⟩ <;> cases q4
    exact ⟨a, _, q1, q2, q3, e, rfl⟩
  · cases h

/-- the callee's world: what may change there -/
abbrev Wd.sub (w : Wd) (o : Addr → Prop) : Wd := ⟨w.G, w.H, o⟩
theorem ConB.re {w : Wd} {o : Addr → Prop} {a : Addr} : ∀ {d : D}, ConB K w a d → ConB K (w.sub o) a d := fun {d} h => by cases d <;> exact h
theorem Con.re {w : Wd} {o : Addr → Prop} {a : Addr} : ∀ {d : D}, Con K w a d → Con K (w.sub o) a d := fun {d} h => by cases d <;> exact h
/-- without a slot that is changed -/
theorem give_sl {w : Wd} {ps : Nat → Option Addr} {σ : L2.St} {ρ : SE} (st : Sts K w ps σ ρ) {qs : Nat → Option Addr} : ∀ {vs : List V} {pvs : List Pv} {ms : List Mo} {ds : List D}, PvOk K w σ vs pvs → giveAll ρ ms pvs = some ds →
    vs.length = ms.length ∧ ds.length = ms.length ∧ (∀ (j : Nat) (s : Sl), (entry ms ds)[j]? = some s → SlOk K (w.sub fun _ => False) (qs j) (vs.map some)[j]? s ∧ s.mine = false)
  | _, _, [], ds, .nil, h => by cases h; exact ⟨rfl, rfl, fun j s h => by simp [entry] at h⟩
  | _, _, [], ds, .d _ _, h => by cases h
  | _, _, [], ds, .s _ _, h => by cases h
  | _, _, m :: ms, ds, .nil, h => by cases h
  | _, _, m :: ms, ds, .d (v := v) (d := d) (vs := vs) (ps := pvs) r t, h => by
    unfold giveAll at h
    split at h
    · rename_i d' ds' e1 e2
      cases h
      obtain ⟨l1, l2, h3⟩ := give_sl st (qs := fun j => qs (j + 1)) t e2
      refine ⟨by simp [l1], by simp [l2], fun j s hj => ?_⟩
      cases m with
      | v =>
        cases e1
        cases j with
        | zero => cases hj; exact ⟨r, rfl⟩
        | succ j => exact h3 j s hj
      | b =>
        have e1 : (if isCon d = true then some d else none) = some d' := e1
        split at e1
        · rename_i hc
          cases e1
          cases j with
          | zero =>
            cases hj
            obtain ⟨a, rfl, c, _⟩ := con_rep st hc r
            exact ⟨⟨fun z => z, c.re⟩, rfl⟩
          | succ j => exact h3 j s hj
        · cases e1
      | m => cases e1
    · cases h
  | _, _, m :: ms, ds, .s (v := v) (i := i) (vs := vs) (ps := pvs) r t, h => by
    unfold giveAll at h
    split at h
    · rename_i d' ds' e1 e2
      cases h
      obtain ⟨l1, l2, h3⟩ := give_sl st (qs := fun j => qs (j + 1)) t e2
      refine ⟨by simp [l1], by simp [l2], fun j s hj => ?_⟩
      cases m with
      | v => cases e1
      | b =>
        cases j with
        | zero =>
          cases hj
          obtain ⟨a, q1, c⟩ := conOf_ok st (show conOf ρ i = some d' from e1)
          rw [r] at q1
          cases q1
          exact ⟨⟨fun z => z, c.re⟩, rfl⟩
        | succ j => exact h3 j s hj
      | m => cases e1
    · cases h
def eCall (fn : List D → FR) (ms : List Mo) (F : SE → R (List Pv)) : SE → R D := fun ρ => (F ρ).bind fun pvs ρ1 => match giveAll ρ1 ms pvs with
  | none => .stuck
  | some as => match fn as with
    | .ok (.v d) _ => .ok d ρ1
    | .raise c d => .raise c d ρ1
    | _ => .stuck
def eCallO (fn : List D → FR) (ms : List Mo) (F : SE → R (List Pv)) : SE → R D := fun ρ => (F ρ).bind fun pvs ρ1 => match giveAll ρ1 ms pvs with
  | none => .stuck
  | some as => match fn as with
    | .ok (.o d) _ => .ok d ρ1
    | .raise c d => .raise c d ρ1
    | _ => .stuck
theorem giveAll_m : ∀ {ρ : SE} {ms : List Mo} {pvs : List Pv} {ds : List D}, giveAll ρ ms pvs = some ds → ∀ j : Nat, ms[j]? ≠ some .m
  | _, [], _, _, _, j, e => by simp at e
  | ρ, m :: ms, [], _, h, _, _ => by cases h
  | ρ, m :: ms, p :: pvs, _, h, j, e => by
    unfold giveAll at h
    split at h
    · rename_i d' ds' e1 e2
      cases j with
      | zero =>
        cases e
        cases p <;> cases e1
      | succ j => exact giveAll_m e2 j e
    · cases h
theorem sub_step {w : Wd} {w' : Wd} {o : Addr → Prop} (ho : ∀ a, o a → w.o a) (s : Step (w.sub o) w') : Step w ⟨w'.G, w'.H, w.o⟩ where
  keep := fun a x h n => s.keep a x h fun z => n (ho a z)
  froz := s.froz
  newG := fun a h => by
    rcases s.newG a h with q | q | q
    · exact .inl q
    · exact .inr (.inl q)
    · exact .inr (.inr (ho a q))
  own := fun a h => .inl h
  there := s.there
/-- the caller's state behind a call that changed nothing of its own -/
theorem back0 {w w' : Wd} {ps : Nat → Option Addr} {σ : L2.St} {ρ : SE} (st : Sts K w ps σ ρ) (s : Step (w.sub fun _ => False) w') (hs : Same w'.G w'.H) : Sts K ⟨w'.G, w'.H, w.o⟩ ps σ ρ :=
  st.grow s.froz (fun a x h => s.keep a x h fun z => z) rfl hs fun a h => by
    rcases s.newG a h with q | q | q
    · exact .inl q
    · exact .inr q
    · exact q.elim
theorem call_sem {fn : List D → FR} {ms : List Mo} {t : TA} {F : SE → R (List Pv)} (sa : SemP K mg W t F) : SemE K mg W (tCallSD (spD K mg fn ms) [] (WE W) t) (eCall fn ms F) := fun w ps σ ρ Q st h => by
  refine sa w ps σ ρ _ st (h.bind.imp (fun pvs ρ1 h1 vs w1 s1 o1 st1 r1 => ?_) fun _ _ _ q => q)
  split at h1
  · exact h1.elim
  · rename_i as eg
    obtain ⟨l1, l2, hsl⟩ := give_sl st1 (qs := fun _ => none) r1 eg
    rw [List.append_nil]
    refine ⟨w1.sub fun _ => False, fun _ => none, as, rfl, ⟨st1.sub, fun _ z => z.elim, fun _ z => z.elim, by rw [List.length_map, entry_len l2, l1], fun j s hj => (hsl j s hj).1, fun i j s t a ne h2 _ m2 _ _ _ => by
      rw [(hsl i s h2).2] at m2; cases m2⟩, fun _ z => z.elim, l2, l1, ?_⟩
    split at h1
    · rename_i d o ef
      rw [ef]
      exact fun v w2 s2 hs2 r2 _ => h1 v ⟨w2.G, w2.H, w1.o⟩ (s1.trans (sub_step (fun _ z => z.elim) s2)) o1 (back0 st1 s2 hs2) r2
    · rename_i c d ef
      rw [ef]
      refine ⟨?_, fun C dx v w2 hC s2 hs2 hx hg hn r2 => ?_⟩
      · cases em : mPos ms with
        | none => rfl
        | some j => exact absurd (mPos_some em) (giveAll_m eg j)
      · exact h1 C ⟨w2.G, w2.H, w1.o⟩ dx v hC (s1.trans (sub_step (fun _ z => z.elim) s2)) o1 (back0 st1 s2 hs2) hx hg (s1.back hn) r2
    · exact h1.elim
theorem callO_sem {fn : List D → FR} {ms : List Mo} {t : TA} {F : SE → R (List Pv)} (sa : SemP K mg W t F) : SemO K mg W (tCallSD (spD K mg fn ms) [] (WE W) t) (eCallO fn ms F) := fun w ps σ ρ Q st h => by
  refine sa w ps σ ρ _ st (h.bind.imp (fun pvs ρ1 h1 vs w1 s1 o1 st1 r1 => ?_) fun _ _ _ q => q)
  split at h1
  · exact h1.elim
  · rename_i as eg
    obtain ⟨l1, l2, hsl⟩ := give_sl st1 (qs := fun _ => none) r1 eg
    rw [List.append_nil]
    refine ⟨w1.sub fun _ => False, fun _ => none, as, rfl, ⟨st1.sub, fun _ z => z.elim, fun _ z => z.elim, by rw [List.length_map, entry_len l2, l1], fun j s hj => (hsl j s hj).1, fun i j s t a ne h2 _ m2 _ _ _ => by
      rw [(hsl i s h2).2] at m2; cases m2⟩, fun _ z => z.elim, l2, l1, ?_⟩
    split at h1
    · rename_i d o ef
      rw [ef]
      exact fun a w2 s2 hs2 c2 g2 n2 _ => h1 a ⟨w2.G, w2.H, w1.o⟩ (s1.trans (sub_step (fun _ z => z.elim) s2)) o1 (back0 st1 s2 hs2) c2.re g2 (s1.back n2) (st1.noB n2)
    · rename_i c d ef
      rw [ef]
      refine ⟨?_, fun C dx v w2 hC s2 hs2 hx hg hn r2 => ?_⟩
      · cases em : mPos ms with
        | none => rfl
        | some j => exact absurd (mPos_some em) (giveAll_m eg j)
      · exact h1 C ⟨w2.G, w2.H, w1.o⟩ dx v hC (s1.trans (sub_step (fun _ z => z.elim) s2)) o1 (back0 st1 s2 hs2) hx hg (s1.back hn) r2
    · exact h1.elim
/-- what a call of the def x wants -/
structure Cl (P : Program) (wd : World) (K : PySem.W.Frag) (mg : Str → Option Value) (base : Heap) (x : Str) (k : Nat) (pn : List Str) (fn : List D → FR) (ms : List Mo) : Prop where
  ex : ∃ f fd, mg x = some (.ref f) ∧ PySem.W.keepIn K (.ref f) = true ∧ (∃ oc od osl, K.lookup f = some ⟨oc, od, .func fd, osl⟩) ∧ Binds K fd pn [] ∧ FnOk P wd K mg base (L2.CX P wd) k f fd pn (spD K mg fn ms)
theorem pe_cl (hf : Fam P wd K mg base N k W X) {x : Str} {j : Nat} {pn : List Str} {fn : List D → FR} {ms : List Mo} {p : Pos} {es : List Expr} {t : TA} (C : Cl P wd K mg base x j pn fn ms) (hj : j ≤ k) (pa : ∀ i, PA (X i) (a :: es) t) (hg : ∀ i, Gl (X i) x) (hdb : (x == ("__debug__" : Str)) = false)
    (he : ∀ i, starEach (a :: es) (X i).env = (false, eval a (X i).env) :: starEach es (X i).env) (hpl : ∀ i, (backTo pos (starEach es (X i).env)).any (·.1) = false) (i : ι) : PE (X i) (.Call (.Name x p) (a :: es) [] pos) (tCallSD (spD K mg fn ms) [] (WE W) t) := by
  obtain ⟨f, fd, hm, hk, _, hb, ok⟩ := C.ex
  refine pe_callSD (f := f) (fd := fd) (ps := pn) (ds := []) (k := j) (CX := L2.CX (X i).prog (X i).w) ?_ ((hf.room i).mono hj) (hg i) (by rw [hf.hm]; exact hm) (by rw [hf.hK]; exact hk) (by rw [hf.hK]; exact hb) .nil (fun σ => passAt (hf.tk i) σ) (pa i) hdb (he i) (hpl i)
  rw [hf.hP, hf.hw, hf.hK, hf.hm, hf.hb]
  exact ok
theorem b_call (hf : Fam P wd K mg base N k W X) {x : Str} {j : Nat} {pn : List Str} {fn : List D → FR} {ms : List Mo} {p : Pos} {es : List Expr} {F : SE → R (List Pv)} (C : Cl P wd K mg base x j pn fn ms) (ha : BP K mg W X (a :: es) F) (hj : j ≤ k := by first | decide | omega) (hg : ∀ i, Gl (X i) x := by exact fun _ => rfl) (hdb : (x == ("__debug__" : Str)) = false := by decide)
    (he : ∀ i, starEach (a :: es) (X i).env = (false, eval a (X i).env) :: starEach es (X i).env := by intro _; rfl) (hpl : ∀ i, (backTo pos (starEach es (X i).env)).any (·.1) = false := by intro _; rfl) : BE K mg W X (.Call (.Name x p) (a :: es) [] pos) (eCall fn ms F) := by
  obtain ⟨ta, pa, sa⟩ := ha.ex
  exact ⟨_, pe_cl hf C hj pa hg hdb he hpl, call_sem sa⟩
theorem b_callO (hf : Fam P wd K mg base N k W X) {x : Str} {j : Nat} {pn : List Str} {fn : List D → FR} {ms : List Mo} {p : Pos} {es : List Expr} {F : SE → R (List Pv)} (C : Cl P wd K mg base x j pn fn ms) (ha : BP K mg W X (a :: es) F) (hj : j ≤ k := by first | decide | omega) (hg : ∀ i, Gl (X i) x := by exact fun _ => rfl) (hdb : (x == ("__debug__" : Str)) = false := by decide)
    (he : ∀ i, starEach (a :: es) (X i).env = (false, eval a (X i).env) :: starEach es (X i).env := by intro _; rfl) (hpl : ∀ i, (backTo pos (starEach es (X i).env)).any (·.1) = false := by intro _; rfl) : BO K mg W X (.Call (.Name x p) (a :: es) [] pos) (eCallO fn ms F) := by
  obtain ⟨ta, pa, sa⟩ := ha.ex
  exact ⟨_, pe_cl hf C hj pa hg hdb he hpl, callO_sem sa⟩
end
end DL

set_option Elab.async false
set_option linter.all false
set_option maxRecDepth 100000
namespace DL
open PySem PySem.Spec PyProof.Rows L2

/-! ### calls that change one slot -/
def giveM (ρ : SE) (i0 : Nat) : Mo → Pv → Option D
  | .v, .d d => some d
  | .b, .d d => if isCon d = true then some d else none
  | .b, .s i => if i = i0 then none else conOf ρ i
  | .m, .s i => if i = i0 then mineOf ρ i0 else none
  | _, _ => none
def giveAllM (ρ : SE) (i0 : Nat) : List Mo → List Pv → Option (List D)
  | [], [] => some []
  | m :: ms, p :: pvs => match giveM ρ i0 m p, giveAllM ρ i0 ms pvs with
    | some d, some ds => some (d :: ds)
    | _, _ => none
  | _, _ => none
def setMine (ρ : SE) (i : Nat) (d : D) : SE := match ρ[i]? with
  | some (.own _) => ρ.set i (.own d)
  | some (.mt _) => ρ.set i (.mt d)
  | _ => ρ
section
variable {K : PySem.W.Frag} {mg : Str → Option Value} {W : WX} {P : Program} {wd : World} {base : Heap} {N : List Str} {k : Nat} {ι : Type} {X : ι → Cx}
variable {a b c e : Expr} {Fa Fb Fc : SE → R D} {pos : Pos}
/-- a slot's container, another cell than a0 -/
theorem conOf_ne {w : Wd} {ps : Nat → Option Addr} {σ : L2.St} {ρ : SE} {i i0 : Nat} {d : D} {a0 : Addr} {s0 : Sl} (st : Sts K w ps σ ρ) (h : conOf ρ i = some d) (hi : i ≠ i0) (h0 : ρ[i0]? = some s0) (m0 : s0.mine = true) (e0 : σ[i0]? = some (some (.ref a0))) (ho : w.o a0) :
    ∃ a, σ[i]? = some (some (.ref a)) ∧ ConB K w a d ∧ a ≠ a0 := by
  unfold conOf at h
  split at h
  · rename_i d' e
    cases h
    obtain ⟨a, d2, q1, q2, q3, q4⟩ := slot_mine st e rfl
    rcases q4 with q4 | ⟨q4, _⟩ <;> cases q4
    exact ⟨a, q1, q3.b, fun z => st.apart i i0 _ _ a hi e h0 rfl m0 q1 (by rw [e0, z])⟩
  · rename_i d' e
    cases h
    obtain ⟨a, d2, q1, q2, q3, q4⟩ := slot_mine st e rfl
    rcases q4 with q4 | ⟨q4, _⟩ <;> cases q4
    exact ⟨a, q1, q3.b, fun z => st.apart i i0 _ _ a hi e h0 rfl m0 q1 (by rw [e0, z])⟩
  · rename_i d' e
    cases h
    have q := st.sl i _ e
    cases e1 : σ[i]? with
    | none => rw [e1] at q; exact q.elim
    | some x => cases x with
      | none => rw [e1] at q; exact q.elim
      | some v => cases v with
        | ref a => rw [e1] at q; exact ⟨a, rfl, q.2, fun z => q.1 (z ▸ ho)⟩
        | _ => rw [e1] at q; exact q.elim
  · rename_i d' e
    split at h
    · rename_i hc
      cases h
      have q := st.sl i _ e
      cases e1 : σ[i]? with
      | none => rw [e1] at q; exact q.elim
      | some x => cases x with
        | none => rw [e1] at q; exact q.elim
        | some v =>
          rw [e1] at q
          obtain ⟨a, rfl, c, n⟩ := con_rep st hc q
          exact ⟨a, rfl, c, fun z => n (z ▸ ho)⟩
    · cases h
  · cases h
theorem giveM_sl {w : Wd} {ps : Nat → Option Addr} {σ : L2.St} {ρ : SE} {i0 : Nat} {a0 : Addr} {s0 : Sl} {d0 : D} (st : Sts K w ps σ ρ) (h0 : ρ[i0]? = some s0) (m0 : s0.mine = true) (e0 : σ[i0]? = some (some (.ref a0))) (ho : w.o a0) (c0 : Con K w a0 d0) (g0 : mineOf ρ i0 = some d0) :
    ∀ {vs : List V} {pvs : List Pv} {ms : List Mo} {ds : List D}, PvOk K w σ vs pvs → giveAllM ρ i0 ms pvs = some ds →
    vs.length = ms.length ∧ ds.length = ms.length ∧ (∀ (j : Nat) (s : Sl), (entry ms ds)[j]? = some s → SlOk K (w.sub fun b => b = a0) (some a0) (vs.map some)[j]? s)
  | _, _, [], ds, .nil, h => by cases h; exact ⟨rfl, rfl, fun j s h => by simp [entry] at h⟩
  | _, _, [], ds, .d _ _, h => by cases h
  | _, _, [], ds, .s _ _, h => by cases h
  | _, _, m :: ms, ds, .nil, h => by cases h
  | _, _, m :: ms, ds, .d (v := v) (d := d) (vs := vs) (ps := pvs) r t, h => by
    unfold giveAllM at h
    split at h
    · rename_i d' ds' e1 e2
      cases h
      obtain ⟨l1, l2, h3⟩ := giveM_sl st h0 m0 e0 ho c0 g0 t e2
      refine ⟨by simp [l1], by simp [l2], fun j s hj => ?_⟩
      cases m with
      | v =>
        cases e1
        cases j with
        | zero => cases hj; exact r
        | succ j => exact h3 j s hj
      | b =>
        have e1 : (if isCon d = true then some d else none) = some d' := e1
        split at e1
        · rename_i hc
          cases e1
          cases j with
          | zero =>
            cases hj
            obtain ⟨a, rfl, c, n⟩ := con_rep st hc r
            exact ⟨fun z => n (by have z : a = a0 := z; rw [z]; exact ho), c.re⟩
          | succ j => exact h3 j s hj
        · cases e1
      | m => cases e1
    · cases h
  | _, _, m :: ms, ds, .s (v := v) (i := i) (vs := vs) (ps := pvs) r t, h => by
    unfold giveAllM at h
    split at h
    · rename_i d' ds' e1 e2
      cases h
      obtain ⟨l1, l2, h3⟩ := giveM_sl st h0 m0 e0 ho c0 g0 t e2
      refine ⟨by simp [l1], by simp [l2], fun j s hj => ?_⟩
      cases m with
      | v => cases e1
      | b =>
        have e1 : (if i = i0 then none else conOf ρ i) = some d' := e1
        split at e1
        · cases e1
        · rename_i hi
          cases j with
          | zero =>
            cases hj
            obtain ⟨a, q1, c, n⟩ := conOf_ne st e1 hi h0 m0 e0 ho
            rw [r] at q1
            cases q1
            exact ⟨n, c.re⟩
          | succ j => exact h3 j s hj
      | m =>
        have e1 : (if i = i0 then mineOf ρ i0 else none) = some d' := e1
        split at e1
        · rename_i hi
          subst hi
          rw [g0] at e1
          cases e1
          rw [e0] at r
          cases r
          cases j with
          | zero => cases hj; exact ⟨rfl, c0.re, rfl⟩
          | succ j => exact h3 j s hj
        · cases e1
    · cases h
def eCallM (fn : List D → FR) (ms : List Mo) (i0 : Nat) (F : SE → R (List Pv)) : SE → R D := fun ρ => (F ρ).bind fun pvs ρ1 => match giveAllM ρ1 i0 ms pvs with
  | none => .stuck
  | some as => match fn as with
    | .ok (.v d) (some o) => .ok d (setMine ρ1 i0 o)
    | _ => .stuck
def eCallMO (fn : List D → FR) (ms : List Mo) (i0 : Nat) (F : SE → R (List Pv)) : SE → R D := fun ρ => (F ρ).bind fun pvs ρ1 => match giveAllM ρ1 i0 ms pvs with
  | none => .stuck
  | some as => match fn as with
    | .ok (.o d) (some o) => .ok d (setMine ρ1 i0 o)
    | _ => .stuck
/-- the caller's state behind a call that changed the cell a0 of its slot i0 -/
theorem backM {w w' : Wd} {ps : Nat → Option Addr} {σ : L2.St} {ρ : SE} {i0 : Nat} {a0 : Addr} {s0 : Sl} {o : D} (st : Sts K w ps σ ρ) (h0 : ρ[i0]? = some s0) (m0 : s0.mine = true) (e0 : σ[i0]? = some (some (.ref a0))) (ho : w.o a0) (s : Step (w.sub fun b => b = a0) w') (hs : Same w'.G w'.H)
    (c' : Con K w' a0 o) (g' : w'.G a0 = none) : Sts K ⟨w'.G, w'.H, w.o⟩ ps σ (setMine ρ i0 o) := by
  have hset : ∃ s1, setMine ρ i0 o = ρ.set i0 s1 ∧ s1.mine = true ∧ SlOk K ⟨w'.G, w'.H, w.o⟩ (ps i0) (some (some (.ref a0))) s1 := by
    have q := st.sl i0 _ h0
    rw [e0] at q
    cases s0 with
    | own d => exact ⟨.own o, by unfold setMine; rw [h0], rfl, ⟨ho, by cases o <;> exact c'⟩⟩
    | mt d => exact ⟨.mt o, by unfold setMine; rw [h0], rfl, ⟨ho, by cases o <;> exact c', q.2.2⟩⟩
    | any => cases m0
    | val d => cases m0
    | bor d => cases m0
  obtain ⟨s1, e1, m1, ok1⟩ := hset
  rw [e1]
  have s' : Step w ⟨w'.G, w'.H, w.o⟩ := sub_step (fun a z => by have z : a = a0 := z; rw [z]; exact ho) s
  refine ⟨hs, fun a h => ?_, fun a h => s'.there a (st.tr a h), by rw [List.length_set]; exact st.len, fun j t hj => ?_, fun j1 j2 s t a ne h1 h2 n1 n2 e1 e2 => ?_⟩
  · cases e : w'.G a with
    | none => rfl
    | some x =>
      rcases s.newG a (by rw [e]; exact nn_some) with q | q | q
      · exact absurd (st.disj a h) q
      · exact absurd q (st.tr a h)
      · have q : a = a0 := q
        rw [q, g'] at e; cases e
  · rcases get_set hj with ⟨rfl, rfl, _⟩ | ⟨ne, hj⟩
    · rw [e0]; exact ok1
    · have q := st.sl j t hj
      have nea : ∀ b, σ[j]? = some (some (.ref b)) → t.mine = true → b ≠ a0 := fun b e2 mt z => st.apart j i0 t s0 a0 ne hj h0 mt m0 (by rw [e2, z]) e0
      cases t with
      | any => unfold SlOk; trivial
      | val d =>
        cases e2 : σ[j]? with
        | none => rw [e2] at q; exact q
        | some x => cases x with
          | none => rw [e2] at q; exact q
          | some v => rw [e2] at q; exact Rep.mono s.froz q
      | own d =>
        cases e2 : σ[j]? with
        | none => rw [e2] at q; exact q
        | some x => cases x with
          | none => rw [e2] at q; exact q
          | some v => cases v with
            | ref b => rw [e2] at q; exact ⟨q.1, by
                have := Con.step_ne s (a := b) (nea b e2 rfl) q.2.re
                cases d <;> exact this⟩
            | _ => rw [e2] at q; exact q
      | mt d =>
        cases e2 : σ[j]? with
        | none => rw [e2] at q; exact q
        | some x => cases x with
          | none => rw [e2] at q; exact q
          | some v => cases v with
            | ref b => rw [e2] at q; exact ⟨q.1, by
                have := Con.step_ne s (a := b) (nea b e2 rfl) q.2.1.re
                cases d <;> exact this, q.2.2⟩
            | _ => rw [e2] at q; exact q
      | bor d =>
        cases e2 : σ[j]? with
        | none => rw [e2] at q; exact q
        | some x => cases x with
          | none => rw [e2] at q; exact q
          | some v => cases v with
            | ref b => rw [e2] at q; exact ⟨q.1, by
                have := ConB.step_ne s (a := b) (fun z => q.1 (by have z : b = a0 := z; rw [z]; exact ho)) q.2.re
                cases d <;> exact this⟩
            | _ => rw [e2] at q; exact q
  · have h1' : ∃ s', ρ[j1]? = some s' ∧ s'.mine = true := by
      rcases get_set h1 with ⟨rfl, _, _⟩ | ⟨_, h1⟩
      · exact ⟨s0, h0, m0⟩
      · exact ⟨s, h1, n1⟩
    have h2' : ∃ s', ρ[j2]? = some s' ∧ s'.mine = true := by
      rcases get_set h2 with ⟨rfl, _, _⟩ | ⟨_, h2⟩
      · exact ⟨s0, h0, m0⟩
      · exact ⟨t, h2, n2⟩
    obtain ⟨u1, p1, p2⟩ := h1'
    obtain ⟨u2, p3, p4⟩ := h2'
    exact st.apart j1 j2 u1 u2 a ne p1 p3 p2 p4 e1 e2
theorem giveAllM_mine : ∀ {ρ : SE} {i0 : Nat} {ms : List Mo} {pvs : List Pv} {ds : List D}, giveAllM ρ i0 ms pvs = some ds → ∀ j : Nat, ms[j]? = some .m → ∃ d, mineOf ρ i0 = some d
  | _, _, [], _, _, _, j, e => by simp at e
  | ρ, i0, m :: ms, [], _, h, _, _ => by cases h
  | ρ, i0, m :: ms, p :: pvs, _, h, j, e => by
    unfold giveAllM at h
    split at h
    · rename_i d' ds' e1 e2
      cases j with
      | zero =>
        cases e
        cases p with
        | d _ => cases e1
        | s i =>
          have e1 : (if i = i0 then mineOf ρ i0 else none) = some d' := e1
          split at e1
          · exact ⟨d', e1⟩
          · cases e1
      | succ j => exact giveAllM_mine e2 j e
    · cases h
theorem callM_core {fn : List D → FR} {ms : List Mo} {j0 i0 : Nat} (hm0 : ms[j0]? = some .m) (hm1 : (ms.filter (· = .m)).length ≤ 1) {w : Wd} {ps : Nat → Option Addr} {σ : L2.St} {ρ : SE} {vs : List V} {pvs : List Pv} {as : List D} {Q : VK} {E : XK} (st : Sts K w ps σ ρ) (r : PvOk K w σ vs pvs) (eg : giveAllM ρ i0 ms pvs = some as)
    (h : match fn as with
      | .ok (.v d) (some o) => ∀ v w', Step w w' → w'.o = w.o → Sts K w' ps σ (setMine ρ i0 o) → Rep K w'.G v d → Q v w'.H
      | .ok (.o d) (some o) => ∀ a w', Step w w' → w'.o = w.o → Sts K w' ps σ (setMine ρ i0 o) → Con K w' a d → w'.G a = none → w.H a = none → NoB σ (setMine ρ i0 o) a → Q (.ref a) w'.H
      | _ => False) : spD K mg fn ms vs w.H Q E := by
  obtain ⟨d0, g0⟩ := giveAllM_mine eg j0 hm0
  obtain ⟨a0, s0, e0, ho, c0, h0, m0⟩ := mineOf_ok st g0
  obtain ⟨l1, l2, hsl⟩ := giveM_sl st h0 m0 e0 ho c0 g0 r eg
  have ho' : ∀ a, (fun b => b = a0) a → w.o a := fun a z => by have z : a = a0 := z; rw [z]; exact ho
  refine ⟨w.sub fun b => b = a0, fun _ => some a0, as, rfl, ⟨st.sub, fun b z => st.disj b (ho' b z), fun b z => st.tr b (ho' b z), by rw [List.length_map, entry_len l2, l1], fun j s hj => hsl j s hj, fun i j s t a ne h2 h3 m2 m3 _ _ => ne (mo1_of hm1 i j (entry_m h2 m2) (entry_m h3 m3))⟩,
    fun b z => ⟨j0, hm0, by have z : b = a0 := z; rw [z]⟩, l2, l1, ?_⟩
  have nob : ∀ {o : D} {a : Addr}, w.H a = none → NoB σ (setMine ρ i0 o) a := fun {o a} n j d hj z => by
    have : ρ[j]? = some (.bor d) := by
      unfold setMine at hj
      split at hj
      · rcases get_set hj with ⟨_, q, _⟩ | ⟨_, q⟩
        · cases q
        · exact q
      · rcases get_set hj with ⟨_, q, _⟩ | ⟨_, q⟩
        · cases q
        · exact q
      · exact hj
    exact st.noB n j d this z
  split at h
  · rename_i d o ef
    rw [ef]
    intro v w2 s2 hs2 r2 out
    obtain ⟨a, d', q1, q2, q3, q4⟩ := out j0 hm0
    cases q1; cases q2
    exact h v ⟨w2.G, w2.H, w.o⟩ (sub_step ho' s2) rfl (backM st h0 m0 e0 ho s2 hs2 q3 q4) r2
  · rename_i d o ef
    rw [ef]
    intro a w2 s2 hs2 c2 g2 n2 out
    obtain ⟨a', d', q1, q2, q3, q4⟩ := out j0 hm0
    cases q1; cases q2
    exact h a ⟨w2.G, w2.H, w.o⟩ (sub_step ho' s2) rfl (backM st h0 m0 e0 ho s2 hs2 q3 q4) (by cases d <;> exact c2) g2 n2 (nob n2)
  · exact h.elim
theorem callM_sem {fn : List D → FR} {ms : List Mo} {j0 i0 : Nat} (hm0 : ms[j0]? = some .m) (hm1 : (ms.filter (· = .m)).length ≤ 1) {t : TA} {F : SE → R (List Pv)} (sa : SemP K mg W t F) : SemE K mg W (tCallSD (spD K mg fn ms) [] (WE W) t) (eCallM fn ms i0 F) := fun w ps σ ρ Q st h => by
  refine sa w ps σ ρ _ st (h.bind.imp (fun pvs ρ1 h1 vs w1 s1 o1 st1 r1 => ?_) fun _ _ _ q => q)
  split at h1
  · exact h1.elim
  · rename_i as eg
    rw [List.append_nil]
    refine callM_core hm0 hm1 st1 r1 eg ?_
    split at h1
    · rename_i d o ef
      rw [ef]
      exact fun v w2 s2 o2 st2 r2 => h1 v w2 (s1.trans s2) (o2.trans o1) st2 r2
    · exact h1.elim
theorem callMO_sem {fn : List D → FR} {ms : List Mo} {j0 i0 : Nat} (hm0 : ms[j0]? = some .m) (hm1 : (ms.filter (· = .m)).length ≤ 1) {t : TA} {F : SE → R (List Pv)} (sa : SemP K mg W t F) : SemO K mg W (tCallSD (spD K mg fn ms) [] (WE W) t) (eCallMO fn ms i0 F) := fun w ps σ ρ Q st h => by
  refine sa w ps σ ρ _ st (h.bind.imp (fun pvs ρ1 h1 vs w1 s1 o1 st1 r1 => ?_) fun _ _ _ q => q)
  split at h1
  · exact h1.elim
  · rename_i as eg
    rw [List.append_nil]
    refine callM_core hm0 hm1 st1 r1 eg ?_
    split at h1
    · rename_i d o ef
      rw [ef]
      exact fun v w2 s2 o2 st2 c2 g2 n2 b2 => h1 v w2 (s1.trans s2) (o2.trans o1) st2 c2 g2 (s1.back n2) b2
    · exact h1.elim
theorem b_callM (hf : Fam P wd K mg base N k W X) (j0 i0 : Nat) {x : Str} {j : Nat} {pn : List Str} {fn : List D → FR} {ms : List Mo} {p : Pos} {es : List Expr} {F : SE → R (List Pv)} (C : Cl P wd K mg base x j pn fn ms) (ha : BP K mg W X (a :: es) F) (hm0 : ms[j0]? = some .m := by rfl) (hm1 : (ms.filter (· = .m)).length ≤ 1 := by decide) (hj : j ≤ k := by first | decide | omega) (hg : ∀ i, Gl (X i) x := by exact fun _ => rfl) (hdb : (x == ("__debug__" : Str)) = false := by decide)
    (he : ∀ i, starEach (a :: es) (X i).env = (false, eval a (X i).env) :: starEach es (X i).env := by intro _; rfl) (hpl : ∀ i, (backTo pos (starEach es (X i).env)).any (·.1) = false := by intro _; rfl) : BE K mg W X (.Call (.Name x p) (a :: es) [] pos) (eCallM fn ms i0 F) := by
  obtain ⟨ta, pa, sa⟩ := ha.ex
  exact ⟨_, pe_cl hf C hj pa hg hdb he hpl, callM_sem hm0 hm1 sa⟩
theorem b_callMO (hf : Fam P wd K mg base N k W X) (j0 i0 : Nat) {x : Str} {j : Nat} {pn : List Str} {fn : List D → FR} {ms : List Mo} {p : Pos} {es : List Expr} {F : SE → R (List Pv)} (C : Cl P wd K mg base x j pn fn ms) (ha : BP K mg W X (a :: es) F) (hm0 : ms[j0]? = some .m := by rfl) (hm1 : (ms.filter (· = .m)).length ≤ 1 := by decide) (hj : j ≤ k := by first | decide | omega) (hg : ∀ i, Gl (X i) x := by exact fun _ => rfl) (hdb : (x == ("__debug__" : Str)) = false := by decide)
    (he : ∀ i, starEach (a :: es) (X i).env = (false, eval a (X i).env) :: starEach es (X i).env := by intro _; rfl) (hpl : ∀ i, (backTo pos (starEach es (X i).env)).any (·.1) = false := by intro _; rfl) : BO K mg W X (.Call (.Name x p) (a :: es) [] pos) (eCallMO fn ms i0 F) := by
  obtain ⟨ta, pa, sa⟩ := ha.ex
  exact ⟨_, pe_cl hf C hj pa hg hdb he hpl, callMO_sem hm0 hm1 sa⟩
end
end DL

set_option Elab.async false
set_option linter.all false
set_option maxRecDepth 100000
namespace DL
open PySem PySem.Spec PyProof.Rows L2

/-! ### operators on numbers and texts -/
theorem OpRor {X : Cx} {f : Value → Value → Sem Value} {r r' : R2} (h : OpR X f r) (h' : OpR X f r') : OpR X f (fun x y H Q => r x y H Q ∨ r' x y H Q) := fun pins s σ H x y v u Q I rx ry q => by
  rcases q with q | q
  · exact h pins s σ H x y v u Q I rx ry q
  · exact h' pins s σ H x y v u Q I rx ry q
section
variable {K : PySem.W.Frag}
theorem BinD.imp {r : R2} {g g' : D → D → Option D} (h : BinD K r g) (hg : ∀ a b d, g' a b = some d → g a b = some d) : BinD K r g' := fun w ps σ ρ x y a b d Q st ra rb e q => h w ps σ ρ x y a b d Q st ra rb (hg _ _ _ e) q
def gI0 (f : Int → Int → D) : D → D → Option D
  | .int i, .int j => some (f i j)
  | _, _ => none
def gI (c : Int → Int → Bool) (f : Int → Int → D) : D → D → Option D
  | .int i, .int j => if c i j = true then some (f i j) else none
  | _, _ => none
theorem binI0 {f : Int → Int → V} {fD : Int → Int → D} (hf : ∀ G i j, Rep K G (f i j) (fD i j)) : BinD K (rI0 f) (gI0 fD) := fun w ps σ ρ x y a b d Q st ra rb e q => by
  unfold gI0 at e
  split at e
  · cases ra; cases rb; cases e
    exact ⟨_, _, rfl, rfl, q _ w (Step.refl w) rfl st (hf _ _ _)⟩
  · cases e
theorem binI {C : Int → Int → Prop} {c : Int → Int → Bool} {f : Int → Int → V} {fD : Int → Int → D} (hf : ∀ G i j, Rep K G (f i j) (fD i j)) (hc : ∀ i j, c i j = true → C i j) : BinD K (rI C f) (gI c fD) := fun w ps σ ρ x y a b d Q st ra rb e q => by
  unfold gI at e
  split at e
  · split at e
    · rename_i hcc
      cases ra; cases rb; cases e
      exact ⟨_, _, rfl, rfl, hc _ _ hcc, q _ w (Step.refl w) rfl st (hf _ _ _)⟩
    · cases e
  · cases e
def gS (c : Str → Str → Bool) (f : Str → Str → D) : D → D → Option D
  | .str i, .str j => if c i j = true then some (f i j) else none
  | _, _ => none
/-! + -/
def addStrOk (i j : Str) : Bool := decide (i.length + j.length ≤ sizeLine)
def gAdd : D → D → Option D
  | .int i, .int j => some (.int (i + j))
  | .str i, .str j => if addStrOk i j = true then some (.str (i ++ j)) else none
  | _, _ => none
abbrev rAddN : R2 := fun x y H Q => (rI0 (fun i j => .int (i + j))) x y H Q ∨ (∃ i j, x = .str i ∧ y = .str j ∧ i.length + j.length ≤ sizeLine ∧ Q (.str (i ++ j)) H)
theorem o_add {X : Cx} : OpR X (binaryOp .Add) rAddN := OpRor op_add op_add_str
theorem d_add : BinD K rAddN gAdd := fun w ps σ ρ x y a b d Q st ra rb e q => by
  unfold gAdd at e
  split at e
  · cases ra; cases rb; cases e
    exact .inl ⟨_, _, rfl, rfl, q _ w (Step.refl w) rfl st (.int _)⟩
  · split at e
    · rename_i h
      cases ra; cases rb; cases e
      exact .inr ⟨_, _, rfl, rfl, of_decide_eq_true h, q _ w (Step.refl w) rfl st (.str _)⟩
    · cases e
  · cases e
abbrev gSub : D → D → Option D := gI0 fun i j => .int (i - j)
theorem d_sub : BinD K (rI0 fun i j => .int (i - j)) gSub := binI0 fun _ _ _ => .int _
def mulSmall (i j : Int) : Bool := (decide (-(2 ^ 64) < i) && decide (i < 2 ^ 64)) || (decide (-(2 ^ 64) < j) && decide (j < 2 ^ 64))
def mulWide (i j : Int) : Bool := decide (i.natAbs.log2 + j.natAbs.log2 < 1000000)
def mulOk (i j : Int) : Bool := mulSmall i j || mulWide i j
abbrev gMul : D → D → Option D := gI mulOk fun i j => .int (i * j)
abbrev rMulN : R2 := fun x y H Q => (rI CMul fun i j => .int (i * j)) x y H Q ∨ (rI CMulW fun i j => .int (i * j)) x y H Q
theorem o_mul {X : Cx} : OpR X (binaryOp .Mult) rMulN := OpRor op_mul op_mulW
theorem d_mul : BinD K rMulN gMul := fun w ps σ ρ x y a b d Q st ra rb e q => by
  unfold gMul gI at e
  split at e
  · split at e
    · rename_i h
      cases ra; cases rb; cases e
      unfold mulOk at h
      rcases (Bool.or_eq_true _ _ ▸ h : mulSmall _ _ = true ∨ mulWide _ _ = true) with h | h
      · refine .inl ⟨_, _, rfl, rfl, ?_, q _ w (Step.refl w) rfl st (.int _)⟩
        unfold mulSmall at h
        simp only [Bool.or_eq_true, Bool.and_eq_true, decide_eq_true_eq] at h
        exact h
      · unfold mulWide at h
        have h' := of_decide_eq_true h
        exact .inr ⟨_, _, rfl, rfl, h', q _ w (Step.refl w) rfl st (.int _)⟩
    · cases e
  · cases e
def divOk (_ j : Int) : Bool := (decide (j ≠ 0) && decide (j.natAbs < 1073741824)) || (decide (0 < j) && decide (j.natAbs.log2 < 9000))
abbrev gDiv : D → D → Option D := gI divOk fun i j => .int (i.fdiv j)
abbrev rDivN : R2 := fun x y H Q => (rI CDivN fun i j => .int (i.fdiv j)) x y H Q ∨ (rI CDivW fun i j => .int (i / j)) x y H Q
theorem o_div {X : Cx} : OpR X (binaryOp .FloorDiv) rDivN := OpRor op_fdivN op_fdivW
theorem d_div : BinD K rDivN gDiv := fun w ps σ ρ x y a b d Q st ra rb e q => by
  unfold gDiv gI at e
  split at e
  · split at e
    · rename_i i j h
      cases ra; cases rb; cases e
      unfold divOk at h
      simp only [Bool.or_eq_true, Bool.and_eq_true, decide_eq_true_eq] at h
      rcases h with h | h
      · exact .inl ⟨_, _, rfl, rfl, h, q _ w (Step.refl w) rfl st (.int _)⟩
      · refine .inr ⟨_, _, rfl, rfl, h, ?_⟩
        have := q _ w (Step.refl w) rfl st (.int (i.fdiv j))
        rw [Int.fdiv_eq_ediv_of_nonneg i (by omega)] at this
        exact this
    · cases e
  · cases e
abbrev gMod : D → D → Option D := gI (fun _ j => decide (j ≠ 0)) fun i j => .int (i.fmod j)
theorem d_mod : BinD K (rI (fun _ j => j ≠ 0) fun i j => .int (i.fmod j)) gMod := binI (fun _ _ _ => .int _) fun _ _ h => of_decide_eq_true h
def powOk (i j : Int) : Bool := decide (0 ≤ j) && decide (j ≤ 1000000) && decide (i.natAbs < 2 ^ 64)
abbrev gPow : D → D → Option D := gI powOk fun i j => .int (i ^ j.toNat)
theorem d_pow : BinD K (rI CPow fun i j => .int (i ^ j.toNat)) gPow := binI (fun _ _ _ => .int _) fun _ _ h => by
  unfold powOk at h
  simp only [Bool.and_eq_true, decide_eq_true_eq] at h
  exact ⟨h.1.1, h.1.2, h.2⟩
def gNeg : D → Option D
  | .int i => some (.int (-i))
  | _ => none
theorem d_neg : UnD K (rU fun i => .int (-i)) gNeg := fun w ps σ ρ x a d Q st ra e q => by
  unfold gNeg at e
  split at e
  · cases ra; cases e
    exact ⟨_, rfl, q _ w (Step.refl w) rfl st (.int _)⟩
  · cases e
/-! comparisons -/
def sLt (i j : Str) : Bool := decide (i.cps.toList < j.cps.toList)
def gLt : D → D → Option D
  | .int i, .int j => some (.bl (decide (i < j)))
  | .str i, .str j => some (.bl (sLt i j))
  | _, _ => none
abbrev rLtN : R2 := fun x y H Q => (rI0 fun i j => .bl (decide (i < j))) x y H Q ∨ (∃ i j, x = .str i ∧ y = .str j ∧ Q (.bl (decide (i.cps.toList < j.cps.toList))) H)
theorem o_lt {X : Cx} : OpR X (compareOp .Lt) rLtN := OpRor op_lt op_lt_str
theorem d_lt : BinD K rLtN gLt := fun w ps σ ρ x y a b d Q st ra rb e q => by
  unfold gLt at e
  split at e
  · cases ra; cases rb; cases e
    exact .inl ⟨_, _, rfl, rfl, q _ w (Step.refl w) rfl st (.bl _)⟩
  · cases ra; cases rb; cases e
    exact .inr ⟨_, _, rfl, rfl, q _ w (Step.refl w) rfl st (.bl _)⟩
  · cases e
abbrev gLe : D → D → Option D := gI0 fun i j => .bl (decide (i ≤ j))
abbrev gGt : D → D → Option D := gI0 fun i j => .bl (decide (j < i))
abbrev gGe : D → D → Option D := gI0 fun i j => .bl (decide (j ≤ i))
theorem d_le : BinD K (rI0 fun i j => .bl (decide (i ≤ j))) gLe := binI0 fun _ _ _ => .bl _
theorem d_gt : BinD K (rI0 fun i j => .bl (decide (j < i))) gGt := binI0 fun _ _ _ => .bl _
theorem d_ge : BinD K (rI0 fun i j => .bl (decide (j ≤ i))) gGe := binI0 fun _ _ _ => .bl _
def gIsN : D → D → Option D := fun a b => match b with
  | .non => some (.bl (match a with | .non => true | _ => false))
  | _ => none
def gNotN : D → D → Option D := fun a b => match b with
  | .non => some (.bl (match a with | .non => false | _ => true))
  | _ => none
theorem d_isN : BinD K (fun x y H Q => y = .non ∧ Q (.bl (decide (x = .non))) H) gIsN := fun w ps σ ρ x y a b d Q st ra rb e q => by
  unfold gIsN at e
  split at e
  · cases rb; cases e
    refine ⟨rfl, ?_⟩
    have := fun v r => q v w (Step.refl w) rfl st r
    cases ra <;> exact this _ (.bl _)
  · cases e
theorem d_notN : BinD K (fun x y H Q => y = .non ∧ Q (.bl (!decide (x = .non))) H) gNotN := fun w ps σ ρ x y a b d Q st ra rb e q => by
  unfold gNotN at e
  split at e
  · cases rb; cases e
    refine ⟨rfl, ?_⟩
    have := fun v r => q v w (Step.refl w) rfl st r
    cases ra <;> exact this _ (.bl _)
  · cases e
/-! == -/
mutual
def toP : D → Option PyData
  | .non => some .none
  | .bl b => some (.bool b)
  | .int i => some (.int i)
  | .str s => some (.str s)
  | .tup ds => match toPs ds with
    | some l => some (.tuple l)
    | none => none
  | .lst ds => match toPs ds with
    | some l => some (.list l)
    | none => none
  | .dk _ _ => none
  | .dt _ _ => none
def toPs : List D → Option (List PyData)
  | [] => some []
  | d :: ds => match toP d, toPs ds with
    | some x, some l => some (x :: l)
    | _, _ => none
end
mutual
theorem Rep.dp {G H : Hp} (hs : Same G H) : ∀ {v : V} {d : D} {p : PyData}, Rep K G v d → toP d = some p → Dp K H v p
  | _, _, _, .non, e => by cases e; exact .non
  | _, _, _, .bl b, e => by cases e; exact .bl b
  | _, _, _, .int i, e => by cases e; exact .int i
  | _, _, _, .str s, e => by cases e; exact .str s
  | _, _, _, .tup (ds := ds) h r, e => by
    unfold toP at e
    split at e
    · rename_i l el
      cases e
      exact .tup (sqT_same hs h) (Reps.dp hs r el)
    · cases e
  | _, _, _, .lst (ds := ds) h r, e => by
    unfold toP at e
    split at e
    · rename_i l el
      cases e
      exact .lst (.inl (.inl (hs _ _ h))) (Reps.dp hs r el)
    · cases e
  | _, _, _, .dk _ _ _, e => by cases e
  | _, _, _, .dt _ _ _, e => by cases e
theorem Reps.dp {G H : Hp} (hs : Same G H) : ∀ {v : List V} {d : List D} {p : List PyData}, Reps K G v d → toPs d = some p → DpAll K H v p
  | _, _, _, .nil, e => by cases e; exact .nil
  | _, _, _, .cons (d := d) (ds := ds) r rs, e => by
    unfold toPs at e
    split at e
    · rename_i x l e1 e2
      cases e
      exact .cons (Rep.dp hs r e1) (Reps.dp hs rs e2)
    · cases e
end
def eqDeep (a b : D) : Option Bool := match toP a, toP b with
  | some x, some y => if SeqAt.shaped x = true ∧ SeqAt.shaped y = true then some (PyData.eqv x y) else none
  | _, _ => none
def eqD : D → D → Option Bool
  | .int i, .int j => some (decide (i = j))
  | .str i, .str j => some (decide (i = j))
  | .bl i, .bl j => some (decide (i = j))
  | .non, .non => some true
  | a, b => eqDeep a b
def gEq (a b : D) : Option D := (eqD a b).map .bl
def gNe (a b : D) : Option D := (eqD a b).map fun x => .bl (!x)
abbrev rEqN (K : PySem.W.Frag) : R2 := fun x y H Q => rEq x y H Q ∨ rEqD K x y H Q
abbrev rNeN (K : PySem.W.Frag) : R2 := fun x y H Q => rNe x y H Q ∨ rNeD K x y H Q
theorem o_eq {X : Cx} (hK : X.K = K) {k : Nat} (hr : Room k X.A) : OpR X (compareOp .Eq) (rEqN K) := by
  subst hK
  exact OpRor op_eq (op_eqD hr.units)
theorem o_ne {X : Cx} (hK : X.K = K) {k : Nat} (hr : Room k X.A) : OpR X (compareOp .NotEq) (rNeN K) := by
  subst hK
  exact OpRor op_ne (op_neD hr.units)
theorem eqD_ok {w : Wd} {ps : Nat → Option Addr} {σ : L2.St} {ρ : SE} {x y : V} {a b : D} {c : Bool} (st : Sts K w ps σ ρ) (ra : Rep K w.G x a) (rb : Rep K w.G y b) (e : eqD a b = some c) :
    (scal x y = true ∧ decide (x = y) = c) ∨ (∃ d e, Dp K w.H x d ∧ Dp K w.H y e ∧ SeqAt.shaped d = true ∧ SeqAt.shaped e = true ∧ PyData.eqv d e = c) := by
  unfold eqD at e
  split at e
  · cases ra; cases rb; cases e
    refine .inl ⟨rfl, ?_⟩
    simp
  · cases ra; cases rb; cases e
    refine .inl ⟨rfl, ?_⟩
    simp
  · cases ra; cases rb; cases e
    refine .inl ⟨rfl, ?_⟩
    simp
  · cases ra; cases rb; cases e
    exact .inl ⟨rfl, rfl⟩
  · unfold eqDeep at e
    split at e
    · rename_i p q e1 e2
      split at e
      · rename_i hsh
        cases e
        exact .inr ⟨p, q, ra.dp st.sub e1, rb.dp st.sub e2, hsh.1, hsh.2, rfl⟩
      · cases e
    · cases e
theorem d_eq : BinD K (rEqN K) gEq := fun w ps σ ρ x y a b d Q st ra rb e q => by
  obtain ⟨c, e1, rfl⟩ := Option.map_eq_some_iff.mp e
  have q' := q (.bl c) w (Step.refl w) rfl st (.bl c)
  rcases eqD_ok st ra rb e1 with ⟨h1, rfl⟩ | ⟨d1, d2, h1, h2, h3, h4, rfl⟩
  · exact .inl ⟨h1, q'⟩
  · exact .inr ⟨d1, d2, h1, h2, h3, h4, q'⟩
theorem d_ne : BinD K (rNeN K) gNe := fun w ps σ ρ x y a b d Q st ra rb e q => by
  obtain ⟨c, e1, rfl⟩ := Option.map_eq_some_iff.mp e
  have q' := q (.bl (!c)) w (Step.refl w) rfl st (.bl _)
  rcases eqD_ok st ra rb e1 with ⟨h1, rfl⟩ | ⟨d1, d2, h1, h2, h3, h4, rfl⟩
  · exact .inl ⟨h1, q'⟩
  · exact .inr ⟨d1, d2, h1, h2, h3, h4, q'⟩
/-! in -/
def flatD : D → Bool
  | .non => true
  | .bl _ => true
  | .int _ => true
  | .str _ => true
  | _ => false
def eqF : D → D → Bool
  | .non, .non => true
  | .bl a, .bl b => a == b
  | .bl a, .int b => (if a then 1 else 0) == b
  | .int a, .bl b => a == (if b then 1 else 0)
  | .int a, .int b => a == b
  | .str a, .str b => a == b
  | _, _ => false
theorem flat_rep {G : Hp} {v : V} {d : D} (r : Rep K G v d) (h : flatD d = true) : flatV v = true := by
  cases r <;> first | rfl | cases h
theorem eqF_rep {G : Hp} {v u : V} {d e : D} (r : Rep K G v d) (s : Rep K G u e) (h : flatD d = true) (h' : flatD e = true) : eqV v u = eqF d e := by
  cases r <;> cases s <;> first | rfl | cases h | cases h'
theorem flats_rep {G : Hp} : ∀ {vs : List V} {ds : List D}, Reps K G vs ds → ds.all flatD = true → vs.all flatV = true
  | _, _, .nil, _ => rfl
  | _, _, .cons r t, h => by
    rw [List.all_cons, Bool.and_eq_true] at h
    rw [List.all_cons, flat_rep r h.1, flats_rep t h.2]
    rfl
theorem in_rep {G : Hp} {x : V} {a : D} (r : Rep K G x a) (ha : flatD a = true) : ∀ {vs : List V} {ds : List D}, Reps K G vs ds → ds.all flatD = true → inV x vs = ds.any fun y => eqF y a
  | _, _, .nil, _ => rfl
  | _, _, .cons q t, h => by
    rw [List.all_cons, Bool.and_eq_true] at h
    show (eqV _ x || inV x _) = _
    rw [List.any_cons, eqF_rep q r h.1 ha, in_rep r ha t h.2]
def inStr (i j : Str) : Bool := !(Builtin.Str.occurrences j i 0 j.length 1).isEmpty
def inD (x : D) : D → Option Bool
  | .str j => match x with
    | .str i => some (inStr i j)
    | _ => none
  | .lst ds => if flatD x = true ∧ ds.all flatD = true then some (ds.any fun y => eqF y x) else none
  | .tup ds => if flatD x = true ∧ ds.all flatD = true then some (ds.any fun y => eqF y x) else none
  | _ => none
def gIn (x y : D) : Option D := (inD x y).map .bl
def gNotIn (x y : D) : Option D := (inD x y).map fun b => .bl (!b)
abbrev rInN (K : PySem.W.Frag) : R2 := fun x y H Q => rIn K false x y H Q ∨ ∃ i j, x = .str i ∧ y = .str j ∧ Q (.bl (!(Builtin.Str.occurrences j i 0 j.length 1).isEmpty)) H
abbrev rNotInN (K : PySem.W.Frag) : R2 := fun x y H Q => rIn K true x y H Q ∨ ∃ i j, x = .str i ∧ y = .str j ∧ Q (.bl (!(!(Builtin.Str.occurrences j i 0 j.length 1).isEmpty))) H
theorem o_in {X : Cx} (hK : X.K = K) : OpR X (compareOp .In) (rInN K) := by
  subst hK
  exact OpRor op_in_seq op_in_str
theorem o_notIn {X : Cx} (hK : X.K = K) : OpR X (compareOp .NotIn) (rNotInN K) := by
  subst hK
  exact OpRor op_notIn_seq op_notIn_str
theorem inD_ok {w : Wd} {ps : Nat → Option Addr} {σ : L2.St} {ρ : SE} {x y : V} {a b : D} {c : Bool} (st : Sts K w ps σ ρ) (ra : Rep K w.G x a) (rb : Rep K w.G y b) (e : inD a b = some c) :
    (∃ p xs, y = .ref p ∧ (SqL K w.H p xs ∨ SqT K w.H p xs) ∧ flatV x = true ∧ xs.all flatV = true ∧ inV x xs = c) ∨ (∃ i j, x = .str i ∧ y = .str j ∧ c = !(Builtin.Str.occurrences j i 0 j.length 1).isEmpty) := by
  unfold inD at e
  split at e
  · split at e
    · cases ra; cases rb; cases e
      exact .inr ⟨_, _, rfl, rfl, rfl⟩
    · cases e
  · split at e
    · rename_i h
      cases e
      cases rb with
      | lst hl rs => exact .inl ⟨_, _, rfl, .inl (.inl (.inl (st.sub _ _ hl))), flat_rep ra h.1, flats_rep rs h.2, in_rep ra h.1 rs h.2⟩
    · cases e
  · split at e
    · rename_i h
      cases e
      cases rb with
      | tup hl rs => exact .inl ⟨_, _, rfl, .inr (sqT_same st.sub hl), flat_rep ra h.1, flats_rep rs h.2, in_rep ra h.1 rs h.2⟩
    · cases e
  · cases e
theorem d_in : BinD K (rInN K) gIn := fun w ps σ ρ x y a b d Q st ra rb e q => by
  obtain ⟨c, e1, rfl⟩ := Option.map_eq_some_iff.mp e
  have q' := q (.bl c) w (Step.refl w) rfl st (.bl c)
  rcases inD_ok st ra rb e1 with ⟨p, xs, rfl, h1, h2, h3, rfl⟩ | ⟨i, j, rfl, rfl, rfl⟩
  · exact .inl ⟨p, xs, rfl, h1, h2, h3, q'⟩
  · exact .inr ⟨i, j, rfl, rfl, q'⟩
theorem d_notIn : BinD K (rNotInN K) gNotIn := fun w ps σ ρ x y a b d Q st ra rb e q => by
  obtain ⟨c, e1, rfl⟩ := Option.map_eq_some_iff.mp e
  have q' := q (.bl (!c)) w (Step.refl w) rfl st (.bl _)
  rcases inD_ok st ra rb e1 with ⟨p, xs, rfl, h1, h2, h3, rfl⟩ | ⟨i, j, rfl, rfl, rfl⟩
  · exact .inl ⟨p, xs, rfl, h1, h2, h3, q'⟩
  · exact .inr ⟨i, j, rfl, rfl, q'⟩
end
section
variable {K : PySem.W.Frag} {mg : Str → Option Value} {W : WX} {P : Program} {wd : World} {base : Heap} {N : List Str} {k : Nat} {ι : Type} {X : ι → Cx}
variable {a b c e : Expr} {Fa Fb Fc : SE → R D} {pos : Pos}
/-! chains a < b < c -/
def eChain (g g' : D → D → Option D) (Fa Fb Fc : SE → R D) : SE → R D := fun ρ => (Fa ρ).bind fun x ρ1 => (Fb ρ1).bind fun y ρ2 => match g x y with
  | some (.bl true) => (Fc ρ2).bind fun z ρ3 => R.of ρ3 (g' y z)
  | some (.bl false) => .ok (.bl false) ρ2
  | _ => .stuck
theorem semChain {r r' : R2} {g g' : D → D → Option D} {ta tb tc : TE} (hg : BinD K r g) (hg' : BinD K r' g') (sa : SemE K mg W ta Fa) (sb : SemE K mg W tb Fb) (sc : SemE K mg W tc Fc) : SemE K mg W (tChain r r' ta tb tc) (eChain g g' Fa Fb Fc) := fun w ps σ ρ Q st h => by
  refine sa w ps σ ρ _ st (h.bind.imp (fun x ρ1 h1 v1 w1 s1 o1 st1 r1 => ?_) fun _ _ _ q => q)
  refine sb w1 ps σ ρ1 _ st1 (h1.bind.imp (fun y ρ2 h2 v2 w2 s2 o2 st2 r2 => ?_) fun _ _ _ q => q.step s1 o1)
  split at h2
  · rename_i e
    refine hg w2 ps σ ρ2 v1 v2 x y _ _ st2 (r1.mono s2.froz) r2 e fun v w3 s3 o3 st3 r3 => ?_
    cases r3
    refine ⟨true, rfl, iteT (sc w3 ps σ ρ2 _ st3 (h2.bind.imp (fun z ρ4 h4 v4 w4 s4 o4 st4 r4 => ?_) fun _ _ _ q => q.step (s1.trans (s2.trans s3)) (o3.trans (o2.trans o1))))⟩
    obtain ⟨d, e4, h5⟩ := post_of h4
    exact hg' w4 ps σ ρ4 v2 v4 y z d Q st4 (r2.mono (s3.trans s4).froz) r4 e4 fun v w5 s5 o5 st5 r5 => h5 v w5 (s1.trans (s2.trans (s3.trans (s4.trans s5)))) (o5.trans (o4.trans (o3.trans (o2.trans o1)))) st5 r5
  · rename_i e
    refine hg w2 ps σ ρ2 v1 v2 x y _ _ st2 (r1.mono s2.froz) r2 e fun v w3 s3 o3 st3 r3 => ?_
    cases r3
    exact ⟨false, rfl, iteF (h2 _ w3 (s1.trans (s2.trans s3)) (o3.trans (o2.trans o1)) st3 (.bl false))⟩
  · exact h2.elim
theorem b_chain {op op' : CmpOp} {r r' : R2} {g g' : D → D → Option D} (ho : ∀ i, OpR (X i) (compareOp op) r) (ho' : ∀ i, OpR (X i) (compareOp op') r') (hg : BinD K r g) (hg' : BinD K r' g') (ha : BE K mg W X a Fa) (hb : BE K mg W X b Fb) (hc : BE K mg W X c Fc)
    (hm : lastMarks [op, op'] [b, c] = false := by with_unfolding_all rfl) : BE K mg W X (.Compare a [op, op'] [b, c] pos) (eChain g g' Fa Fb Fc) := by
  obtain ⟨ta, pa, sa⟩ := ha.ex
  obtain ⟨tb, pb, sb⟩ := hb.ex
  obtain ⟨tc, pc, sc⟩ := hc.ex
  exact ⟨_, fun i => pe_chain (ho i) (ho' i) (pa i) (pb i) (pc i) hm, semChain hg hg' sa sb sc⟩
theorem t_chain {op op' : CmpOp} {r r' : R2} {g g' : D → D → Option D} (ho : ∀ i, OpR (X i) (compareOp op) r) (ho' : ∀ i, OpR (X i) (compareOp op') r') (hg : BinD K r g) (hg' : BinD K r' g') (ha : BE K mg W X a Fa) (hb : BE K mg W X b Fb) (hc : BE K mg W X c Fc)
    (hm : lastMarks [op, op'] [b, c] = false := by with_unfolding_all rfl) : BT K mg W X (.Compare a [op, op'] [b, c] pos) (tBool (eChain g g' Fa Fb Fc)) := by
  obtain ⟨ta, pa, sa⟩ := ha.ex
  obtain ⟨tb, pb, sb⟩ := hb.ex
  obtain ⟨tc, pc, sc⟩ := hc.ex
  exact ⟨_, fun i => pt_chain (ho i) (ho' i) (pa i) (pb i) (pc i) hm, semTest (semChain hg hg' sa sb sc)⟩

/-! operations on containers -/
def gCatL : D → D → Option D
  | .lst a, .lst b => if a.length + b.length ≤ sizeLine then some (.lst (a ++ b)) else none
  | _, _ => none
theorem d_catL : BinO K rCat gCatL := fun w ps σ ρ x y a b d Q st ra rb e q => by
  unfold gCatL at e
  split at e
  · split at e
    · rename_i h
      cases e
      cases ra with
      | lst ha r1 =>
        cases rb with
        | lst hb r2 =>
          refine ⟨_, _, _, _, rfl, rfl, st.sub _ _ ha, st.sub _ _ hb, by rw [r1.len, r2.len]; exact h, fun p hp => q p (w.hnew p (.lst _)) (st.hnew _ hp) rfl (st.hnewS _ hp) ⟨_, upd_same, r1.app r2⟩ (st.gfree hp) hp⟩
    · cases e
  · cases e
def repL {α : Type} (xs : List α) : Nat → List α
  | 0 => []
  | n + 1 => xs ++ repL xs n
def gRepL : D → D → Option D
  | .lst a, .int k => if okI k = true ∧ a.length * k.toNat ≤ sizeLine then some (.lst (repL a k.toNat)) else none
  | _, _ => none
end
end DL

set_option Elab.async false
set_option linter.all false
set_option maxRecDepth 100000
namespace DL
open PySem PySem.Spec PyProof.Rows L2

section
variable {K : PySem.W.Frag} {mg : Str → Option Value} {W : WX} {P : Program} {wd : World} {base : Heap} {N : List Str} {k : Nat} {ι : Type} {X : ι → Cx}
variable {a b c e : Expr} {Fa Fb Fc : SE → R D} {pos : Pos}

/-! ### items -/
theorem Reps.atI {G : Hp} {vs : List V} {ds : List D} {i : Int} {d : D} (r : Reps K G vs ds) (h : L2.atI ds i = some d) : ∃ v, L2.atI vs i = some v ∧ Rep K G v d := by
  unfold L2.atI at h ⊢
  rw [r.len]
  cases e : ixN ds.length i with
  | none => rw [e] at h; cases h
  | some j =>
    rw [e] at h
    exact r.get h
def itemD (c i : D) : Option D := match c, i with
  | .lst ds, .int i => atI ds i
  | .tup ds, .int i => atI ds i
  | .str z, .int i => if z.length ≤ sizeLine then (atI z.cps.toList i).map fun c => .str ⟨#[c]⟩ else none
  | _, _ => none
theorem d_ix : BinD K (rIx K) itemD := fun w ps σ ρ x y a b d Q st ra rb e q => by
  unfold itemD at e
  split at e
  · cases ra with
    | lst hl rs =>
      cases rb
      obtain ⟨v, h1, h2⟩ := rs.atI e
      exact .inl ⟨_, _, _, v, rfl, rfl, .inl (.inl (st.sub _ _ hl)), h1, q v w (Step.refl w) rfl st h2⟩
  · cases ra with
    | tup hl rs =>
      cases rb
      obtain ⟨v, h1, h2⟩ := rs.atI e
      exact .inr (.inl ⟨_, _, _, v, rfl, rfl, sqT_same st.sub hl, h1, q v w (Step.refl w) rfl st h2⟩)
  · split at e
    · rename_i hz
      cases ra
      cases rb
      obtain ⟨c, h1, rfl⟩ := Option.map_eq_some_iff.mp e
      exact .inr (.inr ⟨_, _, c, rfl, rfl, hz, h1, q _ w (Step.refl w) rfl st (.str _)⟩)
    · cases e
  · cases e
theorem b_ix (hf : Fam P wd K mg base N k W X) (ha : BE K mg W X a Fa) (hb : BE K mg W X b Fb) (hs : PlainIx b := by exact fun _ _ => rfl) : BE K mg W X (.Subscript a b pos) (eBin itemD Fa Fb) := by
  obtain ⟨ta, pa, sa⟩ := ha.ex
  obtain ⟨tb, pb, sb⟩ := hb.ex
  refine ⟨tOp (rIx K) ta tb, fun i => ?_, semCmp d_ix sa sb⟩
  have q := pe_ix (pos := pos) (ix_seq (X := X i)) (pa i) (pb i) hs
  rw [hf.hK i] at q
  exact q
/-- of a slot that is only looked into -/
def eIxS (i : Nat) (Fb : SE → R D) : SE → R D := fun ρ => match conOf ρ i with
  | none => .stuck
  | some _ => (Fb ρ).bind fun y ρ1 => match conOf ρ1 i with
    | some (.lst ds) => R.of ρ1 (itemD (.lst ds) y)
    | _ => .stuck
theorem b_ixS (hf : Fam P wd K mg base N k W X) (i : Nat) {x : Str} {p : Pos} (hb : BE K mg W X b Fb) (hN : N[i]? = some x := by rfl) (hv : ∀ j, Vis (X j).env.scope x := by first | exact fun _ => Or.inl rfl | exact fun _ => Or.inr (Or.inl rfl) | exact fun _ => Or.inr (Or.inr rfl)) (hs : PlainIx b := by exact fun _ _ => rfl)
    (hd : (x == ("__debug__" : Str)) = false := by decide) (hcd : (x == ("__classdict__" : Str)) = false := by decide) : BE K mg W X (.Subscript (.Name x p) b pos) (eIxS i Fb) := by
  obtain ⟨tb, pb, sb⟩ := hb.ex
  refine ⟨tOp (rIx K) (tVar i) tb, fun j => ?_, fun w ps σ ρ Q st h => ?_⟩
  · have q := pe_ix (pos := pos) (ix_seq (X := X j)) (pe_var (i := i) (x := x) (pos := p) (by rw [hf.hN]; exact hN) (hv j) hd hcd) (pb j) hs
    rw [hf.hK j] at q
    exact q
  · unfold eIxS at h
    split at h
    · exact h.elim
    · rename_i d0 e0
      obtain ⟨a, e1, _⟩ := conOf_ok st e0
      refine ⟨.ref a, e1, sb w ps σ ρ _ st (h.bind.imp (fun y ρ1 h1 v1 w1 s1 o1 st1 r1 => ?_) fun _ _ _ q => q)⟩
      split at h1
      · rename_i ds e2
        obtain ⟨d, e3, h2⟩ := post_of h1
        obtain ⟨a', e4, vs, c4, r4⟩ := conOf_ok st1 e2
        rw [e1] at e4
        cases e4
        unfold itemD at e3
        split at e3
        · rename_i ds' i' he
          cases he
          cases r1
          obtain ⟨v, h3, h4⟩ := r4.atI e3
          exact .inl ⟨a, _, _, v, rfl, rfl, .inl c4, h3, h2 v w1 s1 o1 st1 h4⟩
        · rename_i he; cases he
        · rename_i he; cases he
        · cases e3
      · exact h1.elim
/-! ### slices -/
def SlD (K : PySem.W.Frag) (r : V → Option Int → Option Int → Hp → VK → Prop) (g : D → Option Int → Option Int → Option D) : Prop := ∀ (w : Wd) (ps : Nat → Option Addr) (σ : L2.St) (ρ : SE) (x : V) (a d : D) (lo hi : Option Int) (Q : VK), Sts K w ps σ ρ → Rep K w.G x a → g a lo hi = some d →
  (∀ v w', Step w w' → w'.o = w.o → Sts K w' ps σ ρ → Rep K w'.G v d → Q v w'.H) → r x lo hi w.H Q
def pNo : SE → R (Option Int) := fun ρ => .ok none ρ
def pSo (F : SE → R D) : SE → R (Option Int) := fun ρ => (F ρ).bind fun x ρ1 => match x with
  | .int i => .ok (some i) ρ1
  | _ => .stuck
def SemOp (K : PySem.W.Frag) (mg : Str → Option Value) (W : WX) (t : TO) (F : SE → R (Option Int)) : Prop := ∀ (w : Wd) (ps : Nat → Option Addr) (σ : L2.St) (ρ : SE) (Q : Option Int → Hp → Prop), Sts K w ps σ ρ →
  (F ρ).Post (fun d ρ' => ∀ w', Step w w' → w'.o = w.o → Sts K w' ps σ ρ' → Q d w'.H) (PX K mg W w ps σ) → t σ w.H Q
structure BOp (K : PySem.W.Frag) (mg : Str → Option Value) (W : WX) {ι : Type} (X : ι → Cx) (e : Option Expr) (F : SE → R (Option Int)) : Prop where
  ex : ∃ t, (∀ i, PO (X i) e t) ∧ SemOp K mg W t F
theorem o_no : BOp K mg W X none pNo := ⟨_, fun _ => po_none, fun w ps σ ρ Q st h => h w (Step.refl w) rfl st⟩
theorem o_so (ha : BE K mg W X a Fa) : BOp K mg W X (some a) (pSo Fa) := by
  obtain ⟨ta, pa, sa⟩ := ha.ex
  refine ⟨_, fun i => po_some (pa i), fun w ps σ ρ Q st h => sa w ps σ ρ _ st (h.bind.imp (fun x ρ1 h1 v1 w1 s1 o1 st1 r1 => ?_) fun _ _ _ q => q)⟩
  cases r1 with
  | int i => exact ⟨i, rfl, h1 w1 s1 o1 st1⟩
  | _ => exact h1.elim
def eSl (g : D → Option Int → Option Int → Option D) (Fa : SE → R D) (Fl Fh : SE → R (Option Int)) : SE → R D := fun ρ => (Fa ρ).bind fun x ρ1 => (Fl ρ1).bind fun l ρ2 => (Fh ρ2).bind fun h ρ3 => R.of ρ3 (g x l h)
theorem b_sl {lo hi : Option Expr} {p2 : Pos} {Fl Fh : SE → R (Option Int)} {r : V → Option Int → Option Int → Hp → VK → Prop} {g : D → Option Int → Option Int → Option D} (hr : ∀ i, SlR (X i) r) (hg : SlD K r g) (ha : BE K mg W X a Fa) (hl : BOp K mg W X lo Fl) (hh : BOp K mg W X hi Fh) :
    BE K mg W X (.Subscript a (.Slice lo hi none p2) pos) (eSl g Fa Fl Fh) := by
  obtain ⟨ta, pa, sa⟩ := ha.ex
  obtain ⟨tl, pl, sl⟩ := hl.ex
  obtain ⟨th, ph, sh⟩ := hh.ex
  refine ⟨_, fun i => pe_slice (hr i) (pa i) (pl i) (ph i), fun w ps σ ρ Q st h => sa w ps σ ρ _ st (h.bind.imp (fun x ρ1 h1 v1 w1 s1 o1 st1 r1 => ?_) fun _ _ _ q => q)⟩
  refine sl w1 ps σ ρ1 _ st1 (h1.bind.imp (fun l ρ2 h2 w2 s2 o2 st2 => ?_) fun _ _ _ q => q.step s1 o1)
  refine sh w2 ps σ ρ2 _ st2 (h2.bind.imp (fun u ρ3 h3 w3 s3 o3 st3 => ?_) fun _ _ _ q => q.step (s1.trans s2) (o2.trans o1))
  obtain ⟨d, e, h4⟩ := post_of h3
  exact hg w3 ps σ ρ3 v1 x d l u Q st3 (r1.mono (s2.trans s3).froz) e fun v w4 s4 o4 st4 r4 => h4 v w4 (s1.trans (s2.trans (s3.trans s4))) (o4.trans (o3.trans (o2.trans o1))) st4 r4
def cutD {α : Type} (xs : List α) (lo hi : Option Int) : List α := (xs.drop (HT.sIx xs.length 0 lo)).take (HT.sIx xs.length xs.length hi - HT.sIx xs.length 0 lo)
theorem Reps.cut {G : Hp} {vs : List V} {ds : List D} (r : Reps K G vs ds) (lo hi : Option Int) : Reps K G (cutV vs lo hi) (cutD ds lo hi) := by
  unfold cutV cutD
  rw [r.len]
  exact (r.drop _).take _
/-- of a text, a list, a tuple: the new list is frozen -/
def gSl : D → Option Int → Option Int → Option D
  | .str z, lo, hi => if z.length ≤ sizeLine then some (.str (cutS z lo hi)) else none
  | .lst ds, lo, hi => some (.lst (cutD ds lo hi))
  | .tup ds, lo, hi => some (.tup (cutD ds lo hi))
  | _, _, _ => none
end
end DL

set_option Elab.async false
set_option linter.all false
set_option maxRecDepth 100000
namespace DL
open PySem PySem.Spec PyProof.Rows L2

section
variable {K : PySem.W.Frag} {mg : Str → Option Value} {W : WX} {P : Program} {wd : World} {base : Heap} {N : List Str} {k : Nat} {ι : Type} {X : ι → Cx}
variable {a b c e : Expr} {Fa Fb Fc : SE → R D} {pos : Pos}

/-! ### slices, all kinds -/
abbrev rSlAll (K : PySem.W.Frag) : V → Option Int → Option Int → Hp → VK → Prop := fun x lo hi H Q => rSlS x lo hi H Q ∨ rSlA K x lo hi H Q ∨ rSlL K x lo hi H Q
theorem sl_all {X : Cx} (hK : X.K = K) : SlR X (rSlAll K) := by
  subst hK
  exact sl_str.or (sl_tupA.or sl_list)
theorem cutD_whole {α : Type} {xs : List α} {lo hi : Option Int} (h : HT.sIx xs.length 0 lo = 0 ∧ HT.sIx xs.length xs.length hi = xs.length) : cutD xs lo hi = xs := by
  unfold cutD
  rw [h.1, h.2]
  simp
theorem d_sl : SlD K (rSlAll K) gSl := fun w ps σ ρ x a d lo hi Q st ra e q => by
  unfold gSl at e
  split at e
  · split at e
    · rename_i hz
      cases ra
      cases e
      exact .inl ⟨_, rfl, hz, q _ w (Step.refl w) rfl st (.str _)⟩
    · cases e
  · cases e
    cases ra with
    | lst hl rs =>
      refine .inr (.inr ⟨_, _, rfl, .inl (.inl (st.sub _ _ hl)), fun p hp => ?_⟩)
      exact q (.ref p) (w.gnew p (.lst _)) (st.gnew _ hp) rfl (st.gnewS _ hp) (.lst upd_same ((rs.cut _ _).mono (Same.new (st.gfree hp))))
  · cases e
    cases ra with
    | tup hl rs =>
      rename_i ds a vs
      refine .inr (.inl ⟨_, vs, rfl, sqT_same st.sub hl, fun hw => ?_, fun _ p hp => ?_⟩)
      · rw [rs.len] at hw
        exact q (.ref a) w (Step.refl w) rfl st (by rw [cutD_whole hw]; exact .tup hl rs)
      · exact q (.ref p) (w.gnew p (.tup _)) (st.gnew _ hp) rfl (st.gnewS _ hp) (.tup (SqT.of upd_same) ((rs.cut _ _).mono (Same.new (st.gfree hp))))
  · cases e
/-- a new list cut from a slot's -/
def eSlS (i : Nat) (Fl Fh : SE → R (Option Int)) : SE → R D := fun ρ => match conOf ρ i with
  | none => .stuck
  | some _ => (Fl ρ).bind fun l ρ1 => (Fh ρ1).bind fun u ρ2 => match conOf ρ2 i with
    | some (.lst ds) => .ok (.lst (cutD ds l u)) ρ2
    | _ => .stuck
theorem b_slS (hf : Fam P wd K mg base N k W X) (i : Nat) {x : Str} {p : Pos} {lo hi : Option Expr} {p2 : Pos} {Fl Fh : SE → R (Option Int)} (hl : BOp K mg W X lo Fl) (hh : BOp K mg W X hi Fh) (hN : N[i]? = some x := by rfl)
    (hv : ∀ j, Vis (X j).env.scope x := by first | exact fun _ => Or.inl rfl | exact fun _ => Or.inr (Or.inl rfl) | exact fun _ => Or.inr (Or.inr rfl)) (hd : (x == ("__debug__" : Str)) = false := by decide) (hcd : (x == ("__classdict__" : Str)) = false := by decide) :
    BO K mg W X (.Subscript (.Name x p) (.Slice lo hi none p2) pos) (eSlS i Fl Fh) := by
  obtain ⟨tl, pl, sl⟩ := hl.ex
  obtain ⟨th, ph, sh⟩ := hh.ex
  refine ⟨tSl (rSlL K) (tVar i) tl th, fun j => ?_, fun w ps σ ρ Q st h => ?_⟩
  · have q := pe_slice (pos := pos) (p2 := p2) (sl_list (X := X j)) (pe_var (i := i) (x := x) (pos := p) (by rw [hf.hN]; exact hN) (hv j) hd hcd) (pl j) (ph j)
    rw [hf.hK j] at q
    exact q
  · unfold eSlS at h
    split at h
    · exact h.elim
    · rename_i d0 e0
      obtain ⟨a, e1, _⟩ := conOf_ok st e0
      refine ⟨.ref a, e1, sl w ps σ ρ _ st (h.bind.imp (fun l ρ1 h1 w1 s1 o1 st1 => sh w1 ps σ ρ1 _ st1 (h1.bind.imp (fun u ρ2 h2 w2 s2 o2 st2 => ?_) fun _ _ _ q => q.step s1 o1)) fun _ _ _ q => q)⟩
      split at h2
      · rename_i ds e2
        obtain ⟨a', e4, vs, c4, r4⟩ := conOf_ok st2 e2
        rw [e1] at e4
        cases e4
        refine ⟨a, vs, rfl, .inl c4, fun p hp => ?_⟩
        exact h2 p (w2.hnew p (.lst _)) ((s1.trans s2).trans (st2.hnew _ hp)) (o2.trans o1) (st2.hnewS _ hp) ⟨_, upd_same, r4.cut _ _⟩ (st2.gfree hp) ((s1.trans s2).back hp) (st2.noB hp)
      · exact h2.elim

/-! ### built-ins -/
theorem argSem {r : List V → Hp → VK → Prop} {g : List D → Option D} {t : TA} {F : SE → R (List D)} (hg : ArgD K r g) (sa : SemA K mg W t F) : SemE K mg W (tCB r t) (eArgs g F) := fun w ps σ ρ Q st h =>
  sa w ps σ ρ _ st (h.bind.imp (fun x ρ1 h1 v1 w1 s1 o1 st1 r1 => by
    obtain ⟨d, e, h3⟩ := post_of h1
    exact hg w1 ps σ ρ1 v1 x d Q st1 r1 e fun v w3 s3 o3 st3 r3 => h3 v w3 (s1.trans s3) (o3.trans o1) st3 r3) fun _ _ _ q => q)
theorem argSemO {r : List V → Hp → VK → Prop} {g : List D → Option D} {t : TA} {F : SE → R (List D)} (hg : ArgO K r g) (sa : SemA K mg W t F) : SemO K mg W (tCB r t) (eArgs g F) := fun w ps σ ρ Q st h =>
  sa w ps σ ρ _ st (h.bind.imp (fun x ρ1 h1 v1 w1 s1 o1 st1 r1 => by
    obtain ⟨d, e, h3⟩ := post_of h1
    exact hg w1 ps σ ρ1 v1 x d Q st1 r1 e fun v w3 s3 o3 st3 r3 g3 n3 => h3 v w3 (s1.trans s3) (o3.trans o1) st3 r3 g3 (s1.back n3) (st1.noB n3)) fun _ _ _ q => q)
/-- a built-in of one slot's container -/
def ArgB (K : PySem.W.Frag) (r : List V → Hp → VK → Prop) (g : D → Option D) : Prop := ∀ (w : Wd) (ps : Nat → Option Addr) (σ : L2.St) (ρ : SE) (a : Addr) (c d : D) (Q : VK), Sts K w ps σ ρ → ConB K w a c → g c = some d →
  (∀ v w', Step w w' → w'.o = w.o → Sts K w' ps σ ρ → Rep K w'.G v d → Q v w'.H) → r [.ref a] w.H Q
def ArgBO (K : PySem.W.Frag) (r : List V → Hp → VK → Prop) (g : D → Option D) : Prop := ∀ (w : Wd) (ps : Nat → Option Addr) (σ : L2.St) (ρ : SE) (a : Addr) (c d : D) (Q : VK), Sts K w ps σ ρ → ConB K w a c → g c = some d →
  (∀ a w', Step w w' → w'.o = w.o → Sts K w' ps σ ρ → Con K w' a d → w'.G a = none → w.H a = none → Q (.ref a) w'.H) → r [.ref a] w.H Q
def eArgS (g : D → Option D) (i : Nat) : SE → R D := fun ρ => match conOf ρ i with
  | some c => R.of ρ (g c)
  | none => .stuck
theorem argSemS {r : List V → Hp → VK → Prop} {g : D → Option D} {i : Nat} (hg : ArgB K r g) : SemE K mg W (tCB r (tCons (tVar i) tNil)) (eArgS g i) := fun w ps σ ρ Q st h => by
  unfold eArgS at h
  split at h
  · rename_i c e
    obtain ⟨a, e1, c1⟩ := conOf_ok st e
    obtain ⟨d, e2, h2⟩ := post_of h
    exact ⟨.ref a, e1, hg w ps σ ρ a c d Q st c1 e2 h2⟩
  · exact h.elim
theorem argSemSO {r : List V → Hp → VK → Prop} {g : D → Option D} {i : Nat} (hg : ArgBO K r g) : SemO K mg W (tCB r (tCons (tVar i) tNil)) (eArgS g i) := fun w ps σ ρ Q st h => by
  unfold eArgS at h
  split at h
  · rename_i c e
    obtain ⟨a, e1, c1⟩ := conOf_ok st e
    obtain ⟨d, e2, h2⟩ := post_of h
    exact ⟨.ref a, e1, hg w ps σ ρ a c d Q st c1 e2 fun a w' s o st' c g n => h2 a w' s o st' c g n (st.noB n)⟩
  · exact h.elim
section
variable {id T : String} {r : List V → Hp → VK → Prop} {x : Str} {p : Pos} {es : List Expr} {F : SE → R (List D)}
theorem b_fn (hf : Fam P wd K mg base N k W X) {g : List D → Option D} (hc : ∀ i, CallR (X i) (.builtin id) r) (hg : ArgD K r g) (hm : mg x = none) (ha : BA K mg W X (a :: es) F) (hv : bootBuiltins x = some (.builtin id) := by decide +kernel) (hgl : ∀ i, Gl (X i) x := by exact fun _ => rfl)
    (hn : x ≠ "__name__" := by decide) (hdb : (x == ("__debug__" : Str)) = false := by decide) (he : ∀ i, starEach (a :: es) (X i).env = (false, eval a (X i).env) :: starEach es (X i).env := by intro _; rfl) (hpl : ∀ i, (backTo pos (starEach es (X i).env)).any (·.1) = false := by intro _; rfl) :
    BE K mg W X (.Call (.Name x p) (a :: es) [] pos) (eArgs g F) := by
  obtain ⟨ta, pa, sa⟩ := ha.ex
  exact ⟨_, fun i => pe_callB (hc i) (hgl i) (by rw [hf.hm]; exact hm) hv (pa i) hn hdb (he i) (hpl i), argSem hg sa⟩
theorem b_fnO (hf : Fam P wd K mg base N k W X) {g : List D → Option D} (hc : ∀ i, CallR (X i) (.builtin id) r) (hg : ArgO K r g) (hm : mg x = none) (ha : BA K mg W X (a :: es) F) (hv : bootBuiltins x = some (.builtin id) := by decide +kernel) (hgl : ∀ i, Gl (X i) x := by exact fun _ => rfl)
    (hn : x ≠ "__name__" := by decide) (hdb : (x == ("__debug__" : Str)) = false := by decide) (he : ∀ i, starEach (a :: es) (X i).env = (false, eval a (X i).env) :: starEach es (X i).env := by intro _; rfl) (hpl : ∀ i, (backTo pos (starEach es (X i).env)).any (·.1) = false := by intro _; rfl) :
    BO K mg W X (.Call (.Name x p) (a :: es) [] pos) (eArgs g F) := by
  obtain ⟨ta, pa, sa⟩ := ha.ex
  exact ⟨_, fun i => pe_callB (hc i) (hgl i) (by rw [hf.hm]; exact hm) hv (pa i) hn hdb (he i) (hpl i), argSemO hg sa⟩
theorem b_ty (hf : Fam P wd K mg base N k W X) {g : List D → Option D} (hc : ∀ i, CallR (X i) (.type T) r) (hg : ArgD K r g) (hm : mg x = none) (ha : BA K mg W X (a :: es) F) (hv : bootBuiltins x = some (.type T) := by decide +kernel) (hgl : ∀ i, Gl (X i) x := by exact fun _ => rfl)
    (hn : x ≠ "__name__" := by decide) (hdb : (x == ("__debug__" : Str)) = false := by decide) (he : ∀ i, starEach (a :: es) (X i).env = (false, eval a (X i).env) :: starEach es (X i).env := by intro _; rfl) (hpl : ∀ i, (backTo pos (starEach es (X i).env)).any (·.1) = false := by intro _; rfl) :
    BE K mg W X (.Call (.Name x p) (a :: es) [] pos) (eArgs g F) := by
  obtain ⟨ta, pa, sa⟩ := ha.ex
  exact ⟨_, fun i => pe_callTy (hc i) (hgl i) (by rw [hf.hm]; exact hm) hv (pa i) hn hdb (he i) (hpl i), argSem hg sa⟩
theorem b_tyO (hf : Fam P wd K mg base N k W X) {g : List D → Option D} (hc : ∀ i, CallR (X i) (.type T) r) (hg : ArgO K r g) (hm : mg x = none) (ha : BA K mg W X (a :: es) F) (hv : bootBuiltins x = some (.type T) := by decide +kernel) (hgl : ∀ i, Gl (X i) x := by exact fun _ => rfl)
    (hn : x ≠ "__name__" := by decide) (hdb : (x == ("__debug__" : Str)) = false := by decide) (he : ∀ i, starEach (a :: es) (X i).env = (false, eval a (X i).env) :: starEach es (X i).env := by intro _; rfl) (hpl : ∀ i, (backTo pos (starEach es (X i).env)).any (·.1) = false := by intro _; rfl) :
    BO K mg W X (.Call (.Name x p) (a :: es) [] pos) (eArgs g F) := by
  obtain ⟨ta, pa, sa⟩ := ha.ex
  exact ⟨_, fun i => pe_callTy (hc i) (hgl i) (by rw [hf.hm]; exact hm) hv (pa i) hn hdb (he i) (hpl i), argSemO hg sa⟩
variable {y : Str} {py : Pos}
theorem paS (hf : Fam P wd K mg base N k W X) (i : Nat) (hN : N[i]? = some y) (hv' : ∀ j, Vis (X j).env.scope y) (hd : (y == ("__debug__" : Str)) = false) (hcd : (y == ("__classdict__" : Str)) = false) (j : ι) : PA (X j) [.Name y py] (tCons (tVar i) tNil) :=
  pa_cons (pe_var (by rw [hf.hN]; exact hN) (hv' j) hd hcd) pa_nil
theorem b_fnS (hf : Fam P wd K mg base N k W X) {g : D → Option D} (hc : ∀ i, CallR (X i) (.builtin id) r) (hg : ArgB K r g) (hm : mg x = none) (i : Nat) (hv : bootBuiltins x = some (.builtin id) := by decide +kernel) (hN : N[i]? = some y := by rfl)
    (hv' : ∀ j, Vis (X j).env.scope y := by first | exact fun _ => Or.inl rfl | exact fun _ => Or.inr (Or.inl rfl) | exact fun _ => Or.inr (Or.inr rfl)) (hgl : ∀ i, Gl (X i) x := by exact fun _ => rfl)
    (hn : x ≠ "__name__" := by decide) (hdb : (x == ("__debug__" : Str)) = false := by decide) (hd : (y == ("__debug__" : Str)) = false := by decide) (hcd : (y == ("__classdict__" : Str)) = false := by decide) :
    BE K mg W X (.Call (.Name x p) [.Name y py] [] pos) (eArgS g i) :=
  ⟨_, fun j => pe_callB (hc j) (hgl j) (by rw [hf.hm]; exact hm) hv (paS hf i hN hv' hd hcd j) hn hdb rfl rfl, argSemS hg⟩
theorem b_fnSO (hf : Fam P wd K mg base N k W X) {g : D → Option D} (hc : ∀ i, CallR (X i) (.builtin id) r) (hg : ArgBO K r g) (hm : mg x = none) (i : Nat) (hv : bootBuiltins x = some (.builtin id) := by decide +kernel) (hN : N[i]? = some y := by rfl)
    (hv' : ∀ j, Vis (X j).env.scope y := by first | exact fun _ => Or.inl rfl | exact fun _ => Or.inr (Or.inl rfl) | exact fun _ => Or.inr (Or.inr rfl)) (hgl : ∀ i, Gl (X i) x := by exact fun _ => rfl)
    (hn : x ≠ "__name__" := by decide) (hdb : (x == ("__debug__" : Str)) = false := by decide) (hd : (y == ("__debug__" : Str)) = false := by decide) (hcd : (y == ("__classdict__" : Str)) = false := by decide) :
    BO K mg W X (.Call (.Name x p) [.Name y py] [] pos) (eArgS g i) :=
  ⟨_, fun j => pe_callB (hc j) (hgl j) (by rw [hf.hm]; exact hm) hv (paS hf i hN hv' hd hcd j) hn hdb rfl rfl, argSemSO hg⟩
theorem b_tyS (hf : Fam P wd K mg base N k W X) {g : D → Option D} (hc : ∀ i, CallR (X i) (.type T) r) (hg : ArgB K r g) (hm : mg x = none) (i : Nat) (hv : bootBuiltins x = some (.type T) := by decide +kernel) (hN : N[i]? = some y := by rfl)
    (hv' : ∀ j, Vis (X j).env.scope y := by first | exact fun _ => Or.inl rfl | exact fun _ => Or.inr (Or.inl rfl) | exact fun _ => Or.inr (Or.inr rfl)) (hgl : ∀ i, Gl (X i) x := by exact fun _ => rfl)
    (hn : x ≠ "__name__" := by decide) (hdb : (x == ("__debug__" : Str)) = false := by decide) (hd : (y == ("__debug__" : Str)) = false := by decide) (hcd : (y == ("__classdict__" : Str)) = false := by decide) :
    BE K mg W X (.Call (.Name x p) [.Name y py] [] pos) (eArgS g i) :=
  ⟨_, fun j => pe_callTy (hc j) (hgl j) (by rw [hf.hm]; exact hm) hv (paS hf i hN hv' hd hcd j) hn hdb rfl rfl, argSemS hg⟩
theorem b_tySO (hf : Fam P wd K mg base N k W X) {g : D → Option D} (hc : ∀ i, CallR (X i) (.type T) r) (hg : ArgBO K r g) (hm : mg x = none) (i : Nat) (hv : bootBuiltins x = some (.type T) := by decide +kernel) (hN : N[i]? = some y := by rfl)
    (hv' : ∀ j, Vis (X j).env.scope y := by first | exact fun _ => Or.inl rfl | exact fun _ => Or.inr (Or.inl rfl) | exact fun _ => Or.inr (Or.inr rfl)) (hgl : ∀ i, Gl (X i) x := by exact fun _ => rfl)
    (hn : x ≠ "__name__" := by decide) (hdb : (x == ("__debug__" : Str)) = false := by decide) (hd : (y == ("__debug__" : Str)) = false := by decide) (hcd : (y == ("__classdict__" : Str)) = false := by decide) :
    BO K mg W X (.Call (.Name x p) [.Name y py] [] pos) (eArgS g i) :=
  ⟨_, fun j => pe_callTy (hc j) (hgl j) (by rw [hf.hm]; exact hm) hv (paS hf i hN hv' hd hcd j) hn hdb rfl rfl, argSemSO hg⟩
end

/-! len -/
def lenD : D → Option Nat
  | .str y => if y.length ≤ sizeLine then some y.length else none
  | .lst ds => some ds.length
  | .tup ds => some ds.length
  | _ => none
def g1 (f : D → Option D) : List D → Option D
  | [d] => f d
  | _ => none
def gLen (d : D) : Option D := (lenD d).map fun n => .int (n : Nat)
abbrev rLen (K : PySem.W.Frag) : List V → Hp → VK → Prop := fun xs H Q => ∃ x n, xs = [x] ∧ LenV K x H n ∧ Q (.int n) H
theorem c_len {X : Cx} (hK : X.K = K) : CallR X (.builtin "len") (rLen K) := by
  subst hK
  exact call_len
theorem d_len : ArgD K (rLen K) (g1 gLen) := fun w ps σ ρ xs as d Q st rs e q => by
  unfold g1 at e
  split at e
  · obtain ⟨n, e1, rfl⟩ := Option.map_eq_some_iff.mp e
    cases rs with
    | cons r t =>
      cases t
      refine ⟨_, n, rfl, ?_, q _ w (Step.refl w) rfl st (.int _)⟩
      unfold lenD at e1
      split at e1
      · split at e1
        · cases e1; cases r; exact ⟨by assumption, rfl⟩
        · cases e1
      · cases e1
        cases r with
        | lst hl rr => exact .inl ⟨_, .inl (.inl (st.sub _ _ hl)), rr.len.symm⟩
      · cases e1
        cases r with
        | tup hl rr => exact .inr ⟨_, sqT_same st.sub hl, rr.len.symm⟩
      · cases e1
  · cases e
theorem d_lenS : ArgB K (rLen K) gLen := fun w ps σ ρ a c d Q st cb e q => by
  obtain ⟨n, e1, rfl⟩ := Option.map_eq_some_iff.mp e
  refine ⟨_, n, rfl, ?_, q _ w (Step.refl w) rfl st (.int _)⟩
  cases c with
  | lst ds =>
    cases e1
    obtain ⟨vs, h, r⟩ := cb
    exact .inl ⟨vs, .inl h, r.len.symm⟩
  | _ => first | exact cb.elim | cases e1
/-! tuple, list -/
def gTuple : D → Option D
  | .lst ds => some (.tup ds)
  | .tup ds => some (.tup ds)
  | _ => none
abbrev rTuple (K : PySem.W.Frag) : List V → Hp → VK → Prop := fun xs H Q => ∃ p ys, xs = [.ref p] ∧ ((SqL K H p ys ∧ ∀ l, H l = none → Q (.ref l) (upd H l (.tup ys))) ∨ (SqT K H p ys ∧ Q (.ref p) H))
theorem c_tuple {X : Cx} (hK : X.K = K) : CallR X (.type "tuple") (rTuple K) := by
  subst hK
  exact call_tuple_of
theorem d_tuple : ArgD K (rTuple K) (g1 gTuple) := fun w ps σ ρ xs as d Q st rs e q => by
  unfold g1 at e
  split at e
  · cases rs with
    | cons r t =>
      cases t
      unfold gTuple at e
      split at e
      · cases e
        cases r with
        | lst hl rr => exact ⟨_, _, rfl, .inl ⟨.inl (.inl (st.sub _ _ hl)), fun l hl' => q (.ref l) (w.gnew l (.tup _)) (st.gnew _ hl') rfl (st.gnewS _ hl') (.tup (SqT.of upd_same) (rr.mono (Same.new (st.gfree hl'))))⟩⟩
      · cases e
        cases r with
        | tup hl rr => exact ⟨_, _, rfl, .inr ⟨sqT_same st.sub hl, q _ w (Step.refl w) rfl st (.tup hl rr)⟩⟩
      · cases e
  · cases e
theorem d_tupleS : ArgB K (rTuple K) gTuple := fun w ps σ ρ a c d Q st cb e q => by
  cases c with
  | lst ds =>
    cases e
    obtain ⟨vs, h, r⟩ := cb
    exact ⟨_, vs, rfl, .inl ⟨.inl h, fun l hl' => q (.ref l) (w.gnew l (.tup _)) (st.gnew _ hl') rfl (st.gnewS _ hl') (.tup (SqT.of upd_same) (r.mono (Same.new (st.gfree hl'))))⟩⟩
  | tup ds => exact cb.elim
  | _ => cases e
def gList : D → Option D
  | .lst ds => some (.lst ds)
  | .tup ds => some (.lst ds)
  | _ => none
abbrev rList (K : PySem.W.Frag) : List V → Hp → VK → Prop := fun xs H Q => ∃ p ys, xs = [.ref p] ∧ (SqL K H p ys ∨ SqT K H p ys) ∧ ∀ l, H l = none → Q (.ref l) (upd H l (.lst ys))
theorem c_list {X : Cx} (hK : X.K = K) : CallR X (.type "list") (rList K) := by
  subst hK
  exact call_list_of
theorem d_list : ArgO K (rList K) (g1 gList) := fun w ps σ ρ xs as d Q st rs e q => by
  unfold g1 at e
  split at e
  · cases rs with
    | cons r t =>
      cases t
      unfold gList at e
      split at e
      · cases e
        cases r with
        | lst hl rr => exact ⟨_, _, rfl, .inl (.inl (.inl (st.sub _ _ hl))), fun l hl' => q l (w.hnew l (.lst _)) (st.hnew _ hl') rfl (st.hnewS _ hl') ⟨_, upd_same, rr⟩ (st.gfree hl') hl'⟩
      · cases e
        cases r with
        | tup hl rr => exact ⟨_, _, rfl, .inr (sqT_same st.sub hl), fun l hl' => q l (w.hnew l (.lst _)) (st.hnew _ hl') rfl (st.hnewS _ hl') ⟨_, upd_same, rr⟩ (st.gfree hl') hl'⟩
      · cases e
  · cases e
theorem d_listS : ArgBO K (rList K) gList := fun w ps σ ρ a c d Q st cb e q => by
  cases c with
  | lst ds =>
    cases e
    obtain ⟨vs, h, r⟩ := cb
    exact ⟨_, vs, rfl, .inl (.inl h), fun l hl' => q l (w.hnew l (.lst _)) (st.hnew _ hl') rfl (st.hnewS _ hl') ⟨_, upd_same, r⟩ (st.gfree hl') hl'⟩
  | tup ds => exact cb.elim
  | _ => cases e
/-! any, all, sum, max, min -/
def boolsOf : List D → Option (List Bool)
  | [] => some []
  | .bl b :: ds => (boolsOf ds).map (b :: ·)
  | _ :: _ => none
def intsOf : List D → Option (List Int)
  | [] => some []
  | .int b :: ds => (intsOf ds).map (b :: ·)
  | _ :: _ => none
def strsOf : List D → Option (List Str)
  | [] => some []
  | .str b :: ds => (strsOf ds).map (b :: ·)
  | _ :: _ => none
theorem boolsOf_eq : ∀ {ds : List D} {bs : List Bool}, boolsOf ds = some bs → ds = bs.map D.bl
  | [], _, h => by cases h; rfl
  | .bl b :: ds, _, h => by
    obtain ⟨l, e, rfl⟩ := Option.map_eq_some_iff.mp h
    rw [boolsOf_eq e]; rfl
  | .non :: _, _, h => by cases h
  | .int _ :: _, _, h => by cases h
  | .str _ :: _, _, h => by cases h
  | .tup _ :: _, _, h => by cases h
  | .lst _ :: _, _, h => by cases h
  | .dk _ _ :: _, _, h => by cases h
  | .dt _ _ :: _, _, h => by cases h
theorem intsOf_eq : ∀ {ds : List D} {bs : List Int}, intsOf ds = some bs → ds = bs.map D.int
  | [], _, h => by cases h; rfl
  | .int b :: ds, _, h => by
    obtain ⟨l, e, rfl⟩ := Option.map_eq_some_iff.mp h
    rw [intsOf_eq e]; rfl
  | .non :: _, _, h => by cases h
  | .bl _ :: _, _, h => by cases h
  | .str _ :: _, _, h => by cases h
  | .tup _ :: _, _, h => by cases h
  | .lst _ :: _, _, h => by cases h
  | .dk _ _ :: _, _, h => by cases h
  | .dt _ _ :: _, _, h => by cases h
theorem strsOf_eq : ∀ {ds : List D} {bs : List Str}, strsOf ds = some bs → ds = bs.map D.str
  | [], _, h => by cases h; rfl
  | .str b :: ds, _, h => by
    obtain ⟨l, e, rfl⟩ := Option.map_eq_some_iff.mp h
    rw [strsOf_eq e]; rfl
  | .non :: _, _, h => by cases h
  | .bl _ :: _, _, h => by cases h
  | .int _ :: _, _, h => by cases h
  | .tup _ :: _, _, h => by cases h
  | .lst _ :: _, _, h => by cases h
  | .dk _ _ :: _, _, h => by cases h
  | .dt _ _ :: _, _, h => by cases h
def onL (f : List D → Option D) : D → Option D
  | .lst ds => f ds
  | _ => none
theorem onL_val {w : Wd} {ps : Nat → Option Addr} {σ : L2.St} {ρ : SE} (st : Sts K w ps σ ρ) {xs : List V} {as : List D} {d : D} {f : List D → Option D} (rs : Reps K w.G xs as) (e : g1 (onL f) as = some d) :
    ∃ a vs ds, xs = [.ref a] ∧ SqL K w.H a vs ∧ Reps K w.G vs ds ∧ f ds = some d := by
  unfold g1 at e
  split at e
  · cases rs with
    | cons r t =>
      cases t
      unfold onL at e
      split at e
      · cases r with
        | lst hl rr => exact ⟨_, _, _, rfl, .inl (.inl (st.sub _ _ hl)), rr, e⟩
      · cases e
  · cases e
theorem onL_con {w : Wd} {a : Addr} {c d : D} {f : List D → Option D} (cb : ConB K w a c) (e : onL f c = some d) : ∃ vs ds, SqL K w.H a vs ∧ Reps K w.G vs ds ∧ f ds = some d := by
  unfold onL at e
  split at e
  · obtain ⟨vs, h, r⟩ := cb
    exact ⟨vs, _, .inl h, r, e⟩
  · cases e
def fAny (ds : List D) : Option D := (boolsOf ds).map fun bs => .bl (bs.any id)
def fAll (ds : List D) : Option D := (boolsOf ds).map fun bs => .bl (bs.all id)
def fSum (ds : List D) : Option D := (intsOf ds).map fun bs => .int bs.sum
def maxI : List Int → Int
  | [] => 0
  | x :: xs => xs.foldl max x
def minI : List Int → Int
  | [] => 0
  | x :: xs => xs.foldl min x
end
end DL

set_option Elab.async false
set_option linter.all false
set_option maxRecDepth 100000
namespace DL
open PySem PySem.Spec PyProof.Rows L2

section
variable {K : PySem.W.Frag}
/-! any, all, sum -/
theorem c_any {X : Cx} (hK : X.K = K) (hc : X.calm = true) : CallR X (.builtin "any") (rAny K) := by
  subst hK
  exact cr_any hc
theorem c_all {X : Cx} (hK : X.K = K) (hc : X.calm = true) : CallR X (.builtin "all") (rAll K) := by
  subst hK
  exact cr_all hc
theorem c_sum {X : Cx} (hK : X.K = K) (hc : X.calm = true) : CallR X (.builtin "sum") (rSum K) := by
  subst hK
  exact cr_sum hc
theorem d_any : ArgD K (rAny K) (g1 (onL fAny)) := fun w ps σ ρ xs as d Q st rs e q => by
  obtain ⟨a, vs, ds, rfl, h, r, e2⟩ := onL_val st rs e
  obtain ⟨bs, e3, rfl⟩ := Option.map_eq_some_iff.mp e2
  have e4 := boolsOf_eq e3
  subst e4
  rw [r.bls] at h
  exact ⟨a, bs, rfl, h, q _ w (Step.refl w) rfl st (.bl _)⟩
theorem d_all : ArgD K (rAll K) (g1 (onL fAll)) := fun w ps σ ρ xs as d Q st rs e q => by
  obtain ⟨a, vs, ds, rfl, h, r, e2⟩ := onL_val st rs e
  obtain ⟨bs, e3, rfl⟩ := Option.map_eq_some_iff.mp e2
  have e4 := boolsOf_eq e3
  subst e4
  rw [r.bls] at h
  exact ⟨a, bs, rfl, h, q _ w (Step.refl w) rfl st (.bl _)⟩
theorem d_sum : ArgD K (rSum K) (g1 (onL fSum)) := fun w ps σ ρ xs as d Q st rs e q => by
  obtain ⟨a, vs, ds, rfl, h, r, e2⟩ := onL_val st rs e
  obtain ⟨bs, e3, rfl⟩ := Option.map_eq_some_iff.mp e2
  have e4 := intsOf_eq e3
  subst e4
  rw [r.ints] at h
  exact ⟨a, bs, rfl, h, q _ w (Step.refl w) rfl st (.int _)⟩
theorem d_sumS : ArgB K (rSum K) (onL fSum) := fun w ps σ ρ a c d Q st cb e q => by
  obtain ⟨vs, ds, h, r, e2⟩ := onL_con cb e
  obtain ⟨bs, e3, rfl⟩ := Option.map_eq_some_iff.mp e2
  have e4 := intsOf_eq e3
  subst e4
  rw [r.ints] at h
  exact ⟨a, bs, rfl, h, q _ w (Step.refl w) rfl st (.int _)⟩
/-! min, max of numbers, of texts -/
def rMinN (K : PySem.W.Frag) (f : Int → List Int → Int) (f' : Str → List Str → Str) : List V → Hp → VK → Prop := fun vs H Q =>
  (∃ (a : Addr) (x : Int) (ns : List Int), vs = [V.ref a] ∧ SqL K H a ((x :: ns).map V.int) ∧ Q (.int (f x ns)) H) ∨
  (∃ (a : Addr) (x : Str) (ns : List Str), vs = [V.ref a] ∧ SqL K H a ((x :: ns).map V.str) ∧ Q (.str (f' x ns)) H)
theorem strsAre_get : ∀ {us : List Value} {xs : List Str} {i : Nat} {v : Value}, StrsAre us xs → us[i]? = some v → ∃ x t, v = .str x t
  | _, _, i, v, .nil, e => by simp at e
  | _, _, 0, v, .cons x t _, e => by
    simp at e
    exact ⟨x, t, e.symm⟩
  | _, _, i + 1, v, .cons x t r, e => strsAre_get r (i := i) (by simpa using e)
theorem intsAre_get : ∀ {us : List Value} {xs : List Int} {i : Nat} {v : Value}, IntsAre us xs → us[i]? = some v → ∃ x t, v = .int x t
  | _, _, i, v, .nil, e => by simp at e
  | _, _, 0, v, .cons x t _, e => by
    simp at e
    exact ⟨x, t, e.symm⟩
  | _, _, i + 1, v, .cons x t r, e => intsAre_get r (i := i) (by simpa using e)
open PySem.W in
theorem c_min {X : Cx} (hK : X.K = K) (hc : X.calm = true) {k : Nat} (hr : Room k X.A) : CallR X (.builtin "min") (rMinN K minOf minOf) := by
  subst hK
  intro pins s σ H vs us Q I r h
  have hu : X.A.units + 64 < cLine := hr.units
  rcases h with ⟨a, x, ns, rfl, hs, q⟩ | ⟨a, x, ns, rfl, hs, q⟩
  · obtain ⟨its, rv, hl, _⟩ := I.list hs
    rw [Vals.ref1 r]
    refine min_list_datum (α := Int) (x := x) (xs := ns) (I.ok.hd hc) hl.isList (HoldAll.of_ints rv.ints) (by simp only [Datum.depth]; omega) fun i v h' tk hi hv hk => ?_
    obtain ⟨z, t, rfl⟩ := intsAre_get rv.ints (by simpa using hi)
    obtain ⟨as, rd⟩ := hv
    cases rd
    exact ⟨.int _, H, I.kept hk, ⟨_, rfl⟩, q⟩
  · obtain ⟨its, rv, hl, _⟩ := I.list hs
    rw [Vals.ref1 r]
    refine min_list_datum (α := Str) (x := x) (xs := ns) (I.ok.hd hc) hl.isList (HoldAll.of_strs rv.strs) (by simp only [Datum.depth]; omega) fun i v h' tk hi hv hk => ?_
    obtain ⟨z, t, rfl⟩ := strsAre_get rv.strs (by simpa using hi)
    obtain ⟨as, rd⟩ := hv
    cases rd
    exact ⟨.str _, H, I.kept hk, ⟨_, rfl⟩, q⟩
open PySem.W in
theorem c_max {X : Cx} (hK : X.K = K) (hc : X.calm = true) {k : Nat} (hr : Room k X.A) : CallR X (.builtin "max") (rMinN K maxOf maxOf) := by
  subst hK
  intro pins s σ H vs us Q I r h
  have hu : X.A.units + 64 < cLine := hr.units
  rcases h with ⟨a, x, ns, rfl, hs, q⟩ | ⟨a, x, ns, rfl, hs, q⟩
  · obtain ⟨its, rv, hl, _⟩ := I.list hs
    rw [Vals.ref1 r]
    refine max_list_datum (α := Int) (x := x) (xs := ns) (I.ok.hd hc) hl.isList (HoldAll.of_ints rv.ints) (by simp only [Datum.depth]; omega) fun i v h' tk hi hv hk => ?_
    obtain ⟨z, t, rfl⟩ := intsAre_get rv.ints (by simpa using hi)
    obtain ⟨as, rd⟩ := hv
    cases rd
    exact ⟨.int _, H, I.kept hk, ⟨_, rfl⟩, q⟩
  · obtain ⟨its, rv, hl, _⟩ := I.list hs
    rw [Vals.ref1 r]
    refine max_list_datum (α := Str) (x := x) (xs := ns) (I.ok.hd hc) hl.isList (HoldAll.of_strs rv.strs) (by simp only [Datum.depth]; omega) fun i v h' tk hi hv hk => ?_
    obtain ⟨z, t, rfl⟩ := strsAre_get rv.strs (by simpa using hi)
    obtain ⟨as, rd⟩ := hv
    cases rd
    exact ⟨.str _, H, I.kept hk, ⟨_, rfl⟩, q⟩
def fMin (f : Int → List Int → Int) (f' : Str → List Str → Str) (ds : List D) : Option D := match intsOf ds with
  | some (x :: xs) => some (.int (f x xs))
  | _ => match strsOf ds with
    | some (x :: xs) => some (.str (f' x xs))
    | _ => none
theorem d_min {f : Int → List Int → Int} {f' : Str → List Str → Str} : ArgD K (rMinN K f f') (g1 (onL (fMin f f'))) := fun w ps σ ρ xs as d Q st rs e q => by
  obtain ⟨a, vs, ds, rfl, h, r, e2⟩ := onL_val st rs e
  unfold fMin at e2
  split at e2
  · rename_i x xs e3
    cases e2
    have e4 := intsOf_eq e3
    subst e4
    rw [r.ints] at h
    exact .inl ⟨a, x, xs, rfl, h, q _ w (Step.refl w) rfl st (.int _)⟩
  · split at e2
    · rename_i x xs e3
      cases e2
      have e4 := strsOf_eq e3
      subst e4
      rw [r.strs] at h
      exact .inr ⟨a, x, xs, rfl, h, q _ w (Step.refl w) rfl st (.str _)⟩
    · cases e2
/-! sorted, of any data alike -/
def leP (a b : PyData) : Bool := !PySem.W.dataLt b a
def leD (a b : D) : Bool := match toP a, toP b with
  | some x, some y => leP x y
  | _, _ => false
def alikeAllB (ps : List PyData) : Bool := ps.all fun x => ps.all fun y => PySem.W.alike x y
def sortableB (ps : List PyData) : Bool := (ps.all fun d => match d with | .tuple (_ :: _) => true | _ => false) || (ps.all fun d => match d with | .none => false | .tuple _ => false | _ => true)
def depthOk (ps : List PyData) : Bool := ps.all fun d => decide (d.depth ≤ 30)
def sortOk (ps : List PyData) : Bool := alikeAllB ps && sortableB ps && depthOk ps
theorem alike_of {ps : List PyData} (h : alikeAllB ps = true) : PySem.W.AllAlike ps := fun d hd d' hd' => by
  unfold alikeAllB at h
  rw [List.all_eq_true] at h
  have := h d hd
  rw [List.all_eq_true] at this
  exact this d' hd'
theorem sortable_of {ps : List PyData} (h : sortableB ps = true) : PySem.W.Sortable ps := by
  unfold sortableB at h
  rw [Bool.or_eq_true] at h
  rcases h with h | h
  · rw [List.all_eq_true] at h
    refine .inl fun d hd => ?_
    have := h d hd
    split at this
    · exact ⟨_, _, rfl⟩
    · cases this
  · rw [List.all_eq_true] at h
    refine .inr fun d hd => ?_
    have := h d hd
    split at this
    · cases this
    · cases this
    · rename_i h1 h2
      exact ⟨h1, fun xs e => h2 xs e⟩
/-- each item with what it reads as -/
def rSortD (K : PySem.W.Frag) : List V → Hp → VK → Prop := fun vs H Q => ∃ (a : Addr) (xs : List (V × PyData)), vs = [V.ref a] ∧ SqL K H a (xs.map (·.1)) ∧ DpAll K H (xs.map (·.1)) (xs.map (·.2)) ∧ sortOk (xs.map (·.2)) = true ∧
  ∀ (p : Addr), H p = none → Q (.ref p) (upd H p (.lst ((xs.mergeSort fun a b => leP a.2 b.2).map (·.1))))
theorem each_vals {xs : List (V × PyData)} {us : List Value} (r : Vals (xs.map (·.1)) us) : PySem.W.EachIs (fun u (b : V × PyData) => RelV b.1 u) us xs := by
  induction xs generalizing us with
  | nil => cases r; exact .nil
  | cons x xs ih =>
    cases r with
    | cons r t => exact .cons r (ih t)
theorem vals_each {xs : List (V × PyData)} {us : List Value} (r : PySem.W.EachIs (fun u (b : V × PyData) => RelV b.1 u) us xs) : Vals (xs.map (·.1)) us := by
  induction r with
  | nil => exact .nil
  | cons h t ih => exact .cons h ih
theorem each_reads {X : Cx} {pins : List (Addr × Obj)} {σ : L2.St} {H : Hp} {s : Shared} (I : Inv X pins σ H s) {xs : List (V × PyData)} {us : List Value} (r : Vals (xs.map (·.1)) us) (hd : DpAll X.K H (xs.map (·.1)) (xs.map (·.2))) :
    PySem.W.EachIs (fun u (b : V × PyData) => ∃ as, Reads s.heap u b.2 as) us xs := by
  induction xs generalizing us with
  | nil => cases r; exact .nil
  | cons x xs ih =>
    cases r with
    | cons r t => cases hd with
      | cons h hs => exact .cons (Dp.reads I _ _ _ h r) (ih t hs)
open PySem.W in
theorem c_sorted {X : Cx} (hK : X.K = K) {k : Nat} (hr : Room k X.A) : CallR X (.builtin "sorted") (rSortD K) := by
  subst hK
  intro pins s σ H vs us Q I r h
  obtain ⟨a, xs, rfl, hs, hdp, hok, q⟩ := h
  obtain ⟨its, rv, hl, hz⟩ := I.list hs
  rw [Vals.ref1 r]
  unfold sortOk at hok
  rw [Bool.and_eq_true, Bool.and_eq_true] at hok
  have hu : X.A.units + 64 < cLine := hr.units
  refine sorted_data (enc := fun b : V × PyData => b.2) (R := fun u b => RelV b.1 u) hl.isList (each_vals rv) (each_reads I rv hdp) (alike_of hok.1.1) (sortable_of hok.1.2) (by rw [List.length_map] at hz; exact hz) (fun b hb => ?_) fun out ho eo => ?_
  · have h2 := hok.2
    unfold depthOk at h2
    rw [List.all_eq_true] at h2
    have := of_decide_eq_true (h2 b.2 (List.mem_map.mpr ⟨b, hb, rfl⟩))
    omega
  · have hlen : ((xs.mergeSort fun a b => leP a.2 b.2).map (·.1)).length ≤ sizeLine := by rw [List.length_map, List.length_mergeSort]; rw [List.length_map] at hz; exact hz
    obtain ⟨ep, he'⟩ := PyProof.Rows.sortedAll_at s.heap its out.toArray
    have rv' : Vals ((xs.mergeSort fun a b => leP a.2 b.2).map (·.1)) out := vals_each eo
    exact ⟨.ref _, upd H (s.heap.objs.size + 1) (.lst ((xs.mergeSort fun a b => leP a.2 b.2).map (·.1))), I.laid (t' := s.toks) (fun _ _ => PyProof.Rows.sortedAll_old) (Nat.le_succ _) ⟨hlen, out, ep, rv', he'⟩, rfl, q _ (I.hok.fresh (Nat.le_succ _))⟩
def fSort (ds : List D) : Option D := match toPs ds with
  | some ps => if sortOk ps = true then some (.lst (ds.mergeSort leD)) else none
  | none => none
/-- values, what they read as, data: one list -/
theorem zip_reps {G H : Hp} (hs : Same G H) : ∀ {vs : List V} {ds : List D} {ps : List PyData}, Reps K G vs ds → toPs ds = some ps → ∃ l : List (V × PyData × D), l.map (·.1) = vs ∧ l.map (·.2.1) = ps ∧ l.map (·.2.2) = ds ∧ (∀ t ∈ l, Rep K G t.1 t.2.2 ∧ toP t.2.2 = some t.2.1)
  | _, _, _, .nil, e => by cases e; exact ⟨[], rfl, rfl, rfl, fun t h => by cases h⟩
  | _, _, _, .cons (v := v) (d := d) (ds := ds) r rs, e => by
    unfold toPs at e
    split at e
    · rename_i x l e1 e2
      cases e
      obtain ⟨l', h1, h2, h3, h4⟩ := zip_reps hs rs e2
      refine ⟨(v, x, d) :: l', by simp [h1], by simp [h2], by simp [h3], fun t ht => ?_⟩
      rcases List.mem_cons.mp ht with ht | ht
      · subst ht; exact ⟨r, e1⟩
      · exact h4 t ht
    · cases e
theorem reps_of {G : Hp} : ∀ {l : List (V × PyData × D)}, (∀ t ∈ l, Rep K G t.1 t.2.2 ∧ toP t.2.2 = some t.2.1) → Reps K G (l.map (·.1)) (l.map (·.2.2))
  | [], _ => .nil
  | t :: l, h => .cons (h t (List.mem_cons_self ..)).1 (reps_of fun u hu => h u (List.mem_cons_of_mem _ hu))
theorem sort_core {w : Wd} {ps : Nat → Option Addr} {σ : L2.St} {ρ : SE} {a : Addr} {vs : List V} {ds : List D} {d : D} {Q : VK} (st : Sts K w ps σ ρ) (h : SqL K w.H a vs) (r : Reps K w.G vs ds) (e : fSort ds = some d)
    (q : ∀ a w', Step w w' → w'.o = w.o → Sts K w' ps σ ρ → Con K w' a d → w'.G a = none → w.H a = none → Q (.ref a) w'.H) : rSortD K [.ref a] w.H Q := by
  unfold fSort at e
  split at e
  · rename_i pl e1
    split at e
    · rename_i hok
      cases e
      obtain ⟨l, h1, h2, h3, h4⟩ := zip_reps st.sub r e1
      refine ⟨a, l.map fun t => (t.1, t.2.1), rfl, ?_, ?_, ?_, fun p hp => ?_⟩
      · rw [List.map_map]
        have : (fun x : V × PyData => x.1) ∘ (fun t : V × PyData × D => (t.1, t.2.1)) = fun t => t.1 := rfl
        rw [this, h1]; exact h
      · rw [List.map_map, List.map_map]
        have e5 : (fun x : V × PyData => x.1) ∘ (fun t : V × PyData × D => (t.1, t.2.1)) = fun t => t.1 := rfl
        have e6 : (fun x : V × PyData => x.2) ∘ (fun t : V × PyData × D => (t.1, t.2.1)) = fun t => t.2.1 := rfl
        rw [e5, e6, h1, h2]
        exact r.dp st.sub e1
      · rw [List.map_map]
        have e6 : (fun x : V × PyData => x.2) ∘ (fun t : V × PyData × D => (t.1, t.2.1)) = fun t => t.2.1 := rfl
        rw [e6, h2]; exact hok
      · have m1 : ((l.map fun t => (t.1, t.2.1)).mergeSort fun a b => leP a.2 b.2).map (·.1) = (l.mergeSort fun a b => leP a.2.1 b.2.1).map (·.1) := by
          have : (l.mergeSort fun a b => leP a.2.1 b.2.1).map (fun t => (t.1, t.2.1)) = (l.map fun t => (t.1, t.2.1)).mergeSort fun a b => leP a.2 b.2 := List.map_mergeSort fun a _ b _ => rfl
          rw [← this, List.map_map]
          rfl
        have m2 : ds.mergeSort leD = (l.mergeSort fun a b => leP a.2.1 b.2.1).map (·.2.2) := by
          rw [← h3]
          refine (List.map_mergeSort fun a ha b hb => ?_).symm
          unfold leD
          rw [(h4 a ha).2, (h4 b hb).2]
        rw [m1]
        refine q p (w.hnew p (.lst _)) (st.hnew _ hp) rfl (st.hnewS _ hp) ⟨_, upd_same, ?_⟩ (st.gfree hp) hp
        rw [m2]
        exact reps_of fun t ht => h4 t (List.mem_mergeSort.mp ht)
    · cases e
  · cases e
theorem d_sorted : ArgO K (rSortD K) (g1 (onL fSort)) := fun w ps σ ρ xs as d Q st rs e q => by
  obtain ⟨a, vs, ds, rfl, h, r, e2⟩ := onL_val st rs e
  exact sort_core st h r e2 q
theorem d_sortedS : ArgBO K (rSortD K) (onL fSort) := fun w ps σ ρ a c d Q st cb e q => by
  obtain ⟨vs, ds, h, r, e2⟩ := onL_con cb e
  exact sort_core st h r e2 q
/-! int, abs -/
def fInt : D → Option D
  | .int i => some (.int i)
  | .bl b => some (.int (if b then 1 else 0))
  | _ => none
abbrev rInt : List V → Hp → VK → Prop := fun xs H Q => (∃ i, xs = [.int i] ∧ Q (.int i) H) ∨ ∃ k, xs = [.bl k] ∧ Q (.int (if k then 1 else 0)) H
theorem d_int : ArgD K rInt (g1 fInt) := fun w ps σ ρ xs as d Q st rs e q => by
  unfold g1 at e
  split at e
  · cases rs with
    | cons r t =>
      cases t
      unfold fInt at e
      split at e
      · cases e; cases r; exact .inl ⟨_, rfl, q _ w (Step.refl w) rfl st (.int _)⟩
      · cases e; cases r; exact .inr ⟨_, rfl, q _ w (Step.refl w) rfl st (.int _)⟩
      · cases e
  · cases e
def fAbs : D → Option D
  | .int i => some (.int (if i < 0 then -i else i))
  | _ => none
theorem d_abs : ArgD K (fun xs H Q => ∃ i, xs = [.int i] ∧ Q (.int (if i < 0 then -i else i)) H) (g1 fAbs) := fun w ps σ ρ xs as d Q st rs e q => by
  unfold g1 at e
  split at e
  · cases rs with
    | cons r t =>
      cases t
      unfold fAbs at e
      split at e
      · cases e; cases r; exact ⟨_, rfl, q _ w (Step.refl w) rfl st (.int _)⟩
      · cases e
  · cases e
/-! isinstance -/
def tyOf : D → String
  | .non => "NoneType"
  | .bl _ => "bool"
  | .int _ => "int"
  | .str _ => "str"
  | .tup _ => "tuple"
  | .lst _ => "list"
  | .dk _ _ => "dict"
  | .dt _ _ => "dict"
def isiD (T : String) (d : D) : Bool := tyOf d == T || (T == "int" && tyOf d == "bool")
theorem rep_ty {w : Wd} {ps : Nat → Option Addr} {σ : L2.St} {ρ : SE} (st : Sts K w ps σ ρ) {x : V} {a : D} (r : Rep K w.G x a) : TyX K w.H x (.type (tyOf a)) := by
  cases r with
  | non => exact .base .non
  | bl b => exact .base (.bl b)
  | int i => exact .base (.int i)
  | str s => exact .base (.str s)
  | tup h _ =>
    rcases h with (h | ⟨o, h⟩) | ⟨o, its, n, h, hc, _⟩
    · exact .base (.tup (st.sub _ _ h))
    · exact .fTuple (st.sub _ _ h)
    · exact .kTuple h hc
  | lst h _ => exact .base (.lst (st.sub _ _ h))
  | dk h _ _ => exact .base (.dK (st.sub _ _ h))
  | dt h _ _ => exact .base (.dT (st.sub _ _ h))
end
end DL

set_option Elab.async false
set_option linter.all false
set_option maxRecDepth 100000
namespace DL
open PySem PySem.Spec PyProof.Rows L2

section
variable {K : PySem.W.Frag} {mg : Str → Option Value} {W : WX} {P : Program} {wd : World} {base : Heap} {N : List Str} {k : Nat} {ι : Type} {X : ι → Cx}
variable {a b c e : Expr} {Fa Fb Fc : SE → R D} {pos : Pos}

/-! ### isinstance(e, T) -/
/-- the built-in class T is asked for -/
structure IsT (K : PySem.W.Frag) (T : String) : Prop where
  ok : ∀ d : D, PySem.W.kitOne K (.type (tyOf d)) (.type T) = some (isiD T d)
theorem b_isi (hf : Fam P wd K mg base N k W X) {T : String} {p p1 : Pos} {x : Str} (hT : IsT K T) (ha : BE K mg W X a Fa) (hm : mg "isinstance" = none) (hm' : mg x = none) (hv' : bootBuiltins x = some (.type T) := by decide +kernel) (hg : ∀ i, Gl (X i) "isinstance" := by exact fun _ => rfl) (hg' : ∀ i, Gl (X i) x := by exact fun _ => rfl)
    (hn' : x ≠ "__name__" := by decide) (hd' : (x == ("__debug__" : Str)) = false := by decide)
    (he : ∀ i, starEach [a, .Name x p1] (X i).env = (false, eval a (X i).env) :: starEach [.Name x p1] (X i).env := by intro _; rfl) (hpl : ∀ i, (backTo pos (starEach [.Name x p1] (X i).env)).any (·.1) = false := by intro _; rfl) :
    BE K mg W X (.Call (.Name "isinstance" p) [a, .Name x p1] [] pos) (eUn (fun d => some (.bl (isiD T d))) Fa) := by
  obtain ⟨ta, pa, sa⟩ := ha.ex
  refine ⟨tCB (rIsi K) (tCons ta (tCons (tC (.ty T)) tNil)), fun i => ?_, fun w ps σ ρ Q st h => sa w ps σ ρ _ st (h.bind.imp (fun x ρ1 h1 v1 w1 s1 o1 st1 r1 => ?_) fun _ _ _ q => q)⟩
  · have q := pe_callB (X := X i) (x := "isinstance") (p := p) (pos := pos) call_isi (hg i) (by rw [hf.hm]; exact hm) (by decide +kernel) (pa_cons (pa i) (pa_cons (pe_bltn (pos := p1) (v := .ty T) (hg' i) (by rw [hf.hm]; exact hm') hv' rfl hn' hd') pa_nil) (he i)) (by decide) (by decide) (he i) (hpl i)
    rw [hf.hK i] at q
    exact q
  · exact ⟨v1, .ty T, _, _, isiD T x, rfl, .ty T, rep_ty st1 r1, hT.ok x, h1 _ w1 s1 o1 st1 (.bl _)⟩
/-- isinstance(e, (T, U)) -/
theorem b_isi2 (hf : Fam P wd K mg base N k W X) {T U : String} {p p1 p2 p3 : Pos} {k3 : Nat} {x y : Str} (hT : IsT K T) (hU : IsT K U) (ha : BE K mg W X a Fa) (hm : mg "isinstance" = none) (hm' : mg x = none) (hm2 : mg y = none) (hv' : bootBuiltins x = some (.type T) := by decide +kernel) (hv2 : bootBuiltins y = some (.type U) := by decide +kernel)
    (hg : ∀ i, Gl (X i) "isinstance" := by exact fun _ => rfl) (hg' : ∀ i, Gl (X i) x := by exact fun _ => rfl) (hg2 : ∀ i, Gl (X i) y := by exact fun _ => rfl)
    (hn' : x ≠ "__name__" := by decide) (hd' : (x == ("__debug__" : Str)) = false := by decide) (hn2 : y ≠ "__name__" := by decide) (hd2 : (y == ("__debug__" : Str)) = false := by decide)
    (he : ∀ i, starEach [a, .Tuple [.Name x p1, .Name y p2] k3 p3] (X i).env = (false, eval a (X i).env) :: starEach [.Tuple [.Name x p1, .Name y p2] k3 p3] (X i).env := by intro _; rfl) (hpl : ∀ i, (backTo pos (starEach [.Tuple [.Name x p1, .Name y p2] k3 p3] (X i).env)).any (·.1) = false := by intro _; rfl) :
    BE K mg W X (.Call (.Name "isinstance" p) [a, .Tuple [.Name x p1, .Name y p2] k3 p3] [] pos) (eUn (fun d => some (.bl (isiD T d || isiD U d))) Fa) := by
  obtain ⟨ta, pa, sa⟩ := ha.ex
  refine ⟨tCB (rIsiT K) (tCons ta (tCons (tTup (tCons (tC (.ty T)) (tCons (tC (.ty U)) tNil))) tNil)), fun i => ?_, fun w ps σ ρ Q st h => sa w ps σ ρ _ st (h.bind.imp (fun x ρ1 h1 v1 w1 s1 o1 st1 r1 => ?_) fun _ _ _ q => q)⟩
  · have q := pe_callB (X := X i) (x := "isinstance") (p := p) (pos := pos) call_isiT (hg i) (by rw [hf.hm]; exact hm) (by decide +kernel)
      (pa_cons (pa i) (pa_cons (pe_tup (x1 := k3) (pos := p3) (pa_cons (pe_bltn (pos := p1) (v := .ty T) (hg' i) (by rw [hf.hm]; exact hm') hv' rfl hn' hd') (pa_cons (pe_bltn (pos := p2) (v := .ty U) (hg2 i) (by rw [hf.hm]; exact hm2) hv2 rfl hn2 hd2) pa_nil))) pa_nil) (he i)) (by decide) (by decide) (he i) (hpl i)
    rw [hf.hK i] at q
    exact q
  · refine ⟨by show 2 ≤ sizeLine; decide, fun p hp => ⟨v1, p, _, .type (tyOf x), _, isiD T x || isiD U x, rfl, upd_same, .cons (.ty T) (.cons (.ty U) .nil), ?_, ?_, ?_⟩⟩
    · exact rep_ty (w := w1.gnew p (.tup [.ty T, .ty U])) (st1.gnewS _ hp) (r1.mono (Same.new (st1.gfree hp)))
    · show (match PySem.W.kitOne K (.type (tyOf x)) (.type T) with
        | some true => some true
        | some false => PySem.W.kitAny K (.type (tyOf x)) [.type U]
        | none => none) = _
      rw [hT.ok x]
      cases isiD T x with
      | true => rfl
      | false =>
        show (match PySem.W.kitOne K (.type (tyOf x)) (.type U) with
          | some true => some true
          | some false => PySem.W.kitAny K (.type (tyOf x)) []
          | none => none) = _
        rw [hU.ok x]
        cases isiD U x <;> rfl
    · exact h1 _ (w1.gnew p (.tup [.ty T, .ty U])) (s1.trans (st1.gnew _ hp)) o1 (st1.gnewS _ hp) (.bl _)

/-! ### a slot's own container is changed -/
theorem mut_step {w : Wd} {ps : Nat → Option Addr} {σ : L2.St} {ρ : SE} {i : Nat} {d d' : D} {o : HO} (st : Sts K w ps σ ρ) (h : mineOf ρ i = some d) : ∃ a, σ[i]? = some (some (.ref a)) ∧ Con K w a d ∧
    (Con K ⟨w.G, upd w.H a o, w.o⟩ a d' → Step w ⟨w.G, upd w.H a o, w.o⟩ ∧ Sts K ⟨w.G, upd w.H a o, w.o⟩ ps σ (setMine ρ i d')) := by
  obtain ⟨a, s0, e0, ho, c0, h0, m0⟩ := mineOf_ok st h
  refine ⟨a, e0, c0, fun c' => ?_⟩
  have hg := st.disj a ho
  have hs : Same w.G (upd w.H a o) := fun b x hb => by
    have : b ≠ a := fun z => by rw [z, hg] at hb; cases hb
    rw [upd_ne this]
    exact st.sub b x hb
  have s1 : Step (w.sub fun b => b = a) ⟨w.G, upd w.H a o, fun b => b = a⟩ := ⟨fun b x hb nb => by
      show upd w.H a o b = some x
      rw [upd_ne nb]
      exact hb, Same.refl _, fun b hb => .inl hb, fun b hb => .inl hb, fun b hb => upd_ne_none hb⟩
  exact ⟨sub_step (fun b z => by have z : b = a := z; rw [z]; exact ho) s1, backM st h0 m0 e0 ho s1 hs (by cases d' <;> exact c') hg⟩
theorem setMine_mine {ρ : SE} {i : Nat} {d d' : D} (h : mineOf ρ i = some d) : mineOf (setMine ρ i d') i = some d' := by
  unfold mineOf at h
  split at h
  · rename_i x e
    unfold setMine
    rw [e]
    unfold mineOf
    have hl : i < ρ.length := by
      by_cases hl : i < ρ.length
      · exact hl
      · rw [List.getElem?_eq_none (by omega)] at e; cases e
    simp only [List.getElem?_set_self hl]
  · rename_i x e
    unfold setMine
    rw [e]
    unfold mineOf
    have hl : i < ρ.length := by
      by_cases hl : i < ρ.length
      · exact hl
      · rw [List.getElem?_eq_none (by omega)] at e; cases e
    simp only [List.getElem?_set_self hl]
  · cases h
/-- a method of a slot's list: what it gives and what stands behind it -/
def MtL (K : PySem.W.Frag) (r : V → List V → Hp → VK → Prop) (m : List D → List D → Option (List D × D)) : Prop := ∀ (w : Wd) (ps : Nat → Option Addr) (σ : L2.St) (ρ : SE) (l : Addr) (vs xs : List V) (ds as ds' : List D) (d : D) (Q : VK), Sts K w ps σ ρ →
  w.H l = some (.lst vs) → Reps K w.G vs ds → Reps K w.G xs as → m ds as = some (ds', d) → (∀ v vs', Reps K w.G vs' ds' → Rep K w.G v d → Q v (upd w.H l (.lst vs'))) → r (.ref l) xs w.H Q
def eMt (i : Nat) (m : List D → List D → Option (List D × D)) (Fa : SE → R (List D)) : SE → R D := fun ρ => match mineOf ρ i with
  | some (.lst _) => (Fa ρ).bind fun as ρ1 => match mineOf ρ1 i with
    | some (.lst ds) => (match m ds as with
      | some (ds', d) => .ok d (setMine ρ1 i (.lst ds'))
      | none => .stuck)
    | _ => .stuck
  | _ => .stuck
theorem mtSem {r : V → List V → Hp → VK → Prop} {m : List D → List D → Option (List D × D)} {i : Nat} {t : TA} {F : SE → R (List D)} (hm : MtL K r m) (sa : SemA K mg W t F) : SemE K mg W (tBM K "list" r (tVar i) t) (eMt i m F) := fun w ps σ ρ Q st h => by
  unfold eMt at h
  split at h
  · rename_i ds0 e0
    obtain ⟨a, s0, e1, ho, c0, h0, m0⟩ := mineOf_ok st e0
    obtain ⟨vs0, hv0, _⟩ := c0
    refine ⟨.ref a, e1, .inl ⟨rfl, _, .inl (.inl hv0)⟩, sa w ps σ ρ _ st (h.bind.imp (fun as ρ1 h1 xs w1 s1 o1 st1 r1 => ?_) fun _ _ _ q => q)⟩
    split at h1
    · rename_i ds e2
      split at h1
      · rename_i ds' d e3
        obtain ⟨a', s1', e4, ho', ⟨vs, hv, rv⟩, _, _⟩ := mineOf_ok st1 e2
        rw [e1] at e4
        cases e4
        refine hm w1 ps σ ρ1 a vs xs ds as ds' d Q st1 hv rv r1 e3 fun v vs' rv' rd => ?_
        obtain ⟨a', e5, _, hst⟩ := mut_step (o := .lst vs') (d' := .lst ds') st1 e2
        rw [e1] at e5
        cases e5
        obtain ⟨s2, st2⟩ := hst ⟨vs', upd_same, rv'⟩
        exact h1 v ⟨w1.G, upd w1.H a (.lst vs'), w1.o⟩ (s1.trans s2) o1 st2 rd
      · exact h1.elim
    · exact h1.elim
  · exact h.elim
section
variable {id : String} {r : V → List V → Hp → VK → Prop} {m : List D → List D → Option (List D × D)} {name x : Str} {p apos : Pos} {es : List Expr} {F : SE → R (List D)}
theorem b_mt (hf : Fam P wd K mg base N k W X) (i : Nat) (slot : Slot "list" name id) (hty : typeOf (.builtin id) = pure (.type "method_descriptor")) (hmt : ∀ j, MtR (X j) id r) (hm : MtL K r m) (ha : BA K mg W X (a :: es) F) (hN : N[i]? = some x := by rfl)
    (hv : ∀ j, Vis (X j).env.scope x := by first | exact fun _ => Or.inl rfl | exact fun _ => Or.inr (Or.inl rfl) | exact fun _ => Or.inr (Or.inr rfl)) (hd : (x == ("__debug__" : Str)) = false := by decide) (hcd : (x == ("__classdict__" : Str)) = false := by decide)
    (hbase : ∀ j, attributeBase (.Name x p) name (X j).env (eval (.Name x p) (X j).env) = eval (.Name x p) (X j).env := by intro _; rfl)
    (hfew : ∀ j, ((backTo pos (starEach (a :: es) (X j).env)).all (fun x => !x.1) && (backToKw pos (keywordEach [] (X j).env)).all (fun x => x.1.isSome) && decide ((a :: es).length + ([] : List Keyword).length + (if ([] : List Keyword).isEmpty then 0 else 1) < 30)) = true := by intro _; rfl)
    (hline : (apos.endLine == pos.line) = true := by rfl) (hs : ∀ j, starEach (a :: es) (X j).env = (false, eval a (X j).env) :: starEach es (X j).env := by intro _; rfl) (hplain : ∀ j, (backTo pos (starEach es (X j).env)).any (·.1) = false := by intro _; rfl) :
    BE K mg W X (.Call (.Attribute (.Name x p) name apos) (a :: es) [] pos) (eMt i m F) := by
  obtain ⟨ta, pa, sa⟩ := ha.ex
  refine ⟨tBM K "list" r (tVar i) ta, fun j => ?_, mtSem hm sa⟩
  have q := pe_bm (X := X j) PySem.F.plainAttrs_list slot hty (hmt j) (pe_var (i := i) (x := x) (pos := p) (by rw [hf.hN]; exact hN) (hv j) hd hcd) (pa j) (hbase j) (hfew j) hline (hs j) (hplain j)
  rw [hf.hK j] at q
  exact q
end
def mAppend (ds as : List D) : Option (List D × D) := match as with
  | [d] => if ds.length < sizeLine then some (ds ++ [d], .non) else none
  | _ => none
theorem d_append : MtL K rAppend mAppend := fun w ps σ ρ l vs xs ds as ds' d Q st hl rv ra e q => by
  unfold mAppend at e
  split at e
  · split at e
    · rename_i hz
      cases e
      cases ra with
      | cons r t =>
        cases t
        exact ⟨l, vs, _, rfl, rfl, hl, by rw [rv.len]; exact hz, q _ _ (rv.app (.cons r .nil)) .non⟩
    · cases e
  · cases e
def mExtend (ds as : List D) : Option (List D × D) := match as with
  | [.lst es] => if ds.length + es.length ≤ sizeLine then some (ds ++ es, .non) else none
  | _ => none
theorem d_extend : MtL K rExtend mExtend := fun w ps σ ρ l vs xs ds as ds' d Q st hl rv ra e q => by
  unfold mExtend at e
  split at e
  · split at e
    · rename_i hz
      cases e
      cases ra with
      | cons r t =>
        cases t
        cases r with
        | lst hb rb => exact ⟨l, _, vs, _, rfl, rfl, hl, st.sub _ _ hb, by rw [rv.len, rb.len]; exact hz, q _ _ (rv.app rb) .non⟩
    · cases e
  · cases e
/-! an item of a slot's list is set -/
def sSetIx (i : Nat) (Fb Fv : SE → R D) : SE → O := fun ρ => (Fv ρ).to fun v ρ1 => match mineOf ρ1 i with
  | none => .stuck
  | some _ => (Fb ρ1).to fun j ρ2 => match mineOf ρ2 i, j with
    | some (.lst ds), .int n => (match ixN ds.length n with
      | some m => .nx (setMine ρ2 i (.lst (ds.set m v)))
      | none => .stuck)
    | _, _ => .stuck
theorem s_setIx (hf : Fam P wd K mg base N k W X) (i : Nat) {x : Str} {p p2 : Pos} (hb : BE K mg W X b Fb) (hc : BE K mg W X c Fc) (hN : N[i]? = some x := by rfl)
    (hv : ∀ j, Vis (X j).env.scope x := by first | exact fun _ => Or.inl rfl | exact fun _ => Or.inr (Or.inl rfl) | exact fun _ => Or.inr (Or.inr rfl)) (hd : (x == ("__debug__" : Str)) = false := by decide) (hcd : (x == ("__classdict__" : Str)) = false := by decide)
    (hs : ∀ j, swapsWithSole [.Subscript (.Name x p) b p2] c pos.line (X j).env = pure false := by intro _; rfl) (hw : ∀ j, swappedStores [.Subscript (.Name x p) b p2] c (X j).env = pure none := by intro _; rfl)
    (hA : ∀ j v, assign (.Subscript (.Name x p) b p2) (X j).env v = (do
      let ov ← holding [v] (eval (.Name x p) (X j).env)
      let iv ← holding [v, ov] (eval b (X j).env)
      standAt p2
      holding [v, ov, iv] (setItem ov iv v)
      release [v, ov, iv] []) := by intro _ _; rfl) :
    BS K mg W X (.Assign [.Subscript (.Name x p) b p2] c pos) (sSetIx i Fb Fc) := by
  obtain ⟨tb, pb, sb⟩ := hb.ex
  obtain ⟨tc, pc, sc⟩ := hc.ex
  refine ⟨_, fun j => ps_asg (pc j) (pg_sub (pe_var (i := i) (x := x) (pos := p) (by rw [hf.hN]; exact hN) (hv j) hd hcd) (pb j) set_list (hA j)) (hs j) (hw j), fun w ps σ ρ D_ st h => ?_⟩
  refine sc w ps σ ρ _ st (h.to.imp (fun v ρ1 h1 v1 w1 s1 o1 st1 r1 => ?_) fun _ _ _ q => q)
  split at h1
  · exact h1.elim
  · rename_i d0 e0
    obtain ⟨a, _, e1, _, _, _, _⟩ := mineOf_ok st1 e0
    have h1 := PostS.step s1 h1
    refine ⟨.ref a, e1, sb w1 ps σ ρ1 _ st1 ((h1.to (σ := σ)).imp (fun y ρ2 h2 v2 w2 s2 o2 st2 r2 => ?_) fun _ _ _ q => q)⟩
    split at h2
    · rename_i ds n e2
      split at h2
      · rename_i m e3
        obtain ⟨a', _, e4, _, ⟨vs, hv', rv⟩, _, _⟩ := mineOf_ok st2 e2
        rw [e1] at e4
        cases e4
        cases r2
        refine ⟨a, vs, n, m, rfl, rfl, hv', by rw [rv.len]; exact e3, ?_⟩
        obtain ⟨a', e5, _, hst⟩ := mut_step (o := .lst (vs.set m v1)) (d' := .lst (ds.set m v)) st2 e2
        rw [e1] at e5
        cases e5
        obtain ⟨s3, st3⟩ := hst ⟨_, upd_same, rv.set (r1.mono s2.froz) m⟩
        exact h2 σ ⟨w2.G, upd w2.H a _, w2.o⟩ (s2.trans s3) st3
      · exact h2.elim
    · exact h2.elim
/-! text methods -/
def MtD (K : PySem.W.Frag) (r : V → List V → Hp → VK → Prop) (g : D → List D → Option D) : Prop := ∀ (w : Wd) (ps : Nat → Option Addr) (σ : L2.St) (ρ : SE) (x : V) (xs : List V) (c d : D) (as : List D) (Q : VK), Sts K w ps σ ρ → Rep K w.G x c → Reps K w.G xs as → g c as = some d →
  (∀ v w', Step w w' → w'.o = w.o → Sts K w' ps σ ρ → Rep K w'.G v d → Q v w'.H) → r x xs w.H Q
def eTm (g : D → List D → Option D) (Fo : SE → R D) (Fa : SE → R (List D)) : SE → R D := fun ρ => (Fo ρ).bind fun c ρ1 => match c with
  | .str _ => (Fa ρ1).bind fun as ρ2 => R.of ρ2 (g c as)
  | _ => .stuck
theorem b_tm {id : String} {r : V → List V → Hp → VK → Prop} {g : D → List D → Option D} {name : Str} {apos : Pos} {es : List Expr} {F : SE → R (List D)} (hf : Fam P wd K mg base N k W X) (slot : Slot "str" name id) (hty : typeOf (.builtin id) = pure (.type "method_descriptor")) (hmt : ∀ j, MtR (X j) id r) (hm : MtD K r g) (ho : BE K mg W X b Fb) (ha : BA K mg W X (a :: es) F)
    (hbase : ∀ j, attributeBase b name (X j).env (eval b (X j).env) = eval b (X j).env := by intro _; rfl)
    (hfew : ∀ j, ((backTo pos (starEach (a :: es) (X j).env)).all (fun x => !x.1) && (backToKw pos (keywordEach [] (X j).env)).all (fun x => x.1.isSome) && decide ((a :: es).length + ([] : List Keyword).length + (if ([] : List Keyword).isEmpty then 0 else 1) < 30)) = true := by intro _; rfl)
    (hline : (apos.endLine == pos.line) = true := by rfl) (hs : ∀ j, starEach (a :: es) (X j).env = (false, eval a (X j).env) :: starEach es (X j).env := by intro _; rfl) (hplain : ∀ j, (backTo pos (starEach es (X j).env)).any (·.1) = false := by intro _; rfl) :
    BE K mg W X (.Call (.Attribute b name apos) (a :: es) [] pos) (eTm g Fb F) := by
  obtain ⟨ta, pa, sa⟩ := ha.ex
  obtain ⟨tb, pb, sb⟩ := ho.ex
  refine ⟨tBM K "str" r tb ta, fun j => ?_, fun w ps σ ρ Q st h => sb w ps σ ρ _ st (h.bind.imp (fun c ρ1 h1 v1 w1 s1 o1 st1 r1 => ?_) fun _ _ _ q => q)⟩
  · have q := pe_bm (X := X j) PySem.F.plainAttrs_str slot hty (hmt j) (pb j) (pa j) (hbase j) (hfew j) hline (hs j) (hplain j)
    rw [hf.hK j] at q
    exact q
  · cases r1 with
    | str z =>
      refine ⟨rfl, sa w1 ps σ ρ1 _ st1 (h1.bind.imp (fun as ρ2 h2 xs w2 s2 o2 st2 r2 => ?_) fun _ _ _ q => q.step s1 o1)⟩
      obtain ⟨d, e, h3⟩ := post_of h2
      exact hm w2 ps σ ρ2 _ xs _ d as Q st2 (.str z) r2 e fun v w3 s3 o3 st3 r3 => h3 v w3 (s1.trans (s2.trans s3)) (o3.trans (o2.trans o1)) st3 r3
    | _ => exact h1.elim
abbrev rJoin (K : PySem.W.Frag) : V → List V → Hp → VK → Prop := fun x xs H Q => ∃ a p, ∃ ys : List Str, x = .str a ∧ xs = [.ref p] ∧ (SqL K H p (ys.map V.str) ∨ SqT K H p (ys.map V.str)) ∧ (ys.map (·.length)).sum + ys.length * a.length ≤ 16777216 ∧ Q (.str (Txt.join a ys)) H
theorem m_join {X : Cx} (hK : X.K = K) : MtR X "str.join" (rJoin K) := by
  subst hK
  exact mt_join
def joinOk (a : Str) (ys : List Str) : Bool := decide ((ys.map (·.length)).sum + ys.length * a.length ≤ 16777216)
def gJoin : D → List D → Option D
  | .str a, [.lst ds] => match strsOf ds with
    | some ys => if joinOk a ys = true then some (.str (Txt.join a ys)) else none
    | none => none
  | .str a, [.tup ds] => match strsOf ds with
    | some ys => if joinOk a ys = true then some (.str (Txt.join a ys)) else none
    | none => none
  | _, _ => none
theorem d_join : MtD K (rJoin K) gJoin := fun w ps σ ρ x xs c d as Q st rc ra e q => by
  unfold gJoin at e
  split at e
  · split at e
    · rename_i ys e2
      split at e
      · rename_i hj
        cases e
        cases rc
        have e3 := strsOf_eq e2
        subst e3
        cases ra with
        | cons r t =>
          cases t
          cases r with
          | lst hl rr =>
            have e4 := rr.strs
            subst e4
            exact ⟨_, _, ys, rfl, rfl, .inl (.inl (.inl (st.sub _ _ hl))), of_decide_eq_true hj, q _ w (Step.refl w) rfl st (.str _)⟩
      · cases e
    · cases e
  · split at e
    · rename_i ys e2
      split at e
      · rename_i hj
        cases e
        cases rc
        have e3 := strsOf_eq e2
        subst e3
        cases ra with
        | cons r t =>
          cases t
          cases r with
          | tup hl rr =>
            have e4 := rr.strs
            subst e4
            exact ⟨_, _, ys, rfl, rfl, .inr (sqT_same st.sub hl), of_decide_eq_true hj, q _ w (Step.refl w) rfl st (.str _)⟩
      · cases e
    · cases e
  · cases e
abbrev rSIndex : V → List V → Hp → VK → Prop := fun x xs H Q => ∃ a b i rest, x = .str a ∧ xs = [.str b] ∧ Builtin.Str.occurrences a b 0 a.length 1 = i :: rest ∧ Q (.int (i : Nat)) H
def gSIndex : D → List D → Option D
  | .str a, [.str b] => match Builtin.Str.occurrences a b 0 a.length 1 with
    | i :: _ => some (.int (i : Nat))
    | [] => none
  | _, _ => none
theorem d_sindex : MtD K rSIndex gSIndex := fun w ps σ ρ x xs c d as Q st rc ra e q => by
  unfold gSIndex at e
  split at e
  · split at e
    · rename_i i rest e2
      cases e
      cases rc
      cases ra with
      | cons r t =>
        cases t
        cases r
        exact ⟨_, _, i, rest, rfl, rfl, e2, q _ w (Step.refl w) rfl st (.int _)⟩
    · cases e
  · cases e
end
end DL

set_option Elab.async false
set_option linter.all false
set_option maxRecDepth 100000
namespace DL
open PySem PySem.Spec PyProof.Rows L2

section
variable {K : PySem.W.Frag} {mg : Str → Option Value} {W : WX} {P : Program} {wd : World} {base : Heap} {N : List Str} {k : Nat} {ι : Type} {X : ι → Cx}
variable {a b c e : Expr} {Fa Fb Fc : SE → R D} {pos : Pos}

/-! ### text * number, list * number -/
def repS (z : Str) (n : Nat) : Str := ⟨(List.replicate n z.cps.toList).flatten.toArray⟩
def rMulS : R2 := fun x y H Q => ∃ z n, x = .str z ∧ y = .int n ∧ 0 ≤ n ∧ n ≤ 1000000 ∧ z.length * n.toNat ≤ 1000000 ∧ Q (.str (repS z n.toNat)) H
theorem foldl_app (l : List Nat) : ∀ (n : Nat) (acc : Array Nat), ((List.replicate n l.toArray).foldl (· ++ ·) acc).toList = acc.toList ++ (List.replicate n l).flatten
  | 0, acc => by simp
  | n + 1, acc => by
    rw [List.replicate_succ, List.foldl_cons, foldl_app l n, List.replicate_succ, List.flatten_cons]
    simp
theorem str_ext {x y : Str} (h : x.cps.toList = y.cps.toList) : x = y := by
  obtain ⟨x⟩ := x
  obtain ⟨y⟩ := y
  have : x = y := Array.toList_inj.mp h
  rw [this]
theorem o_mulS {X : Cx} : OpR X (binaryOp .Mult) rMulS := by
  intro pins s σ H x y v u Q I rx ry h
  obtain ⟨z, n, rfl, rfl, h0, h1, hz, q⟩ := h
  obtain ⟨t, rfl⟩ := rx
  obtain ⟨t', rfl⟩ := ry
  have hs := sizeLine_eq
  have hlen : z.length = z.cps.toList.length := by rw [Array.length_toList]; rfl
  refine P.mul_str ?_ (fun hn _ hg => ?_) (fun hn _ => ?_) ?_
  · rw [Bool.or_eq_false_iff, decide_eq_false_iff_not, decide_eq_false_iff_not]
    omega
  · have h2 : (z.length : Int) * n ≤ 1000000 := by
      have : ((z.length * n.toNat : Nat) : Int) ≤ 1000000 := by omega
      rw [Int.natCast_mul, Int.toNat_of_nonneg h0] at this
      exact this
    have h3 : (2 ^ 63 - 1 : Int) / n < z.length := hg
    have h4 : (2 ^ 63 - 1 : Int) < z.length * n := by
      exact (Int.ediv_lt_iff_lt_mul (by omega)).mp h3
    omega
  · unfold Builtin.Str.tooLong
    exact decide_eq_false (by omega)
  · have fin : ∀ tk, EP X pins σ Q (.str (repS z n.toNat) tk) s → EP X pins σ Q (.str (repS z n.toNat) tk) s := fun _ h => h
    split
    · rename_i hn
      have e0 : n.toNat = 0 := by omega
      have e : repS z n.toNat = Str.empty := by
        rw [e0]; rfl
      refine ⟨by decide, ?_⟩
      exact ⟨.str (repS z n.toNat), H, I.tok _, by rw [e]; exact ⟨_, rfl⟩, q⟩
    · split
      · rename_i hn h2
        have e : repS z n.toNat = z := by
          apply str_ext
          unfold repS
          rw [List.toList_toArray]
          rw [Bool.or_eq_true, beq_iff_eq, beq_iff_eq] at h2
          rcases h2 with h2 | h2
          · subst h2
            show (List.replicate 1 z.cps.toList).flatten = _
            rw [List.replicate_one, List.flatten_singleton]
          · have e3 : z.cps.toList = [] := List.eq_nil_of_length_eq_zero (by rw [← hlen]; exact h2)
            rw [e3]
            simp
        exact ⟨.str (repS z n.toNat), H, I, by rw [e]; exact ⟨_, rfl⟩, q⟩
      · have e : (⟨(List.replicate n.toNat z.cps).foldl (· ++ ·) #[]⟩ : Str) = repS z n.toNat := by
          apply str_ext
          unfold repS
          rw [List.toList_toArray]
          have := foldl_app z.cps.toList n.toNat #[]
          rw [Array.toArray_toList] at this
          rw [this]
          simp
        rw [e]
        refine ⟨?_, .str (repS z n.toNat), H, I.tok _, ⟨_, rfl⟩, q⟩
        have : (repS z n.toNat).length = z.length * n.toNat := by
          show (List.toArray _).size = _
          rw [List.size_toArray, List.length_flatten, List.map_replicate, List.sum_replicate_nat, ← hlen, Nat.mul_comm]
        rw [this]
        omega
def gMulS : D → D → Option D
  | .str z, .int n => if decide (0 ≤ n) && decide (n ≤ 1000000) && decide (z.length * n.toNat ≤ 1000000) then some (.str (repS z n.toNat)) else none
  | _, _ => none
theorem d_mulS : BinD K rMulS gMulS := fun w ps σ ρ x y a b d Q st ra rb e q => by
  unfold gMulS at e
  split at e
  · split at e
    · rename_i h
      simp only [Bool.and_eq_true, decide_eq_true_eq] at h
      cases ra; cases rb; cases e
      exact ⟨_, _, rfl, rfl, h.1.1, h.1.2, h.2, q _ w (Step.refl w) rfl st (.str _)⟩
    · cases e
  · cases e
theorem Reps.reps {G : Hp} {vs : List V} {ds : List D} (r : Reps K G vs ds) : ∀ n : Nat, Reps K G (List.replicate n vs).flatten (List.replicate n ds).flatten
  | 0 => .nil
  | n + 1 => by
    rw [List.replicate_succ, List.replicate_succ, List.flatten_cons, List.flatten_cons]
    exact r.app (Reps.reps r n)
def gMulL : D → D → Option D
  | .lst ds, .int n => if okI n = true ∧ ds.length * n.toNat ≤ sizeLine then some (.lst (List.replicate n.toNat ds).flatten) else none
  | _, _ => none
theorem d_mulL : BinO K rRep gMulL := fun w ps σ ρ x y a b d Q st ra rb e q => by
  unfold gMulL at e
  split at e
  · split at e
    · rename_i h
      obtain ⟨b1, b2⟩ := okI_iff h.1
      cases e
      cases rb
      cases ra with
      | lst hl rs => exact ⟨_, _, _, rfl, rfl, st.sub _ _ hl, by omega, by omega, by rw [rs.len]; exact h.2, fun p hp => q p (w.hnew p (.lst _)) (st.hnew _ hp) rfl (st.hnewS _ hp) ⟨_, upd_same, rs.reps _⟩ (st.gfree hp) hp⟩
    · cases e
  · cases e

/-! ### a slot's container compared -/
def eCmpS (g : D → D → Option D) (i : Nat) (Fb : SE → R D) : SE → R D := fun ρ => match conOf ρ i with
  | none => .stuck
  | some _ => (Fb ρ).bind fun y ρ1 => match conOf ρ1 i with
    | some (.lst ds) => R.of ρ1 (g (.lst ds) y)
    | _ => .stuck
theorem dp_con {w : Wd} {ps : Nat → Option Addr} {σ : L2.St} {ρ : SE} {a : Addr} {ds : List D} {p : PyData} (st : Sts K w ps σ ρ) (c : ConB K w a (.lst ds)) (e : toP (.lst ds) = some p) : Dp K w.H (.ref a) p := by
  obtain ⟨vs, h, r⟩ := c
  unfold toP at e
  split at e
  · rename_i l el
    cases e
    exact .lst (.inl h) (r.dp st.sub el)
  · cases e
theorem eqS_ok {w : Wd} {ps : Nat → Option Addr} {σ : L2.St} {ρ : SE} {y : V} {ds : List D} {b : D} {cc : Bool} {a : Addr} (st : Sts K w ps σ ρ) (cb : ConB K w a (.lst ds)) (rb : Rep K w.G y b) (e : eqD (.lst ds) b = some cc) :
    ∃ d e, Dp K w.H (.ref a) d ∧ Dp K w.H y e ∧ SeqAt.shaped d = true ∧ SeqAt.shaped e = true ∧ PyData.eqv d e = cc := by
  have e : eqDeep (.lst ds) b = some cc := by
    cases b <;> exact e
  unfold eqDeep at e
  split at e
  · rename_i p q e1 e2
    split at e
    · rename_i hsh
      cases e
      exact ⟨p, q, dp_con st cb e1, rb.dp st.sub e2, hsh.1, hsh.2, rfl⟩
    · cases e
  · cases e
theorem cmpS_sem {r : R2} {g : D → D → Option D} {i : Nat} {tb : TE} (hg : ∀ (w : Wd) (ps : Nat → Option Addr) (σ : L2.St) (ρ : SE) (a : Addr) (ds : List D) (y : V) (b d : D) (Q : VK), Sts K w ps σ ρ → ConB K w a (.lst ds) → Rep K w.G y b → g (.lst ds) b = some d →
      (∀ v w', Step w w' → w'.o = w.o → Sts K w' ps σ ρ → Rep K w'.G v d → Q v w'.H) → r (.ref a) y w.H Q) (sb : SemE K mg W tb Fb) : SemE K mg W (tOp r (tVar i) tb) (eCmpS g i Fb) := fun w ps σ ρ Q st h => by
  unfold eCmpS at h
  split at h
  · exact h.elim
  · rename_i d0 e0
    obtain ⟨a, e1, _⟩ := conOf_ok st e0
    refine ⟨.ref a, e1, sb w ps σ ρ _ st (h.bind.imp (fun y ρ1 h1 v1 w1 s1 o1 st1 r1 => ?_) fun _ _ _ q => q)⟩
    split at h1
    · rename_i ds e2
      obtain ⟨d, e3, h2⟩ := post_of h1
      obtain ⟨a', e4, c4⟩ := conOf_ok st1 e2
      rw [e1] at e4
      cases e4
      exact hg w1 ps σ ρ1 a ds v1 y d Q st1 c4 r1 e3 fun v w2 s2 o2 st2 r2 => h2 v w2 (s1.trans s2) (o2.trans o1) st2 r2
    · exact h1.elim
theorem eqS_bin (w : Wd) (ps : Nat → Option Addr) (σ : L2.St) (ρ : SE) (a : Addr) (ds : List D) (y : V) (b d : D) (Q : VK) (st : Sts K w ps σ ρ) (cb : ConB K w a (.lst ds)) (rb : Rep K w.G y b) (e : gEq (.lst ds) b = some d)
    (q : ∀ v w', Step w w' → w'.o = w.o → Sts K w' ps σ ρ → Rep K w'.G v d → Q v w'.H) : rEqN K (.ref a) y w.H Q := by
  obtain ⟨c, e1, rfl⟩ := Option.map_eq_some_iff.mp e
  obtain ⟨d1, d2, h1, h2, h3, h4, rfl⟩ := eqS_ok st cb rb e1
  exact .inr ⟨d1, d2, h1, h2, h3, h4, q _ w (Step.refl w) rfl st (.bl _)⟩
theorem neS_bin (w : Wd) (ps : Nat → Option Addr) (σ : L2.St) (ρ : SE) (a : Addr) (ds : List D) (y : V) (b d : D) (Q : VK) (st : Sts K w ps σ ρ) (cb : ConB K w a (.lst ds)) (rb : Rep K w.G y b) (e : gNe (.lst ds) b = some d)
    (q : ∀ v w', Step w w' → w'.o = w.o → Sts K w' ps σ ρ → Rep K w'.G v d → Q v w'.H) : rNeN K (.ref a) y w.H Q := by
  obtain ⟨c, e1, rfl⟩ := Option.map_eq_some_iff.mp e
  obtain ⟨d1, d2, h1, h2, h3, h4, rfl⟩ := eqS_ok st cb rb e1
  exact .inr ⟨d1, d2, h1, h2, h3, h4, q _ w (Step.refl w) rfl st (.bl _)⟩
theorem t_eqS (hf : Fam P wd K mg base N k W X) (i : Nat) {x : Str} {p : Pos} (hb : BE K mg W X b Fb) (hN : N[i]? = some x := by rfl) (hv : ∀ j, Vis (X j).env.scope x := by first | exact fun _ => Or.inl rfl | exact fun _ => Or.inr (Or.inl rfl) | exact fun _ => Or.inr (Or.inr rfl))
    (hd : (x == ("__debug__" : Str)) = false := by decide) (hcd : (x == ("__classdict__" : Str)) = false := by decide) (hm : behindInMarks .Eq b = false := by first | exact nomark _ | rfl) : BT K mg W X (.Compare (.Name x p) [.Eq] [b] pos) (tBool (eCmpS gEq i Fb)) := by
  obtain ⟨tb, pb, sb⟩ := hb.ex
  exact ⟨_, fun j => pt_cmpR (o_eq (hf.hK j) (hf.room j)) (pe_var (i := i) (by rw [hf.hN]; exact hN) (hv j) hd hcd) (pb j) hm, semTest (cmpS_sem eqS_bin sb)⟩
theorem t_neS (hf : Fam P wd K mg base N k W X) (i : Nat) {x : Str} {p : Pos} (hb : BE K mg W X b Fb) (hN : N[i]? = some x := by rfl) (hv : ∀ j, Vis (X j).env.scope x := by first | exact fun _ => Or.inl rfl | exact fun _ => Or.inr (Or.inl rfl) | exact fun _ => Or.inr (Or.inr rfl))
    (hd : (x == ("__debug__" : Str)) = false := by decide) (hcd : (x == ("__classdict__" : Str)) = false := by decide) (hm : behindInMarks .NotEq b = false := by first | exact nomark _ | rfl) : BT K mg W X (.Compare (.Name x p) [.NotEq] [b] pos) (tBool (eCmpS gNe i Fb)) := by
  obtain ⟨tb, pb, sb⟩ := hb.ex
  exact ⟨_, fun j => pt_cmpR (o_ne (hf.hK j) (hf.room j)) (pe_var (i := i) (by rw [hf.hN]; exact hN) (hv j) hd hcd) (pb j) hm, semTest (cmpS_sem neS_bin sb)⟩

/-! ### a, b = e1, e2 -/
def O.of2 : Option SE → (SE → Option SE) → O
  | some ρ, f => O.of (f ρ)
  | none, _ => .stuck
/-- e leaves the slots as they are -/
def PureF (F : SE → R D) : Prop := ∀ ρ d ρ', F ρ = .ok d ρ' → ρ' = ρ
def sPar (oa ob : Bool) (i j : Nat) (Fa Fb : SE → R D) : SE → O := fun ρ => (Fa ρ).to fun x ρ1 => (Fb ρ1).to fun y ρ2 => O.of2 (setS i (if oa then .own x else .val x) ρ2) (setS j (if ob then .own y else .val y))
/-- what is held while the other side is reckoned -/
def Hd (K : PySem.W.Frag) (w : Wd) (σ : L2.St) (ρ : SE) (o : Bool) (v : V) (d : D) : Prop := match o with
  | true => ∃ a, v = .ref a ∧ Con K w a d ∧ w.G a = none ∧ ¬ w.o a ∧ NoB σ ρ a
  | false => Rep K w.G v d
theorem Hd.step {w w' : Wd} {σ : L2.St} {ρ : SE} {o : Bool} {v : V} {d : D} (s : Step w w') (h : Hd K w σ ρ o v d) : Hd K w' σ ρ o v d ∨ (o = true ∧ ∃ a, v = .ref a ∧ w'.o a) := by
  cases o with
  | false => exact .inl (Rep.mono s.froz h)
  | true =>
    obtain ⟨a, rfl, c, g, n, b⟩ := h
    by_cases ho : w'.o a
    · exact .inr ⟨rfl, a, rfl, ho⟩
    · refine .inl ⟨a, rfl, c.step_ne s n, ?_, ho, b⟩
      cases e : w'.G a with
      | none => rfl
      | some x =>
        rcases s.newG a (by rw [e]; exact nn_some) with q | q | q
        · exact absurd g q
        · exact absurd q c.tracked
        · exact absurd q n
def BH (K : PySem.W.Frag) (mg : Str → Option Value) (W : WX) {ι : Type} (X : ι → Cx) (o : Bool) (e : Expr) (F : SE → R D) : Prop := match o with
  | true => BO K mg W X e F
  | false => BE K mg W X e F
def SemH (K : PySem.W.Frag) (mg : Str → Option Value) (W : WX) (o : Bool) (t : TE) (F : SE → R D) : Prop := ∀ (w : Wd) (ps : Nat → Option Addr) (σ : L2.St) (ρ : SE) (Q : VK), Sts K w ps σ ρ →
  (F ρ).Post (fun d ρ' => ∀ v w', Step w w' → w'.o = w.o → Sts K w' ps σ ρ' → Hd K w' σ ρ' o v d → (o = true → ∃ a, v = .ref a ∧ w.H a = none) → Q v w'.H) (PX K mg W w ps σ) → t σ w.H Q
theorem BH.sem {o : Bool} (h : BH K mg W X o a Fa) : ∃ t, (∀ i, PE (X i) a t) ∧ SemH K mg W o t Fa := by
  cases o with
  | false =>
    obtain ⟨t, p, s⟩ := BE.ex h
    exact ⟨t, p, fun w ps σ ρ Q st h => s w ps σ ρ Q st (h.imp (fun d ρ' q v w' s1 o1 st1 r1 => q v w' s1 o1 st1 r1 fun z => nomatch z) fun _ _ _ q => q)⟩
  | true =>
    obtain ⟨t, p, s⟩ := BO.ex h
    exact ⟨t, p, fun w ps σ ρ Q st h => s w ps σ ρ Q st (h.imp (fun d ρ' q a w' s1 o1 st1 c1 g1 n1 b1 => q _ w' s1 o1 st1 ⟨a, rfl, c1, g1, by rw [o1]; exact st.ofree n1, b1⟩ fun _ => ⟨a, rfl, n1⟩) fun _ _ _ q => q)⟩
/-- a slot takes what is held -/
theorem Hd.set {w0 w : Wd} {ps : Nat → Option Addr} {σ : L2.St} {ρ : SE} {o : Bool} {i : Nat} {v : V} {d : D} (st : Sts K w ps σ ρ) (h : Hd K w σ ρ o v d) (hn : o = true → ∃ a, v = .ref a ∧ w0.H a = none) (s0 : Step w0 w) (hi : i < ρ.length) :
    ∃ w', w'.H = w.H ∧ w'.G = w.G ∧ Step w0 w' ∧ (∀ b, w'.o b → w.o b ∨ (o = true ∧ v = .ref b)) ∧ Sts K w' ps (σ.set i (some v)) (ρ.set i (if o then .own d else .val d)) := by
  cases o with
  | false => exact ⟨w, rfl, rfl, s0, fun b hb => .inl hb, st.setVal h hi⟩
  | true =>
    obtain ⟨a, rfl, c, g, n, b⟩ := h
    obtain ⟨a', e, hn⟩ := hn rfl
    cases e
    exact ⟨w.own a, rfl, rfl, s0.toOwn hn, fun b hb => hb.imp id fun z => ⟨rfl, by rw [z]⟩, st.setOwn c g n b hi⟩
theorem s_par (hf : Fam P wd K mg base N k W X) (oa ob : Bool) (i j : Nat) {x y : Str} {px py pt : Pos} {kt k2 pt2} (ha : BH K mg W X oa a Fa) (hb : BH K mg W X ob b Fb) (hp : oa = true → PureF Fb) (hij : i ≠ j := by decide) (hNi : N[i]? = some x := by rfl) (hNj : N[j]? = some y := by rfl)
    (hx : ∀ l, (X l).env.scope.names.lookup x = some .local := by exact fun _ => rfl) (hy : ∀ l, (X l).env.scope.names.lookup y = some .local := by exact fun _ => rfl)
    (hsa : ∀ l, starEach [a, b] (X l).env = (false, eval a (X l).env) :: starEach [b] (X l).env := by intro _; rfl) (hsb : ∀ l, starEach [b] (X l).env = (false, eval b (X l).env) :: starEach [] (X l).env := by intro _; rfl)
    (hw : ∀ l, swappedStores [.Tuple [.Name x px, .Name y py] kt pt] (.Tuple [a, b] k2 pt2) (X l).env = pure (some [x, y]) := by intro _; rfl) (hs : ∀ l, swapsWithSole [.Tuple [.Name x px, .Name y py] kt pt] (.Tuple [a, b] k2 pt2) pos.line (X l).env = pure false := by intro _; rfl) :
    BS K mg W X (.Assign [.Tuple [.Name x px, .Name y py] kt pt] (.Tuple [a, b] k2 pt2) pos) (sPar oa ob i j Fa Fb) := by
  obtain ⟨ta, pa, sa⟩ := ha.sem
  obtain ⟨tb, pb, sb⟩ := hb.sem
  refine ⟨tPar i j (tCons ta (tCons tb tNil)), fun l => ps_par (hf.calm l) (by rw [hf.hN]; exact hf.nd) (by rw [hf.hN]; exact hNi) (by rw [hf.hN]; exact hNj) hij (hx l) (hy l) (pa_cons (pa l) (pa_cons (pb l) pa_nil (hsb l)) (hsa l)) (hw l) (hs l), fun w ps σ ρ D_ st h => ?_⟩
  refine sa w ps σ ρ _ st (h.to.imp (fun x1 ρ1 h1 v1 w1 s1 o1 st1 r1 n1 => ?_) fun _ _ _ q => q)
  cases eb : Fb ρ1 with
  | stuck => rw [eb] at h1; exact h1.elim
  | raise c d ρ2 =>
    rw [eb] at h1
    have h1 := PostS.step s1 h1
    refine sb w1 ps σ ρ1 _ st1 (by rw [eb]; exact PostS.to (r := R.raise c d ρ2) (f := fun (y : D) ρ2 => O.of2 (setS i (if oa then .own x1 else .val x1) ρ2) (setS j (if ob then .own y else .val y))) h1)
  | ok y1 ρ2 =>
    rw [eb] at h1
    refine sb w1 ps σ ρ1 _ st1 (by
      rw [eb]
      intro v2 w2 s2 o2 st2 r2 n2
      have h1 : PostS K mg W w ps D_ (O.of2 (setS i (if oa then .own x1 else .val x1) ρ2) (setS j (if ob then .own y1 else .val y1))) := h1
      refine ⟨v1, v2, rfl, ?_⟩
      cases e1 : setS i (if oa then .own x1 else .val x1) ρ2 with
      | none => rw [e1] at h1; exact h1.elim
      | some ρ3 =>
        rw [e1] at h1
        obtain ⟨ρ4, e2, h2⟩ := postO h1
        obtain ⟨rfl, hi⟩ := setS_lt e1
        obtain ⟨rfl, hj⟩ := setS_lt e2
        rw [List.length_set] at hj
        -- the first one is held still
        have r1' : Hd K w2 σ ρ2 oa v1 x1 := by
          rcases r1.step s2 with q | ⟨ho, a, ea, qa⟩
          · cases oa with
            | false => exact q
            | true =>
              have := hp rfl ρ1 y1 ρ2 eb
              subst this
              exact q
          · subst ho
            obtain ⟨a', ea', _, _, n, _⟩ := r1
            rw [ea'] at ea
            cases ea
            rw [o2] at qa
            exact absurd qa n
        obtain ⟨w3, e3H, e3G, s3, o3, st3⟩ := Hd.set (w0 := w) (i := i) st2 r1' n1 (s1.trans s2) hi
        have r2' : Hd K w3 (σ.set i (some v1)) (ρ2.set i (if oa then .own x1 else .val x1)) ob v2 y1 := by
          cases ob with
          | false => exact (show Rep K w3.G v2 y1 by rw [e3G]; exact r2)
          | true =>
            obtain ⟨a, rfl, c, g, n, b⟩ := r2
            obtain ⟨a', e', n2⟩ := n2 rfl
            cases e'
            have hne : ∀ b, oa = true → v1 = .ref b → b ≠ a := fun b ho ev z => by
              subst ho
              obtain ⟨b', eb', c', _⟩ := r1
              rw [eb'] at ev
              cases ev
              rw [z] at c'
              exact c'.tracked n2
            refine ⟨a, rfl, by
              have : ∀ {d}, Con K w2 a d → Con K w3 a d := fun {d} hc => by cases d <;> first | exact hc | (obtain ⟨vs, hh⟩ := hc; exact ⟨vs, by rw [e3H, e3G]; exact hh⟩)
              exact this c, by rw [e3G]; exact g, fun z => ?_, fun l d hl z => ?_⟩
            · rcases o3 a z with q | ⟨q1, q2⟩
              · exact n q
              · exact hne a q1 q2 rfl
            · rcases get_set hl with ⟨rfl, q, _⟩ | ⟨ne, q⟩
              · cases oa <;> cases q
              · rw [List.getElem?_set_ne (fun z => ne z.symm)] at z
                exact b l d q z
        obtain ⟨w4, e4H, e4G, s4, o4, st4⟩ := Hd.set (w0 := w) (i := j) st3 r2' (fun z => (n2 z).imp fun a q => ⟨q.1, s1.back q.2⟩) s3 (by rw [List.length_set]; exact hj)
        rw [← e3H, ← e4H]
        exact h2 _ w4 s4 st4)
end
end DL

set_option Elab.async false
set_option linter.all false
set_option maxRecDepth 100000
namespace DL
open PySem PySem.Spec PyProof.Rows L2

/-! ### comprehensions -/
/-- a block of a comprehension -/
structure BI_ where
  s : Shared
  H : Hp
  C : Addr
  cl : List (Str × Addr)
  fp : List Addr
abbrev blkX {ι : Type} (X : ι → Cx) (scope : Scope) : ι × BI_ → Cx := fun j => (X j.1).blk j.2.s j.2.H scope (compEnvC scope j.2.cl j.2.C (X j.1).env) j.2.fp
abbrev W0 : WX := fun _ _ _ _ => False
def syncS : Sl → Option Sl → Sl
  | .own _, some (.own d) => .own d
  | .mt _, some (.mt d) => .mt d
  | .own _, _ => .any
  | .mt _, _ => .any
  | s, _ => s
def wipedS : Sl → Sl
  | .own _ => .any
  | .mt _ => .any
  | s => s
/-- the slots behind a block: what is one's own may have turned -/
def sync (wp : List Nat) (ρ ρ3 : SE) : SE := (List.range ρ.length).map fun i => if i ∈ wp then wipedS (ρ.getD i .any) else syncS (ρ.getD i .any) ρ3[i]?
def lcF (g : D → SE → Option SE) (wp : List Nat) (Ft : SE → R Bool) (Fe : SE → R D) : List D → SE → R (List D)
  | [], ρ => .ok [] ρ
  | d :: ds, ρ => match g d (forget wp ρ) with
    | none => .stuck
    | some ρ1 => match Ft ρ1 with
      | .ok true ρ2 => (match Fe ρ2 with
        | .ok x ρ3 => (match lcF g wp Ft Fe ds (sync wp ρ ρ3) with
          | .ok xs ρ4 => .ok (x :: xs) ρ4
          | _ => .stuck)
        | _ => .stuck)
      | .ok false ρ2 => lcF g wp Ft Fe ds (sync wp ρ ρ2)
      | _ => .stuck
def eLc (g : D → SE → Option SE) (wp : List Nat) (Ft : SE → R Bool) (Fe : SE → R D) (Fi : SE → R (List D)) : SE → R D := fun ρ => (Fi ρ).bind fun ds ρ1 => if ds.length ≤ sizeLine then (lcF g wp Ft Fe ds ρ1).bind fun xs ρ2 => .ok (.lst xs) ρ2 else .stuck
def tYesF : SE → R Bool := fun ρ => .ok true ρ

section
variable {K : PySem.W.Frag} {mg : Str → Option Value} {W : WX} {P : Program} {wd : World} {base : Heap} {N : List Str} {k : Nat} {ι : Type} {X : ι → Cx}
variable {a b c e : Expr} {Fa Fb Fc : SE → R D} {pos : Pos}
theorem Fam.blk (hf : Fam P wd K mg base N k W X) (scope : Scope) : Fam P wd K mg base N k W0 (blkX X scope) where
  hP := fun j => hf.hP j.1
  hw := fun j => hf.hw j.1
  hK := fun j => hf.hK j.1
  hm := fun j => hf.hm j.1
  hb := fun j => hf.hb j.1
  hN := fun j => hf.hN j.1
  nd := hf.nd
  calm := fun j => hf.calm j.1
  room := fun j => hf.room j.1
  tk := fun _ => takes0
  po := fun _ => PassesOwn.never
theorem forget_get : ∀ (is : List Nat) (ρ : SE) (j : Nat) (s : Sl), (forget is ρ)[j]? = some s → (s = .any) ∨ (j ∉ is ∧ ρ[j]? = some s)
  | [], ρ, j, s, h => .inr ⟨by simp, h⟩
  | i :: is, ρ, j, s, h => by
    rcases forget_get is _ j s h with q | ⟨n, q⟩
    · exact .inl q
    · rcases get_set q with ⟨_, q, _⟩ | ⟨ne, q⟩
      · exact .inl q
      · exact .inr ⟨fun z => by
          rcases List.mem_cons.mp z with z | z
          · exact ne z
          · exact n z, q⟩
theorem forget_length : ∀ (is : List Nat) (ρ : SE), (forget is ρ).length = ρ.length
  | [], _ => rfl
  | i :: is, ρ => by
    show (forget is _).length = _
    rw [forget_length is, List.length_set]
/-- the block's slots -/
theorem Sts.wipe {w : Wd} {ps : Nat → Option Addr} {σ : L2.St} {ρ : SE} (st : Sts K w ps σ ρ) (vs : List Nat) : Sts K w ps (L2.wipe σ vs) (DL.forget vs ρ) where
  sub := st.sub
  disj := st.disj
  tr := st.tr
  len := by rw [wipe_length, forget_length, st.len]
  sl := fun i s h => by
    rcases forget_get vs ρ i s h with rfl | ⟨n, q⟩
    · unfold SlOk; trivial
    · rw [wipe_get, if_neg n]
      exact st.sl i s q
  apart := fun i j s t a ne h1 h2 m1 m2 e1 e2 => by
    rcases forget_get vs ρ i s h1 with rfl | ⟨n, q⟩
    · cases m1
    · rcases forget_get vs ρ j t h2 with rfl | ⟨n', q'⟩
      · cases m2
      · rw [wipe_get, if_neg n] at e1
        rw [wipe_get, if_neg n'] at e2
        exact st.apart i j s t a ne q q' m1 m2 e1 e2
theorem wipe_wipe (σ : L2.St) (vs : List Nat) : L2.wipe (L2.wipe σ vs) vs = L2.wipe σ vs := by
  apply List.ext_getElem?
  intro j
  rw [wipe_get, wipe_get, wipe_length]
  by_cases h : j ∈ vs
  · rw [if_pos h, if_pos h]
  · rw [if_neg h, if_neg h]
theorem sync_get {wp : List Nat} {ρ ρ3 : SE} {j : Nat} {s : Sl} (h : (sync wp ρ ρ3)[j]? = some s) : ∃ s0, ρ[j]? = some s0 ∧ s = if j ∈ wp then wipedS s0 else syncS s0 ρ3[j]? := by
  unfold sync at h
  rw [List.getElem?_map] at h
  cases e : (List.range ρ.length)[j]? with
  | none => rw [e] at h; cases h
  | some i =>
    rw [e] at h
    obtain ⟨hl, hi⟩ := List.getElem?_eq_some_iff.mp e
    rw [List.getElem_range] at hi
    subst hi
    rw [List.length_range] at hl
    have e1 : ρ[j]? = some (ρ[j]) := List.getElem?_eq_getElem hl
    refine ⟨ρ[j], e1, ?_⟩
    have e2 : ρ.getD j .any = ρ[j] := by rw [List.getD_eq_getElem?_getD, e1]; rfl
    have h := Option.some.inj h
    rw [← h]
    show (if j ∈ wp then wipedS (ρ.getD j .any) else syncS (ρ.getD j .any) ρ3[j]?) = _
    rw [e2]
theorem sync_length (wp : List Nat) (ρ ρ3 : SE) : (sync wp ρ ρ3).length = ρ.length := by
  unfold sync
  rw [List.length_map, List.length_range]
theorem sync_bor {wp : List Nat} {ρ ρ3 : SE} {j : Nat} {d : D} (h : (sync wp ρ ρ3)[j]? = some (.bor d)) : ρ[j]? = some (.bor d) := by
  obtain ⟨s0, e, q⟩ := sync_get h
  rw [e]
  split at q
  · cases s0 <;> first | (cases q; rfl) | cases q
  · cases s0 <;> first | (cases q; rfl) | (cases e3 : ρ3[j]? with
      | none => rw [e3] at q; cases q
      | some t => rw [e3] at q; cases t <;> cases q)
/-- one's own slots behind a block -/
theorem sync_mine {wp : List Nat} {ρ ρ3 : SE} {j : Nat} {s : Sl} (h : (sync wp ρ ρ3)[j]? = some s) (m : s.mine = true) : j ∉ wp ∧ ρ3[j]? = some s ∧ ∃ s0, ρ[j]? = some s0 ∧ s0.mine = true := by
  obtain ⟨s0, e, q⟩ := sync_get h
  split at q
  · cases s0 <;> (cases q; cases m)
  · rename_i n
    refine ⟨n, ?_, s0, e, ?_⟩
    · cases s0 with
      | own d => cases e3 : ρ3[j]? with
        | none => rw [e3] at q; cases q; cases m
        | some t => rw [e3] at q; cases t <;> (cases q; first | rfl | cases m)
      | mt d => cases e3 : ρ3[j]? with
        | none => rw [e3] at q; cases q; cases m
        | some t => rw [e3] at q; cases t <;> (cases q; first | rfl | cases m)
      | any => cases e3 : ρ3[j]? <;> (rw [e3] at q; cases q; cases m)
      | val d => cases e3 : ρ3[j]? <;> (rw [e3] at q; cases q; cases m)
      | bor d => cases e3 : ρ3[j]? <;> (rw [e3] at q; cases q; cases m)
    · cases s0 with
      | own d => rfl
      | mt d => rfl
      | any => cases e3 : ρ3[j]? <;> (rw [e3] at q; cases q; cases m)
      | val d => cases e3 : ρ3[j]? <;> (rw [e3] at q; cases q; cases m)
      | bor d => cases e3 : ρ3[j]? <;> (rw [e3] at q; cases q; cases m)
theorem syncS_val {s0 : Sl} {t : Option Sl} {d : D} (h : Sl.val d = syncS s0 t) : s0 = .val d := by
  cases s0 with
  | own d => cases t with
    | none => cases h
    | some t => cases t <;> cases h
  | mt d => cases t with
    | none => cases h
    | some t => cases t <;> cases h
  | any => cases t <;> cases h
  | val d => cases t <;> (cases h; rfl)
  | bor d => cases t <;> cases h
theorem wipedS_val {s0 : Sl} {d : D} (h : Sl.val d = wipedS s0) : s0 = .val d := by
  cases s0 <;> first | (cases h; rfl) | cases h
/-- the state behind a block's turn: a new list at D grows -/
theorem sync_sts {w w' : Wd} {ps : Nat → Option Addr} {σ σ2 : L2.St} {ρ ρ3 : SE} {wp : List Nat} {D_ : Addr} {o : HO} (st : Sts K w ps σ ρ) (s : Step w w') (eo : w'.o = w.o) (st' : Sts K w' ps σ2 ρ3) (hw : L2.wipe σ2 wp = L2.wipe σ wp)
    (hb : NoB σ ρ D_) (hg : w'.G D_ = none) (ho : ¬ w'.o D_) : Sts K ⟨w'.G, upd w'.H D_ o, w'.o⟩ ps σ (sync wp ρ ρ3) := by
  have hσ : ∀ j, j ∉ wp → σ2[j]? = σ[j]? := fun j n => by
    have := congrArg (fun l => l[j]?) hw
    simp only [wipe_get, if_neg n] at this
    exact this
  refine ⟨fun a x h => ?_, st'.disj, fun a h => upd_ne_none (st'.tr a h), by rw [sync_length]; exact st.len, fun j t h => ?_, fun i j s t a ne h1 h2 m1 m2 e1 e2 => ?_⟩
  · have : a ≠ D_ := fun z => by rw [z, hg] at h; cases h
    show upd w'.H D_ o a = some x
    rw [upd_ne this]
    exact st'.sub a x h
  · have conNe : ∀ {b : Addr} {d : D}, b ≠ D_ → Con K w' b d → Con K ⟨w'.G, upd w'.H D_ o, w'.o⟩ b d := fun {b d} ne hc => by
      cases d with
      | lst ds => obtain ⟨vs, h, r⟩ := hc; exact ⟨vs, by show upd w'.H D_ o b = _; rw [upd_ne ne]; exact h, r⟩
      | dk ks ds => obtain ⟨vs, h, l, r⟩ := hc; exact ⟨vs, by show upd w'.H D_ o b = _; rw [upd_ne ne]; exact h, l, r⟩
      | dt ks ds => obtain ⟨vs, h, l, r⟩ := hc; exact ⟨vs, by show upd w'.H D_ o b = _; rw [upd_ne ne]; exact h, l, r⟩
      | _ => exact hc
    have conBNe : ∀ {b : Addr} {d : D}, b ≠ D_ → ConB K w' b d → ConB K ⟨w'.G, upd w'.H D_ o, w'.o⟩ b d := fun {b d} ne hc => by
      cases d with
      | lst ds => obtain ⟨vs, h, r⟩ := hc; exact ⟨vs, rd_keep (fun x q => by show upd w'.H D_ o b = _; rw [upd_ne ne]; exact q) h, r⟩
      | dk ks ds => obtain ⟨vs, h, l, r⟩ := hc; exact ⟨vs, by show upd w'.H D_ o b = _; rw [upd_ne ne]; exact h, l, r⟩
      | dt ks ds => obtain ⟨vs, h, l, r⟩ := hc; exact ⟨vs, by show upd w'.H D_ o b = _; rw [upd_ne ne]; exact h, l, r⟩
      | _ => exact hc
    cases t with
    | any => unfold SlOk; trivial
    | val d =>
      obtain ⟨s0, e, q⟩ := sync_get h
      have es : s0 = .val d := by
        split at q
        · exact wipedS_val q
        · exact syncS_val q
      subst es
      have q := st.sl j _ e
      cases e1 : σ[j]? with
      | none => rw [e1] at q; exact q
      | some x => cases x with
        | none => rw [e1] at q; exact q
        | some v => rw [e1] at q; exact Rep.mono s.froz q
    | own d =>
      obtain ⟨n, e3, _⟩ := sync_mine h rfl
      have q := st'.sl j _ e3
      rw [hσ j n] at q
      cases e1 : σ[j]? with
      | none => rw [e1] at q; exact q
      | some x => cases x with
        | none => rw [e1] at q; exact q
        | some v => cases v with
          | ref b => rw [e1] at q; exact ⟨q.1, conNe (fun z => ho (z ▸ q.1)) q.2⟩
          | _ => rw [e1] at q; exact q
    | mt d =>
      obtain ⟨n, e3, _⟩ := sync_mine h rfl
      have q := st'.sl j _ e3
      rw [hσ j n] at q
      cases e1 : σ[j]? with
      | none => rw [e1] at q; exact q
      | some x => cases x with
        | none => rw [e1] at q; exact q
        | some v => cases v with
          | ref b => rw [e1] at q; exact ⟨q.1, conNe (fun z => ho (z ▸ q.1)) q.2.1, q.2.2⟩
          | _ => rw [e1] at q; exact q
    | bor d =>
      have e := sync_bor h
      have q := st.sl j _ e
      cases e1 : σ[j]? with
      | none => rw [e1] at q; exact q
      | some x => cases x with
        | none => rw [e1] at q; exact q
        | some v => cases v with
          | ref b =>
            rw [e1] at q
            refine ⟨by rw [eo]; exact q.1, conBNe (fun z => hb j d e (by rw [e1, z])) (q.2.step_ne s q.1)⟩
          | _ => rw [e1] at q; exact q
  · obtain ⟨n1, q1, _⟩ := sync_mine h1 m1
    obtain ⟨n2, q2, _⟩ := sync_mine h2 m2
    exact st'.apart i j s t a ne q1 q2 m1 m2 (by rw [hσ i n1]; exact e1) (by rw [hσ j n2]; exact e2)
theorem sync_noB {σ : L2.St} {ρ ρ3 : SE} {wp : List Nat} {a : Addr} (h : NoB σ ρ a) : NoB σ (sync wp ρ ρ3) a := fun j d e => h j d (sync_bor e)
structure BTs (K : PySem.W.Frag) (mg : Str → Option Value) (W : WX) {ι : Type} (X : ι → Cx) (ifs : List Expr) (F : SE → R Bool) : Prop where
  ex : ∃ t, (∀ i, PTs (X i) ifs t) ∧ SemT K mg W t F
theorem ts_nil : BTs K mg W X [] tYesF := ⟨_, fun _ => pts_nil, fun w ps σ ρ Q st h => h w (Step.refl w) rfl st⟩
theorem ts_one {F : SE → R Bool} (h : BT K mg W X c F) : BTs K mg W X [c] F := by
  obtain ⟨t, p, s⟩ := h.ex
  exact ⟨_, fun i => pts_one (p i), s⟩
theorem lc_sem {wi : TI} {tg : TG} {tt : TT} {te : TE} {g : D → SE → Option SE} {is wp : List Nat} {Ft : SE → R Bool} {Fe : SE → R D} {Fi : SE → R (List D)} (si : SemI K mg W wi Fi) (sg : SemG K tg g is) (st_ : SemT K mg W0 tt Ft) (se : SemE K mg W0 te Fe) (hsub : ∀ i ∈ is, i ∈ wp) :
    SemO K mg W (tLc wi tg tt te wp) (eLc g wp Ft Fe Fi) := fun w ps σ ρ Q st h => by
  refine si w ps σ ρ _ st (h.bind.imp (fun ds ρ1 h1 J w1 s1 o1 st1 sr D_ hD => ?_) fun _ _ _ q => q)
  split at h1
  · rename_i hsz
    have gD := st1.gfree hD
    have oD := st1.ofree hD
    have bD := st1.noB hD
    -- the invariant
    refine ⟨fun i m H => ∃ w' ρ' accV acc, w'.H = H ∧ Step w1 w' ∧ w'.o = w1.o ∧ Sts K w' ps σ ρ' ∧ w'.G D_ = none ∧ NoB σ ρ' D_ ∧ w'.H D_ = some (.lst accV) ∧ Reps K w'.G accV acc ∧ acc.length ≤ i ∧ i + m = ds.length ∧
      (lcF g wp Ft Fe (ds.drop i) ρ').Post (fun xs ρ2 => ∀ a w', Step w w' → w'.o = w.o → Sts K w' ps σ ρ2 → Con K w' a (.lst (acc ++ xs)) → w'.G a = none → w.H a = none → NoB σ ρ2 a → Q (.ref a) w'.H) (fun _ _ _ => False),
      ⟨ds.length, w1.hnew D_ (.lst []), ρ1, [], [], rfl, st1.hnew _ hD, rfl, st1.hnewS _ hD, gD, bD, upd_same, .nil, Nat.le_refl _, by omega, ?_⟩, fun i m H hW => ?_⟩
    · rw [List.drop_zero]
      cases e : lcF g wp Ft Fe ds ρ1 with
      | ok xs ρ2 => rw [e] at h1; exact h1
      | raise c d ρ2 => exact absurd e (by
          have key : ∀ (ds : List D) (ρ : SE), lcF g wp Ft Fe ds ρ ≠ .raise c d ρ2 := by
            intro ds
            induction ds with
            | nil => intro ρ z; cases z
            | cons d ds ih =>
              intro ρ z
              unfold lcF at z
              split at z
              · cases z
              · split at z
                · split at z
                  · split at z
                    · cases z
                    · cases z
                  · cases z
                · exact ih _ z
                · cases z
          exact key ds ρ1)
      | stuck => rw [e] at h1; exact h1.elim
    · obtain ⟨w', ρ', accV, acc, rfl, s', o', st', g', b', hacc, racc, la, em, hp⟩ := hW
      have oD' : ¬ w'.o D_ := by rw [o']; exact oD
      by_cases hlt : i < ds.length
      · refine .inr ⟨sr.go i w' s' hlt, fun H2 => ∃ w' ρ' accV acc, w'.H = H2 ∧ Step w1 w' ∧ w'.o = w1.o ∧ Sts K w' ps σ ρ' ∧ w'.G D_ = none ∧ NoB σ ρ' D_ ∧ w'.H D_ = some (.lst accV) ∧ Reps K w'.G accV acc ∧ acc.length ≤ i + 1 ∧
          (lcF g wp Ft Fe (ds.drop (i + 1)) ρ').Post (fun xs ρ2 => ∀ a w', Step w w' → w'.o = w.o → Sts K w' ps σ ρ2 → Con K w' a (.lst (acc ++ xs)) → w'.G a = none → w.H a = none → NoB σ ρ2 a → Q (.ref a) w'.H) (fun _ _ _ => False), fun H2 hN => ?_, fun x H2 hy => ?_⟩
        · obtain ⟨w2, ρ2, aV, ac, e2, s2, o2, st2, g2, b2, h2, r2, l2, hp2⟩ := hN
          exact ⟨m - 1, by omega, w2, ρ2, aV, ac, e2, s2, o2, st2, g2, b2, h2, r2, l2, by omega, hp2⟩
        · have ed : ds[i]? = some ds[i] := List.getElem?_eq_getElem hlt
          obtain ⟨G', s3, st3, r3⟩ := sr.yld i w' x H2 ds[i] ps σ ρ' s' st' ed hy
          rw [List.drop_eq_getElem_cons hlt] at hp
          unfold lcF at hp
          split at hp
          · exact hp.elim
          · rename_i ρ2 e2
            have sw := st3.wipe wp
            refine sg ⟨G', H2, w'.o⟩ ps (L2.wipe σ wp) _ ρ2 x ds[i] _ sw r3 e2 fun σ4 st4 hw4 => ?_
            have hw : L2.wipe σ4 wp = L2.wipe σ wp := (hw4 wp hsub).trans (wipe_wipe σ wp)
            refine ⟨hw, ?_⟩
            -- the test
            refine st_ ⟨G', H2, w'.o⟩ ps σ4 ρ2 _ st4 ?_
            cases et : Ft ρ2 with
            | stuck => rw [et] at hp; exact hp.elim
            | raise c d ρ5 => rw [et] at hp; exact hp.elim
            | ok bb ρ5 =>
              rw [et] at hp
              intro w5 s5 o5 st5
              have s5' : Step w' w5 := s3.trans s5
              cases bb with
              | false =>
                refine iteF ?_
                have hD5 : w5.H D_ = some (.lst accV) := s5'.keep D_ _ hacc oD'
                have gD5 : w5.G D_ = none := by
                  cases e : w5.G D_ with
                  | none => rfl
                  | some z =>
                    rcases s5'.newG D_ (by rw [e]; exact nn_some) with q | q | q
                    · exact absurd g' q
                    · rw [hacc] at q; cases q
                    · exact absurd q oD'
                have stS := sync_sts (wp := wp) (o := .lst accV) st' s5' o5 st5 hw b' gD5 (by rw [o5]; exact oD')
                have eH : upd w5.H D_ (.lst accV) = w5.H := by
                  funext z
                  by_cases hz : z = D_
                  · subst hz; rw [upd_same, hD5]
                  · rw [upd_ne hz]
                rw [eH] at stS
                exact ⟨w5, sync wp ρ' ρ5, accV, acc, rfl, s'.trans s5', o5.trans o', stS, gD5, sync_noB b', hD5, racc.mono s5'.froz, by omega, hp⟩
              | true =>
                refine iteT ?_
                refine se w5 ps σ4 ρ5 _ st5 ?_
                cases ee : Fe ρ5 with
                | stuck => simp only [ee] at hp; exact hp.elim
                | raise c d ρ6 => simp only [ee] at hp; exact hp.elim
                | ok y ρ6 =>
                  simp only [ee] at hp
                  intro v6 w6 s6 o6 st6 r6
                  have s6' : Step w' w6 := s5'.trans s6
                  have o6' : w6.o = w'.o := o6.trans o5
                  have hD6 : w6.H D_ = some (.lst accV) := s6'.keep D_ _ hacc oD'
                  have gD6 : w6.G D_ = none := by
                    cases e : w6.G D_ with
                    | none => rfl
                    | some z =>
                      rcases s6'.newG D_ (by rw [e]; exact nn_some) with q | q | q
                      · exact absurd g' q
                      · rw [hacc] at q; cases q
                      · exact absurd q oD'
                  refine ⟨accV, hD6, by rw [racc.len]; omega, ?_⟩
                  have stS := sync_sts (wp := wp) (o := .lst (accV ++ [v6])) st' s6' o6' st6 hw b' gD6 (by rw [o6']; exact oD')
                  refine ⟨⟨w6.G, upd w6.H D_ (.lst (accV ++ [v6])), w6.o⟩, sync wp ρ' ρ6, accV ++ [v6], acc ++ [y], rfl, ?_, o6'.trans o', stS, gD6, sync_noB b', upd_same, (racc.mono s6'.froz).app (.cons r6 .nil), by rw [List.length_append, List.length_singleton]; omega, ?_⟩
                  · have s16 : Step w1 w6 := s'.trans s6'
                    exact ⟨fun a x h n => by
                      show upd w6.H D_ _ a = some x
                      rw [upd_ne (ne_of_none h hD)]
                      exact s16.keep a x h n, s16.froz, s16.newG, s16.own, fun a h => upd_ne_none (s16.there a h)⟩
                  · cases el : lcF g wp Ft Fe (ds.drop (i + 1)) (sync wp ρ' ρ6) with
                    | stuck => rw [el] at hp; exact hp.elim
                    | raise c d ρ7 => rw [el] at hp; exact hp.elim
                    | ok xs ρ7 =>
                      rw [el] at hp
                      have hp : ∀ a w', Step w w' → w'.o = w.o → Sts K w' ps σ ρ7 → Con K w' a (.lst (acc ++ (y :: xs))) → w'.G a = none → w.H a = none → NoB σ ρ7 a → Q (.ref a) w'.H := hp
                      intro a w8 s8 o8 st8 c8
                      rw [List.append_assoc] at c8
                      exact hp a w8 s8 o8 st8 c8
      · have e : ds.length = i := by omega
        refine .inl ⟨by rw [← e]; exact sr.stop w' s', ?_⟩
        rw [List.drop_of_length_le (by omega)] at hp
        have hp : ∀ a w', Step w w' → w'.o = w.o → Sts K w' ps σ ρ' → Con K w' a (.lst (acc ++ [])) → w'.G a = none → w.H a = none → NoB σ ρ' a → Q (.ref a) w'.H := hp
        rw [List.append_nil] at hp
        exact hp D_ w' (s1.trans s') (o'.trans o1) st' ⟨accV, hacc, racc⟩ g' (s1.back hD) b'
  · exact h1.elim
theorem b_lc (hf : Fam P wd K mg base N k W X) {elt tg iter : Expr} {ifs : List Expr} {scope : Scope} (own : List (Str × Nat)) {g : D → SE → Option SE} {is : List Nat} {Ft : SE → R Bool} {Fe : SE → R D} {Fi : SE → R (List D)} (ok : ∀ i, BlkOk (X i).N (X i).env.scope scope own)
    (hi : BI K mg W X tg iter Fi) (hg : BG K (blkX X scope) tg g is) (ht : BTs K mg W0 (blkX X scope) ifs Ft) (he : BE K mg W0 (blkX X scope) elt Fe) (hsub : ∀ i ∈ is, i ∈ own.map (·.2) := by decide) (hs : ∀ i x, foldedSetIterable iter (X i).env x = pure x := by intro _ _; rfl) :
    BO K mg W X (.ListComp elt [⟨tg, iter, ifs, 0⟩] scope pos) (eLc g (own.map (·.2)) Ft Fe Fi) := by
  obtain ⟨ti, pi, si⟩ := hi.ex
  obtain ⟨tg', pg, sg⟩ := hg.ex
  obtain ⟨tt, pt, st⟩ := ht.ex
  obtain ⟨te, pe, se⟩ := he.ex
  exact ⟨_, fun i => pe_lc (hf.calm i) (by rw [hf.hN]; exact hf.nd) (pi i) (ok i) (fun s H C cl fp => pg (i, ⟨s, H, C, cl, fp⟩)) (fun s H C cl fp => pt (i, ⟨s, H, C, cl, fp⟩)) (fun s H C cl fp => pe (i, ⟨s, H, C, cl, fp⟩)) (hs i), lc_sem si sg st se hsub⟩
/-- name = [..] on one line -/
theorem s_setLc (hf : Fam P wd K mg base N k W X) (l : Nat) {y : Str} {py spos : Pos} {elt tg iter : Expr} {ifs : List Expr} {scope : Scope} (own : List (Str × Nat)) {g : D → SE → Option SE} {is : List Nat} {Ft : SE → R Bool} {Fe : SE → R D} {Fi : SE → R (List D)} (ok : ∀ i, BlkOk (X i).N (X i).env.scope scope own)
    (hi : BI K mg W X tg iter Fi) (hg : BG K (blkX X scope) tg g is) (ht : BTs K mg W0 (blkX X scope) ifs Ft) (he : BE K mg W0 (blkX X scope) elt Fe) (hN : N[l]? = some y := by rfl) (hyl : ∀ i, (X i).env.scope.names.lookup y = some .local := by exact fun _ => rfl)
    (hsw : ∀ i, swapsWith (.ListComp elt [⟨tg, iter, ifs, 0⟩] scope pos) (some (.Name y py)) spos.line (X i).env = pure true) (hsub : ∀ i ∈ is, i ∈ own.map (·.2) := by decide) (hs : ∀ i x, foldedSetIterable iter (X i).env x = pure x := by intro _ _; rfl) :
    BS K mg W X (.Assign [.Name y py] (.ListComp elt [⟨tg, iter, ifs, 0⟩] scope pos) spos) (sSetO l (eLc g (own.map (·.2)) Ft Fe Fi)) := by
  obtain ⟨ti, pi, si⟩ := hi.ex
  obtain ⟨tg', pg, sg⟩ := hg.ex
  obtain ⟨tt, pt, st⟩ := ht.ex
  obtain ⟨te, pe, se⟩ := he.ex
  refine ⟨_, fun i => ps_setLc (i := l) (hf.calm i) (by rw [hf.hN]; exact hf.nd) (by rw [hf.hN]; exact hN) (hyl i) (hsw i) (pi i) (ok i) (fun s H C cl fp => pg (i, ⟨s, H, C, cl, fp⟩)) (fun s H C cl fp => pt (i, ⟨s, H, C, cl, fp⟩)) (fun s H C cl fp => pe (i, ⟨s, H, C, cl, fp⟩)) (hs i), fun w ps σ ρ D_ st h => ?_⟩
  refine lc_sem si sg ‹SemT K mg W0 tt Ft› se hsub w ps σ ρ _ st (h.to.imp (fun d ρ1 h1 v1 w1 s1 o1 st1 c1 g1 n1 b1 => ?_) fun _ _ _ q => q)
  obtain ⟨ρ2, e2, h2⟩ := postO h1
  obtain ⟨rfl, hl⟩ := setS_lt e2
  exact h2 _ (w1.own v1) (s1.toOwn n1) (st1.setOwn c1 g1 (by rw [o1]; exact st.ofree n1) b1 hl)
end
end DL

set_option Elab.async false
set_option linter.all false
set_option maxRecDepth 100000
set_option maxHeartbeats 2000000
namespace DL
open PySem PySem.Spec PyProof.Rows L2

/-! ### an own exception: __init__ says super().__init__(value), then self.value = value -/
/-- C stands under D in the way of the names -/
structure ClsS (K : PySem.W.Frag) (D C : Addr) : Prop where
  oex : OexC K C
  sub : PySem.W.mroIn K C (.ref D) = some true
  val : PySem.W.findIn K (.ref C) "value" = some none
  sup : PySem.W.ks_superIn K C D "__init__" = some (some (.builtin "ValueError.__init__"))
  isv : PySem.W.subIn K (.ref C) (.type "ValueError") = some true
  opq : PySem.W.nsIn K cStatics "thirdparty.any" = some none
  ini : PySem.W.clsIn K D ≠ none
def spInit (K : PySem.W.Frag) (D : Addr) : Sp := fun vs H Q _ => ∃ (a C : Addr) (y : V), vs = [.ref a, y] ∧ ClsS K D C ∧ H a = some (exo a C none) ∧ ∀ dx, H dx = none → dx ≠ a → Q .non (upd (upd H dx (exd dx [("value", y)])) a (exo a C (some dx)))
abbrev iArgs (p0 p1 : Pos) : Arguments := { posonlyargs := [], args := [{ arg := "self", annotation := none, pos := p0 }, { arg := "value", annotation := none, pos := p1 }], vararg := none, kwonlyargs := [], kw_defaults := [], kwarg := none, defaults := [] }
abbrev iScope : Scope := { kind := .function, names := [("self", .local), ("value", .local), ("__class__", .free), ("super", .globalImplicit)], isGenerator := false, isCoroutine := false, more := [] }
abbrev iBody (p0 p1 p2 p3 p4 p5 p6 p7 p8 p9 : Pos) : List Stmt := [.Expr (.Call (.Attribute (.Call (.Name "super" p0) [] [] p1) "__init__" p2) [.Name "value" p3] [] p4) p5, .Assign [.Attribute (.Name "self" p6) "value" p7] (.Name "value" p8) p9]
section
variable {M : Model} {A : Around} {E : Value → Shared → Prop} {h : Heap} {g : Array GenState} {d : Drawn} {t : Nat} {os : OsState} {prog : Program} {w : World}
variable {nm q : Str} {C N : Addr} {bs bm : List Value} {hdct : Bool} {sn : List Str} {sub : List Value} {ab : Bool} {col : Option Bool} {dd : Option Addr} {k0 k1 k2 k3 k5 : Option Value}
theorem call_mw {u e t0 : Addr} {rest : List Value} {Q : Value → Shared → Prop}
    (hC : h.get? C = some (excClassObj nm q C N bs bm hdct sn sub ab col dd k0 k1 k2 k3 k5 "ValueError.__new__")) (he : h.get? e = some (HandSPX.excO C t0)) (hu : h.get? u = some (PySem.W.kxs_mw "ValueError.__init__" e)) (hrest : rest.length ≤ sizeLine)
    (hq : ∀ h' t1, (∀ b o, b ≠ e → h.get? b = some o → h'.get? b = some o) → h'.get? e = some (HandSPX.excO C t1) → Q .none ⟨h', g, d, t, os⟩) :
    wpAny (model prog w) A (call (.ref u) rest) Q E ⟨h, g, d, t, os⟩ := by
  refine wpAny_call (codeAny_of_tree ?_)
  show wpAny _ A.in1 (callAny (.ref u) ⟨rest, []⟩) _ _ _
  simp only [callAny]
  refine wpAny_bind (wpAny_load hu ?_)
  simp only [PySem.W.kxs_mw, show (Value.type "method-wrapper" == Value.type "method" || Value.type "method-wrapper" == Value.type "builtin_function_or_method" || Value.type "method-wrapper" == Value.type "method-wrapper") = true by decide, if_true]
  refine PySem.W.KFB.if_so (by decide) ?_
  refine wpAny_bind (ESX.check_bound F.excBase_ValueError hC he rfl ?_)
  refine wpAny_bind (wpAny_pure (wpAny_pure ?_))
  refine ⟨Code.quiet_builtin _ (by decide +kernel), codeAny_builtin F.excBase_ValueError.initEntry ?_⟩
  rw [Around.under_plainId F.excBase_ValueError.init.plain _]
  wp_walk
  refine hq _ h.objs.size (fun b o hb ho => ?_) ?_
  · rw [Heap.get?_update_other _ _ (Ne.symm hb)]
    exact Heap.get?_push_of_some _ ho
  · rw [Heap.get?_update_self _ (Heap.get?_push_of_some _ he) rfl]
    rfl
end
/-- what the written part says of the __init__ at f, of the class at D -/
structure InitF (P : Program) (K : PySem.W.Frag) (mg : Str → Option Value) (D f : Addr) (fd : FuncData) : Prop where
  ex : ∃ (oc : Value) (od : Option Addr) (kV doc pm : Value) (an : Option Addr) (cda : Addr) (ct : Value) (osl : Array (Option Value)) (cc : Addr) (qual : Str) (p0 p1 q0 q1 q2 q3 q4 q5 q6 q7 q8 q9 : Pos)
      (vs : Array Value) (file : Str) (tf : Tok) (ccl : Value) (cdd : Option Addr) (ccs : Array (Option Value)) (cl : Value) (cld : Option Addr) (csl : Array (Option Value)),
    fd = PySem.W.fnX "__init__" qual (iArgs p0 p1) (iBody q0 q1 q2 q3 q4 q5 q6 q7 q8 q9) iScope [("__class__", cc)] .none kV doc pm an (.ref cda) ct ∧
    K.lookup f = some ⟨oc, od, .func fd, osl⟩ ∧ PySem.W.codeIn K (.ref cda) qual = true ∧ K.lookup cda = some ⟨ccl, cdd, .fields vs, ccs⟩ ∧ vs[2]? = some (.str file tf) ∧ ((P.main.file : Str) == file) = true ∧
    K.lookup cc = some ⟨cl, cld, .cell (some (.ref D)), csl⟩ ∧ (P.main.scope.names.lookup ("super" : Str)).isSome = false ∧ mg "super" = none ∧
    (∀ L : Nat, ∃ pl : Sem Bool, eval (.Call (.Attribute (.Call (.Name "super" q0) [] [] q1) "__init__" q2) [.Name "value" q3] [] q4) (PySem.W.envX qual iScope L f (.ref cda) [("__class__", cc)]) = (do
      let ov ← attributeBase (.Call (.Name "super" q0) [] [] q1) "__init__" (PySem.W.envX qual iScope L f (.ref cda) [("__class__", cc)]) (eval (.Call (.Name "super" q0) [] [] q1) (PySem.W.envX qual iScope L f (.ref cda) [("__class__", cc)]))
      standAt q2.atName
      let (f', first) ← holding [ov] (getMethod ov "__init__" pl)
      callWith q4 f' first (backTo q4 (starEach [.Name "value" q3] (PySem.W.envX qual iScope L f (.ref cda) [("__class__", cc)]))) [])) ∧
    (∀ L : Nat, swapsWith (.Call (.Attribute (.Call (.Name "super" q0) [] [] q1) "__init__" q2) [.Name "value" q3] [] q4) none q5.line (PySem.W.envX qual iScope L f (.ref cda) [("__class__", cc)]) = pure false) ∧
    (∀ L : Nat, swapsWith (.Name "value" q8) (some (.Attribute (.Name "self" q6) "value" q7)) q9.line (PySem.W.envX qual iScope L f (.ref cda) [("__class__", cc)]) = pure false)
theorem lookup_one {y : Str} {c cc : Addr} (h : List.lookup y [(("__class__" : Str), cc)] = some c) : y = "__class__" ∧ c = cc := by
  have q := PySem.mem_of_lookup h
  rcases List.mem_cons.mp q with q | q
  · cases q; exact ⟨rfl, rfl⟩
  · cases q
/-- the context of such a body -/
def cxX (CX : CXT) (P : Program) (w : World) (K : PySem.W.Frag) (mg : Str → Option Value) (base : Heap) (N : List Str) (env : PySem.Env) (A : Around) (outer : List PySem.Env) (s : Shared) (H : Hp) (E : XK) : Cx where
  prog := P
  w := w
  K := K
  mg := mg
  base := base
  A := A.deeper env
  N := N
  s_0 := s
  H_0 := H
  env := env
  outer := outer
  stack := env :: outer
  ex := []
  calm := true
  fn := fun _ => false
  pn := []
  xe := fun e s' => wpAny (model P w) (A.deeper env) (leaving env e) (fun _ s'' => CX outer H s E e s'') (fun e' s'' => CX outer H s E e' s'') s'
section
variable {P : Program} {w : World} {K : PySem.W.Frag} {mg : Str → Option Value} {base : Heap} {CX : CXT}
theorem init_ok {D f : Addr} {fd : FuncData} (F : InitF P K mg D f fd) (k : Nat) : FnOk P w K mg base CX (k + 1) f fd ["self", "value"] (spInit K D) := by
  obtain ⟨oc, od, kV, doc, pm, an, cda, ct, osl, cc, qual, p0, p1, q0, q1, q2, q3, q4, q5, q6, q7, q8, q9, vs, file, tf, ccl, cdd, ccs, cl, cld, csl, rfl, lk, hcd, hcode, hvs, hfile, hcell, htop, hsup, hev, hs1, hs2⟩ := F.ex
  refine ⟨fun vs H Q E h => ?_, fun A outer s H args us vs' Q E hr e0 hb r hsp => ?_⟩
  · obtain ⟨a, C, y, rfl, _⟩ := h
    rfl
  obtain ⟨a, C, y, rfl, T, ea, q⟩ := hsp
  have KX : K.In s.heap := e0.mod.kin.keeps fun b o e => (e0.bs b o e).1
  have lim : s.heap.NoLimit := e0.mod.nolimit.keeps fun b o e => (e0.bs b o e).1
  cases r with
  | @cons _ u0 _ us1 r0 r1 =>
  cases r1 with
  | @cons _ u1 _ us2 r1 r2 =>
  cases r2
  have r0 : u0 = .ref a := r0
  subst r0
  have Kcc : base.get? cc = some ⟨cl, cld, .cell (some (.ref D)), csl⟩ := e0.mod.kin _ _ hcell
  refine PySem.ks_codeAny_call_defAt (fd := PySem.W.fnX "__init__" qual (iArgs p0 p1) (iBody q0 q1 q2 q3 q4 q5 q6 q7 q8 q9) iScope [("__class__", cc)] .none kV doc pm an (.ref cda) ct) (body := iBody q0 q1 q2 q3 q4 q5 q6 q7 q8 q9) (binds := [("self", .ref a), ("value", u1)]) hr.depth (KX _ _ lk) rfl lim (PySem.W.codeRec_of KX hcd) rfl hb (show ∀ x ∈ iScope.names, x.2 ≠ .cell by decide) (fun x hx => ?_) (fun h1 hns hk => ?_)
  · rcases List.mem_cons.mp hx with rfl | hx
    · rfl
    · rcases List.mem_cons.mp hx with rfl | hx
      · rfl
      · cases hx
  generalize henv : PySem.W.envX qual iScope s.heap.objs.size f (.ref cda) [("__class__", cc)] = env
  have e0' : callEnv (PySem.W.fnX "__init__" qual (iArgs p0 p1) (iBody q0 q1 q2 q3 q4 q5 q6 q7 q8 q9) iScope [("__class__", cc)] .none kV doc pm an (.ref cda) ct) s.heap.objs.size f = env := henv
  rw [e0']
  generalize hX : cxX CX P w K mg base ["self", "value"] env A outer s H E = X
  have lt : ∀ {b : Addr} {o : Obj}, s.heap.get? b = some o → b < s.heap.objs.size := fun q => Heap.lt_size q
  have hcc : s.heap.get? cc = some ⟨cl, cld, .cell (some (.ref D)), csl⟩ := (e0.bs _ _ Kcc).1
  have I : Inv X [] [some (.ref a), some y] H ⟨h1, s.gens, s.drawn, s.toks + 2, s.os⟩ := by
    subst hX
    subst henv
    refine ⟨⟨e0.mod, rfl, rfl, rfl, Nat.le_refl _, fun y z c h1 h2 => ?_, fun y hy => ?_, fun y c h _ => absurd (show false = true from h) (by decide), fun _ => hr.hd, Around.frames_deeper e0.frames, .inr ⟨rfl, rfl⟩, fun b z => absurd (show b ∈ ([] : List Addr) from z) (by simp), e0.bs, e0.bsz, fun b _ _ z => absurd (show b ∈ ([] : List Addr) from z) (by simp), fun b z => absurd (show b ∈ ([] : List Addr) from z) (by simp), e0.funs, e0.frf⟩,
      rfl, e0.bare, Un.kept hk, ⟨_, hns, fun i y v h1 h2 h3 => ?_⟩, fun y c h => ?_, e0.hok.fresh (Nat.le_refl _), fun y c h => ?_, fun p hp => absurd (show p ∈ ([] : List (Addr × Obj)) from hp) (by simp), e0.hok.kept hk, rfl⟩
    · have h1 : List.lookup y [(("__class__" : Str), cc)] = some c := h1
      have h2 : List.lookup z [(("__class__" : Str), cc)] = some c := h2
      rw [(lookup_one h1).1, (lookup_one h2).1]
    · have hy : iScope.names.lookup y = some .cell ∨ iScope.names.lookup y = some .free := hy
      have : y = "__class__" := by
        rcases hy with hy | hy
        · have q := PySem.mem_of_lookup hy
          rcases List.mem_cons.mp q with q | q
          · cases q
          rcases List.mem_cons.mp q with q | q
          · cases q
          rcases List.mem_cons.mp q with q | q
          · cases q
          rcases List.mem_cons.mp q with q | q
          · cases q
          · cases q
        · have q := PySem.mem_of_lookup hy
          rcases List.mem_cons.mp q with q | q
          · cases q
          rcases List.mem_cons.mp q with q | q
          · cases q
          rcases List.mem_cons.mp q with q | q
          · cases q; rfl
          rcases List.mem_cons.mp q with q | q
          · cases q
          · cases q
      subst this
      exact ⟨cc, rfl⟩
    · have h1 : ([("self" : Str), ("value" : Str)])[i]? = some y := h1
      match i, h1, h2 with
      | 0, h1, h2 =>
        cases h1; cases h2
        exact ⟨.ref a, rfl, .inl ⟨rfl, rfl⟩⟩
      | 1, h1, h2 =>
        cases h1; cases h2
        exact ⟨u1, r1, .inl ⟨rfl, rfl⟩⟩
      | i + 2, h1, h2 => cases h1
    · have h : List.lookup y [(("__class__" : Str), cc)] = some c := h
      rw [(lookup_one h).2]
      exact ⟨_, _, hk _ _ hcc, rfl⟩
    · have h : List.lookup y [(("__class__" : Str), cc)] = some c := h
      rw [(lookup_one h).2]
      exact (e0.bs _ _ Kcc).2
  obtain ⟨t1, hea⟩ := exo_at I.hok ea
  obtain ⟨nm, qn, N, bs, bm, sn, sub, ab, col, dd, k0, k1, k2, k3, k5, hC, hbm⟩ := T.oex.cls
  have KI : K.In h1 := by
    have := I.kIn
    subst hX
    exact this
  have hsuper : ∀ {s1 : Shared} {Q : Value → Shared → Prop} {E' : Value → Shared → Prop} {A' : Around}, Inv X [] [some (.ref a), some y] H s1 → Q (.type "super") s1 → wpAny (model P w) A' (loadName env "super") Q E' s1 := fun I1 q => by
    subst hX
    subst henv
    obtain ⟨mb, h1, h2⟩ := I1.mod.blt
    refine PySem.W.ks_loadName_global rfl rfl (Calls.loadGlobal_builtin (env := PySem.W.envX qual iScope s.heap.objs.size f (.ref cda) [("__class__", cc)]) (I1.mod.glob.keeps I1.bk) hsup (h1.keeps I1.bk) ((h2 "super" (by decide)).trans (show bootBuiltins "super" = some (.type "super") by decide +kernel)) q)
  have hD : ∃ cdD, PySem.W.clsIn K D = some cdD := Option.ne_none_iff_exists'.mp T.ini
  obtain ⟨cdD, hD⟩ := hD
  obtain ⟨oD, hD1, hD2⟩ : ∃ oD, h1.get? D = some oD ∧ oD.data = .cls cdD := by
    unfold PySem.W.clsIn at hD
    split at hD
    · rename_i c d cd' sl ho
      cases hD
      exact ⟨_, KI _ _ ho, rfl⟩
    · cases hD
  subst henv
  obtain ⟨pl, hev⟩ := hev s.heap.objs.size
  refine PySem.ks_wpAt_execs_cons (PySem.ks_wpAt_Expr_any (PySem.ks_wpAt_MethodCall ?_ hev) rfl (hs1 _))
  · refine PySem.ks_wpAt_super_base (env := PySem.W.envX qual iScope s.heap.objs.size f (.ref cda) [("__class__", cc)]) rfl rfl (by decide) rfl (KI _ _ lk) rfl rfl rfl (KI _ _ hcode) rfl hvs hfile htop ?_
    refine hsuper I ⟨rfl, ?_⟩
    refine wpAny_loadName_free rfl rfl rfl ⟨_, KI _ _ hcell, rfl⟩ ?_
    refine wpAny_loadName_local rfl rfl hns rfl ?_
    refine PySem.ks_wpAny_isType_cls hD1 hD2 ⟨rfl, ?_⟩
    refine PySem.ks_wpAny_call_super hD1 hD2 hea rfl (fun c e => by cases e) (PySem.W.looks_mroIn KI T.sub) (fun h2 eso k2 => ?_)
    have I2 : Inv X [] [some (.ref a), some y] H ⟨h2, s.gens, s.drawn, s.toks + 2, s.os⟩ := I.kept (h' := h2) (t' := s.toks + 2) k2
    have KI2 : K.In h2 := KI.keeps k2
    have hcl : PySem.W.clsIn K C = some { name := nm, bases := bs, mro := .ref C :: bm, ns := N, qualname := qn, hasDict := true, slotNames := sn, subclasses := sub, abstract := ab, collection := col, hasDel := false } := by unfold PySem.W.clsIn; rw [hC] <;> rfl
    have InA : PySem.W.InstAt h2 a { cls := .ref C, dict := none, data := .fields #[.ref t1, .none, .none, .none, .bool false, .none] } C none := ⟨k2 _ _ hea, rfl, rfl, trivial⟩
    have hsup2 := T.sup
    unfold PySem.W.ks_superIn at hsup2
    rw [hcl] at hsup2
    refine PySem.W.kxs_getMethod PySem.W.kxs_ValueError eso (PySem.W.looks_opaque KI2 T.opq) (l₀ := .ref C :: bm) (fun A Q E s k q => wpAny_bind ((PySem.W.looks_clsIn KI2 hcl) A _ E s k (wpAny_pure q))) rfl KI2 hsup2 (InA.type.andThen (PySem.W.looks_subIn KI2 T.isv)) (PySem.W.ks_ne KI2 InA hcl) (by decide) ?_
    have I3 : Inv X [] [some (.ref a), some y] H ⟨h2.push (PySem.W.kxs_mw "ValueError.__init__" a), s.gens, s.drawn, s.toks + 2 + 1, s.os⟩ := I2.kept (h' := h2.push (PySem.W.kxs_mw "ValueError.__init__" a)) (t' := s.toks + 2 + 1) fun b o e => Heap.get?_push_of_some _ e
    have hu : (h2.push (PySem.W.kxs_mw "ValueError.__init__" a)).get? h2.objs.size = some (PySem.W.kxs_mw "ValueError.__init__" a) := Heap.get?_push_at rfl rfl
    have I3p : Inv X [(h2.objs.size, PySem.W.kxs_mw "ValueError.__init__" a)] [some (.ref a), some y] H ⟨h2.push (PySem.W.kxs_mw "ValueError.__init__" a), s.gens, s.drawn, s.toks + 2 + 1, s.os⟩ := I3.pins_of fun p hp => by
      have e : p = (h2.objs.size, PySem.W.kxs_mw "ValueError.__init__" a) := by simpa using hp
      subst e
      exact ⟨hu, I2.hok.fresh (Nat.le_refl _), Nat.ne_of_gt I2.lt, I2.nofs (Nat.le_refl _), fun v z => by cases z⟩
    subst hX
    have nd : (["self", "value"] : List Str).Nodup := by decide
    refine PySem.W.kxs_callWith (i := "ValueError.__init__") (u := h2.objs.size) (x := a) rfl (Calls.evalArgs_plain ?_)
    have pa : PA (cxX CX P w K mg base ["self", "value"] (PySem.W.envX qual iScope s.heap.objs.size f (.ref cda) [("__class__", cc)]) A outer s H E) [.Name "value" q3] (tCons (tVar 1) tNil) := pa_cons (pe_var (i := 1) rfl (.inl rfl)) pa_nil (by rfl)
    refine wpAny_mono (pa.run q4 _ _ _ H (fun vs H' => vs = [y] ∧ H' = H) I3p ⟨y, rfl, rfl, rfl⟩) (fun us s4 hs4 => ?_) fun e s4 h4 => h4
    obtain ⟨vs4, H4, I4, r4, e4, eH⟩ := hs4
    subst e4
    have eH : H4 = H := eH
    rw [eH] at I4
    have pin4 := (I4.pin (h2.objs.size, PySem.W.kxs_mw "ValueError.__init__" a) (by simp)).1
    refine ⟨pin4, ?_⟩
    have I4 : Inv _ [] [some (.ref a), some y] H s4 := I4.pins_of fun p hp => absurd (show p ∈ ([] : List (Addr × Obj)) from hp) (by simp)
    obtain ⟨t4, hea4⟩ := exo_at I4.hok ea
    obtain ⟨h4, g4, d4, tk4, os4⟩ := s4
    cases r4 with
    | @cons _ u4 _ us4 r4 r5 =>
    cases r5
    refine call_mw (I4.kIn _ _ hC) hea4 pin4 (by show 1 ≤ sizeLine; decide) fun h5 t5 k5' hx5 => ?_
    have I5 : Inv (cxX CX P w K mg base ["self", "value"] (PySem.W.envX qual iScope s.heap.objs.size f (.ref cda) [("__class__", cc)]) A outer s H E) [] [some (.ref a), some y] H ⟨h5, g4, d4, tk4, os4⟩ := by
      have J := I4.write (t' := tk4) (x := a) (e := a) (o := exo a C none) (by rw [ea]; exact True.intro) (.inl rfl) k5' ⟨_, hx5⟩ (exo_ok hx5)
      have eu : upd H a (exo a C none) = H := by
        funext b
        by_cases hb : b = a
        · rw [hb, upd_same, ea]
        · rw [upd_ne hb]
      rw [eu] at J
      exact J
    show PySem.wpAt _ _ _ (execs _ _) _ _ _
    have ps : PSs (cxX CX P w K mg base ["self", "value"] (PySem.W.envX qual iScope s.heap.objs.size f (.ref cda) [("__class__", cc)]) A outer s H E) [.Assign [.Attribute (.Name "self" q6) "value" q7] (.Name "value" q8) q9] (tOst K "value" (tVar 0) (tVar 1)) :=
      pss_one (ps_ost (pe_var (i := 0) rfl (.inl rfl)) (pe_var (i := 1) rfl (.inl rfl)) (hs2 _))
    refine PySem.wpAt_of_wpAny (wpAny_mono (ps.run [] _ _ H { nx := fun _ H' => Q .non H', rt := Q } I5 ⟨y, rfl, .ref a, rfl, a, C, rfl, T.oex, T.val, .inl ⟨ea, q⟩⟩) (fun fl s6 hs6 => ?_) fun e s6 h6 => h6)
    cases fl with
    | ret u =>
      obtain ⟨v, σ', H', J, rv, q⟩ := hs6
      exact ⟨v, H', J.os, J.bare, J.base, J.hok, rv, q⟩
    | next =>
      obtain ⟨σ', H', J, q⟩ := hs6
      exact ⟨.non, H', J.os, J.bare, J.base, J.hok, rfl, q⟩
    | brk =>
      obtain ⟨_, _, _, q⟩ := hs6
      exact False.elim q
    | cont =>
      obtain ⟨_, _, _, q⟩ := hs6
      exact False.elim q
end
end DL

set_option Elab.async false
set_option linter.all false
set_option maxRecDepth 100000
set_option maxHeartbeats 2000000
namespace DL
open PySem PySem.Spec PyProof.Rows L2

theorem pe_up {X : Cx} {e : Expr} {te : TE} (h : PE X e te) : PE X e (fun σ H Q => ∃ Q1, te σ H Q1 ∧ ∀ v H1, Q1 v H1 → Q v H1) :=
  ⟨fun pins s σ H Q I ⟨Q1, q, m⟩ => wpAny_mono (h.run pins s σ H Q1 I q) (fun u s' ⟨v, H', J, r, z⟩ => ⟨v, H', J, r, m _ _ z⟩) fun _ _ z => z⟩
theorem del_upd {H : Hp} {a dx : Addr} {o o1 o2 : HO} (hn : H a = none) (ne : dx ≠ a) : upd (del (upd (upd (upd H a o) dx o1) a o2) a) dx (.xd fs) = upd H dx (.xd fs) := by
  funext b
  by_cases h1 : b = dx
  · subst h1; rw [upd_same, upd_same]
  · rw [upd_ne h1, upd_ne h1]
    by_cases h2 : b = a
    · subst h2; rw [del_same, hn]
    · rw [del_ne h2, upd_ne h2, upd_ne h1, upd_ne h2]
section
variable {K : PySem.W.Frag} {mg : Str → Option Value} {W : WX} {P : Program} {wd : World} {base : Heap} {N : List Str} {k : Nat} {ι : Type} {X : ι → Cx}
variable {a b c e : Expr} {Fa Fb Fc : SE → R D} {pos : Pos}
theorem mks_of (hf : Fam P wd K mg base N k W X) {x : Str} {C D fI : Addr} {fd : FuncData} (F : InitF P K mg D fI fd) (T : ClsS K D C) (bi : Binds K fd ["self", "value"] []) (iC : PySem.W.findIn K (.ref C) "__init__" = some (some (.ref fI))) (tI : PySem.W.typeIn K (.ref fI) = some (.type "function"))
    (hm : mg x = some (.ref C)) (hg : ∀ i, Gl (X i) x := by exact fun _ => rfl) (hdb : (x == ("__debug__" : Str)) = false := by decide) (hk : 2 ≤ k := by omega) : ∀ i, Mks (X i) x C := by
  intro i e te p pos he hp pins s σ H Q I h
  have F1 : FnOk (X i).prog (X i).w (X i).K (X i).mg (X i).base (L2.CX (X i).prog (X i).w) 1 fI fd ["self", "value"] (spInit K D) := by
    rw [hf.hP, hf.hw, hf.hK, hf.hm, hf.hb]
    exact init_ok F 0
  refine pmk_oex (CX := L2.CX (X i).prog (X i).w) (k := 1) (ds := []) (dvs := []) (C := C) (fI := fI) (fd := fd) (by rw [hf.hK]; exact T.oex) (by rw [hf.hK]; exact iC) (by rw [hf.hK]; exact tI) F1 ((hf.room i).mono hk) (by rw [hf.hK]; exact bi) .nil passL (hg i) (by rw [hf.hm]; exact hm) (pa_cons (pe_up hp) pa_nil he) hdb he (by rfl) pins s σ H Q I ?_
  refine ⟨_, h, fun v H1 q => ⟨by show 1 ≤ 1000; decide, fun a ha => ⟨a, C, v, rfl, T, upd_same, fun dx hdx ne => ⟨rfl, dx, [("value", v)], upd_same, ?_, ?_, ?_⟩⟩⟩⟩
  · rw [upd_ne ne, upd_same]
  · rw [upd_ne ne] at hdx
    exact hdx
  · rw [upd_ne ne] at hdx
    rw [del_upd ha ne]
    exact q dx hdx
end
end DL

set_option Elab.async false
set_option linter.all false
set_option maxRecDepth 100000
set_option maxHeartbeats 2000000
namespace DL
open PySem PySem.Spec PyProof.Rows L2

/-! ### try with several clauses 'except x as n' -/
abbrev CTs := Addr → Value → Option Addr → TS
abbrev gone (i : Nat) (D_ : Ends) : Ends := { nx := fun σ' H' => D_.nx (σ'.set i none) H', rt := D_.rt, bk := fun σ' H' => D_.bk (σ'.set i none) H', ct := fun σ' H' => D_.ct (σ'.set i none) H' }
/-- what the clauses wish, one after the other -/
def wMas (K : PySem.W.Frag) (i : Nat) (Wout : WX) (D_ : Ends) : List (Value × CTs) → WX
  | [] => Wout
  | (c, ts) :: r => fun cls d σ H => ∃ b, PySem.W.exmOne K cls c = some b ∧ (b = true → ∀ a, H a = none → ts a cls d (gone i D_) (σ.set i (some (.ref a))) H) ∧ (b = false → wMas K i Wout D_ r cls d σ H)
inductive HdsAs (X : Cx) (n : Str) : List ExceptHandler → List (Value × CTs) → Prop
  | nil : HdsAs X n [] []
  | cons {x : Str} {c : Value} {ts : CTs} {b₀ : Stmt} {suite : List Stmt} {np pos' : Pos} {hds : List ExceptHandler} {l : List (Value × CTs)} (hc : Names X x c)
      (hsu : ∀ (a : Addr) (oe : Obj) (cls : Value) (d : Option Addr) (pn : List (Addr × Obj)), Zc cls d oe → (∃ vs, oe.data = .fields vs) → PSs (X.suite a ((a, oe) :: pn)) (b₀ :: suite) (ts a cls d)) (r : HdsAs X n hds l) :
      HdsAs X n (.ExceptHandler (some (.Name x np)) (some n) (b₀ :: suite) pos' :: hds) ((c, ts) :: l)
section
variable {X : Cx} {n : Str} {i : Nat} {body : List Stmt} {h₀ : ExceptHandler} {hds : List ExceptHandler} {l : List (Value × CTs)} {pos : Pos} {tb : WX → TS} {Wout : WX}
theorem ps_try_mas (hs : X.stack = X.env :: X.outer) (hf : X.env.frame = some X.env.locals) (hN : X.N.Nodup) (hi : X.N[i]? = some n) (hln : X.env.kindOf n = some .local) (tk : Takes X Wout)
    (hb : ∀ (W : WX) (pn : List (Addr × Obj)) (xe : Value → Shared → Prop), Takes (X.tr pn xe) W → PassesOwn (model X.prog X.w) X.A X.env xe → PSs (X.tr pn xe) body (tb W))
    (hh : HdsAs X n (h₀ :: hds) l) : PS X (.Try body (h₀ :: hds) [] [] pos) (fun D_ σ H => tb (wMas X.K i Wout D_ l) D_ σ H) := by
  refine ⟨fun pins s σ H D_ I h => ?_⟩
  have ok := I.ok
  have hfr : X.A.frames = some (X.env :: X.outer) := by rw [ok.frames, hs]
  refine wpAny_Try_except ?_
  have look : ∀ (u : Value) (s' : Shared), XE (X.tr (X.pn ++ pins) fun e s₁ => wpAny (model X.prog X.w) X.A (noteFrame e X.env) (fun _ s₂ => wpAny (model X.prog X.w) X.A (setFlight e none) (fun _ s₃ =>
      wpAny (model X.prog X.w) X.A (handleBy e X.env (h₀ :: hds)) (SP X pins D_) X.xe s₃) X.xe s₂) X.xe s₁) (wMas X.K i Wout D_ l) u s' →
      wpAny (model X.prog X.w) X.A (noteFrame u X.env) (fun _ s₂ => wpAny (model X.prog X.w) X.A (setFlight u none) (fun _ s₃ => wpAny (model X.prog X.w) X.A (handleBy u X.env (h₀ :: hds)) (SP X pins D_) X.xe s₃) X.xe s₂) X.xe s' := by
    rintro u s' ⟨a, B, sI, pins', σ', H', cls, d, rfl, J', nb, up, sky, na, os, ag, w⟩
    have J : Inv X pins σ' H' sI := J'.ofTry ok
    have sky' : Sky B (X.env :: X.outer) a (Zc cls d) X.env.locals s'.heap := by rw [← hs]; exact sky
    refine Sky.land Zc.steady hfr hf sky' fun h3 fl3 up3 => ?_
    have J3 : Inv X pins σ' H' { s' with heap := h3 } := J.landed nb fl3.1 (up.trans up3) os ag
    obtain ⟨oe3, vs3, he3, hz3, hd3⟩ := fl3.there
    have nfr : a ∉ frs (X.env :: X.outer) := fun hm => by
      obtain ⟨_, o', e', hnf⟩ := fl3.2.2.1.mem hm
      rw [he3] at e'; cases e'
      exact hnf _ hd3
    have nL : a ≠ X.env.locals := fun z => nfr (List.mem_filterMap.mpr ⟨X.env, List.mem_cons_self, by rw [hf, z]⟩)
    have nF : a ∉ X.fs := fun hm => by
      obtain ⟨e, he, q⟩ := List.mem_filterMap.mp hm
      exact nfr (List.mem_filterMap.mpr ⟨e, List.mem_cons_of_mem _ he, q⟩)
    have S3 := J3.suite he3 hd3 na nL nF
    -- no clause takes it
    have onward : Wout cls d σ' H' → wpAny (model X.prog X.w) X.A (handleBy (.ref a) X.env []) (SP X pins D_) X.xe { s' with heap := h3 } := fun w => by
      refine wpAny_handleBy_nil ?_
      obtain ⟨k1, k2, k3, oe, vs, T, oT, ts', he, hz, hd, h1, hr⟩ := id fl3
      unfold PySem.passOn
      refine wpAny_bind (wpAny_field he hd h1 ?_)
      rw [if_neg (show ¬ ((Value.ref T == Value.none) = true) from by simp)]
      have fin : wpAny (model X.prog X.w) X.A (setFlight (.ref a) X.env.frame) (fun _ s4 => wpAny (model X.prog X.w) X.A (throw (.ref a) : Sem Flow) (SP X pins D_) X.xe s4) X.xe { s' with heap := h3 } := by
        rw [hf]
        refine HandSPX.setFlight_upZ fl3 fun h4 hh4 up4 => wpAny_throw (tk _ _ ?_)
        exact ⟨a, B, sI, pins, σ', H', cls, d, rfl, J, nb, (up.trans up3).trans up4, .inr (.inr (by rw [hs]; exact hh4)), na, os, ag, w⟩
      first
        | exact wpAny_bind (wpAny_pure (wpAny_bind fin))
        | exact wpAny_bind fin
    have go : ∀ {hds' : List ExceptHandler} {l' : List (Value × CTs)}, HdsAs X n hds' l' → wMas X.K i Wout D_ l' cls d σ' H' → wpAny (model X.prog X.w) X.A (handleBy (.ref a) X.env hds') (SP X pins D_) X.xe { s' with heap := h3 } := by
      intro hds' l' hk
      induction hk with
      | nil => exact onward
      | @cons x c ts b₀ suite np pos' hds2 l2 hc hsu r ih =>
        rintro ⟨b, hb1, hyes, hno⟩
        refine wpAny_handleBy_cons (codeAny_handlers_test ?_) (by intro q; cases q)
        have LT : PySem.W.Looks (model X.prog X.w) h3 (typeOf (.ref a)) cls := fun A Q E s k q => wpAny_typeOf_ref (k _ _ he3) (by rw [hz3.1]; exact q)
        have LM := PySem.W.exm_one (M := model X.prog X.w) (J3.kIn) LT hb1
        have test : ∀ {Q : Value → Shared → Prop} {E : Value → Shared → Prop}, Q c { s' with heap := h3 } → wpAny (model X.prog X.w) (X.A.mark (some (.ref a))) (eval (.Name x np) X.env) Q E { s' with heap := h3 } := fun {Q E} q => by
          obtain ⟨hg, hdbg, hm | ⟨hm, hv, hnn⟩⟩ := hc
          · exact ld_glob (X := X.suite a ((a, oe3) :: (X.pn ++ pins))) S3 hg hm q hdbg
          · exact ld_blt (X := X.suite a ((a, oe3) :: (X.pn ++ pins))) S3 hg hm hv q hnn hdbg
        refine test (LM.here ?_)
        cases b with
        | false => exact ih (hno rfl)
        | true =>
          refine codeAny_handlers_suite_as ?_
          refine HandSPX.lands_againZ fl3 fun h4 fl4 up4 => ?_
          have J4 : Inv X pins σ' H' { s' with heap := h4 } := J.landed nb fl4.1 ((up.trans up3).trans up4) os ag
          obtain ⟨oe4, vs4, he4, hz4, hd4⟩ := fl4.there
          have S4 := J4.suite he4 hd4 na nL nF
          refine store_ok (X := X.suite a ((a, oe4) :: (X.pn ++ pins))) (v := .ref a) S4 hN hi (.inl hln) rfl (fun s5 S5 => ?_) (.inr hln)
          refine wpAny_mono ((hsu a oe4 cls d (X.pn ++ pins) hz4 ⟨_, hd4⟩).run [] s5 _ H' _ S5 (hyes rfl a na)) (fun f s6 hsp => ?_) (fun _ _ z => False.elim z)
          have end_ : ∀ {σ6 : L2.St} {H6 : Hp} {Q : Shared → Prop}, Inv (X.suite a ((a, oe4) :: (X.pn ++ pins))) [] σ6 H6 s6 → (∀ s7, Inv X pins (σ6.set i none) H6 s7 → Q s7) →
              wpAny (model X.prog X.w) X.A (do bindName X.env n .none; unbindBehindTheSuite X.env n pos') (fun _ s7 => Q s7) X.xe s6 := fun {σ6 H6 Q} S6 hq => gone_ok (S6.unsuite ok) hN hi hln hq
          cases f with
          | next =>
            obtain ⟨σ6, H6, S6, q6⟩ := hsp
            exact end_ S6 fun s7 J7 => ⟨_, _, J7, q6⟩
          | brk =>
            obtain ⟨σ6, H6, S6, q6⟩ := hsp
            exact end_ S6 fun s7 J7 => ⟨_, _, J7, q6⟩
          | cont =>
            obtain ⟨σ6, H6, S6, q6⟩ := hsp
            exact end_ S6 fun s7 J7 => ⟨_, _, J7, q6⟩
          | ret u =>
            obtain ⟨v6, σ6, H6, S6, r6, q6⟩ := hsp
            exact end_ S6 fun s7 J7 => ⟨_, _, _, J7, r6, q6⟩
    exact go hh w
  refine wpAny_mono ((hb (wMas X.K i Wout D_ l) (X.pn ++ pins) _ look PassesOwn.looking).run [] s σ H D_ (I.toTry _) h) (fun f s1 hsp => ?_) fun e s1 he => he
  cases f with
  | next =>
    obtain ⟨σ', H', J', q⟩ := hsp
    exact wpAny_execs_nil ⟨σ', H', J'.ofTry ok, q⟩
  | brk =>
    obtain ⟨σ', H', J', q⟩ := hsp
    exact ⟨σ', H', J'.ofTry ok, q⟩
  | cont =>
    obtain ⟨σ', H', J', q⟩ := hsp
    exact ⟨σ', H', J'.ofTry ok, q⟩
  | ret u =>
    obtain ⟨v, σ', H', J', r, q⟩ := hsp
    exact ⟨v, σ', H', J'.ofTry ok, r, q⟩
end
end DL

set_option Elab.async false
set_option linter.all false
set_option maxRecDepth 100000
set_option maxHeartbeats 2000000
namespace DL
open PySem PySem.Spec PyProof.Rows L2

/-- the body of a try -/
abbrev trIx {ι : Type} (X : ι → Cx) (W' : WX) : Type := { j : ι × List (Addr × Obj) × (Value → Shared → Prop) // Takes ((X j.1).tr j.2.1 j.2.2) W' ∧ PassesOwn (model (X j.1).prog (X j.1).w) (X j.1).A (X j.1).env j.2.2 }
abbrev trX {ι : Type} (X : ι → Cx) (W' : WX) : trIx X W' → Cx := fun j => (X j.1.1).tr j.1.2.1 j.1.2.2
def tryH (sub : Str → Str → Bool) (i j : Nat) (c : Str) (d : D) (ρ : SE) : List (Str × (D → D)) → O
  | [] => .raise c d ρ
  | (x, h) :: r => if sub c x = true then (match setS j (.val (h d)) (ρ.set i .any) with
      | some ρ1 => .nx (ρ1.set i .any)
      | none => .stuck) else tryH sub i j c d ρ r
def sTry (cs : List Str) (sub : Str → Str → Bool) (i j : Nat) (hs : List (Str × (D → D))) (Fb : SE → O) : SE → O := fun ρ => match Fb ρ with
  | .raise c d ρ1 => if cs.contains c = true ∧ i < ρ1.length then tryH sub i j c d ρ1 hs else .stuck
  | o => o
/-- what is known of the raised classes cs and the caught ones xs -/
structure ExF (K : PySem.W.Frag) (mg : Str → Option Value) (cs xs : List Str) (sub : Str → Str → Bool) : Prop where
  ok : ∀ c ∈ cs, ∀ C, mg c = some (.ref C) → XfC K C ∧ PySem.W.findIn K (.ref C) "value" = some none ∧ ∀ x ∈ xs, ∀ D_, mg x = some (.ref D_) → PySem.W.exmOne K (.ref C) (.ref D_) = some (sub c x)
section
variable {K : PySem.W.Frag} {mg : Str → Option Value} {W : WX} {P : Program} {wd : World} {base : Heap} {N : List Str} {k : Nat} {ι : Type} {X : ι → Cx}
variable {a b c e : Expr} {Fa Fb Fc : SE → R D} {pos : Pos}
theorem Fam.tr (hf : Fam P wd K mg base N k W X) (W' : WX) : Fam P wd K mg base N k W' (trX X W') where
  hP := fun j => hf.hP j.1.1
  hw := fun j => hf.hw j.1.1
  hK := fun j => hf.hK j.1.1
  hm := fun j => hf.hm j.1.1
  hb := fun j => hf.hb j.1.1
  hN := fun j => hf.hN j.1.1
  nd := hf.nd
  calm := fun j => hf.calm j.1.1
  room := fun j => hf.room j.1.1
  tk := fun j => j.2.1
  po := fun j => j.2.2
theorem Sts.setAny {w : Wd} {ps : Nat → Option Addr} {σ : L2.St} {ρ : SE} (st : Sts K w ps σ ρ) (i : Nat) (v : Option V) : Sts K w ps (σ.set i v) (ρ.set i .any) where
  sub := st.sub
  disj := st.disj
  tr := st.tr
  len := by rw [List.length_set, List.length_set, st.len]
  sl := fun j s h => by
    rcases get_set h with ⟨rfl, rfl, _⟩ | ⟨ne, h⟩
    · unfold SlOk; trivial
    · rw [List.getElem?_set_ne (fun q => ne q.symm)]
      exact st.sl j s h
  apart := fun j1 j2 s t a ne h1 h2 m1 m2 e1 e2 => by
    rcases get_set h1 with ⟨rfl, rfl, _⟩ | ⟨n1, h1⟩
    · cases m1
    · rcases get_set h2 with ⟨rfl, rfl, _⟩ | ⟨n2, h2⟩
      · cases m2
      · rw [List.getElem?_set_ne (fun q => n1 q.symm)] at e1
        rw [List.getElem?_set_ne (fun q => n2 q.symm)] at e2
        exact st.apart j1 j2 s t a ne h1 h2 m1 m2 e1 e2
/-- a clause's suite: slot j takes h of the value of the exception in slot i -/
structure BHd (K : PySem.W.Frag) {ι : Type} (X : ι → Cx) (sts : List Stmt) (i j : Nat) (h : D → D) : Prop where
  ex : ∃ ts : CTs, (∀ (l : ι) (a : Addr) (oe : Obj) (cls : Value) (d : Option Addr) (pn : List (Addr × Obj)), Zc cls d oe → (∃ vs, oe.data = .fields vs) → PSs ((X l).suite a ((a, oe) :: pn)) sts (ts a cls d)) ∧
    ∀ (w : Wd) (ps : Nat → Option Addr) (σ : L2.St) (ρ : SE) (a C dx : Addr) (v : V) (d : D) (D_ : Ends), Sts K w ps σ ρ → XfC K C → PySem.W.findIn K (.ref C) "value" = some none → σ[i]? = some (some (.ref a)) → w.H dx = some (.xd [("value", v)]) → Rep K w.G v d → j < ρ.length →
      (∀ v' w', Step w w' → Sts K w' ps (σ.set j (some v')) (ρ.set j (.val (h d))) → D_.nx (σ.set j (some v')) w'.H) → ts a (.ref C) (some dx) D_ σ w.H
/-- t = e.value -/
theorem hd_val (hf : Fam P wd K mg base N k W X) (i j : Nat) {n t : Str} {pt pe pa ps' : Pos} (hNi : N[i]? = some n := by rfl) (hNj : N[j]? = some t := by rfl) (hv : ∀ l, Vis (X l).env.scope n := by first | exact fun _ => Or.inl rfl | exact fun _ => Or.inr (Or.inl rfl)) (hx : ∀ l, Loc (X l).env.scope t := by first | exact fun _ => Or.inl rfl | exact fun _ => Or.inr rfl)
    (hd : (n == ("__debug__" : Str)) = false := by decide) (hcd : (n == ("__classdict__" : Str)) = false := by decide) (hb : ∀ l, attributeBase (.Name n pe) "value" (X l).env (eval (.Name n pe) (X l).env) = eval (.Name n pe) (X l).env := by intro _; rfl)
    (hs : ∀ l, swapsWith (.Attribute (.Name n pe) "value" pa) (some (.Name t pt)) ps'.line (X l).env = pure false := by intro _; rfl) (hfn : ∀ j, (X j).fn t = true ∨ (X j).env.scope.names.lookup t = some .local := by first | exact fun _ => .inl rfl | exact fun _ => .inr rfl) :
    BHd K X [.Assign [.Name t pt] (.Attribute (.Name n pe) "value" pa) ps'] i j id := by
  refine ⟨fun a cls d => fun D_ σ H => ∃ C, cls = .ref C ∧ XfC K C ∧ PySem.W.findIn K (.ref C) "value" = some none ∧ tAsg (tXf a cls d C "value" (tVar i)) (gName j) D_ σ H, fun l a oe cls d pn hz hfl => ⟨fun pins s σ H D_ I h => ?_⟩, ?_⟩
  · obtain ⟨C, hC, T, hno, h⟩ := h
    have hNl : (X l).N = N := hf.hN l
    have hKl : (X l).K = K := hf.hK l
    exact (pss_one (ps_set (X := (X l).suite a ((a, oe) :: pn)) (i := j) (by rw [hNl]; exact hf.nd) (by rw [hNl]; exact hNj) (hx l)
      (pe_xf (by rw [hKl]; exact T) (by rw [hKl]; exact hno) hz hfl (pe_var (i := i) (by rw [hNl]; exact hNi) (hv l) hd hcd) (hb l)) (hs l) (hfn l))).run pins s σ H D_ I h
  · intro w ps σ ρ a C dx v d D_ st T hno ea ed r hj q
    exact ⟨C, rfl, T, hno, .ref a, ea, rfl, rfl, dx, _, v, rfl, ed, rfl, q v w (Step.refl w) (st.setVal r hj)⟩
/-- t = ('kind', e.value) -/
theorem hd_kind (hf : Fam P wd K mg base N k W X) (i j : Nat) {n t z : Str} {jz kt : _} {pt pe pa ps' pz p2 : Pos} (hNi : N[i]? = some n := by rfl) (hNj : N[j]? = some t := by rfl) (hv : ∀ l, Vis (X l).env.scope n := by first | exact fun _ => Or.inl rfl | exact fun _ => Or.inr (Or.inl rfl)) (hx : ∀ l, Loc (X l).env.scope t := by first | exact fun _ => Or.inl rfl | exact fun _ => Or.inr rfl)
    (hd : (n == ("__debug__" : Str)) = false := by decide) (hcd : (n == ("__classdict__" : Str)) = false := by decide) (hb : ∀ l, attributeBase (.Name n pe) "value" (X l).env (eval (.Name n pe) (X l).env) = eval (.Name n pe) (X l).env := by intro _; rfl)
    (hs : ∀ l, swapsWith (.Tuple [.Constant (.str z) jz pz, .Attribute (.Name n pe) "value" pa] kt p2) (some (.Name t pt)) ps'.line (X l).env = pure false := by intro _; rfl) (hfn : ∀ j, (X j).fn t = true ∨ (X j).env.scope.names.lookup t = some .local := by first | exact fun _ => .inl rfl | exact fun _ => .inr rfl) :
    BHd K X [.Assign [.Name t pt] (.Tuple [.Constant (.str z) jz pz, .Attribute (.Name n pe) "value" pa] kt p2) ps'] i j (fun d => .tup [.str z, d]) := by
  refine ⟨fun a cls d => fun D_ σ H => ∃ C, cls = .ref C ∧ XfC K C ∧ PySem.W.findIn K (.ref C) "value" = some none ∧ tAsg (tTup (tCons (tC (.str z)) (tCons (tXf a cls d C "value" (tVar i)) tNil))) (gName j) D_ σ H, fun l a oe cls d pn hz hfl => ⟨fun pins s σ H D_ I h => ?_⟩, ?_⟩
  · obtain ⟨C, hC, T, hno, h⟩ := h
    have hNl : (X l).N = N := hf.hN l
    have hKl : (X l).K = K := hf.hK l
    exact (pss_one (ps_set (X := (X l).suite a ((a, oe) :: pn)) (i := j) (by rw [hNl]; exact hf.nd) (by rw [hNl]; exact hNj) (hx l)
      (pe_tup (pa_cons pe_str (pa_cons (pe_xf (by rw [hKl]; exact T) (by rw [hKl]; exact hno) hz hfl (pe_var (i := i) (by rw [hNl]; exact hNi) (hv l) hd hcd) (hb l)) pa_nil (by rfl)) (by rfl))) (hs l) (hfn l))).run pins s σ H D_ I h
  · intro w ps σ ρ a C dx v d D_ st T hno ea ed r hj q
    refine ⟨C, rfl, T, hno, .ref a, ea, rfl, rfl, dx, _, v, rfl, ed, rfl, by show 2 ≤ sizeLine; decide, fun p hp => ?_⟩
    have hne : dx ≠ p := ne_of_none ed hp
    exact q (.ref p) (w.gnew p (.tup [.str z, v])) (st.gnew _ hp) ((st.gnewS _ hp).setVal (.tup (SqT.of upd_same) (.cons (.str z) (.cons (r.mono (Same.new (st.gfree hp))) .nil))) hj)
inductive BHds (K : PySem.W.Frag) (mg : Str → Option Value) {ι : Type} (X : ι → Cx) (n : Str) (i j : Nat) : List ExceptHandler → List (Str × (D → D)) → Prop
  | nil : BHds K mg X n i j [] []
  | cons {x : Str} {C : Addr} {h : D → D} {b₀ : Stmt} {suite : List Stmt} {np pos' : Pos} {hds : List ExceptHandler} {l : List (Str × (D → D))} (hC : mg x = some (.ref C)) (hb : BHd K X (b₀ :: suite) i j h) (r : BHds K mg X n i j hds l) (hg : ∀ l, Gl (X l) x := by exact fun _ => rfl) (hdb : (x == ("__debug__" : Str)) = false := by decide) :
      BHds K mg X n i j (.ExceptHandler (some (.Name x np)) (some n) (b₀ :: suite) pos' :: hds) ((x, h) :: l)
theorem BHds.ex (hf : Fam P wd K mg base N k W X) {n : Str} {i j : Nat} {hds : List ExceptHandler} {hs : List (Str × (D → D))} (h : BHds K mg X n i j hds hs) : ∃ l : List (Value × CTs), (∀ m, HdsAs (X m) n hds l) ∧
    ∀ (Wout : WX) (D_ : Ends) (sub : Str → Str → Bool) (c : Str) (C : Addr) (d : D) (w : Wd) (ps : Nat → Option Addr) (σ : L2.St) (ρ : SE) (dx : Addr) (v : V), mg c = some (.ref C) → XfC K C → PySem.W.findIn K (.ref C) "value" = some none → (∀ x ∈ hs.map (·.1), ∀ D_, mg x = some (.ref D_) → PySem.W.exmOne K (.ref C) (.ref D_) = some (sub c x)) →
      Sts K w ps σ ρ → w.H dx = some (.xd [("value", v)]) → Rep K w.G v d → i < ρ.length → (∀ ρ', tryH sub i j c d ρ hs = .raise c d ρ' → ρ' = ρ → Wout (.ref C) (some dx) σ w.H) → (∀ ρ', tryH sub i j c d ρ hs = .nx ρ' → ∀ σ' w', Step w w' → Sts K w' ps σ' ρ' → D_.nx σ' w'.H) → tryH sub i j c d ρ hs ≠ .stuck →
      wMas K i Wout D_ l (.ref C) (some dx) σ w.H := by
  induction h with
  | nil => exact ⟨[], fun _ => .nil, fun Wout D_ sub c C d w ps σ ρ dx v _ _ _ _ _ _ _ _ q _ _ => q ρ rfl rfl⟩
  | @cons x C h b₀ suite np pos' hds l hC hb r hg hdb ih =>
    obtain ⟨ts, hps, sem⟩ := hb.ex
    obtain ⟨l', hl', sem'⟩ := ih
    refine ⟨(.ref C, ts) :: l', fun m => .cons ⟨hg m, hdb, .inl (by rw [hf.hm]; exact hC)⟩ (fun a oe cls d pn => hps m a oe cls d pn) (hl' m), ?_⟩
    intro Wout D_ sub c C' d w ps σ ρ dx v hc T hno hex st ed rr hi q1 q2 q3
    refine ⟨sub c x, hex x (by simp) C hC, fun hs a ha => ?_, fun hs => ?_⟩
    · unfold tryH at q2 q3
      rw [if_pos hs] at q3
      simp only [if_pos hs] at q2
      cases e : setS j (.val (h d)) (ρ.set i .any) with
      | none => rw [e] at q3; exact absurd rfl q3
      | some ρ1 =>
        rw [e] at q2
        obtain ⟨rfl, hj⟩ := setS_lt e
        refine sem w ps (σ.set i (some (.ref a))) (ρ.set i .any) a C' dx v d _ (st.setAny i _) T hno (List.getElem?_set_self (by rw [st.len]; exact hi)) ed rr hj fun v' w' s' st' => ?_
        exact q2 _ rfl _ w' s' (st'.setAny i none)
    · have e : tryH sub i j c d ρ ((x, h) :: l) = tryH sub i j c d ρ l := by
        conv => lhs; unfold tryH
        rw [if_neg (by rw [hs]; decide)]
      rw [e] at q1 q2 q3
      exact sem' Wout D_ sub c C' d w ps σ ρ dx v hc T hno (fun y hy => hex y (List.mem_cons_of_mem _ hy)) st ed rr hi q1 q2 q3
theorem tryH_cases (sub : Str → Str → Bool) (i j : Nat) (c : Str) (d : D) (ρ : SE) : ∀ hs : List (Str × (D → D)), tryH sub i j c d ρ hs = .raise c d ρ ∨ (∃ ρ', tryH sub i j c d ρ hs = .nx ρ') ∨ tryH sub i j c d ρ hs = .stuck
  | [] => .inl rfl
  | (x, h) :: r => by
    unfold tryH
    split
    · split
      · exact .inr (.inl ⟨_, rfl⟩)
      · exact .inr (.inr rfl)
    · exact tryH_cases sub i j c d ρ r
theorem s_try (hf : Fam P wd K mg base N k W X) (cs : List Str) (sub : Str → Str → Bool) (i j : Nat) {n : Str} {body : List Stmt} {h₀ : ExceptHandler} {hds : List ExceptHandler} {hs : List (Str × (D → D))} {F : SE → O} (ex : ExF K mg cs (hs.map (·.1)) sub)
    (hb : ∀ W', Fam P wd K mg base N k W' (trX X W') → BSs K mg W' (trX X W') body F) (hh : BHds K mg X n i j (h₀ :: hds) hs) (hN : N[i]? = some n := by rfl) (hln : ∀ l, (X l).env.kindOf n = some .local := by exact fun _ => rfl)
    (hst : ∀ l, (X l).stack = (X l).env :: (X l).outer := by exact fun _ => rfl) (hfr : ∀ l, (X l).env.frame = some (X l).env.locals := by exact fun _ => rfl) : BS K mg W X (.Try body (h₀ :: hds) [] [] pos) (sTry cs sub i j hs F) := by
  obtain ⟨l, hl, sem⟩ := hh.ex hf
  have key : ∀ W', ∃ t, (∀ m, PSs (trX X W' m) body t) ∧ SemS K mg W' t F := fun W' => (hb W' (hf.tr W')).ex
  refine ⟨fun D_ σ H => (key (wMas K i W D_ l)).choose D_ σ H, fun m => ?_, fun w ps σ ρ D_ st h => ?_⟩
  · have := ps_try_mas (X := X m) (n := n) (i := i) (l := l) (pos := pos) (tb := fun W' => (key W').choose) (Wout := W) (hst m) (hfr m) (by rw [hf.hN]; exact hf.nd) (by rw [hf.hN]; exact hN) (hln m) (hf.tk m)
      (fun W' pn xe t1 t2 => (key W').choose_spec.1 ⟨(m, pn, xe), t1, t2⟩) (hl m)
    rw [hf.hK m] at this
    exact this
  · refine (key (wMas K i W D_ l)).choose_spec.2 w ps σ ρ D_ st ?_
    unfold sTry at h
    cases e : F ρ with
    | nx ρ1 => rw [e] at h; exact h
    | bk ρ1 => rw [e] at h; exact h
    | ct ρ1 => rw [e] at h; exact h
    | rt r ρ1 => rw [e] at h; cases r <;> exact h
    | stuck => rw [e] at h; exact h
    | raise c d ρ1 =>
      rw [e] at h
      simp only at h
      split at h
      · rename_i hc
        have hi : i < ρ1.length := hc.2
        have hc : c ∈ cs := by simpa using hc.1
        intro C σ' w' dx v hC s' st' ed gd nd r
        obtain ⟨T, hno, hex⟩ := ex.ok c hc C hC
        refine sem W D_ sub c C d w' ps σ' ρ1 dx v hC T hno hex st' ed r hi (fun ρ' e1 e2 => ?_) (fun ρ' e1 σ'' w'' s'' st'' => ?_) (fun e1 => ?_)
        · rw [e1] at h
          subst e2
          exact h C σ' w' dx v hC s' st' ed gd nd r
        · rw [e1] at h
          exact h σ'' w'' (s'.trans s'') st''
        · rw [e1] at h
          exact h.elim
      · exact h.elim
end
end DL

set_option Elab.async false
set_option linter.all false
set_option maxRecDepth 100000
set_option maxHeartbeats 2000000
namespace DL
open PySem PySem.Spec PyProof.Rows L2

/-! ### zip of lists, tuples, texts -/
inductive Zk where
  | l (a : Addr) | t (a : Addr) | s (z : Str)
def chV (z : Str) : List V := z.cps.toList.map fun c => V.str ⟨#[c]⟩
def Zk.val : Zk → V
  | .l a => .ref a
  | .t a => .ref a
  | .s z => .str z
def Zk.it (k : Zk) (it : Addr) (i : Nat) (h : Heap) : Prop := match k with
  | .l a => h.IsListIter it a i
  | .t a => h.IsTupleIter it a i
  | .s z => ∃ t, h.IsStrIter it (strIterType z) z t i
def Zk.has (K : PySem.W.Frag) (k : Zk) (H : Hp) (xs : List V) : Prop := match k with
  | .l a => SqL K H a xs
  | .t a => SqT K H a xs
  | .s z => xs = chV z
def Zk.lt (k : Zk) (N : Nat) : Prop := match k with
  | .l a => a < N
  | .t a => a < N
  | .s _ => True
theorem Zk.inj {X : Cx} {pins : List (Addr × Obj)} {σ : L2.St} {H : Hp} {s : Shared} {k : Zk} {xs ys : List V} (I : Inv X pins σ H s) (h : k.has X.K H xs) (h' : k.has X.K H ys) : xs = ys := by
  cases k with
  | l a => exact I.list_inj h h'
  | t a => exact I.tuple_inj h h'
  | s z => exact (show xs = chV z from h).trans (show ys = chV z from h').symm
theorem vals_getV : ∀ {xs : List V} {us : List Value} {i : Nat} {u : Value}, Vals xs us → us[i]? = some u → ∃ x, xs[i]? = some x ∧ RelV x u
  | _, _, i, u, .nil, e => by simp at e
  | _, _, 0, u, .cons r _, e => by
    simp at e; subst e
    exact ⟨_, rfl, r⟩
  | _, _, i + 1, u, .cons _ t, e => vals_getV (i := i) t (by simpa using e)
structure Dz (prog : Program) (w : World) (A : Around) (k : Zk) (it : Addr) (fp : List Addr) (xs : List V) (P : Nat → Value → Prop) (St : Nat → Heap → Prop) : Prop where
  d : Draws prog w A.in1 it fp xs.length P St
  val : ∀ i v, P i v → ∃ x, xs[i]? = some x ∧ RelV x v
  to : ∀ i h, St i h → k.it it i h
theorem Zk.draws {X : Cx} {pins : List (Addr × Obj)} {σ : L2.St} {H : Hp} {s : Shared} {k : Zk} {xs : List V} {N it i : Nat} (I : Inv X pins σ H s) (hc : X.calm = true) (h : k.has X.K H xs) (hl : k.lt N) (hN : N ≤ it) (hit : k.it it i s.heap) :
    ∃ (fp : List Addr) (P : Nat → Value → Prop) (St : Nat → Heap → Prop), Dz X.prog X.w X.A k it (it :: fp) xs P St ∧ (∀ b ∈ fp, b < N) ∧ St i s.heap := by
  have hh : X.A.in1.handled = none := I.ok.hd hc
  cases k with
  | l a =>
    obtain ⟨its, rv, p, _⟩ := I.list h
    have hl : a < N := hl
    have hne : a ≠ it := Nat.ne_of_lt (Nat.lt_of_lt_of_le hl hN)
    have e : its.toArray.size = xs.length := by rw [List.size_toArray, ← rv.length]
    have D_ := Draws.list (prog := X.prog) (w := X.w) hh it a hne its.toArray
    rw [e] at D_
    refine ⟨[a], fun i v => its.toArray[i]? = some v, fun i h => h.IsListIter it a i ∧ h.IsList a its.toArray, ⟨D_, fun i v hv => ?_, fun i h st => st.1⟩, fun b hb => ?_, ⟨hit, p.isList⟩⟩
    · exact vals_getV rv (by simpa using hv)
    · have : b = a := by simpa using hb
      rw [this]; exact hl
  | t a =>
    obtain ⟨its, rv, p, _⟩ := I.tuple h
    have hl : a < N := hl
    have hne : a ≠ it := Nat.ne_of_lt (Nat.lt_of_lt_of_le hl hN)
    have e : its.toArray.size = xs.length := by rw [List.size_toArray, ← rv.length]
    have D_ := Draws.tuple (prog := X.prog) (w := X.w) hh it a hne its.toArray
    rw [e] at D_
    refine ⟨[a], fun i v => its.toArray[i]? = some v, fun i h => h.IsTupleIter it a i ∧ h.IsTuple a its.toArray, ⟨D_, fun i v hv => ?_, fun i h st => st.1⟩, fun b hb => ?_, ⟨hit, p⟩⟩
    · exact vals_getV rv (by simpa using hv)
    · have : b = a := by simpa using hb
      rw [this]; exact hl
  | s z =>
    have h : xs = chV z := h
    obtain ⟨t, hit⟩ := hit
    have D_ := Draws.text (prog := X.prog) (w := X.w) hh it z t
    have e : z.cps.size = xs.length := by rw [h]; unfold chV; rw [List.length_map, Array.length_toList]
    rw [e] at D_
    refine ⟨[], _, fun i h => h.IsStrIter it (strIterType z) z t i, ⟨D_, fun i v hv => ?_, fun i h st => ⟨t, st⟩⟩, fun b hb => (by simp at hb), hit⟩
    obtain ⟨c, u, h1, rfl⟩ := hv
    refine ⟨.str ⟨#[c]⟩, ?_, ⟨u, rfl⟩⟩
    rw [h]
    unfold chV
    rw [List.getElem?_map, Array.getElem?_toList, h1]
    rfl
theorem Zk.it_keep {k : Zk} {it i : Nat} {h h' : Heap} (st : k.it it i h) (hk : ∀ o, h.get? it = some o → h'.get? it = some o) : k.it it i h' := by
  cases k with
  | l a => exact Heap.IsListIter.at (show h.IsListIter it a i from st) hk
  | t a => exact Heap.IsTupleIter.at (show h.IsTupleIter it a i from st) hk
  | s z =>
    obtain ⟨t, o, ho, r⟩ := st
    exact ⟨t, o, hk o ho, r⟩
theorem Zk.it_obj {k : Zk} {it i : Nat} {h : Heap} (st : k.it it i h) : ∃ o, h.get? it = some o ∧ ∀ v, o.data ≠ .cell v := by
  cases k with
  | l a =>
    obtain ⟨o, e, c, d⟩ := (show h.IsListIter it a i from st)
    exact ⟨o, e, fun v z => by rw [d] at z; cases z⟩
  | t a =>
    obtain ⟨o, e, c, d⟩ := (show h.IsTupleIter it a i from st)
    exact ⟨o, e, fun v z => by rw [d] at z; cases z⟩
  | s z =>
    obtain ⟨t, o, e, c, d⟩ := st
    exact ⟨o, e, fun v z => by rw [d] at z; cases z⟩
def ItzM (K : PySem.W.Frag) (k1 k2 : Zk) : It :=
  ⟨fun i H => ∃ xs ys, k1.has K H xs ∧ k2.has K H ys ∧ i < xs.length ∧ i < ys.length,
    fun i H v H' => ∃ T x y, v = .ref T ∧ H T = none ∧ H' = upd H T (.tup [x, y]) ∧ (∀ xs, k1.has K H xs → xs[i]? = some x) ∧ ∀ ys, k2.has K H ys → ys[i]? = some y,
    fun i H => ∃ xs ys, k1.has K H xs ∧ k2.has K H ys ∧ i = min xs.length ys.length⟩
theorem turn_zipM {P : Program} {w : World} {K : PySem.W.Frag} {elts : List Expr} {kk : Nat} {tpos : Pos} {k1 k2 : Zk} {N : Nat} (h1 : k1.lt N) (h2 : k2.lt N) :
    Turn P w K (.Tuple elts kk tpos) (ItzM K k1 k2) [N + 4, N + 2, N + 3, N, N + 1] (N + 4) (fun i h => IsZip h (N + 4) (N + 2) (N + 3) .none ∧ IsTupOf2 h (N + 2) (.ref N) (.ref (N + 1)) ∧ (∃ a1 a2, IsTupOf2 h (N + 3) a1 a2) ∧ k1.it N i h ∧ k2.it (N + 1) i h) where
  mem := by simp
  obj := fun i h st c hc => by
    obtain ⟨hz, hTI, ⟨x, y, hTO⟩, s1, s2⟩ := st
    have e' : c = N + 4 ∨ c = N + 2 ∨ c = N + 3 ∨ c = N ∨ c = N + 1 := by simpa using hc
    rcases e' with q | q | q | q | q
    · rw [q]; exact ⟨_, hz, fun v q => nomatch q⟩
    · rw [q]; exact ⟨_, hTI, fun v q => nomatch q⟩
    · rw [q]; exact ⟨_, hTO, fun v q => nomatch q⟩
    · rw [q]; exact (Zk.it_obj s1)
    · rw [q]; exact (Zk.it_obj s2)
  keep := fun i h h' st k => by
    obtain ⟨hz, hTI, ⟨x, y, hTO⟩, s1, s2⟩ := st
    exact ⟨k _ (by simp) _ hz, k _ (by simp) _ hTI, ⟨x, y, k _ (by simp) _ hTO⟩, Zk.it_keep s1 fun o q => k _ (by simp) o q, Zk.it_keep s2 fun o q => k _ (by simp) o q⟩
  item := by
    intro X hP hw hK hc i pins s σ H E I hf st hg
    subst hP hw hK
    obtain ⟨hz, hTI, hTO, s1, s2⟩ := st
    obtain ⟨xs, ys, hqx, hqy, hx, hy⟩ := hg
    obtain ⟨fp1, P1, St1, D1, b1, t1⟩ := Zk.draws I hc hqx h1 (Nat.le_refl N) s1
    obtain ⟨fp2, P2, St2, D2, b2, t2⟩ := Zk.draws I hc hqy h2 (Nat.le_succ N) s2
    have G := GoesN.zip2 (elts := elts) (x1 := kk) (pos := tpos) (zip_sep2 b1 b2) D1.d D2.d
    refine G.goes i s (fun v s2 => ∃ x H', Inv X pins σ H' s2 ∧ RelV x v ∧ (ItzM X.K k1 k2).yld i H x H' ∧ (IsZip s2.heap (N + 4) (N + 2) (N + 3) .none ∧ IsTupOf2 s2.heap (N + 2) (.ref N) (.ref (N + 1)) ∧ (∃ a1 a2, IsTupOf2 s2.heap (N + 3) a1 a2) ∧ k1.it N (i + 1) s2.heap ∧ k2.it (N + 1) (i + 1) s2.heap) ∧ ∀ b ∈ [N + 4, N + 2, N + 3, N, N + 1], H' b = none) E (by omega) ⟨hz, hTI, hTO, t1, t2⟩ (fun v h' tk hY st' hk htk => ?_)
    obtain ⟨T, u, u2, rfl, hnew, p1, p2, hT⟩ := hY
    obtain ⟨x, ex, rx⟩ := D1.val i u p1
    obtain ⟨y, ey, ry⟩ := D2.val i u2 p2
    have new : ObjOk X.prog X.w (upd H T (.tup [x, y])) h' T (.tup [x, y]) := ⟨by show 2 ≤ sizeLine; decide, [u, u2], .cons rx (.cons ry .nil), hT⟩
    have I1 : Inv X pins σ (upd H T (.tup [x, y])) { s with heap := h', toks := tk } :=
      I.turnedNew (t' := tk) (ch := [N + 4, N + 2, N + 3, N, N + 1]) (fun c o hb q => hk c o (fun z => hb (by
        have e' : c = N + 4 ∨ c = N + 3 ∨ c = N ∨ c = N + 1 := by simpa using z
        rcases e' with q | q | q | q <;> (rw [q]; simp))) q) hf hnew new
    obtain ⟨z1, z2, z3, z4, z5⟩ := st'
    refine ⟨.ref T, _, I1, rfl, ⟨T, x, y, rfl, I.hok.fresh hnew, rfl, fun l hl => by rw [Zk.inj I hl hqx]; exact ex, fun l hl => by rw [Zk.inj I hl hqy]; exact ey⟩, ⟨z1, z2, z3, D1.to _ _ z4, D2.to _ _ z5⟩, fun c hcm => ?_⟩
    have hne : c ≠ T := by
      have : c < s.heap.objs.size := by
        have e' : c = N + 4 ∨ c = N + 2 ∨ c = N + 3 ∨ c = N ∨ c = N + 1 := by simpa using hcm
        rcases e' with q | q | q | q | q
        · rw [q]; exact Heap.lt_size hz
        · rw [q]; exact Heap.lt_size hTI
        · obtain ⟨_, _, hTO⟩ := hTO
          rw [q]; exact Heap.lt_size hTO
        · obtain ⟨o, e, _⟩ := (Zk.it_obj s1)
          rw [q]; exact Heap.lt_size e
        · obtain ⟨o, e, _⟩ := (Zk.it_obj s2)
          rw [q]; exact Heap.lt_size e
      exact Nat.ne_of_lt (Nat.lt_of_lt_of_le this hnew)
    rw [upd_ne hne]
    exact (hf c hcm).1
  done := by
    intro X hP hw hK hc i pins s σ H E I hf st hg
    subst hP hw hK
    obtain ⟨hz, hTI, hTO, s1, s2⟩ := st
    obtain ⟨xs, ys, hqx, hqy, he⟩ := hg
    obtain ⟨fp1, P1, St1, D1, b1, t1⟩ := Zk.draws I hc hqx h1 (Nat.le_refl N) s1
    obtain ⟨fp2, P2, St2, D2, b2, t2⟩ := Zk.draws I hc hqy h2 (Nat.le_succ N) s2
    have G := GoesN.zip2 (elts := elts) (x1 := kk) (pos := tpos) (zip_sep2 b1 b2) D1.d D2.d
    subst he
    exact G.stops s (fun s1 => Inv X pins σ H s1) E ⟨hz, hTI, hTO, t1, t2⟩ fun h' tk hk htk => I.turnedL (t' := tk) (ch := [N + 4, N + 2, N + 3, N, N + 1]) (fun c o hb q => hk c o (fun z => hb (by
        have e' : c = N + 4 ∨ c = N + 3 ∨ c = N ∨ c = N + 1 := by simpa using z
        rcases e' with q | q | q | q <;> (rw [q]; simp))) q) hf
  self := fun A i s Q E st h => wpAny_pyIter_zip st.1 h
theorem Zk.begins {X : Cx} {pins : List (Addr × Obj)} {σ : L2.St} {H : Hp} {s : Shared} {k : Zk} {xs : List V} {u : Value} (I : Inv X pins σ H s) (h : k.has X.K H xs) (r : RelV k.val u) :
    ∃ (o : Obj) (Hc : Heap → Prop), Begins u o Hc ∧ Hc s.heap ∧ k.lt s.heap.objs.size ∧ ∀ (h' : Heap) (it : Nat), h'.get? it = some o → k.it it 0 h' := by
  cases k with
  | l a =>
    obtain ⟨its, rv, p, _⟩ := I.list h
    cases r
    exact ⟨_, _, begins_list a its.toArray, p.isList, p.lt, fun h' it e => ⟨_, e, rfl, rfl⟩⟩
  | t a =>
    obtain ⟨its, rv, p, _⟩ := I.tuple h
    cases r
    obtain ⟨o1, ho1, _⟩ := id p
    exact ⟨_, _, begins_tuple a its.toArray, p, Heap.lt_size ho1, fun h' it e => ⟨_, e, rfl, rfl⟩⟩
  | s z =>
    obtain ⟨t, rfl⟩ := r
    exact ⟨_, _, begins_text z t, trivial, trivial, fun h' it e => ⟨t, _, e, rfl, rfl⟩⟩
def iZipM (K : PySem.W.Frag) (ta : TA) : TI := fun σ H R => ta σ H fun vs H1 => ∃ (k1 k2 : Zk) (xs ys : List V), vs = [k1.val, k2.val] ∧ k1.has K H1 xs ∧ k2.has K H1 ys ∧ R (ItzM K k1 k2) H1
theorem pi_zipM {X : Cx} {e e2 : Expr} {ta : TA} {p pos tpos : Pos} {elts : List Expr} {kk : Nat} (hg : Gl X "zip") (hm : X.mg "zip" = none) (ha : PA X [e, e2] ta)
    (hs : starEach [e, e2] X.env = (false, eval e X.env) :: starEach [e2] X.env) (hpl : (backTo pos (starEach [e2] X.env)).any (·.1) = false) :
    PI X (.Tuple elts kk tpos) (.Call (.Name "zip" p) [e, e2] [] pos) (iZipM X.K ta) := by
  refine ⟨fun pins s σ H R I h => ?_⟩
  refine Call_ (ld_blt I hg hm PyProof.Rows.boot_zip (PyProof.Rows.callWith_type1 (thn (ha.run pos pins s σ H _ I h) fun us s1 ⟨vs, H1, I1, r1, q1⟩ => ?_) hs hpl))
  obtain ⟨k1, k2, xs, ys, ex, hqx, hqy, q⟩ := q1
  subst ex
  cases r1 with
  | cons r rr =>
    cases rr with
    | cons r' rr =>
      cases rr
      obtain ⟨o1, H1', B1, hh1, l1, i1⟩ := Zk.begins I1 hqx r
      obtain ⟨o2, H2', B2, hh2, l2, i2⟩ := Zk.begins I1 hqy r'
      refine zip_begins2 B1 B2 hh1 hh2 fun h' hz hTI hTO g1 g2 hsz hk => wpAny_pyIter_zip hz ?_
      have I2 : Inv X pins σ H1 { s1 with heap := h' } := I1.kept (t' := s1.toks) hk
      refine ⟨s1.heap.objs.size + 4, [s1.heap.objs.size + 4, s1.heap.objs.size + 2, s1.heap.objs.size + 3, s1.heap.objs.size, s1.heap.objs.size + 1], _, _, H1, rfl, I2, turn_zipM l1 l2, ⟨hz, hTI, ⟨_, _, hTO⟩, i1 h' _ g1, i2 h' _ g2⟩, fun c hcm => ?_, q⟩
      have hle : s1.heap.objs.size ≤ c := by
        have e' : c = s1.heap.objs.size + 4 ∨ c = s1.heap.objs.size + 2 ∨ c = s1.heap.objs.size + 3 ∨ c = s1.heap.objs.size ∨ c = s1.heap.objs.size + 1 := by simpa using hcm
        rcases e' with z | z | z | z | z <;> (rw [z]; first | exact Nat.le_add_right _ _ | exact Nat.le_refl _)
      exact I1.fpOk hle (I1.hok.fresh hle)
end DL

set_option Elab.async false
set_option linter.all false
set_option maxRecDepth 100000
set_option maxHeartbeats 2000000
namespace DL
open PySem PySem.Spec PyProof.Rows L2

def sFrzA (i : Nat) (F : SE → O) : SE → O := fun ρ => match F ρ with
  | .nx ρ1 => .nx (frzS i ρ1)
  | o => o
def sAsgG (g : D → SE → Option SE) (F : SE → R D) : SE → O := fun ρ => (F ρ).to fun d ρ1 => O.of (g d ρ1)
def permL {α : Type} (perm : List Nat) (xs : List α) : List α := perm.filterMap (xs[·]?)
def eKw (fn : List D → FR) (ms : List Mo) (perm : List Nat) (F : SE → R (List Pv)) : SE → R D := fun ρ => (F ρ).bind fun pvs ρ1 => if pvs.length = perm.length then (match giveAll ρ1 ms (permL perm pvs) with
  | none => .stuck
  | some as => match fn as with
    | .ok (.v d) _ => .ok d ρ1
    | .raise c d => .raise c d ρ1
    | _ => .stuck) else .stuck
def eKwO (fn : List D → FR) (ms : List Mo) (perm : List Nat) (F : SE → R (List Pv)) : SE → R D := fun ρ => (F ρ).bind fun pvs ρ1 => if pvs.length = perm.length then (match giveAll ρ1 ms (permL perm pvs) with
  | none => .stuck
  | some as => match fn as with
    | .ok (.o d) _ => .ok d ρ1
    | .raise c d => .raise c d ρ1
    | _ => .stuck) else .stuck
def tKw (sp : Sp) (perm : List Nat) (E : L2.St → XK) (t : TA) : TE := fun σ H Q => t σ H fun zs H1 => zs.length = perm.length ∧ sp (permL perm zs) H1 Q (E σ)
structure BKp (K : PySem.W.Frag) (mg : Str → Option Value) (W : WX) {ι : Type} (X : ι → Cx) (kws : List Keyword) (F : SE → R (List Pv)) : Prop where
  ex : ∃ t, (∀ i, PK (X i) kws t) ∧ SemP K mg W t F
/-- what a call of the def x by keywords wants -/
structure KCl (P : Program) (wd : World) (K : PySem.W.Frag) (mg : Str → Option Value) (base : Heap) (x : Str) (k : Nat) (pn ks : List Str) (perm : List Nat) (fn : List D → FR) (ms : List Mo) : Prop where
  ex : ∃ f fd, mg x = some (.ref f) ∧ PySem.W.keepIn K (.ref f) = true ∧ (∀ (s : Shared) (ws : List Value), ws.length = ks.length → BindsTo s fd ⟨[], ks.zip ws⟩ (pn.zip (permL perm ws))) ∧ FnOk P wd K mg base (L2.CX P wd) k f fd pn (spD K mg fn ms)
theorem permL_len {α β : Type} {xs : List α} {ys : List β} (h : xs.length = ys.length) : ∀ perm : List Nat, (permL perm xs).length = (permL perm ys).length
  | [] => rfl
  | i :: perm => by
    unfold permL
    rw [List.filterMap_cons, List.filterMap_cons]
    have ih := permL_len h perm
    by_cases hi : i < xs.length
    · rw [List.getElem?_eq_getElem hi, List.getElem?_eq_getElem (h ▸ hi)]
      show _ + 1 = _ + 1
      rw [show (List.filterMap (xs[·]?) perm).length = _ from ih] <;> rfl
    · rw [List.getElem?_eq_none (by omega), List.getElem?_eq_none (by omega)]
      exact ih
theorem vals_perm {xs : List V} {us : List Value} (r : Vals xs us) : ∀ perm : List Nat, Vals (permL perm xs) (permL perm us)
  | [] => .nil
  | i :: perm => by
    unfold permL
    rw [List.filterMap_cons, List.filterMap_cons]
    have ih := vals_perm r perm
    cases e : xs[i]? with
    | none =>
      rw [Vals.none_of r e]
      exact ih
    | some x =>
      obtain ⟨u, e2, rx⟩ := r.get e
      rw [e2]
      exact .cons rx ih
section
variable {K : PySem.W.Frag} {mg : Str → Option Value} {W : WX} {P : Program} {wd : World} {base : Heap} {N : List Str} {k : Nat} {ι : Type} {X : ι → Cx}
variable {a b c e : Expr} {Fa Fb Fc : SE → R D} {pos : Pos}
theorem s_frzA {s : Stmt} {F : SE → O} (i : Nat) (h1 : BS K mg W X s F) : BS K mg W X s (sFrzA i F) := by
  obtain ⟨ta, pa, sa⟩ := h1.ex
  refine ⟨ta, pa, fun w ps σ ρ D_ st h => sa w ps σ ρ D_ st ?_⟩
  unfold sFrzA at h
  cases e : F ρ with
  | nx ρ1 =>
    rw [e] at h
    intro σ' w' s' st'
    obtain ⟨w1, s1, e1, st1⟩ := st'.frzS i
    have := h σ' w1 (s'.trans s1) st1
    rw [e1] at this
    exact this
  | bk ρ1 => rw [e] at h; exact h
  | ct ρ1 => rw [e] at h; exact h
  | rt r ρ1 => rw [e] at h; cases r <;> exact h
  | raise c d ρ1 => rw [e] at h; exact h
  | stuck => rw [e] at h; exact h
/-- a, b, .. = e -/
theorem s_asgG {tg : Expr} {g : D → SE → Option SE} {is : List Nat} (hg : BG K X tg g is) (ha : BE K mg W X a Fa) (hs : ∀ i, swapsWithSole [tg] a pos.line (X i).env = pure false := by intro _; rfl) (hw : ∀ i, swappedStores [tg] a (X i).env = pure none := by intro _; rfl) (h1 : ∀ i, (assignEach [tg] (X i).env).map (·.2) = [assign tg (X i).env] := by intro _; rfl) :
    BS K mg W X (.Assign [tg] a pos) (sAsgG g Fa) := by
  obtain ⟨ta, pa, sa⟩ := ha.ex
  obtain ⟨tg', pg, sg⟩ := hg.ex
  refine ⟨_, fun i => ps_asg (pa i) (pg i) (hs i) (hw i) (h1 i), fun w ps σ ρ D_ st h => sa w ps σ ρ _ st (h.to.imp (fun d ρ1 h1 v1 w1 s1 o1 st1 r1 => ?_) fun _ _ _ q => q)⟩
  obtain ⟨ρ2, e2, h2⟩ := postO h1
  exact sg w1 ps σ ρ1 ρ2 v1 d _ st1 r1 e2 fun σ' st2 _ => h2 σ' w1 s1 st2

/-! calls by keywords -/
theorem kw_nil : BKp K mg W X [] pNil := ⟨_, fun _ => pk_nil, fun w ps σ ρ Q st h => h [] w (Step.refl w) rfl st .nil⟩
theorem kw_e {nm : Option Str} {kpos : Pos} {kws : List Keyword} {Fr : SE → R (List Pv)} (ha : BE K mg W X a Fa) (hr : BKp K mg W X kws Fr) : BKp K mg W X (⟨nm, a, kpos⟩ :: kws) (pE Fa Fr) := by
  obtain ⟨ta, pa, sa⟩ := ha.ex
  obtain ⟨tb, pb, sb⟩ := hr.ex
  refine ⟨_, fun i => pk_cons (pa i) (pb i), fun w ps σ ρ Q st h => sa w ps σ ρ _ st (h.bind.imp (fun x ρ1 h1 v1 w1 s1 o1 st1 r1 => ?_) fun _ _ _ q => q)⟩
  exact sb w1 ps σ ρ1 _ st1 (h1.bind.imp (fun y ρ2 h2 v2 w2 s2 o2 st2 r2 => h2 _ w2 (s1.trans s2) (o2.trans o1) st2 (.d (r1.mono s2.froz) r2)) fun _ _ _ q => q.step s1 o1)
theorem pv_perm {w : Wd} {σ : L2.St} : ∀ {vs : List V} {pvs : List Pv}, PvOk K w σ vs pvs → ∀ perm : List Nat, PvOk K w σ (permL perm vs) (permL perm pvs) := by
  have get : ∀ {vs : List V} {pvs : List Pv}, PvOk K w σ vs pvs → ∀ i : Nat, (vs[i]? = none ∧ pvs[i]? = none) ∨ ∃ v p, vs[i]? = some v ∧ pvs[i]? = some p ∧ ∀ {us : List V} {qs : List Pv}, PvOk K w σ us qs → PvOk K w σ (v :: us) (p :: qs) := by
    intro vs pvs h
    induction h with
    | nil => exact fun i => .inl ⟨by simp, by simp⟩
    | d r t ih =>
      intro i
      cases i with
      | zero => exact .inr ⟨_, _, rfl, rfl, fun q => .d r q⟩
      | succ i => simpa using ih i
    | s r t ih =>
      intro i
      cases i with
      | zero => exact .inr ⟨_, _, rfl, rfl, fun q => .s r q⟩
      | succ i => simpa using ih i
  intro vs pvs h perm
  induction perm with
  | nil => exact .nil
  | cons i perm ih =>
    unfold permL
    rw [List.filterMap_cons, List.filterMap_cons]
    rcases get h i with ⟨e1, e2⟩ | ⟨v, p, e1, e2, q⟩
    · rw [e1, e2]; exact ih
    · rw [e1, e2]; exact q ih
theorem PvOk.len {w : Wd} {σ : L2.St} : ∀ {vs : List V} {pvs : List Pv}, PvOk K w σ vs pvs → vs.length = pvs.length
  | _, _, .nil => rfl
  | _, _, .d _ t => by rw [List.length_cons, List.length_cons, PvOk.len t]
  | _, _, .s _ t => by rw [List.length_cons, List.length_cons, PvOk.len t]
theorem call_core {fn : List D → FR} {ms : List Mo} {w : Wd} {ps : Nat → Option Addr} {σ : L2.St} {ρ : SE} {vs : List V} {pvs : List Pv} {as : List D} {Q : VK} {E : XK} (st : Sts K w ps σ ρ) (r : PvOk K w σ vs pvs) (eg : giveAll ρ ms pvs = some as)
    (h : match fn as with
      | .ok (.v d) _ => ∀ v w', Step w w' → w'.o = w.o → Sts K w' ps σ ρ → Rep K w'.G v d → Q v w'.H
      | .ok (.o d) _ => ∀ a w', Step w w' → w'.o = w.o → Sts K w' ps σ ρ → Con K w' a d → w'.G a = none → w.H a = none → Q (.ref a) w'.H
      | .raise c d => ∀ C dx v w', mg c = some (.ref C) → Step w w' → w'.o = w.o → Sts K w' ps σ ρ → w'.H dx = some (.xd [("value", v)]) → w'.G dx = none → w.H dx = none → Rep K w'.G v d → E (.ref C) (some dx) w'.H
      | _ => False) : spD K mg fn ms vs w.H Q E := by
  obtain ⟨l1, l2, hsl⟩ := give_sl st (qs := fun _ => none) r eg
  refine ⟨w.sub fun _ => False, fun _ => none, as, rfl, ⟨st.sub, fun _ z => z.elim, fun _ z => z.elim, by rw [List.length_map, entry_len l2, l1], fun j s hj => (hsl j s hj).1, fun i j s t a ne h2 _ m2 _ _ _ => by
    rw [(hsl i s h2).2] at m2; cases m2⟩, fun _ z => z.elim, l2, l1, ?_⟩
  split at h
  · rename_i d o ef
    rw [ef]
    exact fun v w2 s2 hs2 r2 _ => h v ⟨w2.G, w2.H, w.o⟩ (sub_step (fun _ z => z.elim) s2) rfl (back0 st s2 hs2) r2
  · rename_i d o ef
    rw [ef]
    exact fun a w2 s2 hs2 c2 g2 n2 _ => h a ⟨w2.G, w2.H, w.o⟩ (sub_step (fun _ z => z.elim) s2) rfl (back0 st s2 hs2) c2.re g2 n2
  · rename_i c d ef
    rw [ef]
    refine ⟨?_, fun C dx v w2 hC s2 hs2 hx hg hn r2 => h C dx v ⟨w2.G, w2.H, w.o⟩ hC (sub_step (fun _ z => z.elim) s2) rfl (back0 st s2 hs2) hx hg hn r2⟩
    cases em : mPos ms with
    | none => rfl
    | some j => exact absurd (mPos_some em) (giveAll_m eg j)
  · exact h.elim
theorem kw_sem {fn : List D → FR} {ms : List Mo} {perm : List Nat} {t : TA} {F : SE → R (List Pv)} (sa : SemP K mg W t F) : SemE K mg W (tKw (spD K mg fn ms) perm (WE W) t) (eKw fn ms perm F) := fun w ps σ ρ Q st h => by
  refine sa w ps σ ρ _ st (h.bind.imp (fun pvs ρ1 h1 vs w1 s1 o1 st1 r1 => ?_) fun _ _ _ q => q)
  split at h1
  · rename_i hlen
    refine ⟨by rw [r1.len]; exact hlen, ?_⟩
    split at h1
    · exact h1.elim
    rename_i as eg
    refine call_core st1 (pv_perm r1 perm) eg ?_
    split at h1
    · rename_i d o ef
      rw [ef]
      exact fun v w' s2 o2 st2 r2 => h1 v w' (s1.trans s2) (o2.trans o1) st2 r2
    · rename_i c d ef
      rw [ef]
      exact fun C dx v w' hC s2 o2 st2 hx hg hn r2 => h1 C w' dx v hC (s1.trans s2) (o2.trans o1) st2 hx hg (s1.back hn) r2
    · exact h1.elim
  · exact h1.elim
theorem kwO_sem {fn : List D → FR} {ms : List Mo} {perm : List Nat} {t : TA} {F : SE → R (List Pv)} (sa : SemP K mg W t F) : SemO K mg W (tKw (spD K mg fn ms) perm (WE W) t) (eKwO fn ms perm F) := fun w ps σ ρ Q st h => by
  refine sa w ps σ ρ _ st (h.bind.imp (fun pvs ρ1 h1 vs w1 s1 o1 st1 r1 => ?_) fun _ _ _ q => q)
  split at h1
  · rename_i hlen
    refine ⟨by rw [r1.len]; exact hlen, ?_⟩
    split at h1
    · exact h1.elim
    rename_i as eg
    refine call_core st1 (pv_perm r1 perm) eg ?_
    split at h1
    · rename_i d o ef
      rw [ef]
      exact fun a w' s2 o2 st2 c2 g2 n2 => h1 a w' (s1.trans s2) (o2.trans o1) st2 c2 g2 (s1.back n2) (st1.noB n2)
    · rename_i c d ef
      rw [ef]
      exact fun C dx v w' hC s2 o2 st2 hx hg hn r2 => h1 C w' dx v hC (s1.trans s2) (o2.trans o1) st2 hx hg (s1.back hn) r2
    · exact h1.elim
  · exact h1.elim
theorem pe_kcl (hf : Fam P wd K mg base N k W X) {x : Str} {j : Nat} {pn ks : List Str} {perm : List Nat} {fn : List D → FR} {ms : List Mo} {p : Pos} {kws : List Keyword} {t : TA} (C : KCl P wd K mg base x j pn ks perm fn ms) (hj : j ≤ k) (pk : ∀ i, PK (X i) kws t) (hg : ∀ i, Gl (X i) x)
    (hall : ∀ i, (backToKw pos (keywordEach kws (X i).env)).all (·.1.isSome) = true) (hks : ∀ i, (backToKw pos (keywordEach kws (X i).env)).filterMap (·.1) = ks) (hlen : ks.length = perm.length) (hdb : (x == ("__debug__" : Str)) = false)
    (hpl : ∀ i, ((backTo pos (starEach [] (X i).env)).any (·.1) || (backToKw pos (keywordEach kws (X i).env)).any (·.1.isNone)) = false) (i : ι) : PE (X i) (.Call (.Name x p) [] kws pos) (tKw (spD K mg fn ms) perm (WE W) t) := by
  obtain ⟨f, fd, hm, hk, hb, ok⟩ := C.ex
  refine ⟨fun pins s σ H Q I h => ?_⟩
  refine wpAny_Call_Name_kw (ld_glob I (hg i) (by rw [hf.hm]; exact hm) ?_ hdb)
  refine PySem.W.callWith_KW0 (h₀ := (X i).base) I.ok.mod.kin (by rw [hf.hK]; exact hk) (hall i) ?_ (hpl i)
  refine thn ((pk i).run pos pins s σ H _ I h) fun ws s2 ⟨zs, H2, I2, rz, hz, q2⟩ => ⟨I2.kIn, ?_⟩
  rw [hks i]
  have F1 : FnOk (X i).prog (X i).w (X i).K (X i).mg (X i).base (L2.CX (X i).prog (X i).w) k f fd pn (spD K mg fn ms) := by
    rw [hf.hP, hf.hw, hf.hK, hf.hm, hf.hb]
    exact ok.mono hj
  have b := hb s2 ws (by rw [← rz.length, hz, hlen])
  refine wpAny_call (codeAny_mono (F1.run (X i).A (X i).stack s2 H2 ⟨[] ++ [], ks.zip ws⟩ (permL perm ws) (permL perm zs) Q (WE W σ) (hf.room i) I2.env0 b (vals_perm rz perm) q2) fun r s' hq => ?_)
  cases r with
  | error e => exact passAt (hf.tk i) σ pins H2 s2 e s' I2 hq
  | ok fl =>
    cases fl with
    | ret u => exact I2.after hq
    | next => exact False.elim hq
    | brk => exact False.elim hq
    | cont => exact False.elim hq
theorem b_kw (hf : Fam P wd K mg base N k W X) {x : Str} {j : Nat} {pn ks : List Str} {perm : List Nat} {fn : List D → FR} {ms : List Mo} {p : Pos} {kws : List Keyword} {F : SE → R (List Pv)} (C : KCl P wd K mg base x j pn ks perm fn ms) (ha : BKp K mg W X kws F) (hj : j ≤ k := by first | decide | omega) (hg : ∀ i, Gl (X i) x := by exact fun _ => rfl)
    (hall : ∀ i, (backToKw pos (keywordEach kws (X i).env)).all (·.1.isSome) = true := by intro _; rfl) (hks : ∀ i, (backToKw pos (keywordEach kws (X i).env)).filterMap (·.1) = ks := by intro _; rfl) (hlen : ks.length = perm.length := by rfl) (hdb : (x == ("__debug__" : Str)) = false := by decide)
    (hpl : ∀ i, ((backTo pos (starEach [] (X i).env)).any (·.1) || (backToKw pos (keywordEach kws (X i).env)).any (·.1.isNone)) = false := by intro _; rfl) : BE K mg W X (.Call (.Name x p) [] kws pos) (eKw fn ms perm F) := by
  obtain ⟨tk, pk, sk⟩ := ha.ex
  exact ⟨_, pe_kcl hf C hj pk hg hall hks hlen hdb hpl, kw_sem sk⟩
theorem b_kwO (hf : Fam P wd K mg base N k W X) {x : Str} {j : Nat} {pn ks : List Str} {perm : List Nat} {fn : List D → FR} {ms : List Mo} {p : Pos} {kws : List Keyword} {F : SE → R (List Pv)} (C : KCl P wd K mg base x j pn ks perm fn ms) (ha : BKp K mg W X kws F) (hj : j ≤ k := by first | decide | omega) (hg : ∀ i, Gl (X i) x := by exact fun _ => rfl)
    (hall : ∀ i, (backToKw pos (keywordEach kws (X i).env)).all (·.1.isSome) = true := by intro _; rfl) (hks : ∀ i, (backToKw pos (keywordEach kws (X i).env)).filterMap (·.1) = ks := by intro _; rfl) (hlen : ks.length = perm.length := by rfl) (hdb : (x == ("__debug__" : Str)) = false := by decide)
    (hpl : ∀ i, ((backTo pos (starEach [] (X i).env)).any (·.1) || (backToKw pos (keywordEach kws (X i).env)).any (·.1.isNone)) = false := by intro _; rfl) : BO K mg W X (.Call (.Name x p) [] kws pos) (eKwO fn ms perm F) := by
  obtain ⟨tk, pk, sk⟩ := ha.ex
  exact ⟨_, pe_kcl hf C hj pk hg hall hks hlen hdb hpl, kwO_sem sk⟩
end
end DL

set_option Elab.async false
set_option linter.all false
set_option maxRecDepth 100000
set_option maxHeartbeats 2000000
namespace DL
open PySem PySem.Spec PyProof.Rows L2

/-! ### for a, b in zip(x, y) -/
def zipD (xs ys : List D) : List D := List.zipWith (fun x y => D.tup [x, y]) xs ys
def iZ : List D → Option (List D)
  | [x, y] => match seqItems x, seqItems y with
    | some xs, some ys => some (zipD xs ys)
    | _, _ => none
  | _ => none
section
variable {K : PySem.W.Frag} {mg : Str → Option Value} {W : WX} {P : Program} {wd : World} {base : Heap} {N : List Str} {k : Nat} {ι : Type} {X : ι → Cx}
variable {a b c e : Expr} {Fa Fb Fc : SE → R D} {pos : Pos}
theorem chV_reps {G : Hp} (z : Str) : Reps K G (chV z) (signs z) := by
  unfold chV signs
  generalize z.cps.toList = l
  induction l with
  | nil => exact .nil
  | cons c l ih => exact .cons (.str _) ih
theorem zk_of {w : Wd} {ps : Nat → Option Addr} {σ : L2.St} {ρ : SE} {v : V} {d : D} {ds : List D} (st : Sts K w ps σ ρ) (r : Rep K w.G v d) (e : seqItems d = some ds) : ∃ (k : Zk) (xs : List V), v = k.val ∧ (∀ w', Step w w' → k.has K w'.H xs) ∧ Reps K w.G xs ds := by
  cases r with
  | lst hl rs =>
    cases e
    rename_i a vs
    exact ⟨.l a, vs, rfl, fun w' s => .inl (rd_keep (fun x q => s.keep a x q (fun z => by rw [st.disj _ z] at hl; cases hl)) (.inl (st.sub _ _ hl))), rs⟩
  | tup h rs =>
    cases e
    rename_i a vs
    refine ⟨.t a, vs, rfl, fun w' s => ?_, rs⟩
    rcases h with (h | ⟨o, h⟩) | h
    · exact .inl (.inl (s.keep a _ (st.sub _ _ h) fun z => by rw [st.disj _ z] at h; cases h))
    · exact .inl (.inr ⟨o, s.keep a _ (st.sub _ _ h) fun z => by rw [st.disj _ z] at h; cases h⟩)
    · exact .inr h
  | str z =>
    cases e
    exact ⟨.s z, chV z, rfl, fun w' s => rfl, chV_reps z⟩
  | _ => cases e
theorem zip_get {xs ys : List D} {i : Nat} {d : D} (h : (zipD xs ys)[i]? = some d) : ∃ x y, xs[i]? = some x ∧ ys[i]? = some y ∧ d = .tup [x, y] := by
  unfold zipD at h
  rw [List.getElem?_zipWith] at h
  cases e1 : xs[i]? with
  | none => rw [e1] at h; cases h
  | some x =>
    cases e2 : ys[i]? with
    | none => rw [e1, e2] at h; cases h
    | some y =>
      rw [e1, e2] at h
      cases h
      exact ⟨x, y, rfl, rfl, rfl⟩
theorem src_zip {w : Wd} {k1 k2 : Zk} {xs ys : List V} {ds es : List D} (h1 : ∀ w', Step w w' → k1.has K w'.H xs) (h2 : ∀ w', Step w w' → k2.has K w'.H ys) (r1 : Reps K w.G xs ds) (r2 : Reps K w.G ys es) : Src K w (ItzM K k1 k2) (zipD ds es) where
  go := fun i w' s hi => by
    unfold zipD at hi
    rw [List.length_zipWith] at hi
    exact ⟨xs, ys, h1 w' s, h2 w' s, by rw [r1.len]; omega, by rw [r2.len]; omega⟩
  yld := fun i w' x H' d ps σ ρ s st e hy => by
    obtain ⟨dx, dy, e1, e2, rfl⟩ := zip_get e
    obtain ⟨T, vx, vy, rfl, hT, rfl, f1, f2⟩ := hy
    obtain ⟨vx', g1, q1⟩ := r1.get e1
    obtain ⟨vy', g2, q2⟩ := r2.get e2
    rw [f1 xs (h1 w' s)] at g1
    rw [f2 ys (h2 w' s)] at g2
    cases g1; cases g2
    exact ⟨(w'.gnew T (.tup [vx, vy])).G, st.gnew _ hT, st.gnewS _ hT, .tup (SqT.of upd_same) (.cons (q1.mono (s.froz.trans (Same.new (st.gfree hT)))) (.cons (q2.mono (s.froz.trans (Same.new (st.gfree hT)))) .nil))⟩
  stop := fun w' s => ⟨xs, ys, h1 w' s, h2 w' s, by unfold zipD; rw [List.length_zipWith, r1.len, r2.len]⟩
theorem i_zip (hf : Fam P wd K mg base N k W X) {p tpos : Pos} {elts : List Expr} {kk : Nat} {F : SE → R (List D)} (hm : mg "zip" = none) (ha : BA K mg W X [a, b] F) (hg : ∀ i, Gl (X i) "zip" := by exact fun _ => rfl)
    (hs : ∀ i, starEach [a, b] (X i).env = (false, eval a (X i).env) :: starEach [b] (X i).env := by intro _; rfl) (hpl : ∀ i, (backTo pos (starEach [b] (X i).env)).any (·.1) = false := by intro _; rfl) :
    BI K mg W X (.Tuple elts kk tpos) (.Call (.Name "zip" p) [a, b] [] pos) (iOf iZ F) := by
  obtain ⟨ta, pa, sa⟩ := ha.ex
  refine ⟨iZipM K ta, fun i => by
    have q := pi_zipM (X := X i) (p := p) (pos := pos) (tpos := tpos) (elts := elts) (kk := kk) (hg i) (by rw [hf.hm]; exact hm) (pa i) (hs i) (hpl i)
    rw [hf.hK i] at q
    exact q, fun w ps σ ρ Q st h => sa w ps σ ρ _ st (h.bind.imp (fun xs ρ1 h1 vs w1 s1 o1 st1 r1 => ?_) fun _ _ _ q => q)⟩
  obtain ⟨ds, e, h2⟩ := post_of h1
  unfold iZ at e
  split at e
  · rename_i x y
    split at e
    · rename_i xs ys e1 e2
      cases e
      cases r1 with
      | cons r rr => cases rr with
        | cons r2 rr =>
          cases rr
          obtain ⟨k1, us, rfl, hh1, q1⟩ := zk_of st1 r e1
          obtain ⟨k2, us2, rfl, hh2, q2⟩ := zk_of st1 r2 e2
          exact ⟨k1, k2, us, us2, rfl, hh1 w1 (Step.refl _), hh2 w1 (Step.refl _), h2 _ w1 s1 o1 st1 (src_zip hh1 hh2 q1 q2)⟩
    · cases e
  · cases e
end

/-! ### dicts: keys numbers and texts -/
def keyOf : D → Option Key
  | .int i => some (.inl i)
  | .str s => some (.inr s)
  | _ => none
def zGet {κ : Type} [DecidableEq κ] : List κ → List D → κ → Option D
  | k :: ks, d :: ds, x => if k = x then some d else zGet ks ds x
  | _, _, _ => none
def zSet {κ : Type} [DecidableEq κ] : List κ → List D → κ → D → List D
  | k :: ks, d :: ds, x, y => (if k = x then y else d) :: zSet ks ds x y
  | _, _, _, _ => []
def zHas {κ : Type} [DecidableEq κ] (ks : List κ) (x : κ) : Bool := ks.any fun k => decide (k = x)
def zPutK {κ : Type} [DecidableEq κ] (ks : List κ) (x : κ) : List κ := if zHas ks x = true then ks else ks ++ [x]
def zPutD {κ : Type} [DecidableEq κ] (ks : List κ) (ds : List D) (x : κ) (y : D) : List D := if zHas ks x = true then zSet ks ds x y else ds ++ [y]
section
variable {K : PySem.W.Frag} {κ : Type} [DecidableEq κ]
theorem zGet_ok {G : Hp} : ∀ {ks : List κ} {vs : List V} {ds : List D} {x : κ} {d : D}, Reps K G vs ds → zGet ks ds x = some d → ∃ v, valV (ks.zip vs) x = some v ∧ Rep K G v d
  | [], _, _, _, _, _, h => by unfold zGet at h; cases h
  | k :: ks, _, _, x, d, .nil, h => by unfold zGet at h; cases h
  | k :: ks, _, _, x, d, .cons (v := v) (d := d') (vs := vs) (ds := ds) r t, h => by
    unfold zGet at h
    by_cases e : k = x
    · rw [if_pos e] at h
      cases h
      exact ⟨v, valV_pos (p := (k, v)) e, r⟩
    · rw [if_neg e] at h
      obtain ⟨u, h1, h2⟩ := zGet_ok (ks := ks) t h
      exact ⟨u, by rw [List.zip_cons_cons, valV_neg (p := (k, v)) e]; exact h1, h2⟩
theorem zGet_none {G : Hp} : ∀ {ks : List κ} {vs : List V} {ds : List D} {x : κ}, Reps K G vs ds → zGet ks ds x = none → valV (ks.zip vs) x = none
  | [], _, _, _, _, h => rfl
  | k :: ks, _, _, x, .nil, h => by rw [List.zip_nil_right]; rfl
  | k :: ks, _, _, x, .cons (v := v) (d := d') (vs := vs) (ds := ds) r t, h => by
    unfold zGet at h
    by_cases e : k = x
    · rw [if_pos e] at h
      cases h
    · rw [if_neg e] at h
      rw [List.zip_cons_cons, valV_neg (p := (k, v)) e]
      exact zGet_none (ks := ks) t h
def zSetV : List κ → List V → κ → V → List V
  | k :: ks, d :: ds, x, y => (if k = x then y else d) :: zSetV ks ds x y
  | _, _, _, _ => []
theorem zip_any {ks : List κ} {vs : List V} (h : ks.length = vs.length) (x : κ) : ((ks.zip vs).any fun kv => decide (kv.1 = x)) = zHas ks x := by
  induction ks generalizing vs with
  | nil => rfl
  | cons k ks ih =>
    cases vs with
    | nil => cases h
    | cons v vs =>
      unfold zHas
      rw [List.zip_cons_cons, List.any_cons, List.any_cons]
      have := ih (vs := vs) (by simpa using h)
      unfold zHas at this
      rw [this]
theorem zip_set {ks : List κ} {vs : List V} (h : ks.length = vs.length) (x : κ) (y : V) : ((ks.zip vs).map fun kv => if kv.1 = x then (kv.1, y) else kv) = ks.zip (zSetV ks vs x y) := by
  induction ks generalizing vs with
  | nil => rfl
  | cons k ks ih =>
    cases vs with
    | nil => cases h
    | cons v vs =>
      rw [List.zip_cons_cons, List.map_cons, ih (vs := vs) (by simpa using h)]
      show _ = (k :: ks).zip ((if k = x then y else v) :: zSetV ks vs x y)
      rw [List.zip_cons_cons]
      by_cases e : k = x
      · rw [if_pos e, if_pos e]
      · rw [if_neg e, if_neg e]
theorem zSet_len : ∀ (ks : List κ) (vs : List V) (x : κ) (y : V), ks.length = vs.length → ks.length = (zSetV ks vs x y).length
  | [], _, _, _, _ => rfl
  | k :: ks, [], _, _, h => by cases h
  | k :: ks, v :: vs, x, y, h => by
    unfold zSetV
    rw [List.length_cons, List.length_cons, zSet_len ks vs x y (by simpa using h)]
theorem zSet_reps {G : Hp} {y : V} {d : D} (r : Rep K G y d) (x : κ) : ∀ {ks : List κ} {vs : List V} {ds : List D}, Reps K G vs ds → ks.length = vs.length → Reps K G (zSetV ks vs x y) (zSet ks ds x d)
  | [], _, _, _, _ => by unfold zSetV zSet; exact .nil
  | k :: ks, _, _, .nil, h => by cases h
  | k :: ks, _, _, .cons (v := v) (d := d') (vs := vs) (ds := ds) q t, h => by
    unfold zSetV zSet
    refine .cons ?_ (zSet_reps r x t (by simpa using h))
    by_cases e : k = x
    · rw [if_pos e, if_pos e]; exact r
    · rw [if_neg e, if_neg e]; exact q
theorem zip_put {G : Hp} {ks : List κ} {vs : List V} {ds : List D} {x : κ} {y : V} {d : D} (h : ks.length = vs.length) (rs : Reps K G vs ds) (r : Rep K G y d) : ∃ vs', putK (ks.zip vs) x y = (zPutK ks x).zip vs' ∧ (zPutK ks x).length = vs'.length ∧ Reps K G vs' (zPutD ks ds x d) := by
  unfold putK zPutK zPutD
  rw [zip_any h]
  by_cases e : zHas ks x = true
  · rw [if_pos e, if_pos e, if_pos e]
    exact ⟨zSetV ks vs x y, zip_set h x y, zSet_len ks vs x y h, zSet_reps r x rs h⟩
  · rw [if_neg e, if_neg e, if_neg e]
    exact ⟨vs ++ [y], by rw [List.zip_append h]; rfl, by rw [List.length_append, List.length_append, h]; rfl, rs.app (.cons r .nil)⟩
end
theorem key_rep {K : PySem.W.Frag} {G : Hp} {v : V} {d : D} {k : Key} (r : Rep K G v d) (e : keyOf d = some k) : v = kV k := by
  unfold keyOf at e
  split at e
  · cases r; cases e; rfl
  · cases r; cases e; rfl
  · cases e
/-- d[k] of a slot's dict -/
def eDGet (i : Nat) (Fb : SE → R D) : SE → R D := fun ρ => match conOf ρ i with
  | none => .stuck
  | some _ => (Fb ρ).bind fun y ρ1 => match conOf ρ1 i, keyOf y with
    | some (.dk ks ds), some k => R.of ρ1 (zGet ks ds k)
    | _, _ => .stuck
def sDPut_ (i : Nat) (Fb Fv : SE → R D) : SE → O := fun ρ => (Fv ρ).to fun v ρ1 => match mineOf ρ1 i with
  | none => .stuck
  | some _ => (Fb ρ1).to fun j ρ2 => match mineOf ρ2 i, keyOf j with
    | some (.dk ks ds), some k => if ks.length < sizeLine then .nx (setMine ρ2 i (.dk (zPutK ks k) (zPutD ks ds k v))) else .stuck
    | _, _ => .stuck
section
variable {K : PySem.W.Frag} {mg : Str → Option Value} {W : WX} {P : Program} {wd : World} {base : Heap} {N : List Str} {k : Nat} {ι : Type} {X : ι → Cx}
variable {a b c e : Expr} {Fa Fb Fc : SE → R D} {pos : Pos}
theorem roomU (hf : Fam P wd K mg base N k W X) (j : ι) : (X j).A.units + 1 < cLine := by
  have := (hf.room j).units
  omega
theorem b_dget (hf : Fam P wd K mg base N k W X) (i : Nat) {x : Str} {p : Pos} (hb : BE K mg W X b Fb) (hN : N[i]? = some x := by rfl) (hv : ∀ j, Vis (X j).env.scope x := by first | exact fun _ => Or.inl rfl | exact fun _ => Or.inr (Or.inl rfl) | exact fun _ => Or.inr (Or.inr rfl)) (hs : NoSl b := by exact fun _ _ => rfl)
    (hd : (x == ("__debug__" : Str)) = false := by decide) (hcd : (x == ("__classdict__" : Str)) = false := by decide) : BE K mg W X (.Subscript (.Name x p) b pos) (eDGet i Fb) := by
  obtain ⟨tb, pb, sb⟩ := hb.ex
  refine ⟨tDGet (tVar i) tb, fun j => pe_dget (roomU hf j) (pe_var (i := i) (by rw [hf.hN]; exact hN) (hv j) hd hcd) (pb j) hs, fun w ps σ ρ Q st h => ?_⟩
  unfold eDGet at h
  split at h
  · exact h.elim
  · rename_i d0 e0
    obtain ⟨a, e1, _⟩ := conOf_ok st e0
    refine ⟨.ref a, e1, sb w ps σ ρ _ st (h.bind.imp (fun y ρ1 h1 v1 w1 s1 o1 st1 r1 => ?_) fun _ _ _ q => q)⟩
    split at h1
    · rename_i ks ds key e2 ek
      obtain ⟨d, e3, h2⟩ := post_of h1
      obtain ⟨a', e4, vs, c4, l4, r4⟩ := conOf_ok st1 e2
      rw [e1] at e4
      cases e4
      obtain ⟨v, q1, q2⟩ := zGet_ok (ks := ks) r4 e3
      exact ⟨a, v, rfl, .inl ⟨_, key, .inl c4, key_rep r1 ek, q1.symm⟩, h2 v w1 s1 o1 st1 q2⟩
    · exact h1.elim
theorem s_dput (hf : Fam P wd K mg base N k W X) (i : Nat) {x : Str} {p p2 : Pos} (hb : BE K mg W X b Fb) (hc : BE K mg W X c Fc) (hN : N[i]? = some x := by rfl)
    (hv : ∀ j, Vis (X j).env.scope x := by first | exact fun _ => Or.inl rfl | exact fun _ => Or.inr (Or.inl rfl) | exact fun _ => Or.inr (Or.inr rfl)) (hd : (x == ("__debug__" : Str)) = false := by decide) (hcd : (x == ("__classdict__" : Str)) = false := by decide)
    (hs : ∀ j, swapsWith c (some (.Subscript (.Name x p) b p2)) pos.line (X j).env = pure false := by intro _; rfl) : BS K mg W X (.Assign [.Subscript (.Name x p) b p2] c pos) (sDPut_ i Fb Fc) := by
  obtain ⟨tb, pb, sb⟩ := hb.ex
  obtain ⟨tc, pc, sc⟩ := hc.ex
  refine ⟨_, fun j => ps_dput (roomU hf j) (pe_var (i := i) (by rw [hf.hN]; exact hN) (hv j) hd hcd) (pb j) (pc j) (hs j), fun w ps σ ρ D_ st h => ?_⟩
  refine sc w ps σ ρ _ st (h.to.imp (fun v ρ1 h1 v1 w1 s1 o1 st1 r1 => ?_) fun _ _ _ q => q)
  split at h1
  · exact h1.elim
  · rename_i d0 e0
    obtain ⟨a, _, e1, _, _, _, _⟩ := mineOf_ok st1 e0
    have h1 := PostS.step s1 h1
    refine ⟨.ref a, e1, sb w1 ps σ ρ1 _ st1 ((h1.to (σ := σ)).imp (fun y ρ2 h2 v2 w2 s2 o2 st2 r2 => ?_) fun _ _ _ q => q)⟩
    split at h2
    · rename_i ks ds key e2 ek
      split at h2
      · rename_i hz
        obtain ⟨a', _, e4, _, ⟨vs, hv', l4, rv⟩, _, _⟩ := mineOf_ok st2 e2
        rw [e1] at e4
        cases e4
        obtain ⟨vs', q1, q2, q3⟩ := zip_put (x := key) l4 rv (r1.mono s2.froz)
        refine ⟨a, _, rfl, .inl ⟨_, key, hv', key_rep r2 ek, by rw [List.length_zip]; omega, rfl⟩, ?_⟩
        obtain ⟨a', e5, _, hst⟩ := mut_step (o := .dK (putK (ks.zip vs) key v1)) (d' := .dk (zPutK ks key) (zPutD ks ds key v)) st2 e2
        rw [e1] at e5
        cases e5
        obtain ⟨s3, st3⟩ := hst ⟨vs', by rw [← q1]; exact upd_same, q2, q3⟩
        exact h2 σ ⟨w2.G, upd w2.H a _, w2.o⟩ (s2.trans s3) st3
      · exact h2.elim
    · exact h2.elim
end
end DL

set_option Elab.async false
set_option linter.all false
set_option maxRecDepth 100000
set_option maxHeartbeats 2000000
namespace DL
open PySem PySem.Spec PyProof.Rows L2

/-! ### {k: v, ..}, {} -/
def ppNil : SE → R (List (Key × D)) := fun ρ => .ok [] ρ
def ppCons (Fk Fv : SE → R D) (Fr : SE → R (List (Key × D))) : SE → R (List (Key × D)) := fun ρ => (Fk ρ).bind fun x ρ1 => match keyOf x with
  | some k => (Fv ρ1).bind fun y ρ2 => (Fr ρ2).bind fun ps ρ3 => .ok ((k, y) :: ps) ρ3
  | none => .stuck
def borsOf : SE → List Bool := List.map fun s => match s with
  | .bor _ => true
  | _ => false
def zMerge : List Key → List D → List (Key × D) → List Key × List D
  | ks, ds, [] => (ks, ds)
  | ks, ds, (k, d) :: r => zMerge (zPutK ks k) (zPutD ks ds k d) r
def eDisp (F : SE → R (List (Key × D))) : SE → R D := fun ρ => (F ρ).bind fun ps ρ1 => if borsOf ρ1 = borsOf ρ ∧ ps.length ≤ 15 then .ok (.dk (zMerge [] [] ps).1 (zMerge [] [] ps).2) ρ1 else .stuck
def eDNewK : SE → R D := fun ρ => .ok (.dk [] []) ρ
def eDNewT : SE → R D := fun ρ => .ok (.dt [] []) ρ
inductive RepP (K : PySem.W.Frag) (G : Hp) : List (V × V) → List (Key × D) → Prop
  | nil : RepP K G [] []
  | cons {k : Key} {v : V} {d : D} {vs : List (V × V)} {ds : List (Key × D)} (r : Rep K G v d) (t : RepP K G vs ds) : RepP K G ((kV k, v) :: vs) ((k, d) :: ds)
theorem RepP.mono {K : PySem.W.Frag} {G G' : Hp} (h : Same G G') {vs : List (V × V)} {ds : List (Key × D)} (r : RepP K G vs ds) : RepP K G' vs ds := by
  induction r with
  | nil => exact .nil
  | cons r t ih => exact .cons (r.mono h) ih
theorem RepP.kvs {K : PySem.W.Frag} {G : Hp} {vs : List (V × V)} {ds : List (Key × D)} (r : RepP K G vs ds) : ∃ kvs : List (Key × V), vs = kvs.map (fun kv => (kV kv.1, kv.2)) ∧ kvs.length = ds.length ∧
    ∀ (ks : List Key) (us : List V) (es : List D), ks.length = us.length → Reps K G us es → ∃ us', mergeK (ks.zip us) kvs = (zMerge ks es ds).1.zip us' ∧ (zMerge ks es ds).1.length = us'.length ∧ Reps K G us' (zMerge ks es ds).2 := by
  induction r with
  | nil => exact ⟨[], rfl, rfl, fun ks us es h r => ⟨us, rfl, h, r⟩⟩
  | @cons k v d vs ds r t ih =>
    obtain ⟨kvs, e1, e2, h3⟩ := ih
    refine ⟨(k, v) :: kvs, by rw [e1]; rfl, by rw [List.length_cons, List.length_cons, e2], fun ks us es h rr => ?_⟩
    obtain ⟨us', q1, q2, q3⟩ := zip_put (x := k) h rr r
    obtain ⟨us2, p1, p2, p3⟩ := h3 _ us' _ q2 q3
    refine ⟨us2, ?_, p2, p3⟩
    show mergeK (putK (ks.zip us) k v) kvs = _
    rw [q1]
    exact p1
section
variable {K : PySem.W.Frag} {mg : Str → Option Value} {W : WX} {P : Program} {wd : World} {base : Heap} {N : List Str} {k : Nat} {ι : Type} {X : ι → Cx}
variable {a b c e : Expr} {Fa Fb Fc : SE → R D} {pos : Pos}
theorem b_dnewK : BO K mg W X (.Dict [] [] pos) eDNewK := ⟨_, fun _ => pe_dnewK, fun w ps σ ρ Q st h p hp => h p (w.hnew p (.dK [])) (st.hnew _ hp) rfl (st.hnewS _ hp) ⟨[], upd_same, rfl, .nil⟩ (st.gfree hp) hp (st.noB hp)⟩
theorem b_dnewT : BO K mg W X (.Dict [] [] pos) eDNewT := ⟨_, fun _ => pe_dnewT, fun w ps σ ρ Q st h p hp => h p (w.hnew p (.dT [])) (st.hnew _ hp) rfl (st.hnewS _ hp) ⟨[], upd_same, rfl, .nil⟩ (st.gfree hp) hp (st.noB hp)⟩
def SemPP (K : PySem.W.Frag) (mg : Str → Option Value) (W : WX) (trs : List (TE × TE)) (F : SE → R (List (Key × D))) : Prop := ∀ (w : Wd) (ps : Nat → Option Addr) (σ : L2.St) (ρ : SE) (Q : List (V × V) → Hp → Prop), Sts K w ps σ ρ →
  (F ρ).Post (fun ds ρ' => ∀ vs w', Step w w' → w'.o = w.o → Sts K w' ps σ ρ' → RepP K w'.G vs ds → Q vs w'.H) (PX K mg W w ps σ) → tPairs trs σ w.H Q
structure BPP (K : PySem.W.Frag) (mg : Str → Option Value) (W : WX) {ι : Type} (X : ι → Cx) (pos : Pos) (keys : List (Option Expr)) (values : List Expr) (F : SE → R (List (Key × D))) : Prop where
  ex : ∃ trs, (∀ i, PPs (X i) pos keys values trs) ∧ SemPP K mg W trs F
theorem pp_nil : BPP K mg W X pos [] [] ppNil := ⟨[], fun _ => pps_nil, fun w ps σ ρ Q st h => h [] w (Step.refl w) rfl st .nil⟩
theorem pp_cons {ks : List (Option Expr)} {vs : List Expr} {Fr : SE → R (List (Key × D))} (ha : BE K mg W X a Fa) (hb : BE K mg W X b Fb) (hr : BPP K mg W X pos ks vs Fr) : BPP K mg W X pos (some a :: ks) (b :: vs) (ppCons Fa Fb Fr) := by
  obtain ⟨ta, pa, sa⟩ := ha.ex
  obtain ⟨tb, pb, sb⟩ := hb.ex
  obtain ⟨tr, pr, sr⟩ := hr.ex
  refine ⟨_, fun i => pps_cons (pa i) (pb i) (pr i), fun w ps σ ρ Q st h => sa w ps σ ρ _ st (h.bind.imp (fun x ρ1 h1 v1 w1 s1 o1 st1 r1 => ?_) fun _ _ _ q => q)⟩
  split at h1
  · rename_i key ek
    have ek := key_rep r1 ek
    subst ek
    refine sb w1 ps σ ρ1 _ st1 (h1.bind.imp (fun y ρ2 h2 v2 w2 s2 o2 st2 r2 => ?_) fun _ _ _ q => q.step s1 o1)
    exact sr w2 ps σ ρ2 _ st2 (h2.bind.imp (fun z ρ3 h3 v3 w3 s3 o3 st3 r3 => h3 _ w3 (s1.trans (s2.trans s3)) (o3.trans (o2.trans o1)) st3 (.cons (r2.mono s3.froz) r3)) fun _ _ _ q => q.step (s1.trans s2) (o2.trans o1))
  · exact h1.elim
theorem borsOf_get {ρ ρ' : SE} (h : borsOf ρ' = borsOf ρ) {j : Nat} {d : D} (e : ρ'[j]? = some (.bor d)) : ∃ d', ρ[j]? = some (.bor d') := by
  have q : (borsOf ρ')[j]? = (borsOf ρ)[j]? := by rw [h]
  unfold borsOf at q
  rw [List.getElem?_map, List.getElem?_map, e] at q
  cases e2 : ρ[j]? with
  | none => rw [e2] at q; cases q
  | some s =>
    rw [e2] at q
    cases s with
    | bor d' => exact ⟨d', rfl⟩
    | any => cases q
    | val _ => cases q
    | own _ => cases q
    | mt _ => cases q
/-- a cell of nobody's is written -/
theorem upd_free {w : Wd} {ps : Nat → Option Addr} {σ : L2.St} {ρ : SE} {p : Addr} {o : HO} (st : Sts K w ps σ ρ) (ho : ¬ w.o p) (hg : w.G p = none) (hb : NoB σ ρ p) : Sts K ⟨w.G, upd w.H p o, w.o⟩ ps σ ρ := by
  refine ⟨fun a x h => ?_, st.disj, fun a h => upd_ne_none (st.tr a h), st.len, fun j t h => ?_, st.apart⟩
  · have : a ≠ p := fun z => by rw [z, hg] at h; cases h
    show upd w.H p o a = some x
    rw [upd_ne this]
    exact st.sub a x h
  · have q := st.sl j t h
    have conNe : ∀ {b : Addr} {d : D}, b ≠ p → Con K w b d → Con K ⟨w.G, upd w.H p o, w.o⟩ b d := fun {b d} ne hc => by
      cases d with
      | lst ds => obtain ⟨vs, h, r⟩ := hc; exact ⟨vs, by show upd w.H p o b = _; rw [upd_ne ne]; exact h, r⟩
      | dk ks ds => obtain ⟨vs, h, l, r⟩ := hc; exact ⟨vs, by show upd w.H p o b = _; rw [upd_ne ne]; exact h, l, r⟩
      | dt ks ds => obtain ⟨vs, h, l, r⟩ := hc; exact ⟨vs, by show upd w.H p o b = _; rw [upd_ne ne]; exact h, l, r⟩
      | _ => exact hc
    have conBNe : ∀ {b : Addr} {d : D}, b ≠ p → ConB K w b d → ConB K ⟨w.G, upd w.H p o, w.o⟩ b d := fun {b d} ne hc => by
      cases d with
      | lst ds => obtain ⟨vs, h, r⟩ := hc; exact ⟨vs, rd_keep (fun x q => by show upd w.H p o b = _; rw [upd_ne ne]; exact q) h, r⟩
      | dk ks ds => obtain ⟨vs, h, l, r⟩ := hc; exact ⟨vs, by show upd w.H p o b = _; rw [upd_ne ne]; exact h, l, r⟩
      | dt ks ds => obtain ⟨vs, h, l, r⟩ := hc; exact ⟨vs, by show upd w.H p o b = _; rw [upd_ne ne]; exact h, l, r⟩
      | _ => exact hc
    cases t with
    | any => unfold SlOk; trivial
    | val d =>
      cases e1 : σ[j]? with
      | none => rw [e1] at q; exact q
      | some x => cases x with
        | none => rw [e1] at q; exact q
        | some v => rw [e1] at q; exact q
    | own d =>
      cases e1 : σ[j]? with
      | none => rw [e1] at q; exact q
      | some x => cases x with
        | none => rw [e1] at q; exact q
        | some v => cases v with
          | ref b => rw [e1] at q; exact ⟨q.1, conNe (fun z => ho (z ▸ q.1)) q.2⟩
          | _ => rw [e1] at q; exact q
    | mt d =>
      cases e1 : σ[j]? with
      | none => rw [e1] at q; exact q
      | some x => cases x with
        | none => rw [e1] at q; exact q
        | some v => cases v with
          | ref b => rw [e1] at q; exact ⟨q.1, conNe (fun z => ho (z ▸ q.1)) q.2.1, q.2.2⟩
          | _ => rw [e1] at q; exact q
    | bor d =>
      cases e1 : σ[j]? with
      | none => rw [e1] at q; exact q
      | some x => cases x with
        | none => rw [e1] at q; exact q
        | some v => cases v with
          | ref b => rw [e1] at q; exact ⟨q.1, conBNe (fun z => hb j d h (by rw [e1, z])) q.2⟩
          | _ => rw [e1] at q; exact q
theorem b_disp {keys : List (Option Expr)} {values : List Expr} {F : SE → R (List (Key × D))} (h : BPP K mg W X pos keys values F) (hall : keys.all (·.isSome) = true := by rfl) (hl : keys.length = values.length := by rfl) (h0 : keys ≠ [] := by exact fun z => nomatch z) (h15 : keys.length ≤ 15 := by decide) :
    BO K mg W X (.Dict keys values pos) (eDisp F) := by
  obtain ⟨tr, pr, sr⟩ := h.ex
  refine ⟨_, fun i => pe_disp (pr i) hall hl h0 h15, fun w ps σ ρ Q st h p hp => ?_⟩
  refine sr (w.hnew p (.dK [])) ps σ ρ _ (st.hnewS _ hp) ?_
  have s0 := st.hnew (.dK []) hp
  unfold eDisp at h
  cases e : F ρ with
  | stuck => rw [e] at h; exact h.elim
  | raise c d ρ1 =>
    rw [e] at h
    have h : PX K mg W w ps σ c d ρ1 := h
    exact h.step s0 rfl
  | ok ds ρ1 =>
    rw [e] at h
    have h : (if borsOf ρ1 = borsOf ρ ∧ ds.length ≤ 15 then R.ok (D.dk (zMerge [] [] ds).1 (zMerge [] [] ds).2) ρ1 else R.stuck).Post (fun d ρ' => ∀ a w', Step w w' → w'.o = w.o → Sts K w' ps σ ρ' → Con K w' a d → w'.G a = none → w.H a = none → NoB σ ρ' a → Q (.ref a) w'.H) (PX K mg W w ps σ) := h
    split at h
    · rename_i hb
      intro vs w' s' o' st' r'
      have hpw : w'.H p = some (.dK []) := s'.keep p _ upd_same (st.ofree hp)
      have gp : w'.G p = none := by
        cases eg : w'.G p with
        | none => rfl
        | some z =>
          rcases s'.newG p (by rw [eg]; exact nn_some) with q | q | q
          · exact absurd (st.gfree hp) q
          · have q : upd w.H p (.dK []) p = none := q
            rw [upd_same] at q; cases q
          · exact absurd q (st.ofree hp)
      have op : ¬ w'.o p := by rw [o']; exact st.ofree hp
      have nb : NoB σ ρ1 p := fun j d ej z => by
        obtain ⟨d', e'⟩ := borsOf_get hb.1 ej
        exact st.noB hp j d' e' z
      obtain ⟨kvs, e1, e2, e3⟩ := r'.kvs
      obtain ⟨us', q1, q2, q3⟩ := e3 [] [] [] rfl .nil
      refine ⟨hpw, kvs, e1, by rw [e2]; exact hb.2, ?_⟩
      have s2 : Step w w' := s0.trans s'
      refine h p ⟨w'.G, upd w'.H p (.dK (mergeK [] kvs)), w'.o⟩ ⟨fun a x ha n => ?_, s2.froz, s2.newG, s2.own, fun a ha => upd_ne_none (s2.there a ha)⟩ o' (upd_free st' op gp nb) ⟨us', by rw [← q1]; exact upd_same, q2, q3⟩ gp hp nb
      show upd w'.H p _ a = some x
      rw [upd_ne (ne_of_none ha hp)]
      exact s2.keep a x ha n
    · exact h.elim
end
end DL

set_option Elab.async false
set_option linter.all false
set_option maxRecDepth 100000
set_option maxHeartbeats 2000000
namespace DL
open PySem PySem.Spec PyProof.Rows L2

/-! ### what a law's text leans on -/
/-- the def x of the module -/
structure DefOk (K : PySem.W.Frag) (mg : Str → Option Value) (x : Str) (st : Stmt) (pn : List Str) : Prop where
  ex : ∃ f fd, mg x = some (.ref f) ∧ Fun K x x st f fd ∧ Binds K fd pn []
/-- the exception class x -/
structure ExcOk (P : Program) (K : PySem.W.Frag) (mg : Str → Option Value) (x : Str) : Prop where
  ok : ∃ C D fI fd, mg x = some (.ref C) ∧ InitF P K mg D fI fd ∧ ClsS K D C ∧ Binds K fd ["self", "value"] [] ∧ PySem.W.findIn K (.ref C) "__init__" = some (some (.ref fI)) ∧ PySem.W.typeIn K (.ref fI) = some (.type "function") ∧ XfC K C
theorem ExcOk.cls {P : Program} {K : PySem.W.Frag} {mg : Str → Option Value} {x : Str} (h : ExcOk P K mg x) : ∃ C, mg x = some (.ref C) := by
  obtain ⟨C, D_, fI, fd, h1, _⟩ := h.ok
  exact ⟨C, h1⟩
theorem ExcOk.ex {P : Program} {K : PySem.W.Frag} {mg : Str → Option Value} {x : Str} (h : ExcOk P K mg x) : ∀ C, mg x = some (.ref C) → XfC K C ∧ PySem.W.findIn K (.ref C) "value" = some none := by
  obtain ⟨C, D_, fI, fd, h1, h2, h3, h4, h5, h6, h7⟩ := h.ok
  intro C' e
  rw [h1] at e
  cases e
  exact ⟨h7, h3.val⟩
theorem exF_of {K : PySem.W.Frag} {mg : Str → Option Value} {all xs : List Str} {sub : Str → Str → Bool} (h1 : ∀ c ∈ all, ∀ C, mg c = some (.ref C) → XfC K C ∧ PySem.W.findIn K (.ref C) "value" = some none)
    (h2 : ∀ c ∈ all, ∀ x ∈ all, ∀ C X, mg c = some (.ref C) → mg x = some (.ref X) → PySem.W.exmOne K (.ref C) (.ref X) = some (sub c x)) (hx : ∀ x ∈ xs, x ∈ all) : ExF K mg all xs sub :=
  ⟨fun c hc C e => ⟨(h1 c hc C e).1, (h1 c hc C e).2, fun x hxs D_ e2 => h2 c hc x (hx x hxs) C D_ e e2⟩⟩
theorem isT_of {K : PySem.W.Frag} {T : String} (h : ∀ u ∈ ["NoneType", "bool", "int", "str", "tuple", "list", "dict"], PySem.W.kitOne K (.type u) (.type T) = some (u == T || (T == "int" && u == "bool"))) : IsT K T :=
  ⟨fun d => h _ (by cases d <;> simp [tyOf])⟩
theorem isT_int {K : PySem.W.Frag} : IsT K "int" := isT_of fun u hu => by
  simp only [List.mem_cons, List.not_mem_nil, or_false] at hu
  rcases hu with rfl | rfl | rfl | rfl | rfl | rfl | rfl <;> kernel_rfl
theorem isT_bool {K : PySem.W.Frag} : IsT K "bool" := isT_of fun u hu => by
  simp only [List.mem_cons, List.not_mem_nil, or_false] at hu
  rcases hu with rfl | rfl | rfl | rfl | rfl | rfl | rfl <;> kernel_rfl
theorem isT_str {K : PySem.W.Frag} : IsT K "str" := isT_of fun u hu => by
  simp only [List.mem_cons, List.not_mem_nil, or_false] at hu
  rcases hu with rfl | rfl | rfl | rfl | rfl | rfl | rfl <;> kernel_rfl
theorem isT_tuple {K : PySem.W.Frag} : IsT K "tuple" := isT_of fun u hu => by
  simp only [List.mem_cons, List.not_mem_nil, or_false] at hu
  rcases hu with rfl | rfl | rfl | rfl | rfl | rfl | rfl <;> kernel_rfl
theorem isT_list {K : PySem.W.Frag} : IsT K "list" := isT_of fun u hu => by
  simp only [List.mem_cons, List.not_mem_nil, or_false] at hu
  rcases hu with rfl | rfl | rfl | rfl | rfl | rfl | rfl <;> kernel_rfl
theorem isT_dict {K : PySem.W.Frag} : IsT K "dict" := isT_of fun u hu => by
  simp only [List.mem_cons, List.not_mem_nil, or_false] at hu
  rcases hu with rfl | rfl | rfl | rfl | rfl | rfl | rfl <;> kernel_rfl
section
variable {K : PySem.W.Frag} {mg : Str → Option Value} {W : WX} {P : Program} {wd : World} {base : Heap} {N : List Str} {k : Nat} {ι : Type} {X : ι → Cx}
variable {a b c e : Expr} {Fa Fb Fc : SE → R D} {pos : Pos}
theorem DefOk.cl {x : Str} {st : Stmt} {pn : List Str} {j : Nat} (h : DefOk K mg x st pn) (S : FnScope N pn (defScope st)) (ms : List Mo) (hl : ms.length = pn.length) (hm : (ms.filter (· = .m)).length ≤ 1) {G : SE → O}
    (hb : ∀ (f : Addr) (cdv : Value) (A : Around) (outer : List PySem.Env) (s : Shared) (H : Hp) (E : XK), Fam P wd K mg base N k (fun cls d _ H => E cls d H) (fun _ : Unit => cxOf (L2.CX P wd) P wd K mg base N x (defScope st) f cdv A outer s H E) →
      BSs K mg (fun cls d _ H => E cls d H) (fun _ : Unit => cxOf (L2.CX P wd) P wd K mg base N x (defScope st) f cdv A outer s H E) (defBody st) G) (hk : k + 1 ≤ j) : Cl P wd K mg base x j pn (runDef N.length ms G) ms := by
  obtain ⟨f, fd, hm', F, bi⟩ := h.ex
  refine ⟨f, fd, hm', F.kp, ?_, bi, (fn_mk F S ms hl hm fun cdv A outer s H E hf => hb f cdv A outer s H E hf).mono hk⟩
  obtain ⟨oc, od, kV, doc, pm, an, cdv, ct, osl, e, l, _⟩ := F.ex
  exact ⟨oc, od, osl, l⟩
theorem DefOk.zero {x : Str} {st : Stmt} {pn : List Str} {j : Nat} {ms : List Mo} (h : DefOk K mg x st pn) (hl : ms.length = pn.length) : Cl P wd K mg base x j pn (fun _ => .stuck) ms := by
  obtain ⟨f, fd, hm', F, bi⟩ := h.ex
  refine ⟨f, fd, hm', F.kp, ?_, bi, ⟨fun vs H Q E hs => ?_, fun A outer s H args us vs Q E _ _ _ _ hs => ?_⟩⟩
  · obtain ⟨oc, od, kV, doc, pm, an, cdv, ct, osl, e, l, _⟩ := F.ex
    exact ⟨oc, od, osl, l⟩
  · obtain ⟨w, ps, as, _, _, _, _, h5, _⟩ := hs
    rw [h5, hl]
  · obtain ⟨w, ps, as, _, _, _, _, _, hp⟩ := hs
    exact hp.elim
theorem DefOk.kcl {x : Str} {st : Stmt} {pn ks : List Str} {perm : List Nat} {j : Nat} {ms : List Mo} {fn : List D → FR} (h : DefOk K mg x st pn) (C : Cl P wd K mg base x j pn fn ms)
    (hb : ∀ (kV doc pm : Value) (an : Option Addr) (cdv ct : Value) (ws : List Value), ws.length = ks.length → bindArgs (PySem.W.fnOf x x (defArgs st) (defBody st) (defScope st) .none kV doc pm an cdv ct) ⟨[], ks.zip ws⟩ = pure (pn.zip (permL perm ws))) : KCl P wd K mg base x j pn ks perm fn ms := by
  obtain ⟨f, fd, hm', F, bi⟩ := h.ex
  obtain ⟨f2, fd2, hm2, hk2, ⟨oc2, od2, osl2, l2⟩, b2, ok2⟩ := C.ex
  rw [hm'] at hm2
  cases hm2
  obtain ⟨oc, od, kV, doc, pm, an, cdv, ct, osl, rfl, l, _⟩ := F.ex
  rw [l] at l2
  cases l2
  exact ⟨f, _, hm', hk2, fun s ws hw => .of_eq (hb kV doc pm an cdv ct ws hw), ok2⟩
theorem b_globS (hf : Fam P wd K mg base N k W X) {x z : Str} (hm : ∃ t, mg x = some (.str z t)) (hg : ∀ j, Gl (X j) x := by exact fun _ => rfl) (hd : (x == ("__debug__" : Str)) = false := by decide) : BE K mg W X (.Name x pos) (eC (.str z)) := by
  obtain ⟨t, e⟩ := hm
  exact b_glob hf e (v := .str z) ⟨t, rfl⟩ (fun _ => .str z) hg hd
theorem b_globI (hf : Fam P wd K mg base N k W X) {x : Str} {z : Int} (hm : ∃ t, mg x = some (.int z t)) (hg : ∀ j, Gl (X j) x := by exact fun _ => rfl) (hd : (x == ("__debug__" : Str)) = false := by decide) : BE K mg W X (.Name x pos) (eC (.int z)) := by
  obtain ⟨t, e⟩ := hm
  exact b_glob hf e (v := .int z) ⟨t, rfl⟩ (fun _ => .int z) hg hd
theorem s_raiseX (hf : Fam P wd K mg base N k W X) {x : Str} {p pos' : Pos} (h : ExcOk P K mg x) (ha : BE K mg W X a Fa) (hg : ∀ i, Gl (X i) x := by exact fun _ => rfl) (hdb : (x == ("__debug__" : Str)) = false := by decide) (hk : 2 ≤ k := by first | decide | omega)
    (he : ∀ i, starEach [a] (X i).env = (false, eval a (X i).env) :: starEach [] (X i).env := by intro _; rfl) : BS K mg W X (.Raise (some (.Call (.Name x p) [a] [] pos)) none pos') (sRaise x Fa) := by
  obtain ⟨C, D_, fI, fd, h1, h2, h3, h4, h5, h6, h7⟩ := h.ok
  exact s_raise hf h1 (mks_of hf h2 h3 h4 h5 h6 h1 hg hdb hk) ha he
theorem hd_cons {n x : Str} {i j : Nat} {h : D → D} {b₀ : Stmt} {suite : List Stmt} {np pos' : Pos} {hds : List ExceptHandler} {l : List (Str × (D → D))} (hC : ∃ C, mg x = some (.ref C)) (hb : BHd K X (b₀ :: suite) i j h) (r : BHds K mg X n i j hds l) (hg : ∀ l, Gl (X l) x := by exact fun _ => rfl) (hdb : (x == ("__debug__" : Str)) = false := by decide) :
    BHds K mg X n i j (.ExceptHandler (some (.Name x np)) (some n) (b₀ :: suite) pos' :: hds) ((x, h) :: l) := by
  obtain ⟨C, e⟩ := hC
  exact .cons e hb r hg hdb
theorem BH_o (h : BO K mg W X a Fa) : BH K mg W X true a Fa := h
theorem BH_v (h : BE K mg W X a Fa) : BH K mg W X false a Fa := h
end
/-! <=, >, >= of numbers and of texts -/
section
variable {K : PySem.W.Frag}
def gSS (f : Str → Str → Bool) : D → D → Option D
  | .str i, .str j => some (.bl (f i j))
  | _, _ => none
def rSS (f : Str → Str → Bool) : R2 := fun x y H Q => ∃ i j, x = .str i ∧ y = .str j ∧ Q (.bl (f i j)) H
theorem d_SS {f : Str → Str → Bool} : BinD K (rSS f) (gSS f) := fun w ps σ ρ x y a b d Q st ra rb e q => by
  unfold gSS at e
  split at e
  · cases ra; cases rb; cases e
    exact ⟨_, _, rfl, rfl, q _ w (Step.refl w) rfl st (.bl _)⟩
  · cases e
theorem o_leS {X : Cx} : OpR X (compareOp .LtE) (rSS fun i j => !sLt j i) := by
  intro pins s σ H x y v u Q I rx ry h
  obtain ⟨i, j, rfl, rfl, q⟩ := h
  obtain ⟨t, rfl⟩ := rx
  obtain ⟨t', rfl⟩ := ry
  exact PySem.P.le_str (fin_bl I q rfl)
theorem o_gtS {X : Cx} : OpR X (compareOp .Gt) (rSS fun i j => sLt j i) := by
  intro pins s σ H x y v u Q I rx ry h
  obtain ⟨i, j, rfl, rfl, q⟩ := h
  obtain ⟨t, rfl⟩ := rx
  obtain ⟨t', rfl⟩ := ry
  exact PySem.P.gt_str (fin_bl I q rfl)
theorem o_geS {X : Cx} : OpR X (compareOp .GtE) (rSS fun i j => !sLt i j) := by
  intro pins s σ H x y v u Q I rx ry h
  obtain ⟨i, j, rfl, rfl, q⟩ := h
  obtain ⟨t, rfl⟩ := rx
  obtain ⟨t', rfl⟩ := ry
  exact PySem.P.ge_str (fin_bl I q rfl)
def gAlt (g g' : D → D → Option D) : D → D → Option D := fun a b => match g a b with
  | some d => some d
  | none => g' a b
theorem d_alt {r r' : R2} {g g' : D → D → Option D} (h : BinD K r g) (h' : BinD K r' g') : BinD K (fun x y H Q => r x y H Q ∨ r' x y H Q) (gAlt g g') := fun w ps σ ρ x y a b d Q st ra rb e q => by
  unfold gAlt at e
  split at e
  · rename_i d' e'
    cases e
    exact .inl (h w ps σ ρ x y a b _ Q st ra rb e' q)
  · exact .inr (h' w ps σ ρ x y a b d Q st ra rb e q)
def gLeA : D → D → Option D := gAlt gLe (gSS fun i j => !sLt j i)
def gGtA : D → D → Option D := gAlt gGt (gSS fun i j => sLt j i)
def gGeA : D → D → Option D := gAlt gGe (gSS fun i j => !sLt i j)
theorem o_leA {X : Cx} : OpR X (compareOp .LtE) (fun x y H Q => (rI0 fun i j => .bl (decide (i ≤ j))) x y H Q ∨ (rSS fun i j => !sLt j i) x y H Q) := OpRor op_le o_leS
theorem o_gtA {X : Cx} : OpR X (compareOp .Gt) (fun x y H Q => (rI0 fun i j => .bl (decide (j < i))) x y H Q ∨ (rSS fun i j => sLt j i) x y H Q) := OpRor op_gt o_gtS
theorem o_geA {X : Cx} : OpR X (compareOp .GtE) (fun x y H Q => (rI0 fun i j => .bl (decide (j ≤ i))) x y H Q ∨ (rSS fun i j => !sLt i j) x y H Q) := OpRor op_ge o_geS
theorem d_leA : BinD K (fun x y H Q => (rI0 fun i j => .bl (decide (i ≤ j))) x y H Q ∨ (rSS fun i j => !sLt j i) x y H Q) gLeA := d_alt d_le d_SS
theorem d_gtA : BinD K (fun x y H Q => (rI0 fun i j => .bl (decide (j < i))) x y H Q ∨ (rSS fun i j => sLt j i) x y H Q) gGtA := d_alt d_gt d_SS
theorem d_geA : BinD K (fun x y H Q => (rI0 fun i j => .bl (decide (j ≤ i))) x y H Q ∨ (rSS fun i j => !sLt i j) x y H Q) gGeA := d_alt d_ge d_SS
end
/-! what leaves the slots as they are -/
def PureA (F : SE → R (List D)) : Prop := ∀ ρ d ρ', F ρ = .ok d ρ' → ρ' = ρ
theorem pf_c {d : D} : PureF (eC d) := fun ρ d ρ' h => by cases h; rfl
theorem pf_var {i : Nat} : PureF (eVar i) := fun ρ d ρ' h => by
  unfold eVar at h
  split at h
  · cases h; rfl
  · cases h
theorem pf_anil : PureA aNil := fun ρ d ρ' h => by cases h; rfl
theorem pf_acons {Fa : SE → R D} {Fr : SE → R (List D)} (h1 : PureF Fa) (h2 : PureA Fr) : PureA (aCons Fa Fr) := fun ρ d ρ' h => by
  unfold aCons at h
  cases e : Fa ρ with
  | ok x ρ1 =>
    rw [e] at h
    have h : ((Fr ρ1).bind fun xs ρ2 => R.ok (x :: xs) ρ2) = .ok d ρ' := h
    cases e2 : Fr ρ1 with
    | ok y ρ2 =>
      rw [e2] at h
      cases h
      rw [h2 _ _ _ e2, h1 _ _ _ e]
    | raise c d ρ2 => rw [e2] at h; cases h
    | stuck => rw [e2] at h; cases h
  | raise c d ρ1 => rw [e] at h; cases h
  | stuck => rw [e] at h; cases h
theorem pf_of {α β : Type} {G : SE → R α} {f : α → SE → R β} (h1 : ∀ ρ d ρ', G ρ = .ok d ρ' → ρ' = ρ) (h2 : ∀ a ρ d ρ', f a ρ = .ok d ρ' → ρ' = ρ) : ∀ ρ d ρ', (G ρ).bind f = .ok d ρ' → ρ' = ρ := fun ρ d ρ' h => by
  cases e : G ρ with
  | ok x ρ1 =>
    rw [e] at h
    rw [h2 _ _ _ _ h, h1 _ _ _ e]
  | raise c d ρ1 => rw [e] at h; cases h
  | stuck => rw [e] at h; cases h
theorem pf_Rof {α : Type} {o : Option α} {ρ ρ' : SE} {d : α} (h : R.of ρ o = .ok d ρ') : ρ' = ρ := by
  cases o with
  | none => cases h
  | some a => cases h; rfl
theorem pf_lst {F : SE → R (List D)} (h1 : PureA F) : PureF (eLst F) := pf_of h1 fun a ρ d ρ' h => by
  split at h
  · cases h; rfl
  · cases h
theorem pf_tup {F : SE → R (List D)} (h1 : PureA F) : PureF (eTup F) := pf_of h1 fun a ρ d ρ' h => by
  split at h
  · cases h; rfl
  · cases h
theorem pf_bin {g : D → D → Option D} {Fa Fb : SE → R D} (h1 : PureF Fa) (h2 : PureF Fb) : PureF (eBin g Fa Fb) := pf_of h1 fun a => pf_of h2 fun b ρ d ρ' h => pf_Rof h
theorem pf_un {g : D → Option D} {Fa : SE → R D} (h1 : PureF Fa) : PureF (eUn g Fa) := pf_of h1 fun a ρ d ρ' h => pf_Rof h
theorem pf_args {g : List D → Option D} {Fa : SE → R (List D)} (h1 : PureA Fa) : PureF (eArgs g Fa) := pf_of h1 fun a ρ d ρ' h => pf_Rof h
theorem pf_dnewK : PureF eDNewK := fun ρ d ρ' h => by cases h; rfl
end DL

set_option Elab.async false
set_option linter.all false
set_option maxRecDepth 100000
set_option maxHeartbeats 2000000
namespace DL
open PySem PySem.Spec PyProof.Rows L2

/-! ### the end -/
theorem defOk_mk {K : PySem.W.Frag} {h : Heap} {mg : Str → Option Value} {x : Str} {st : Stmt} {pn : List Str} {f : Addr} {oc : Value} {od an : Option Addr} {osl : Array (Option Value)} {kV doc pm cdv ct : Value} (X : K.In h) (G : h.Ns mainGlobals mg)
    (a : PySem.W.nsIn K mainGlobals x = some (some (.ref f))) (l : K.lookup f = some ⟨oc, od, .func (PySem.W.fnOf x x (defArgs st) (defBody st) (defScope st) .none kV doc pm an cdv ct), osl⟩) (c : PySem.W.codeIn K cdv x = true) (k : PySem.W.keepIn K (.ref f) = true)
    (b : ∀ (kV doc pm : Value) (an : Option Addr) (cdv ct : Value) (us : List Value), us.length = pn.length → bindArgs (PySem.W.fnOf x x (defArgs st) (defBody st) (defScope st) .none kV doc pm an cdv ct) ⟨us, []⟩ = pure (pn.zip us)) : DefOk K mg x st pn :=
  ⟨f, _, PySem.W.mg_of X G a, fun_mk l c k, (fun_mk (st := st) l c k).binds b⟩
/-- what the class c must show -/
theorem excOk_mk {P : Program} {K : PySem.W.Frag} {h : Heap} {mg : Str → Option Value} {x : Str} {C D_ fI N : Addr} {nm q : Str} {bs bm : List Value} {sn : List Str} {sub : List Value} {ab : Bool} {col : Option Bool} {dd : Option Addr} {k0 k1 k2 k3 k5 : Option Value} {cdD : ClassData}
    {oc : Value} {od : Option Addr} {kV doc pm : Value} {an : Option Addr} {cda : Addr} {ct : Value} {osl : Array (Option Value)} {cc : Addr} {qual : Str} {p0 p1 q0 q1 q2 q3 q4 q5 q6 q7 q8 q9 : Pos}
    {vs : Array Value} {file : Str} {tf : Tok} {ccl : Value} {cdd : Option Addr} {ccs : Array (Option Value)} {cl : Value} {cld : Option Addr} {csl : Array (Option Value)} (X : K.In h) (G : h.Ns mainGlobals mg)
    (a : PySem.W.nsIn K mainGlobals x = some (some (.ref C))) (l : K.lookup C = some (excClassObj nm q C N bs bm true sn sub ab col dd k0 k1 k2 k3 k5 "ValueError.__new__")) (rv : PySem.HandSPX.refsVE bm = true)
    (iC : PySem.W.findIn K (.ref C) "__init__" = some (some (.ref fI))) (lf : K.lookup fI = some ⟨oc, od, .func (PySem.W.fnX "__init__" qual (iArgs p0 p1) (iBody q0 q1 q2 q3 q4 q5 q6 q7 q8 q9) iScope [("__class__", cc)] .none kV doc pm an (.ref cda) ct), osl⟩)
    (cf : PySem.W.codeIn K (.ref cda) qual = true) (lc : K.lookup cda = some ⟨ccl, cdd, .fields vs, ccs⟩) (hvs : vs[2]? = some (.str file tf)) (hfile : ((P.main.file : Str) == file) = true) (lcc : K.lookup cc = some ⟨cl, cld, .cell (some (.ref D_)), csl⟩)
    (htop : (P.main.scope.names.lookup ("super" : Str)).isSome = false) (zs : PySem.W.nsIn K mainGlobals "super" = some none) (tI : PySem.W.typeIn K (.ref fI) = some (.type "function"))
    (sa : PySem.W.findIn K (.ref C) "__setattr__" = some (some (.builtin "object.__setattr__"))) (exC : PySem.W.subIn K (.ref C) (.type "BaseException") = some true) (tyC : PySem.W.typeIn K (.ref C) = some (.type "type")) (kC : PySem.W.keepIn K (.ref C) = true)
    (su : PySem.W.mroIn K C (.ref D_) = some true) (val : PySem.W.findIn K (.ref C) "value" = some none) (sup : PySem.W.ks_superIn K C D_ "__init__" = some (some (.builtin "ValueError.__init__"))) (isv : PySem.W.subIn K (.ref C) (.type "ValueError") = some true)
    (opq : PySem.W.nsIn K cStatics "thirdparty.any" = some none) (ini : PySem.W.clsIn K D_ = some cdD) (ga : PySem.W.findIn K (.ref C) "__getattribute__" = some (some (.builtin "BaseException.__getattribute__"))) (gg : PySem.W.findIn K (.ref C) "__getattr__" = some none) (hdC : PySem.W.hasDictIn K C = true)
    (hev : ∀ L : Nat, ∃ pl : Sem Bool, eval (.Call (.Attribute (.Call (.Name "super" q0) [] [] q1) "__init__" q2) [.Name "value" q3] [] q4) (PySem.W.envX qual iScope L fI (.ref cda) [("__class__", cc)]) = (do
      let ov ← attributeBase (.Call (.Name "super" q0) [] [] q1) "__init__" (PySem.W.envX qual iScope L fI (.ref cda) [("__class__", cc)]) (eval (.Call (.Name "super" q0) [] [] q1) (PySem.W.envX qual iScope L fI (.ref cda) [("__class__", cc)]))
      standAt q2.atName
      let (f', first) ← holding [ov] (getMethod ov "__init__" pl)
      callWith q4 f' first (backTo q4 (starEach [.Name "value" q3] (PySem.W.envX qual iScope L fI (.ref cda) [("__class__", cc)]))) []))
    (hs1 : ∀ L : Nat, swapsWith (.Call (.Attribute (.Call (.Name "super" q0) [] [] q1) "__init__" q2) [.Name "value" q3] [] q4) none q5.line (PySem.W.envX qual iScope L fI (.ref cda) [("__class__", cc)]) = pure false)
    (hs2 : ∀ L : Nat, swapsWith (.Name "value" q8) (some (.Attribute (.Name "self" q6) "value" q7)) q9.line (PySem.W.envX qual iScope L fI (.ref cda) [("__class__", cc)]) = pure false) : ExcOk P K mg x := by
  refine ⟨C, D_, fI, _, PySem.W.mg_of X G a, ⟨oc, od, kV, doc, pm, an, cda, ct, osl, cc, qual, p0, p1, q0, q1, q2, q3, q4, q5, q6, q7, q8, q9, vs, file, tf, ccl, cdd, ccs, cl, cld, csl, rfl, lf, cf, lc, hvs, hfile, lcc, htop, PySem.W.mg_none_of X G zs, hev, hs1, hs2⟩,
    ⟨⟨⟨nm, q, N, bs, bm, sn, sub, ab, col, dd, k0, k1, k2, k3, k5, l, rv⟩, sa, exC, tyC, kC⟩, su, val, sup, isv, opq, by rw [ini]; exact nn_some⟩, .all fun us hl => ?_, iC, tI, ⟨ga, gg, exC, hdC⟩⟩
  match us, hl with
  | [_, _], _ => rfl
theorem exm_mk {K : PySem.W.Frag} {h : Heap} {mg : Str → Option Value} {c x : Str} {C Y : Addr} {r : Bool} (X : K.In h) (G : h.Ns mainGlobals mg) (a : PySem.W.nsIn K mainGlobals c = some (some (.ref C))) (b : PySem.W.nsIn K mainGlobals x = some (some (.ref Y))) (e : PySem.W.exmOne K (.ref C) (.ref Y) = some r) :
    ∀ C' Y', mg c = some (.ref C') → mg x = some (.ref Y') → PySem.W.exmOne K (.ref C') (.ref Y') = some r := fun C' Y' h1 h2 => by
  rw [PySem.W.mg_of X G a] at h1
  rw [PySem.W.mg_of X G b] at h2
  cases h1; cases h2
  exact e
theorem g_mk {K : PySem.W.Frag} {h : Heap} {mg : Str → Option Value} {x : Str} {u : Value} {p : Tok → Value} {t : Tok} (X : K.In h) (G : h.Ns mainGlobals mg) (a : PySem.W.nsIn K mainGlobals x = some (some u)) (e : u = p t) : ∃ t, mg x = some (p t) := ⟨t, by rw [PySem.W.mg_of X G a, e]⟩
theorem lookup_memA {α : Type} : ∀ {l : List (Addr × α)} {a : Addr} {o : α}, l.lookup a = some o → (a, o) ∈ l
  | [], _, _, h => by cases h
  | (b, u) :: l, a, o, h => by
    rw [List.lookup_cons] at h
    split at h
    · rename_i e
      have e := eq_of_beq e
      subst e
      cases h
      exact List.mem_cons_self
    · exact List.mem_cons_of_mem _ (lookup_memA h)
def noLst (K : PySem.W.Frag) : Bool := K.all fun p => match p.2.data with
  | .seq _ _ => !(p.2.cls == .type "list")
  | _ => true
/-- the law's promise -/
def spLaw (K : PySem.W.Frag) : Sp := fun vs H Q _ => ∃ (a : Addr) (ns : List Int), vs = [.ref a] ∧ SqL K H a (ns.map V.int) ∧ ns.length ≤ 63 ∧ Only H ∧ ∀ H', Q (.bl true) H'
theorem noLst_rd {K : PySem.W.Frag} {H : Hp} {a : Addr} {vs : List V} (h : noLst K = true) (s : SqL K H a vs) : Rd H a (.lst vs) := by
  rcases s with s | ⟨o, its, n, hk, hc, _, hd, _⟩
  · exact s
  · unfold noLst at h
    rw [List.all_eq_true] at h
    have := h (a, o) (lookup_memA hk)
    simp only [hd, hc] at this
    exact absurd this (by decide)
theorem law_end {P : Program} {wd : World} {K : PySem.W.Frag} {mg : Str → Option Value} {base : Heap} {k : Nat} {f : Addr} {fd : FuncData} {fn : List D → FR} (F : FnOk P wd K mg base (L2.CX P wd) k f fd ["script"] (spD K mg fn [.b])) (nl : noLst K = true)
    (hfn : ∀ ns : List Int, ns.length ≤ 63 → fn [.lst (ns.map D.int)] = .ok (.v (.bl true)) none) : FnOk P wd K mg base (L2.CX P wd) k f fd ["script"] (spLaw K) := by
  refine F.imp fun vs H Q E h => ?_
  obtain ⟨a, ns, rfl, hS, hl, hO, q⟩ := h
  have hR := noLst_rd nl hS
  refine ⟨⟨fun _ => none, H, fun _ => False⟩, fun _ => none, [.lst (ns.map D.int)], rfl, ⟨fun b x h => absurd (show (none : Option HO) = some x from h) (fun z => by cases z), fun b h => (show False from h).elim, fun b h => (show False from h).elim, rfl, fun i s h => ?_, fun i j s t b ne h1 h2 m1 => ?_⟩, fun b h => (show False from h).elim, rfl, rfl, ?_⟩
  · cases i with
    | zero =>
      cases h
      exact ⟨fun z => z, ns.map V.int, hR, Reps.ofInts ns⟩
    | succ i => simp [entry] at h
  · cases i with
    | zero => cases h1; cases m1
    | succ i => simp [entry] at h1
  · rw [hfn ns hl]
    intro v w' s' hs r out
    cases r
    exact q _
end DL

set_option Elab.async false
set_option linter.all false
set_option maxRecDepth 100000
set_option maxHeartbeats 2000000
/-! the plain side: what the functions on data give -/
namespace DL
open PySem PySem.Spec PyProof.Rows L2

/-! ### comprehensions over frozen slots -/
theorem forget_one {i : Nat} {ρ : SE} {d : D} : setS i (.val d) (forget [i] ρ) = if i < ρ.length then some (ρ.set i (.val d)) else none := by
  show setS i (.val d) (ρ.set i .any) = _
  unfold setS
  by_cases h : i < ρ.length
  · rw [List.getElem?_set_self h, if_pos h]
    show some ((ρ.set i .any).set i _) = _
    rw [List.set_set]
  · rw [List.getElem?_eq_none (by rw [List.length_set]; omega), if_neg h]
/-- the slots that a block leaves as they are -/
def still (i : Nat) (ρ : SE) : Prop := i < ρ.length ∧ wipedS (ρ.getD i .any) = ρ.getD i .any
theorem syncS_self (s : Sl) : syncS s (some s) = s := by cases s <;> rfl
theorem sync_still {i : Nat} {ρ : SE} {s : Sl} (h : still i ρ) : sync [i] ρ (ρ.set i s) = ρ := by
  apply List.ext_getElem?
  intro j
  unfold sync
  rw [List.getElem?_map]
  by_cases hj : j < ρ.length
  · rw [List.getElem?_eq_getElem (by rw [List.length_range]; exact hj), List.getElem_range, Option.map_some, List.getElem?_eq_getElem hj]
    have eD : ρ.getD j .any = ρ[j] := by rw [List.getD_eq_getElem?_getD, List.getElem?_eq_getElem hj]; rfl
    by_cases e : j = i
    · subst e
      rw [if_pos (by simp), h.2, eD]
    · rw [if_neg (by simp [e]), eD, List.getElem?_set_ne (fun z => e z.symm), List.getElem?_eq_getElem hj, syncS_self]
  · rw [List.getElem?_eq_none (by rw [List.length_range]; omega), List.getElem?_eq_none (by omega)]
    rfl
/-- [f d for d in ds if t d] -/
theorem lc_ev {i : Nat} {Ft : SE → R Bool} {Fe : SE → R D} {ρ : SE} {t : D → Bool} {f : D → D} (hs : still i ρ) : ∀ {ds : List D}, (∀ d ∈ ds, Ft (ρ.set i (.val d)) = .ok (t d) (ρ.set i (.val d)) ∧ (t d = true → Fe (ρ.set i (.val d)) = .ok (f d) (ρ.set i (.val d)))) →
    lcF (gNm i) [i] Ft Fe ds ρ = .ok ((ds.filter t).map f) ρ
  | [], _ => rfl
  | d :: ds, h => by
    have ih := lc_ev (Ft := Ft) (Fe := Fe) hs (ds := ds) fun d hd => h d (List.mem_cons_of_mem _ hd)
    obtain ⟨h1, h2⟩ := h d List.mem_cons_self
    unfold lcF
    have e : gNm i d (forget [i] ρ) = some (ρ.set i (.val d)) := by
      show setS i (.val d) (forget [i] ρ) = _
      rw [forget_one, if_pos hs.1]
    rw [e]
    show (match Ft (ρ.set i (.val d)) with
      | .ok true ρ2 => (match Fe ρ2 with
        | .ok x ρ3 => (match lcF (gNm i) [i] Ft Fe ds (sync [i] ρ ρ3) with
          | .ok xs ρ4 => R.ok (x :: xs) ρ4
          | _ => R.stuck)
        | _ => R.stuck)
      | .ok false ρ2 => lcF (gNm i) [i] Ft Fe ds (sync [i] ρ ρ2)
      | _ => R.stuck) = _
    rw [h1]
    cases ht : t d with
    | false =>
      show lcF (gNm i) [i] Ft Fe ds (sync [i] ρ (ρ.set i (.val d))) = _
      rw [sync_still hs, ih, List.filter_cons, ht]
      rfl
    | true =>
      show (match Fe (ρ.set i (.val d)) with
        | .ok x ρ3 => (match lcF (gNm i) [i] Ft Fe ds (sync [i] ρ ρ3) with
          | .ok xs ρ4 => R.ok (x :: xs) ρ4
          | _ => R.stuck)
        | _ => R.stuck) = _
      rw [h2 ht]
      show (match lcF (gNm i) [i] Ft Fe ds (sync [i] ρ (ρ.set i (.val d))) with
          | .ok xs ρ4 => R.ok (f d :: xs) ρ4
          | _ => R.stuck) = _
      rw [sync_still hs, ih, List.filter_cons, ht]
      rfl
theorem lc_ev_map {i : Nat} {Fe : SE → R D} {ρ : SE} {f : D → D} (hs : still i ρ) {ds : List D} (h : ∀ d ∈ ds, Fe (ρ.set i (.val d)) = .ok (f d) (ρ.set i (.val d))) : lcF (gNm i) [i] tYesF Fe ds ρ = .ok (ds.map f) ρ := by
  have := lc_ev (Ft := tYesF) (Fe := Fe) (t := fun _ => true) (f := f) hs (ds := ds) fun d hd => ⟨rfl, fun _ => h d hd⟩
  rw [this]
  congr 2
  exact List.filter_eq_self.mpr fun _ _ => rfl
/-! ### big steps -/
section
variable {Fa Fb Fc : SE → R D} {ρ ρ1 ρ2 ρ3 : SE} {x y z d : D}
theorem ev_bin {g : D → D → Option D} (ha : Fa ρ = .ok x ρ1) (hb : Fb ρ1 = .ok y ρ2) (e : g x y = some d) : eBin g Fa Fb ρ = .ok d ρ2 := by
  unfold eBin; rw [ha]; show (Fb ρ1).bind _ = _; rw [hb]; show R.of ρ2 (g x y) = _; rw [e]; rfl
theorem ev_un {g : D → Option D} (ha : Fa ρ = .ok x ρ1) (e : g x = some d) : eUn g Fa ρ = .ok d ρ1 := by
  unfold eUn; rw [ha]; show R.of ρ1 (g x) = _; rw [e]; rfl
theorem ev_args {g : List D → Option D} {F : SE → R (List D)} {xs : List D} (ha : F ρ = .ok xs ρ1) (e : g xs = some d) : eArgs g F ρ = .ok d ρ1 := by
  unfold eArgs; rw [ha]; show R.of ρ1 (g xs) = _; rw [e]; rfl
theorem ev_nil : aNil ρ = .ok [] ρ := rfl
theorem ev_cons {Fr : SE → R (List D)} {xs : List D} (ha : Fa ρ = .ok x ρ1) (hb : Fr ρ1 = .ok xs ρ2) : aCons Fa Fr ρ = .ok (x :: xs) ρ2 := by
  unfold aCons; rw [ha]; show (Fr ρ1).bind _ = _; rw [hb]; rfl
theorem ev_tB {b : Bool} (ha : Fa ρ = .ok (.bl b) ρ1) : tBool Fa ρ = .ok b ρ1 := by unfold tBool; rw [ha]; rfl
theorem ev_not {F : SE → R Bool} {b : Bool} (ha : F ρ = .ok b ρ1) : tNotF F ρ = .ok (!b) ρ1 := by unfold tNotF; rw [ha]; rfl
theorem ev_and {b : Bool} (ha : Fa ρ = .ok (.bl b) ρ1) (hb : b = true → Fb ρ1 = .ok d ρ1) (e : b = false → d = .bl false) : eAnd Fa Fb ρ = .ok d ρ1 := by
  unfold eAnd; rw [ha]
  cases b with
  | true => exact hb rfl
  | false => rw [e rfl]; rfl
theorem ev_or {b : Bool} (ha : Fa ρ = .ok (.bl b) ρ1) (hb : b = false → Fb ρ1 = .ok d ρ1) (e : b = true → d = .bl true) : eOr Fa Fb ρ = .ok d ρ1 := by
  unfold eOr; rw [ha]
  cases b with
  | false => exact hb rfl
  | true => rw [e rfl]; rfl
theorem ev_tand {F G : SE → R Bool} {b c : Bool} (ha : F ρ = .ok b ρ1) (hb : b = true → G ρ1 = .ok c ρ1) : tAndF F G ρ = .ok (b && c) ρ1 := by
  unfold tAndF; rw [ha]
  cases b with
  | true => exact hb rfl
  | false => rfl
theorem ev_tor {F G : SE → R Bool} {b c : Bool} (ha : F ρ = .ok b ρ1) (hb : b = false → G ρ1 = .ok c ρ1) : tOrF F G ρ = .ok (b || c) ρ1 := by
  unfold tOrF; rw [ha]
  cases b with
  | false => exact hb rfl
  | true => rfl
theorem ev_tup {F : SE → R (List D)} {xs : List D} (ha : F ρ = .ok xs ρ1) (h : xs.length ≤ 16777216) : eTup F ρ = .ok (.tup xs) ρ1 := by
  unfold eTup; rw [ha]; show (if _ then _ else _) = _; rw [if_pos (by rw [sizeLine_eq]; exact h)]
theorem ev_lst {F : SE → R (List D)} {xs : List D} (ha : F ρ = .ok xs ρ1) (h : xs.length ≤ 16777216) : eLst F ρ = .ok (.lst xs) ρ1 := by
  unfold eLst; rw [ha]; show (if _ then _ else _) = _; rw [if_pos (by rw [sizeLine_eq]; exact h)]
theorem ev_lc {i : Nat} {Ft : SE → R Bool} {Fe : SE → R D} {Fi : SE → R (List D)} {ds xs : List D} (hi : Fi ρ = .ok ds ρ1) (hl : ds.length ≤ 16777216) (h : lcF (gNm i) [i] Ft Fe ds ρ1 = .ok xs ρ2) : eLc (gNm i) [i] Ft Fe Fi ρ = .ok (.lst xs) ρ2 := by
  unfold eLc; rw [hi]; show (if _ then _ else _) = _; rw [if_pos (by rw [sizeLine_eq]; exact hl), h]; rfl
theorem ev_iOf {g : List D → Option (List D)} {F : SE → R (List D)} {xs ds : List D} (ha : F ρ = .ok xs ρ1) (e : g xs = some ds) : iOf g F ρ = .ok ds ρ1 := by
  unfold iOf; rw [ha]; show R.of ρ1 (g xs) = _; rw [e]; rfl
theorem ev_iSeq {ds : List D} (ha : Fa ρ = .ok x ρ1) (e : seqItems x = some ds) : iSeq Fa ρ = .ok ds ρ1 := by
  unfold iSeq; rw [ha]; show R.of ρ1 (seqItems x) = _; rw [e]; rfl
theorem ev_no : pNo ρ = .ok none ρ := rfl
theorem ev_so {i : Int} (ha : Fa ρ = .ok (.int i) ρ1) : pSo Fa ρ = .ok (some i) ρ1 := by unfold pSo; rw [ha]; rfl
theorem ev_sl {g : D → Option Int → Option Int → Option D} {Fl Fh : SE → R (Option Int)} {l h : Option Int} (ha : Fa ρ = .ok x ρ1) (hl : Fl ρ1 = .ok l ρ2) (hh : Fh ρ2 = .ok h ρ3) (e : g x l h = some d) : eSl g Fa Fl Fh ρ = .ok d ρ3 := by
  unfold eSl; rw [ha]; show (Fl ρ1).bind _ = _; rw [hl]; show (Fh ρ2).bind _ = _; rw [hh]; show R.of ρ3 _ = _; rw [e]; rfl
end
/-! ### words -/
def S (w : List Nat) : D := .str ⟨w.toArray⟩
theorem S_len (w : List Nat) : (⟨w.toArray⟩ : Str).length = w.length := rfl
theorem S_app (u v : List Nat) : (⟨u.toArray⟩ : Str) ++ (⟨v.toArray⟩ : Str) = ⟨(u ++ v).toArray⟩ := by
  show (⟨u.toArray ++ v.toArray⟩ : Str) = _
  rw [List.append_toArray]
theorem S_inj {u v : List Nat} (h : (⟨u.toArray⟩ : Str) = ⟨v.toArray⟩) : u = v := by
  have := congrArg (fun s : Str => s.cps.toList) h
  simpa using this
theorem cut_from (w : List Nat) (k : Nat) (hk : k ≤ w.length) : cutS ⟨w.toArray⟩ (some (k : Int)) none = ⟨(w.drop k).toArray⟩ := by
  unfold cutS
  rw [HT.sIx_nat, HT.sIx_none]
  show (⟨List.toArray _⟩ : Str) = _
  congr 2
  show ((w.drop (min k w.length)).take (w.length - min k w.length)) = _
  rw [Nat.min_eq_left hk, List.take_of_length_le (by rw [List.length_drop]; omega)]
theorem cut_to (w : List Nat) (k : Nat) : cutS ⟨w.toArray⟩ none (some (k : Int)) = ⟨(w.take k).toArray⟩ := by
  unfold cutS
  rw [HT.sIx_nat, HT.sIx_none]
  show (⟨List.toArray _⟩ : Str) = _
  congr 2
  show ((w.drop 0).take (min k w.length - 0)) = _
  rw [List.drop_zero, Nat.sub_zero]
  by_cases h : k ≤ w.length
  · rw [Nat.min_eq_left h]
  · rw [Nat.min_eq_right (by omega), List.take_of_length_le (by omega), List.take_of_length_le (by omega)]
theorem g_from {w : List Nat} {k : Nat} (hw : w.length ≤ 1000) (hk : k ≤ w.length) : gSl (S w) (some (k : Int)) none = some (S (w.drop k)) := by
  show (if _ then some (D.str (cutS ⟨w.toArray⟩ (some (k : Int)) none)) else none) = _
  rw [if_pos (by rw [sizeLine_eq, S_len]; omega), cut_from w k hk]
  rfl
theorem g_to {w : List Nat} {k : Nat} (hw : w.length ≤ 1000) : gSl (S w) none (some (k : Int)) = some (S (w.take k)) := by
  show (if _ then some (D.str (cutS ⟨w.toArray⟩ none (some (k : Int)))) else none) = _
  rw [if_pos (by rw [sizeLine_eq, S_len]; omega), cut_to w k]
  rfl
theorem g_len {w : List Nat} (hw : w.length ≤ 1000) : g1 gLen [S w] = some (.int (w.length : Nat)) := by
  show Option.map _ (if _ then some w.length else none) = _
  rw [if_pos (by rw [sizeLine_eq, S_len]; omega)]
  rfl
theorem g_lt {u v : List Nat} : gLt (S u) (S v) = some (.bl (decide (u < v))) := rfl
theorem g_app {u v : List Nat} (h : u.length + v.length ≤ 16777216) : gAdd (S u) (S v) = some (S (u ++ v)) := by
  show (if addStrOk ⟨u.toArray⟩ ⟨v.toArray⟩ = true then some (D.str (⟨u.toArray⟩ ++ ⟨v.toArray⟩)) else none) = _
  rw [if_pos (by unfold addStrOk; rw [S_len, S_len, sizeLine_eq]; exact decide_eq_true h), S_app]
  rfl
theorem g_range {i j : Nat} (h : j ≤ 100000) (hi : i ≤ 100000) : iR2 [.int (i : Nat), .int (j : Nat)] = some ((List.range (j - i)).map fun k => D.int ((i + k : Nat) : Int)) := by
  have o1 : okI (i : Int) = true := by unfold okI; simp; omega
  have o2 : okI (j : Int) = true := by unfold okI; simp; omega
  show (if okI (i : Int) = true ∧ okI (j : Int) = true then some ((List.range ((j : Int) - (i : Int)).toNat).map fun k => D.int ((i : Int) + (k : Nat))) else none) = _
  rw [if_pos ⟨o1, o2⟩, show ((j : Int) - (i : Int)).toNat = j - i by omega]
  rfl
theorem g_range1 {j : Nat} (h : j ≤ 100000) : iR1 [.int (j : Nat)] = some ((List.range j).map fun k : Nat => D.int (k : Int)) := by
  have o2 : okI (j : Int) = true := by unfold okI; simp; omega
  show (if okI (j : Int) = true then some ((List.range (j : Int).toNat).map fun k : Nat => D.int (0 + (k : Int))) else none) = _
  rw [if_pos o2, Int.toNat_natCast]
  have : (fun k : Nat => D.int (0 + (k : Int))) = fun k : Nat => D.int (k : Int) := funext fun k => by rw [Int.zero_add]
  rw [this]
theorem bools_map {α : Type} (f : α → Bool) : ∀ l : List α, boolsOf (l.map fun a => D.bl (f a)) = some (l.map f)
  | [] => rfl
  | a :: l => by
    show (boolsOf (l.map _)).map _ = _
    rw [bools_map f l]
    rfl
theorem g_all {α : Type} (f : α → Bool) (l : List α) : g1 (onL fAll) [.lst (l.map fun a => D.bl (f a))] = some (.bl (l.all f)) := by
  show (boolsOf _).map _ = _
  rw [bools_map]
  show some (D.bl ((l.map f).all id)) = _
  rw [List.all_map]
  rfl
theorem g_any {α : Type} (f : α → Bool) (l : List α) : g1 (onL fAny) [.lst (l.map fun a => D.bl (f a))] = some (.bl (l.any f)) := by
  show (boolsOf _).map _ = _
  rw [bools_map]
  show some (D.bl ((l.map f).any id)) = _
  rw [List.any_map]
  rfl
end DL

set_option Elab.async false
set_option linter.all false
set_option maxRecDepth 100000
set_option maxHeartbeats 2000000
namespace DL
open PySem PySem.Spec PyProof.Rows L2

/-! ### statements, calls: big steps -/
section
variable {F G : SE → O} {Ft : SE → R Bool} {Fa Fb Fc : SE → R D} {ρ ρ1 ρ2 ρ3 : SE} {x y z d : D} {r : Rv} {c : Str} {b : Bool} {i j : Nat}
theorem st_seq (h : F ρ = .nx ρ1) : sSeq F G ρ = G ρ1 := by unfold sSeq; rw [h]
theorem st_seq_rt (h : F ρ = .rt r ρ1) : sSeq F G ρ = .rt r ρ1 := by unfold sSeq; rw [h]
theorem st_seq_raise (h : F ρ = .raise c d ρ1) : sSeq F G ρ = .raise c d ρ1 := by unfold sSeq; rw [h]
theorem st_if (h : Ft ρ = .ok b ρ1) : sIf Ft F G ρ = if b = true then F ρ1 else G ρ1 := by unfold sIf; rw [h]; rfl
theorem st_if_t (h : Ft ρ = .ok true ρ1) : sIf Ft F G ρ = F ρ1 := by rw [st_if h]; rfl
theorem st_if_f (h : Ft ρ = .ok false ρ1) : sIf Ft F G ρ = G ρ1 := by rw [st_if h]; rfl
theorem st_ret (h : Fa ρ = .ok d ρ1) : sRet Fa ρ = .rt (.v d) ρ1 := by unfold sRet; rw [h]; rfl
theorem st_retO (h : Fa ρ = .ok d ρ1) : sRetO Fa ρ = .rt (.o d) ρ1 := by unfold sRetO; rw [h]; rfl
theorem st_drop (h : Fa ρ = .ok d ρ1) : sDrop Fa ρ = .nx ρ1 := by unfold sDrop; rw [h]; rfl
theorem st_drop_raise (h : Fa ρ = .raise c d ρ1) : sDrop Fa ρ = .raise c d ρ1 := by unfold sDrop; rw [h]; rfl
theorem st_raise (h : Fa ρ = .ok d ρ1) : sRaise c Fa ρ = .raise c d ρ1 := by unfold sRaise; rw [h]; rfl
theorem st_set (h : Fa ρ = .ok d ρ1) (e : setS i (.val d) ρ1 = some ρ2) : sSet i Fa ρ = .nx ρ2 := by unfold sSet; rw [h]; show O.of (setS i (.val d) ρ1) = _; rw [e]; rfl
theorem st_setO (h : Fa ρ = .ok d ρ1) (e : setS i (.own d) ρ1 = some ρ2) : sSetO i Fa ρ = .nx ρ2 := by unfold sSetO; rw [h]; show O.of (setS i (.own d) ρ1) = _; rw [e]; rfl
theorem st_asg {g : D → SE → Option SE} (h : Fa ρ = .ok d ρ1) (e : g d ρ1 = some ρ2) : sAsgG g Fa ρ = .nx ρ2 := by unfold sAsgG; rw [h]; show O.of (g d ρ1) = _; rw [e]; rfl
theorem ev_pnil : pNil ρ = .ok [] ρ := rfl
theorem ev_pe {Fr : SE → R (List Pv)} {ps : List Pv} (h : Fa ρ = .ok d ρ1) (hr : Fr ρ1 = .ok ps ρ2) : pE Fa Fr ρ = .ok (.d d :: ps) ρ2 := by unfold pE; rw [h]; show (Fr ρ1).bind _ = _; rw [hr]; rfl
theorem ev_call {fn : List D → FR} {ms : List Mo} {Fp : SE → R (List Pv)} {pvs : List Pv} {as : List D} {o : Option D} (h : Fp ρ = .ok pvs ρ1) (g : giveAll ρ1 ms pvs = some as) (e : fn as = .ok (.v d) o) : eCall fn ms Fp ρ = .ok d ρ1 := by
  unfold eCall; rw [h]
  show (match giveAll ρ1 ms pvs with | none => _ | some as => _) = _
  rw [g]
  show (match fn as with | .ok (.v d) _ => _ | .raise c d => _ | _ => _) = _
  rw [e]
theorem ev_callR {fn : List D → FR} {ms : List Mo} {Fp : SE → R (List Pv)} {pvs : List Pv} {as : List D} (h : Fp ρ = .ok pvs ρ1) (g : giveAll ρ1 ms pvs = some as) (e : fn as = .raise c d) : eCall fn ms Fp ρ = .raise c d ρ1 := by
  unfold eCall; rw [h]
  show (match giveAll ρ1 ms pvs with | none => _ | some as => _) = _
  rw [g]
  show (match fn as with | .ok (.v d) _ => _ | .raise c d => _ | _ => _) = _
  rw [e]
theorem ev_callO {fn : List D → FR} {ms : List Mo} {Fp : SE → R (List Pv)} {pvs : List Pv} {as : List D} {o : Option D} (h : Fp ρ = .ok pvs ρ1) (g : giveAll ρ1 ms pvs = some as) (e : fn as = .ok (.o d) o) : eCallO fn ms Fp ρ = .ok d ρ1 := by
  unfold eCallO; rw [h]
  show (match giveAll ρ1 ms pvs with | none => _ | some as => _) = _
  rw [g]
  show (match fn as with | .ok (.o d) _ => _ | .raise c d => _ | _ => _) = _
  rw [e]
theorem ev_callM {fn : List D → FR} {ms : List Mo} {i0 : Nat} {Fp : SE → R (List Pv)} {pvs : List Pv} {as : List D} {o : D} (h : Fp ρ = .ok pvs ρ1) (g : giveAllM ρ1 i0 ms pvs = some as) (e : fn as = .ok (.v d) (some o)) (e2 : setMine ρ1 i0 o = ρ2) : eCallM fn ms i0 Fp ρ = .ok d ρ2 := by
  unfold eCallM; rw [h]
  show (match giveAllM ρ1 i0 ms pvs with | none => _ | some as => _) = _
  rw [g]
  show (match fn as with | .ok (.v d) (some o) => _ | _ => _) = _
  rw [e]
  show R.ok d (setMine ρ1 i0 o) = _
  rw [e2]
theorem ev_kw {fn : List D → FR} {ms : List Mo} {perm : List Nat} {Fp : SE → R (List Pv)} {pvs : List Pv} {as : List D} {o : Option D} (h : Fp ρ = .ok pvs ρ1) (hl : pvs.length = perm.length) (g : giveAll ρ1 ms (permL perm pvs) = some as) (e : fn as = .ok (.v d) o) : eKw fn ms perm Fp ρ = .ok d ρ1 := by
  unfold eKw; rw [h]
  show (if pvs.length = perm.length then _ else _) = _
  rw [if_pos hl]
  show (match giveAll ρ1 ms (permL perm pvs) with | none => _ | some as => _) = _
  rw [g]
  show (match fn as with | .ok (.v d) _ => _ | .raise c d => _ | _ => _) = _
  rw [e]
theorem run_rt {n : Nat} {ms : List Mo} {as : List D} {o : Option D} (hl : as.length = ms.length) (h : F (entry ms as ++ List.replicate (n - ms.length) .any) = .rt r ρ) (ho : outOf ms ρ = some o) : runDef n ms F as = .ok r o := by
  unfold runDef
  rw [if_pos hl, h]
  show (match outOf ms ρ with | some o => _ | none => _) = _
  rw [ho]
theorem run_nx {n : Nat} {ms : List Mo} {as : List D} {o : Option D} (hl : as.length = ms.length) (h : F (entry ms as ++ List.replicate (n - ms.length) .any) = .nx ρ) (ho : outOf ms ρ = some o) : runDef n ms F as = .ok (.v .non) o := by
  unfold runDef
  rw [if_pos hl, h]
  show (match outOf ms ρ with | some o => _ | none => _) = _
  rw [ho]
theorem run_raise {n : Nat} {ms : List Mo} {as : List D} (hl : as.length = ms.length) (h : F (entry ms as ++ List.replicate (n - ms.length) .any) = .raise c d ρ) (ho : mPos ms = none) : runDef n ms F as = .raise c d := by
  unfold runDef
  rw [if_pos hl, h]
  show (if mPos ms = none then _ else _) = _
  rw [if_pos ho]
/-! for -/
theorem st_for {Fi : SE → R (List D)} {g : D → SE → Option SE} {wp : List Nat} {ds : List D} (h : Fi ρ = .ok ds ρ1) : sFor Fi g F wp ρ = forF g F wp ds ρ1 := by unfold sFor; rw [h]; rfl
theorem for_nil {g : D → SE → Option SE} {wp : List Nat} : forF g F wp [] ρ = .nx (forget wp ρ) := rfl
theorem for_cons {g : D → SE → Option SE} {wp : List Nat} {ds : List D} (hg : g d (forget wp ρ) = some ρ1) (hb : F ρ1 = .nx ρ2) : forF g F wp (d :: ds) ρ = forF g F wp ds ρ2 := by
  show (match g d (forget wp ρ) with | none => _ | some ρ1 => _) = _
  rw [hg]
  show (match F ρ1 with | .nx ρ2 => _ | .ct ρ2 => _ | .bk ρ2 => _ | o => _) = _
  rw [hb]
theorem for_cons_rt {g : D → SE → Option SE} {wp : List Nat} {ds : List D} (hg : g d (forget wp ρ) = some ρ1) (hb : F ρ1 = .rt r ρ2) : forF g F wp (d :: ds) ρ = .rt r ρ2 := by
  show (match g d (forget wp ρ) with | none => _ | some ρ1 => _) = _
  rw [hg]
  show (match F ρ1 with | .nx ρ2 => _ | .ct ρ2 => _ | .bk ρ2 => _ | o => _) = _
  rw [hb]
/-- a loop that runs through: a state st i ahead of the i-th turn, told by its forgotten slots -/
theorem for_inv {g : D → SE → Option SE} {wp : List Nat} (st : Nat → SE) : ∀ {ds : List D} {n : Nat} {ρ : SE}, forget wp ρ = st n → (∀ k d ρ, ds[k]? = some d → forget wp ρ = st (n + k) → ∃ ρ1 ρ2, g d (st (n + k)) = some ρ1 ∧ F ρ1 = .nx ρ2 ∧ forget wp ρ2 = st (n + k + 1)) →
    forF g F wp ds ρ = .nx (st (n + ds.length))
  | [], n, ρ, h0, _ => by rw [for_nil, h0]; rfl
  | d :: ds, n, ρ, h0, hs => by
    obtain ⟨ρ1, ρ2, h1, h2, h3⟩ := hs 0 d ρ rfl h0
    rw [for_cons (ρ1 := ρ1) (ρ2 := ρ2) (by rw [h0]; exact h1) h2]
    have := for_inv (g := g) (wp := wp) st (ds := ds) (n := n + 1) (ρ := ρ2) h3 fun k d' ρ' e e' => by
      have := hs (k + 1) d' ρ' (by simpa using e) (by rw [e']; congr 1; omega)
      rw [show n + (k + 1) = n + 1 + k by omega] at this
      exact this
    rw [this]
    congr 2
    rw [List.length_cons]
    omega
end
end DL

set_option Elab.async false
set_option linter.all false
set_option maxRecDepth 100000
set_option maxHeartbeats 2000000
namespace DL
open PySem PySem.Spec PyProof.Rows L2

section
variable {F G : SE → O} {Ft : SE → R Bool} {Fa Fb Fc : SE → R D} {ρ ρ1 ρ2 ρ3 : SE} {x y z d : D} {r : Rv} {c : Str} {b : Bool} {i j : Nat}
theorem ev_mt {m : List D → List D → Option (List D × D)} {F : SE → R (List D)} {ds0 ds ds' as : List D} (h0 : mineOf ρ i = some (.lst ds0)) (ha : F ρ = .ok as ρ1) (h1 : mineOf ρ1 i = some (.lst ds)) (e : m ds as = some (ds', d)) (e2 : setMine ρ1 i (.lst ds') = ρ2) : eMt i m F ρ = .ok d ρ2 := by
  unfold eMt
  rw [h0, ha]
  show (match mineOf ρ1 i with | some (.lst ds) => _ | _ => _) = _
  rw [h1]
  show (match m ds as with | some (ds', d) => _ | none => _) = _
  rw [e]
  show R.ok d (setMine ρ1 i (.lst ds')) = _
  rw [e2]
theorem g_append {ds : List D} (h : ds.length < 16777216) : mAppend ds [d] = some (ds ++ [d], .non) := by
  unfold mAppend
  show (if ds.length < sizeLine then _ else _) = _
  rw [if_pos (by rw [sizeLine_eq]; exact h)]
theorem g_extend {ds es : List D} (h : ds.length + es.length ≤ 16777216) : mExtend ds [.lst es] = some (ds ++ es, .non) := by
  unfold mExtend
  show (if ds.length + es.length ≤ sizeLine then _ else _) = _
  rw [if_pos (by rw [sizeLine_eq]; exact h)]
theorem ev_ixS {ds : List D} {c0 : D} (h0 : conOf ρ i = some c0) (hb : Fb ρ = .ok y ρ1) (h1 : conOf ρ1 i = some (.lst ds)) (e : itemD (.lst ds) y = some d) : eIxS i Fb ρ = .ok d ρ1 := by
  unfold eIxS
  rw [h0]
  show (Fb ρ).bind _ = _
  rw [hb]
  show (match conOf ρ1 i with | some (.lst ds) => _ | _ => _) = _
  rw [h1]
  show R.of ρ1 (itemD (.lst ds) y) = _
  rw [e]
  rfl
theorem st_setIx {v : D} {ds : List D} {d0 : D} {n : Int} {m : Nat} (hv : Fc ρ = .ok v ρ1) (h0 : mineOf ρ1 i = some d0) (hb : Fb ρ1 = .ok (.int n) ρ2) (h1 : mineOf ρ2 i = some (.lst ds)) (e : ixN ds.length n = some m) (e2 : setMine ρ2 i (.lst (ds.set m v)) = ρ3) : sSetIx i Fb Fc ρ = .nx ρ3 := by
  unfold sSetIx
  rw [hv]
  show (match mineOf ρ1 i with | none => _ | some _ => _) = _
  rw [h0]
  show (Fb ρ1).to _ = _
  rw [hb]
  show (match mineOf ρ2 i, D.int n with | some (.lst ds), .int n => _ | _, _ => _) = _
  rw [h1]
  show (match ixN ds.length n with | some m => _ | none => _) = _
  rw [e]
  show O.nx (setMine ρ2 i (.lst (ds.set m v))) = _
  rw [e2]
theorem ev_dget {ks : List Key} {ds : List D} {c0 : D} {k : Key} (h0 : conOf ρ i = some c0) (hb : Fb ρ = .ok y ρ1) (h1 : conOf ρ1 i = some (.dk ks ds)) (hk : keyOf y = some k) (e : zGet ks ds k = some d) : eDGet i Fb ρ = .ok d ρ1 := by
  unfold eDGet
  rw [h0]
  show (Fb ρ).bind _ = _
  rw [hb]
  show (match conOf ρ1 i, keyOf y with | some (.dk ks ds), some k => _ | _, _ => _) = _
  rw [h1, hk]
  show R.of ρ1 (zGet ks ds k) = _
  rw [e]
  rfl
theorem st_dput {v : D} {ks : List Key} {ds : List D} {d0 : D} {k : Key} (hv : Fc ρ = .ok v ρ1) (h0 : mineOf ρ1 i = some d0) (hb : Fb ρ1 = .ok y ρ2) (h1 : mineOf ρ2 i = some (.dk ks ds)) (hk : keyOf y = some k) (hz : ks.length < 16777216) (e2 : setMine ρ2 i (.dk (zPutK ks k) (zPutD ks ds k v)) = ρ3) : sDPut_ i Fb Fc ρ = .nx ρ3 := by
  unfold sDPut_
  rw [hv]
  show (match mineOf ρ1 i with | none => _ | some _ => _) = _
  rw [h0]
  show (Fb ρ1).to _ = _
  rw [hb]
  show (match mineOf ρ2 i, keyOf y with | some (.dk ks ds), some k => _ | _, _ => _) = _
  rw [h1, hk]
  show (if ks.length < sizeLine then _ else _) = _
  rw [if_pos (by rw [sizeLine_eq]; exact hz), e2]
theorem while_f {wp : List Nat} {n : Nat} (h : Ft (forget wp ρ) = .ok false ρ1) : whileF Ft F wp (n + 1) ρ = .nx ρ1 := by
  show (Ft (forget wp ρ)).to _ = _
  rw [h]
  rfl
theorem while_t {wp : List Nat} {n : Nat} (h : Ft (forget wp ρ) = .ok true ρ1) (hb : F ρ1 = .nx ρ2) : whileF Ft F wp (n + 1) ρ = whileF Ft F wp n ρ2 := by
  show (Ft (forget wp ρ)).to _ = _
  rw [h]
  show (match F ρ1 with | .nx ρ2 => _ | .ct ρ2 => _ | .bk ρ2 => _ | o => _) = _
  rw [hb]
theorem st_frz (h : F (frzS i ρ) = .nx ρ1) : sFrz i F ρ = .nx ρ1 := h
theorem st_frzA (h : F ρ = .nx ρ1) : sFrzA i F ρ = .nx (frzS i ρ1) := by unfold sFrzA; rw [h]
end
theorem ints_map {α : Type} (f : α → Int) : ∀ l : List α, intsOf (l.map fun a => D.int (f a)) = some (l.map f)
  | [] => rfl
  | a :: l => by
    show (intsOf (l.map _)).map _ = _
    rw [ints_map f l]
    rfl
theorem strs_map {α : Type} (f : α → Str) : ∀ l : List α, strsOf (l.map fun a => D.str (f a)) = some (l.map f)
  | [] => rfl
  | a :: l => by
    show (strsOf (l.map _)).map _ = _
    rw [strs_map f l]
    rfl
theorem maxOf_spec : ∀ (xs : List Int) (x : Int), PySem.W.maxOf x xs ∈ x :: xs ∧ ∀ n ∈ x :: xs, n ≤ PySem.W.maxOf x xs
  | [], x => ⟨List.mem_cons_self, fun n hn => by
    have : n = x := by simpa using hn
    rw [this]
    exact Int.le_refl _⟩
  | y :: xs, x => by
    obtain ⟨h1, h2⟩ := maxOf_spec xs (if PySem.W.DatumOrd.lt x y = true then y else x)
    have e : PySem.W.maxOf x (y :: xs) = PySem.W.maxOf (if PySem.W.DatumOrd.lt x y = true then y else x) xs := rfl
    have hd : (PySem.W.DatumOrd.lt x y = true) = (x < y) := by
      show (decide (x < y) = true) = _
      exact decide_eq_true_eq
    rw [e]
    refine ⟨?_, fun n hn => ?_⟩
    · rcases List.mem_cons.mp h1 with q | q
      · rw [q]
        split
        · simp
        · simp
      · exact List.mem_cons_of_mem _ (List.mem_cons_of_mem _ q)
    · have hm := h2 _ List.mem_cons_self
      rcases List.mem_cons.mp hn with rfl | hn
      · refine Int.le_trans ?_ hm
        split
        · rename_i q
          rw [hd] at q
          omega
        · exact Int.le_refl _
      · rcases List.mem_cons.mp hn with rfl | hn
        · refine Int.le_trans ?_ hm
          split
          · exact Int.le_refl _
          · rename_i q
            rw [hd] at q
            omega
        · exact h2 n (List.mem_cons_of_mem _ hn)
theorem minOf_spec : ∀ (xs : List Int) (x : Int), PySem.W.minOf x xs ∈ x :: xs ∧ ∀ n ∈ x :: xs, PySem.W.minOf x xs ≤ n
  | [], x => ⟨List.mem_cons_self, fun n hn => by
    have : n = x := by simpa using hn
    rw [this]
    exact Int.le_refl _⟩
  | y :: xs, x => by
    obtain ⟨h1, h2⟩ := minOf_spec xs (if PySem.W.DatumOrd.lt y x = true then y else x)
    have e : PySem.W.minOf x (y :: xs) = PySem.W.minOf (if PySem.W.DatumOrd.lt y x = true then y else x) xs := rfl
    have hd : (PySem.W.DatumOrd.lt y x = true) = (y < x) := by
      show (decide (y < x) = true) = _
      exact decide_eq_true_eq
    rw [e]
    refine ⟨?_, fun n hn => ?_⟩
    · rcases List.mem_cons.mp h1 with q | q
      · rw [q]
        split
        · simp
        · simp
      · exact List.mem_cons_of_mem _ (List.mem_cons_of_mem _ q)
    · have hm := h2 _ List.mem_cons_self
      rcases List.mem_cons.mp hn with rfl | hn
      · refine Int.le_trans hm ?_
        split
        · rename_i q
          rw [hd] at q
          omega
        · exact Int.le_refl _
      · rcases List.mem_cons.mp hn with rfl | hn
        · refine Int.le_trans hm ?_
          split
          · exact Int.le_refl _
          · rename_i q
            rw [hd] at q
            omega
        · exact h2 n (List.mem_cons_of_mem _ hn)
theorem g_max {ns : List Int} (h : ns ≠ []) : ∃ m, g1 (onL (fMin PySem.W.maxOf PySem.W.maxOf)) [.lst (ns.map fun n => D.int n)] = some (.int m) ∧ m ∈ ns ∧ ∀ n ∈ ns, n ≤ m := by
  cases ns with
  | nil => exact absurd rfl h
  | cons x xs =>
    refine ⟨PySem.W.maxOf x xs, ?_, maxOf_spec xs x⟩
    show fMin PySem.W.maxOf PySem.W.maxOf ((x :: xs).map fun n => D.int n) = _
    unfold fMin
    rw [ints_map (fun n : Int => n) (x :: xs), List.map_id']
theorem g_min {ns : List Int} (h : ns ≠ []) : ∃ m, g1 (onL (fMin PySem.W.minOf PySem.W.minOf)) [.lst (ns.map fun n => D.int n)] = some (.int m) ∧ m ∈ ns ∧ ∀ n ∈ ns, m ≤ n := by
  cases ns with
  | nil => exact absurd rfl h
  | cons x xs =>
    refine ⟨PySem.W.minOf x xs, ?_, minOf_spec xs x⟩
    show fMin PySem.W.minOf PySem.W.minOf ((x :: xs).map fun n => D.int n) = _
    unfold fMin
    rw [ints_map (fun n : Int => n) (x :: xs), List.map_id']
/-- min of texts: one of them -/
theorem foldl_mem {α : Type} (f : α → α → α) (hf : ∀ a b, f a b = a ∨ f a b = b) : ∀ (xs : List α) (x : α), xs.foldl f x ∈ x :: xs
  | [], x => List.mem_cons_self
  | y :: xs, x => by
    have := foldl_mem f hf xs (f x y)
    show xs.foldl f (f x y) ∈ _
    rcases List.mem_cons.mp this with q | q
    · rw [q]
      rcases hf x y with z | z
      · rw [z]; exact List.mem_cons_self
      · rw [z]; exact List.mem_cons_of_mem _ List.mem_cons_self
    · exact List.mem_cons_of_mem _ (List.mem_cons_of_mem _ q)
theorem g_minS {ws : List Str} (h : ws ≠ []) : ∃ m, g1 (onL (fMin PySem.W.minOf PySem.W.minOf)) [.lst (ws.map fun n => D.str n)] = some (.str m) ∧ m ∈ ws := by
  cases ws with
  | nil => exact absurd rfl h
  | cons x xs =>
    refine ⟨PySem.W.minOf x xs, ?_, foldl_mem _ (fun a b => by
      split
      · exact .inr rfl
      · exact .inl rfl) xs x⟩
    show fMin PySem.W.minOf PySem.W.minOf ((x :: xs).map fun n => D.str n) = _
    unfold fMin
    have e1 : intsOf ((x :: xs).map fun n => D.str n) = none := rfl
    rw [e1]
    show (match strsOf ((x :: xs).map fun n => D.str n) with | some (x :: xs) => _ | _ => _) = _
    rw [strs_map (fun n : Str => n) (x :: xs), List.map_id']
end DL

set_option Elab.async false
set_option linter.all false
set_option maxRecDepth 100000
set_option maxHeartbeats 2000000
namespace DL
open PySem PySem.Spec PyProof.Rows L2
/-- plain data of a depth below n -/
def plain : Nat → D → Bool
  | 0, _ => false
  | _ + 1, .non => true
  | _ + 1, .bl _ => true
  | _ + 1, .int _ => true
  | _ + 1, .str _ => true
  | n + 1, .tup ds => decide (ds.length ≤ 100000) && ds.all (plain n)
  | n + 1, .lst ds => decide (ds.length ≤ 100000) && ds.all (plain n)
  | _ + 1, .dk _ _ => false
  | _ + 1, .dt _ _ => false
theorem gEq_int (i : Int) : gEq (.int i) (.int i) = some (.bl true) := by
  show some (D.bl (decide (i = i))) = _
  rw [decide_eq_true rfl]
theorem item_tup {ds : List D} {k : Nat} {d : D} (h : ds[k]? = some d) : itemD (.tup ds) (.int (k : Nat)) = some d := atI_nat h
theorem item_lst {ds : List D} {k : Nat} {d : D} (h : ds[k]? = some d) : itemD (.lst ds) (.int (k : Nat)) = some d := atI_nat h
theorem all_true {α : Type} (l : List α) : g1 (onL fAll) [.lst (l.map fun _ => D.bl true)] = some (.bl true) := by
  refine (g_all (fun _ => true) l).trans ?_
  congr 2
  exact List.all_eq_true.mpr fun _ _ => rfl
end DL

set_option Elab.async false
set_option linter.all false
set_option maxRecDepth 100000
set_option maxHeartbeats 2000000
namespace DL
open PySem PySem.Spec PyProof.Rows L2
theorem joinL_nil : ∀ fs : List (List Nat), TL.joinL [] fs = fs.flatten
  | [] => rfl
  | [p] => by
    show p = _
    rw [List.flatten_cons, List.flatten_nil, List.append_nil]
  | p :: q :: r => by
    show p ++ ([] ++ TL.joinL [] (q :: r)) = _
    rw [joinL_nil (q :: r), List.nil_append]
    rfl
theorem join_words (fs : List (List Nat)) : Txt.join "" (fs.map fun p => (⟨p.toArray⟩ : Str)) = ⟨fs.flatten.toArray⟩ := by
  have e := TL.tl_join "" (fs.map fun p => (⟨p.toArray⟩ : Str))
  rw [List.map_map] at e
  have e1 : (TL.tl ∘ fun p : List Nat => (⟨p.toArray⟩ : Str)) = id := funext fun p => rfl
  rw [e1, List.map_id] at e
  have e2 : TL.tl "" = [] := rfl
  rw [e2, joinL_nil] at e
  apply TL.ext_tl
  rw [TL.join_eq]
  exact e
theorem sum_len (fs : List (List Nat)) : ((fs.map fun p => (⟨p.toArray⟩ : Str)).map (·.length)).sum = fs.flatten.length := by
  rw [List.map_map, List.length_flatten]
  rfl
theorem g_join {fs : List (List Nat)} (h : fs.flatten.length ≤ 10000) : gJoin (.str "") [.tup (fs.map S)] = some (S fs.flatten) := by
  show (match strsOf (fs.map S) with | some ys => if joinOk "" ys = true then some (D.str (Txt.join "" ys)) else none | none => none) = _
  have e : strsOf (fs.map S) = some (fs.map fun p => (⟨p.toArray⟩ : Str)) := strs_map (fun p : List Nat => (⟨p.toArray⟩ : Str)) fs
  rw [e]
  show (if joinOk "" (fs.map fun p => (⟨p.toArray⟩ : Str)) = true then some (D.str (Txt.join "" (fs.map fun p => (⟨p.toArray⟩ : Str)))) else none) = _
  rw [if_pos (by
    unfold joinOk
    rw [sum_len]
    have : ("" : Str).length = 0 := rfl
    rw [this, Nat.mul_zero]
    exact decide_eq_true (by omega)), join_words]
  rfl
theorem g_joinL {fs : List (List Nat)} (h : fs.flatten.length ≤ 10000) : gJoin (.str "") [.lst (fs.map S)] = some (S fs.flatten) := g_join h
theorem gEq_S (u v : List Nat) : gEq (S u) (S v) = some (.bl (decide (u = v))) := by
  show some (D.bl (decide ((⟨u.toArray⟩ : Str) = ⟨v.toArray⟩))) = _
  congr 2
  by_cases h : u = v
  · subst h; rw [decide_eq_true rfl, decide_eq_true rfl]
  · rw [decide_eq_false h, decide_eq_false fun z => h (S_inj z)]
theorem ev_tm {g : D → List D → Option D} {Fo : SE → R D} {Fa : SE → R (List D)} {ρ ρ1 ρ2 : SE} {z : Str} {as : List D} {d : D} (ho : Fo ρ = .ok (.str z) ρ1) (ha : Fa ρ1 = .ok as ρ2) (e : g (.str z) as = some d) : eTm g Fo Fa ρ = .ok d ρ2 := by
  unfold eTm; rw [ho]; show (Fa ρ1).bind _ = _; rw [ha]; show R.of ρ2 (g (.str z) as) = _; rw [e]; rfl
theorem ev_notD {Fa : SE → R D} {ρ ρ1 : SE} {b : Bool} (ha : Fa ρ = .ok (.bl b) ρ1) : eNot Fa ρ = .ok (.bl (!b)) ρ1 := by unfold eNot; rw [ha]; rfl
theorem g_sub (a b : Int) : gSub (.int a) (.int b) = some (.int (a - b)) := rfl
theorem g_addI (a b : Int) : gAdd (.int a) (.int b) = some (.int (a + b)) := rfl
end DL

set_option Elab.async false
set_option linter.all false
set_option maxRecDepth 100000
set_option maxHeartbeats 2000000
namespace DL
open PySem PySem.Spec PyProof.Rows L2
theorem toPs_S : ∀ ws : List (List Nat), toPs (ws.map S) = some (ws.map fun w => PyData.str ⟨w.toArray⟩)
  | [] => by rw [List.map_nil]; unfold toPs; rfl
  | w :: ws => by
    rw [List.map_cons]
    unfold toPs
    rw [toPs_S ws]
    have : toP (S w) = some (PyData.str ⟨w.toArray⟩) := by unfold S toP; rfl
    rw [this]
    rfl
theorem sortOk_S (ws : List (List Nat)) : sortOk (ws.map fun w => PyData.str ⟨w.toArray⟩) = true := by
  unfold sortOk
  rw [Bool.and_eq_true, Bool.and_eq_true]
  refine ⟨⟨?_, ?_⟩, ?_⟩
  · unfold alikeAllB
    rw [List.all_eq_true]
    intro x hx
    rw [List.all_eq_true]
    intro y hy
    obtain ⟨u, _, rfl⟩ := List.mem_map.mp hx
    obtain ⟨v, _, rfl⟩ := List.mem_map.mp hy
    unfold PySem.W.alike
    rfl
  · unfold sortableB
    rw [Bool.or_eq_true]
    refine .inr ?_
    rw [List.all_eq_true]
    intro x hx
    obtain ⟨u, _, rfl⟩ := List.mem_map.mp hx
    rfl
  · unfold depthOk
    rw [List.all_eq_true]
    intro x hx
    obtain ⟨u, _, rfl⟩ := List.mem_map.mp hx
    rw [decide_eq_true_eq]
    unfold PyData.depth
    omega
theorem f_sort (ws : List (List Nat)) : g1 (onL fSort) [.lst (ws.map S)] = some (.lst ((ws.map S).mergeSort leD)) := by
  show fSort (ws.map S) = _
  unfold fSort
  rw [toPs_S]
  show (if sortOk _ = true then _ else _) = _
  rw [if_pos (sortOk_S ws)]
def unS : D → List Nat
  | .str s => s.cps.toList
  | _ => []
theorem unS_S (w : List Nat) : unS (S w) = w := rfl
theorem srt_mem {ws : List (List Nat)} {d : D} (h : d ∈ (ws.map S).mergeSort leD) : ∃ w ∈ ws, d = S w := by
  obtain ⟨w, hw, e⟩ := List.mem_map.mp (List.mem_mergeSort.mp h)
  exact ⟨w, hw, e.symm⟩
theorem srt_len (ws : List (List Nat)) : ((ws.map S).mergeSort leD).length = ws.length := by rw [List.length_mergeSort, List.length_map]
theorem srt_count (f : List Nat → Bool) (ws : List (List Nat)) : (((ws.map S).mergeSort leD).filter fun d => f (unS d)).length = (ws.filter f).length := by
  have h := (List.mergeSort_perm (ws.map S) leD).filter fun d => f (unS d)
  rw [h.length_eq, List.filter_map, List.length_map]
  rfl
end DL

set_option Elab.async false
set_option linter.all false
/-! Lyndon words, plainly -/
namespace Lyn
theorem lt_self : ∀ (w : List Nat), ¬ w < w
  | [], h => absurd h (List.not_lt_nil _)
  | a :: w, h => by
    rcases List.cons_lt_cons_iff.mp h with h | ⟨_, h⟩
    · exact absurd h (Nat.lt_irrefl _)
    · exact lt_self w h
theorem lt_tr : ∀ {u v w : List Nat}, u < v → v < w → u < w
  | _, [], _, h, _ => absurd h (List.not_lt_nil _)
  | _, _ :: _, [], _, h => absurd h (List.not_lt_nil _)
  | [], _ :: _, _ :: _, _, _ => List.nil_lt_cons _ _
  | a :: u, b :: v, c :: w, h1, h2 => by
    rcases List.cons_lt_cons_iff.mp h1 with q1 | ⟨e1, q1⟩
    · rcases List.cons_lt_cons_iff.mp h2 with q2 | ⟨e2, q2⟩
      · exact List.cons_lt_cons_iff.mpr (.inl (Nat.lt_trans q1 q2))
      · exact List.cons_lt_cons_iff.mpr (.inl (e2 ▸ q1))
    · rcases List.cons_lt_cons_iff.mp h2 with q2 | ⟨e2, q2⟩
      · exact List.cons_lt_cons_iff.mpr (.inl (e1 ▸ q2))
      · exact List.cons_lt_cons_iff.mpr (.inr ⟨e1.trans e2, lt_tr q1 q2⟩)
theorem tri : ∀ (u v : List Nat), u < v ∨ u = v ∨ v < u
  | [], [] => .inr (.inl rfl)
  | [], _ :: _ => .inl (List.nil_lt_cons _ _)
  | _ :: _, [] => .inr (.inr (List.nil_lt_cons _ _))
  | a :: u, b :: v => by
    rcases Nat.lt_trichotomy a b with h | h | h
    · exact .inl (List.cons_lt_cons_iff.mpr (.inl h))
    · subst h
      rcases tri u v with h | h | h
      · exact .inl (List.cons_lt_cons_iff.mpr (.inr ⟨rfl, h⟩))
      · exact .inr (.inl (by rw [h]))
      · exact .inr (.inr (List.cons_lt_cons_iff.mpr (.inr ⟨rfl, h⟩)))
    · exact .inr (.inr (List.cons_lt_cons_iff.mpr (.inl h)))
theorem lt_as {u v : List Nat} (h : u < v) (h' : v < u) : False := lt_self u (lt_tr h h')
theorem app_lt : ∀ {x u v : List Nat}, x ++ u < x ++ v ↔ u < v
  | [], u, v => Iff.rfl
  | a :: x, u, v => by
    rw [List.cons_append, List.cons_append, List.cons_lt_cons_iff]
    constructor
    · rintro (h | ⟨_, h⟩)
      · exact absurd h (Nat.lt_irrefl _)
      · exact app_lt.mp h
    · exact fun h => .inr ⟨rfl, app_lt.mpr h⟩
theorem pre_lt {u v : List Nat} (h : v ≠ []) : u < u ++ v := by
  have : u ++ [] < u ++ v := app_lt.mpr (by
    cases v with
    | nil => exact absurd rfl h
    | cons a v => exact List.nil_lt_cons _ _)
  rwa [List.append_nil] at this
/-- they differ ahead of an end -/
theorem lt_np : ∀ {a b : List Nat}, a < b → (∀ t, b ≠ a ++ t) → ∀ x y, a ++ x < b ++ y
  | [], b, _, h, _, _ => absurd rfl (h b)
  | _ :: _, [], h, _, _, _ => absurd h (List.not_lt_nil _)
  | a :: u, b :: v, h, hn, x, y => by
    rw [List.cons_append, List.cons_append]
    rcases List.cons_lt_cons_iff.mp h with q | ⟨e1, q⟩
    · exact List.cons_lt_cons_iff.mpr (.inl q)
    · exact List.cons_lt_cons_iff.mpr (.inr ⟨e1, lt_np q (fun t e => hn t (by rw [e, e1]; rfl)) x y⟩)
theorem lt_ext {a b : List Nat} (h : a < b) (hl : b.length ≤ a.length) (x y : List Nat) : a ++ x < b ++ y := lt_np h (fun t e => by
  have : t = [] := by
    have := congrArg List.length e
    rw [List.length_append] at this
    exact List.eq_nil_of_length_eq_zero (by omega)
  subst this
  rw [List.append_nil] at e
  subst e
  exact lt_self _ h) x y
def lyn (w : List Nat) : Prop := w ≠ [] ∧ ∀ u v, w = u ++ v → u ≠ [] → v ≠ [] → w < v
def rot (w : List Nat) : Prop := w ≠ [] ∧ ∀ u v, w = u ++ v → u ≠ [] → v ≠ [] → w < v ++ u
theorem len_pos {u : List Nat} (h : u ≠ []) : 0 < u.length := List.length_pos_iff.mpr h
theorem lyn_rot {w : List Nat} : lyn w ↔ rot w := by
  constructor
  · rintro ⟨h0, h⟩
    refine ⟨h0, fun u v e hu hv => ?_⟩
    have := lt_ext (h u v e hu hv) (by rw [e, List.length_append]; omega) [] u
    rwa [List.append_nil] at this
  · rintro ⟨h0, h⟩
    refine ⟨h0, fun u v e hu hv => ?_⟩
    have pu := len_pos hu
    rcases tri w v with q | q | q
    · exact q
    · have := congrArg List.length e
      rw [← q, List.length_append] at this
      omega
    · exfalso
      by_cases hp : ∃ t, w = v ++ t
      · obtain ⟨t, et⟩ := hp
        have lt : t.length = u.length := by
          have h1 := congrArg List.length e
          have h2 := congrArg List.length et
          rw [List.length_append] at h1 h2
          omega
        have ht : t ≠ [] := fun z => by rw [z] at lt; simp at lt; omega
        have h1 := h u v e hu hv
        rw [et] at h1
        have h1 : t < u := app_lt.mp h1
        have h2 := h v t et hv ht
        rw [e] at h2
        exact lt_as h2 (lt_ext h1 (by omega) v v)
      · have := lt_np q (fun t e => hp ⟨t, e⟩) u []
        rw [List.append_nil] at this
        exact lt_as this (h u v e hu hv)
theorem lyn_app {u v : List Nat} (hu : lyn u) (hv : lyn v) (h : u < v) : lyn (u ++ v) := by
  have key : u ++ v < v := by
    by_cases hp : ∃ t, v = u ++ t
    · obtain ⟨t, et⟩ := hp
      have ht : t ≠ [] := fun z => by
        rw [z, List.append_nil] at et
        rw [et] at h
        exact lt_self _ h
      have h1 := hv.2 u t et hu.1 ht
      have h2 : u ++ v < u ++ t := app_lt.mpr h1
      rw [← et] at h2
      exact h2
    · have := lt_np h (fun t e => hp ⟨t, e⟩) v []
      rwa [List.append_nil] at this
  refine ⟨fun z => hu.1 (List.append_eq_nil_iff.mp z).1, fun s t e hs ht => ?_⟩
  rcases List.append_eq_append_iff.mp e with ⟨a, e1, e2⟩ | ⟨c, e1, e2⟩
  · by_cases ha : a = []
    · subst ha
      rw [List.nil_append] at e2
      rw [← e2]; exact key
    · exact lt_tr key (hv.2 a t e2 ha ht)
  · by_cases hc : c = []
    · subst hc
      rw [List.nil_append] at e2
      rw [e2]; exact key
    · have := hu.2 s c e1 hs hc
      rw [e2]
      exact lt_ext this (by rw [e1, List.length_append]; omega) v v
theorem min_suffix : ∀ u : List Nat, u ≠ [] → ∃ p s, u = p ++ s ∧ s ≠ [] ∧ ∀ q t, u = q ++ t → t ≠ [] → s = t ∨ s < t
  | [], h => absurd rfl h
  | [a], _ => ⟨[], [a], rfl, by simp, fun q t e ht => by
    cases q with
    | nil => exact .inl e
    | cons b q =>
      have := congrArg List.length e
      rw [List.length_append, List.length_cons, List.length_cons] at this
      simp only [List.length_nil] at this
      exact absurd (List.eq_nil_of_length_eq_zero (by omega)) ht⟩
  | a :: b :: r, _ => by
    obtain ⟨p, s, e, hs, hm⟩ := min_suffix (b :: r) (by simp)
    rcases tri s (a :: b :: r) with h | h | h
    · refine ⟨a :: p, s, by rw [e]; rfl, hs, fun q t eq ht => ?_⟩
      cases q with
      | nil => rw [← show a :: b :: r = t from eq]; exact .inr h
      | cons c q =>
        have e2 : b :: r = q ++ t := (List.cons.inj eq).2
        exact hm q t e2 ht
    · have := congrArg List.length h
      have l2 := congrArg List.length e
      rw [List.length_append] at l2
      simp at this l2
      omega
    · refine ⟨[], a :: b :: r, rfl, by simp, fun q t eq ht => ?_⟩
      cases q with
      | nil => exact .inl eq
      | cons c q =>
        have e2 : b :: r = q ++ t := (List.cons.inj eq).2
        rcases hm q t e2 ht with h2 | h2
        · rw [← h2]; exact .inr h
        · exact .inr (lt_tr h h2)
theorem split_lyn {w u v : List Nat} (hw : lyn w) (e : w = u ++ v) (hu : u ≠ []) (hv : v ≠ []) (lv : lyn v) (longest : ∀ u' v', w = u' ++ v' → u' ≠ [] → lyn v' → v'.length ≤ v.length) : lyn u ∧ u < v := by
  have h1 : w < v := hw.2 u v e hu hv
  have h2 : u < w := by rw [e]; exact pre_lt hv
  refine ⟨?_, lt_tr h2 h1⟩
  obtain ⟨p, s, es, hs, hm⟩ := min_suffix u hu
  have ls : lyn s := ⟨hs, fun a b eb ha hb => by
    rcases hm (p ++ a) b (by rw [es, eb, List.append_assoc]) hb with q | q
    · have := congrArg List.length q
      have l2 := congrArg List.length eb
      have := len_pos ha
      rw [List.length_append] at l2
      omega
    · exact q⟩
  by_cases hp : p = []
  · subst hp
    rw [List.nil_append] at es
    rw [es]; exact ls
  · exfalso
    have h3 : s = u ∨ s < u := hm [] u rfl hu
    have ew : w = p ++ (s ++ v) := by rw [e, es, List.append_assoc]
    have h4 : ¬ s < v := fun z => by
      have := longest p (s ++ v) ew hp (lyn_app ls lv z)
      have := len_pos hs
      rw [List.length_append] at *
      omega
    have h5 : u < s := by
      rcases tri s v with q | q | q
      · exact absurd q h4
      · rw [q]; exact lt_tr h2 h1
      · exact lt_tr (lt_tr h2 h1) q
    rcases h3 with q | q
    · rw [q] at h5; exact lt_self _ h5
    · exact lt_as h5 q
theorem lyn_one (a : Nat) : lyn [a] := ⟨by simp, fun u v e hu hv => by
  have := congrArg List.length e
  have h1 := len_pos hu
  have h2 := len_pos hv
  rw [List.length_append] at this
  simp at this
  omega⟩
/-! decided -/
def lynB (w : List Nat) : Bool := decide (w ≠ []) && (List.range (w.length - 1)).all fun k => decide (w < w.drop (1 + k))
def rotB (w : List Nat) : Bool := decide (w ≠ []) && (List.range (w.length - 1)).all fun k => decide (w < w.drop (1 + k) ++ w.take (1 + k))
theorem lynB_iff {w : List Nat} : lynB w = true ↔ lyn w := by
  unfold lynB lyn
  rw [Bool.and_eq_true, decide_eq_true_eq, List.all_eq_true]
  refine and_congr_right fun h0 => ⟨fun h u v e hu hv => ?_, fun h k hk => ?_⟩
  · have pu := len_pos hu
    have pv := len_pos hv
    have hl : w.length = u.length + v.length := by rw [e, List.length_append]
    have := h (u.length - 1) (List.mem_range.mpr (by omega))
    rw [decide_eq_true_eq, show 1 + (u.length - 1) = u.length by omega] at this
    rw [e, List.drop_left] at this
    rw [e]; exact this
  · have hk := List.mem_range.mp hk
    rw [decide_eq_true_eq]
    refine h (w.take (1 + k)) (w.drop (1 + k)) (List.take_append_drop _ _).symm (fun z => ?_) (fun z => ?_)
    · have := congrArg List.length z
      rw [List.length_take, List.length_nil] at this
      omega
    · have := congrArg List.length z
      rw [List.length_drop, List.length_nil] at this
      omega
theorem rotB_iff {w : List Nat} : rotB w = true ↔ rot w := by
  unfold rotB rot
  rw [Bool.and_eq_true, decide_eq_true_eq, List.all_eq_true]
  refine and_congr_right fun h0 => ⟨fun h u v e hu hv => ?_, fun h k hk => ?_⟩
  · have pu := len_pos hu
    have pv := len_pos hv
    have hl : w.length = u.length + v.length := by rw [e, List.length_append]
    have := h (u.length - 1) (List.mem_range.mpr (by omega))
    rw [decide_eq_true_eq, show 1 + (u.length - 1) = u.length by omega] at this
    rw [e, List.drop_left, List.take_left] at this
    rw [e]; exact this
  · have hk := List.mem_range.mp hk
    rw [decide_eq_true_eq]
    refine h (w.take (1 + k)) (w.drop (1 + k)) (List.take_append_drop _ _).symm (fun z => ?_) (fun z => ?_)
    · have := congrArg List.length z
      rw [List.length_take, List.length_nil] at this
      omega
    · have := congrArg List.length z
      rw [List.length_drop, List.length_nil] at this
      omega
theorem rot_lynB (w : List Nat) : rotB w = lynB w := by
  have : rotB w = true ↔ lynB w = true := by rw [rotB_iff, lynB_iff, lyn_rot]
  cases h1 : rotB w <;> cases h2 : lynB w <;> simp_all
/-! the longest Lyndon prefixes, one after the other -/
inductive Facs : List Nat → List (List Nat) → Prop
  | nil : Facs [] []
  | cons {w : List Nat} {m : Nat} {fs : List (List Nat)} (h1 : 1 ≤ m) (h2 : m ≤ w.length) (hl : lyn (w.take m)) (hx : ∀ k, m < k → k ≤ w.length → ¬ lyn (w.take k)) (r : Facs (w.drop m) fs) : Facs w (w.take m :: fs)
theorem Facs.join {w : List Nat} {fs : List (List Nat)} (h : Facs w fs) : fs.flatten = w := by
  induction h with
  | nil => rfl
  | cons h1 h2 hl hx r ih => rw [List.flatten_cons, ih, List.take_append_drop]
theorem Facs.all {w : List Nat} {fs : List (List Nat)} (h : Facs w fs) : ∀ p ∈ fs, lyn p := by
  induction h with
  | nil => intro p hp; cases hp
  | cons h1 h2 hl hx r ih =>
    intro p hp
    rcases List.mem_cons.mp hp with rfl | hp
    · exact hl
    · exact ih p hp
theorem Facs.chain {w : List Nat} {fs : List (List Nat)} (h : Facs w fs) : ∀ (i : Nat) (p q : List Nat), fs[i]? = some p → fs[i + 1]? = some q → ¬ p < q := by
  induction h with
  | nil => intro i p q h1; simp at h1
  | @cons w m fs h1 h2 hl hx r ih =>
    intro i p q e1 e2 lt
    cases i with
    | succ i => exact ih i p q (by simpa using e1) (by simpa using e2) lt
    | zero =>
      have f1 : p = w.take m := by simpa using e1.symm
      generalize hd : w.drop m = r0 at r
      cases r with
      | nil => simp at e2
      | @cons _ k fs' k1 k2 kl kx r' =>
        have f2 : q = r0.take k := by simpa using e2.symm
        subst hd
        rw [f1, f2] at lt
        have := lyn_app hl kl lt
        rw [List.length_drop] at k2
        refine hx (m + k) (by omega) (by omega) ?_
        rw [List.take_add]
        exact this
theorem Facs.one {w : List Nat} {fs : List (List Nat)} (h : Facs w fs) : fs.length = 1 ↔ lyn w := by
  cases h with
  | nil =>
    constructor
    · intro z
      cases z
    · intro z
      exact absurd rfl z.1
  | @cons _ m fs h1 h2 hl hx r =>
    constructor
    · intro z
      have z : fs = [] := by simpa using z
      subst z
      have := r.join
      have e : w.drop m = [] := this.symm
      have : w.take m = w := by
        have := List.take_append_drop m w
        rw [e, List.append_nil] at this
        exact this
      rw [this] at hl
      exact hl
    · intro z
      have hm : m = w.length := by
        by_cases q : m < w.length
        · exact absurd (by rw [List.take_length]; exact z) (hx w.length q (Nat.le_refl _))
        · omega
      generalize hd : w.drop m = r0 at r
      rw [hm, List.drop_length] at hd
      subst hd
      cases r with
      | nil => rfl
      | cons k1 k2 _ _ _ => simp at k2; omega
end Lyn

set_option Elab.async false
set_option linter.all false
set_option maxRecDepth 100000
set_option maxHeartbeats 4000000
namespace Gk85
open PySem PySem.Spec PyProof.Rows L2 DL
def topS (i : Nat) : Stmt := PySem.Challenge.pw_wholeoverlaps_k85_whole_lyndon_words_and.main.body.getD i (.Pass ⟨0, 0, 0, 0⟩)
abbrev st__law_feed : Stmt := topS 32
abbrev st_is_integer : Stmt := topS 7
abbrev st_check_integer : Stmt := topS 9
abbrev st_is_natural : Stmt := topS 8
abbrev st_is_field : Stmt := topS 10
abbrev st_is_setting : Stmt := topS 14
abbrev st_check_setting : Stmt := topS 15
abbrev st_words_number : Stmt := topS 20
abbrev st_letters_of : Stmt := topS 16
abbrev st_words_by : Stmt := topS 19
abbrev st_is_lyndon_word : Stmt := topS 22
abbrev st_lyndon_words : Stmt := topS 27
abbrev st_lyndon_counts : Stmt := topS 28
abbrev st__law_drawn : Stmt := topS 33
abbrev st__law_same : Stmt := topS 34
abbrev st__law_letters : Stmt := topS 35
abbrev st__law_words : Stmt := topS 36
abbrev st__law_drawn_word : Stmt := topS 37
abbrev st__law_is_lyndon : Stmt := topS 38
abbrev st_is_word_of : Stmt := topS 17
abbrev st_check_word : Stmt := topS 18
abbrev st_is_lyndon : Stmt := topS 26
abbrev st_factors_of : Stmt := topS 23
abbrev st_lyndon_factors : Stmt := topS 29
abbrev st_split_of : Stmt := topS 24
abbrev st_check_lyndon : Stmt := topS 25
abbrev st_lyndon_split : Stmt := topS 30
abbrev st__law_asked : Stmt := topS 40
abbrev st__law_split : Stmt := topS 39
abbrev st__law_factors_right : Stmt := topS 41
abbrev st__law_word_right : Stmt := topS 42
abbrev st__law_right : Stmt := topS 43
abbrev st_law : Stmt := topS 44
def allExc : List Str := ["InvalidInteger", "InvalidSetting", "InvalidWord"]
def subExc : Str → Str → Bool := fun c x => c == x
/-- what the module has written -/
structure Facts (P : Program) (K : PySem.W.Frag) (mg : Str → Option Value) : Prop where
  d__law_feed : DefOk K mg "_law_feed" st__law_feed ["script"]
  d_is_integer : DefOk K mg "is_integer" st_is_integer ["value"]
  d_check_integer : DefOk K mg "check_integer" st_check_integer ["value", "least"]
  d_is_natural : DefOk K mg "is_natural" st_is_natural ["value"]
  d_is_field : DefOk K mg "is_field" st_is_field ["value"]
  d_is_setting : DefOk K mg "is_setting" st_is_setting ["value"]
  d_check_setting : DefOk K mg "check_setting" st_check_setting ["setting"]
  d_words_number : DefOk K mg "words_number" st_words_number ["setting", "k"]
  d_letters_of : DefOk K mg "letters_of" st_letters_of ["setting"]
  d_words_by : DefOk K mg "words_by" st_words_by ["setting", "k"]
  d_is_lyndon_word : DefOk K mg "is_lyndon_word" st_is_lyndon_word ["word"]
  d_lyndon_words : DefOk K mg "lyndon_words" st_lyndon_words ["setting", "k"]
  d_lyndon_counts : DefOk K mg "lyndon_counts" st_lyndon_counts ["setting", "k"]
  d__law_drawn : DefOk K mg "_law_drawn" st__law_drawn ["feed", "many"]
  d__law_same : DefOk K mg "_law_same" st__law_same ["found", "due"]
  d__law_letters : DefOk K mg "_law_letters" st__law_letters ["setting"]
  d__law_words : DefOk K mg "_law_words" st__law_words ["setting", "k"]
  d__law_drawn_word : DefOk K mg "_law_drawn_word" st__law_drawn_word ["feed", "setting", "most"]
  d__law_is_lyndon : DefOk K mg "_law_is_lyndon" st__law_is_lyndon ["word"]
  d_is_word_of : DefOk K mg "is_word_of" st_is_word_of ["setting", "value"]
  d_check_word : DefOk K mg "check_word" st_check_word ["setting", "word"]
  d_is_lyndon : DefOk K mg "is_lyndon" st_is_lyndon ["setting", "word"]
  d_factors_of : DefOk K mg "factors_of" st_factors_of ["word"]
  d_lyndon_factors : DefOk K mg "lyndon_factors" st_lyndon_factors ["setting", "word"]
  d_split_of : DefOk K mg "split_of" st_split_of ["word"]
  d_check_lyndon : DefOk K mg "check_lyndon" st_check_lyndon ["setting", "word", "least"]
  d_lyndon_split : DefOk K mg "lyndon_split" st_lyndon_split ["setting", "word"]
  d__law_asked : DefOk K mg "_law_asked" st__law_asked ["which", "setting", "a"]
  d__law_split : DefOk K mg "_law_split" st__law_split ["word"]
  d__law_factors_right : DefOk K mg "_law_factors_right" st__law_factors_right ["word", "found"]
  d__law_word_right : DefOk K mg "_law_word_right" st__law_word_right ["setting", "word"]
  d__law_right : DefOk K mg "_law_right" st__law_right ["feed"]
  d_law : DefOk K mg "law" st_law ["script"]
  z_all : mg "all" = none
  z_any : mg "any" = none
  z_bool : mg "bool" = none
  z_int : mg "int" = none
  z_isinstance : mg "isinstance" = none
  z_len : mg "len" = none
  z_list : mg "list" = none
  z_max : mg "max" = none
  z_min : mg "min" = none
  z_range : mg "range" = none
  z_sorted : mg "sorted" = none
  z_str : mg "str" = none
  z_sum : mg "sum" = none
  z_tuple : mg "tuple" = none
  z_zip : mg "zip" = none
  t_bool : IsT K "bool"
  t_int : IsT K "int"
  t_list : IsT K "list"
  t_str : IsT K "str"
  t_tuple : IsT K "tuple"
  g_LARGEST : ∃ t, mg "LARGEST" = some (.int 99 t)
  g_LETTERS : ∃ t, mg "LETTERS" = some (.str "abcdef" t)
  g_HEAVIEST : ∃ t, mg "HEAVIEST" = some (.int 9 t)
  x_InvalidInteger : ExcOk P K mg "InvalidInteger"
  x_InvalidSetting : ExcOk P K mg "InvalidSetting"
  x_InvalidWord : ExcOk P K mg "InvalidWord"
  e_0_0 : ∀ C X, mg "InvalidInteger" = some (.ref C) → mg "InvalidInteger" = some (.ref X) → PySem.W.exmOne K (.ref C) (.ref X) = some true
  e_0_1 : ∀ C X, mg "InvalidInteger" = some (.ref C) → mg "InvalidSetting" = some (.ref X) → PySem.W.exmOne K (.ref C) (.ref X) = some false
  e_0_2 : ∀ C X, mg "InvalidInteger" = some (.ref C) → mg "InvalidWord" = some (.ref X) → PySem.W.exmOne K (.ref C) (.ref X) = some false
  e_1_0 : ∀ C X, mg "InvalidSetting" = some (.ref C) → mg "InvalidInteger" = some (.ref X) → PySem.W.exmOne K (.ref C) (.ref X) = some false
  e_1_1 : ∀ C X, mg "InvalidSetting" = some (.ref C) → mg "InvalidSetting" = some (.ref X) → PySem.W.exmOne K (.ref C) (.ref X) = some true
  e_1_2 : ∀ C X, mg "InvalidSetting" = some (.ref C) → mg "InvalidWord" = some (.ref X) → PySem.W.exmOne K (.ref C) (.ref X) = some false
  e_2_0 : ∀ C X, mg "InvalidWord" = some (.ref C) → mg "InvalidInteger" = some (.ref X) → PySem.W.exmOne K (.ref C) (.ref X) = some false
  e_2_1 : ∀ C X, mg "InvalidWord" = some (.ref C) → mg "InvalidSetting" = some (.ref X) → PySem.W.exmOne K (.ref C) (.ref X) = some false
  e_2_2 : ∀ C X, mg "InvalidWord" = some (.ref C) → mg "InvalidWord" = some (.ref X) → PySem.W.exmOne K (.ref C) (.ref X) = some true
section
variable {P : Program} {wd : World} {K : PySem.W.Frag} {mg : Str → Option Value} {base : Heap}
theorem exF (h : Facts P K mg) {xs : List Str} (hx : ∀ x ∈ xs, x ∈ allExc) : ExF K mg allExc xs subExc := exF_of (fun c hc => by
  have hc : c ∈ allExc := hc
  unfold allExc at hc
  simp only [List.mem_cons, List.not_mem_nil, or_false] at hc
  rcases hc with rfl | rfl | rfl
  · exact (h.x_InvalidInteger).ex
  · exact (h.x_InvalidSetting).ex
  · exact (h.x_InvalidWord).ex) (fun c hc x hx => by
  have hc : c ∈ allExc := hc
  have hx : x ∈ allExc := hx
  unfold allExc at hc hx
  simp only [List.mem_cons, List.not_mem_nil, or_false] at hc hx
  rcases hc with rfl | rfl | rfl
  · rcases hx with rfl | rfl | rfl
    · exact h.e_0_0
    · exact h.e_0_1
    · exact h.e_0_2
  · rcases hx with rfl | rfl | rfl
    · exact h.e_1_0
    · exact h.e_1_1
    · exact h.e_1_2
  · rcases hx with rfl | rfl | rfl
    · exact h.e_2_0
    · exact h.e_2_1
    · exact h.e_2_2
  ) hx
/-! _law_feed 0:script -/
theorem sc__law_feed : FnScope ["script"] ["script"] (defScope st__law_feed) := ⟨rfl, rfl, rfl, by decide +kernel, rfl, by decide +kernel, by decide +kernel⟩
def F__law_feed : SE → O := sRetO (eLst (aCons (eArgs (g1 gList) (aCons (eSlS 0 (pNo) (pSo (eC (.int 63)))) (aNil))) (aCons (eC (.int 0)) (aCons (eC (.int 0)) (aNil)))))
def fn__law_feed : List D → FR := runDef 1 [.b] F__law_feed
theorem ok__law_feed (h : Facts P K mg) : Cl P wd K mg base "_law_feed" 1 ["script"] fn__law_feed [.b] :=
  (h.d__law_feed).cl (k := 0) sc__law_feed [.b] rfl (by decide) (fun f cdv A outer s H E hf => show BSs _ _ _ _ _ F__law_feed from
    ss_one (s_retO (b_lst (a_cons ((b_tyO hf (fun j => c_list (Fam.hK hf j)) d_list h.z_list (a_cons ((b_slS hf 0 (o_no) (o_so (b_int))).be) (a_nil))).be) (a_cons (b_int) (a_cons (b_int) (a_nil))))))) (by decide)
/-! is_integer 0:value -/
theorem sc_is_integer : FnScope ["value"] ["value"] (defScope st_is_integer) := ⟨rfl, rfl, rfl, by decide +kernel, rfl, by decide +kernel, by decide +kernel⟩
def F_is_integer : SE → O := sRet (eAnd (eUn (fun d => some (.bl (isiD "int" d))) (eVar 0)) (eNot (eUn (fun d => some (.bl (isiD "bool" d))) (eVar 0))))
def fn_is_integer : List D → FR := runDef 1 [.v] F_is_integer
theorem ok_is_integer (h : Facts P K mg) : Cl P wd K mg base "is_integer" 1 ["value"] fn_is_integer [.v] :=
  (h.d_is_integer).cl (k := 0) sc_is_integer [.v] rfl (by decide) (fun f cdv A outer s H E hf => show BSs _ _ _ _ _ F_is_integer from
    ss_one (s_ret (b_and (b_isi hf h.t_int (b_var hf 0) h.z_isinstance h.z_int) (b_one (b_not (b_isi hf h.t_bool (b_var hf 0) h.z_isinstance h.z_bool)))))) (by decide)
/-! check_integer 0:value 1:least -/
theorem sc_check_integer : FnScope ["value", "least"] ["value", "least"] (defScope st_check_integer) := ⟨rfl, rfl, rfl, by decide +kernel, rfl, by decide +kernel, by decide +kernel⟩
def F_check_integer : SE → O := sIf (tOrF (tNotF (tBool (eCall fn_is_integer [.v] (pE (eVar 0) (pNil))))) (tBool (eBin gLt (eVar 0) (eVar 1)))) (sRaise "InvalidInteger" (eVar 0)) (sNx)
def fn_check_integer : List D → FR := runDef 2 [.v, .v] F_check_integer
theorem ok_check_integer (h : Facts P K mg) : Cl P wd K mg base "check_integer" 3 ["value", "least"] fn_check_integer [.v, .v] :=
  (h.d_check_integer).cl (k := 2) sc_check_integer [.v, .v] rfl (by decide) (fun f cdv A outer s H E hf => show BSs _ _ _ _ _ F_check_integer from
    ss_one (s_if (t_w (w_or (t_not (t_val (b_call hf (ok_is_integer h) (p_e (b_var hf 0) (p_nil))))) (w_or1 (t_cmp (fun _ => o_lt) d_lt (b_var hf 0) (b_var hf 1))))) (ss_one (s_raiseX hf h.x_InvalidInteger (b_var hf 0))) (ss_nil))) (by decide)
/-! is_natural 0:value -/
theorem sc_is_natural : FnScope ["value"] ["value"] (defScope st_is_natural) := ⟨rfl, rfl, rfl, by decide +kernel, rfl, by decide +kernel, by decide +kernel⟩
def F_is_natural : SE → O := sRet (eAnd (eCall fn_is_integer [.v] (pE (eVar 0) (pNil))) (eBin gGe (eVar 0) (eC (.int 0))))
def fn_is_natural : List D → FR := runDef 1 [.v] F_is_natural
theorem ok_is_natural (h : Facts P K mg) : Cl P wd K mg base "is_natural" 2 ["value"] fn_is_natural [.v] :=
  (h.d_is_natural).cl (k := 1) sc_is_natural [.v] rfl (by decide) (fun f cdv A outer s H E hf => show BSs _ _ _ _ _ F_is_natural from
    ss_one (s_ret (b_and (b_call hf (ok_is_integer h) (p_e (b_var hf 0) (p_nil))) (b_one (b_cmp (fun _ => op_ge) d_ge (b_var hf 0) (b_int)))))) (by decide)
/-! is_field 0:value 1:by -/
theorem sc_is_field : FnScope ["value", "by"] ["value"] (defScope st_is_field) := ⟨rfl, rfl, rfl, by decide +kernel, rfl, by decide +kernel, by decide +kernel⟩
def F_is_field : SE → O := sSeq (sIf (tOrF (tNotF (tBool (eCall fn_is_natural [.v] (pE (eVar 0) (pNil))))) (tBool (eBin gGt (eVar 0) (eC (.int 99))))) (sRet (eC (.bl false))) (sNx)) (sRet (eOr (eBin gEq (eVar 0) (eC (.int 0))) (eAnd (eBin gGt (eVar 0) (eC (.int 1))) (eArgs (g1 (onL fAll)) (aCons (eLc (gNm 1) [1] (tYesF) (eBin gNe (eBin gMod (eVar 0) (eVar 1)) (eC (.int 0))) (iOf iR2 (aCons (eC (.int 2)) (aCons (eVar 0) (aNil))))) (aNil))))))
def fn_is_field : List D → FR := runDef 2 [.v] F_is_field
theorem ok_is_field (h : Facts P K mg) : Cl P wd K mg base "is_field" 3 ["value"] fn_is_field [.v] :=
  (h.d_is_field).cl (k := 2) sc_is_field [.v] rfl (by decide) (fun f cdv A outer s H E hf => show BSs _ _ _ _ _ F_is_field from
    ss_cons (s_if (t_w (w_or (t_not (t_val (b_call hf (ok_is_natural h) (p_e (b_var hf 0) (p_nil))))) (w_or1 (t_cmp (fun _ => op_gt) d_gt (b_var hf 0) (b_globI hf h.g_LARGEST))))) (ss_one (s_ret (b_bl))) (ss_nil)) (ss_one (s_ret (b_or (b_cmp (fun j => o_eq (Fam.hK hf j) (Fam.room hf j)) d_eq (b_var hf 0) (b_int)) (b_one (b_and (b_cmp (fun _ => op_gt) d_gt (b_var hf 0) (b_int)) (b_one (b_fn hf (fun j => c_all (Fam.hK hf j) (Fam.calm hf j)) d_all h.z_all (a_cons ((b_lc hf [("by", 1)] (fun _ => blkOk_by (by kernel_rfl)) (i_range2 hf h.z_range (a_cons (b_int) (a_cons (b_var hf 0) (a_nil)))) (g_name (Fam.blk hf _) 1) (ts_nil) (b_cmp (fun j => o_ne (Fam.hK (Fam.blk hf _) j) (Fam.room (Fam.blk hf _) j)) d_ne (b_op (fun _ => op_modN) d_mod (b_var (Fam.blk hf _) 0) (b_var (Fam.blk hf _) 1)) (b_int))).be) (a_nil)))))))))) (by decide)
/-! is_setting 0:value 1:own -/
theorem sc_is_setting : FnScope ["value", "own"] ["value"] (defScope st_is_setting) := ⟨rfl, rfl, rfl, by decide +kernel, rfl, by decide +kernel, by decide +kernel⟩
def F_is_setting : SE → O := sSeq (sIf (tOrF (tNotF (tBool (eUn (fun d => some (.bl (isiD "tuple" d))) (eVar 0)))) (tOrF (tBool (eBin gNe (eArgs (g1 gLen) (aCons (eVar 0) (aNil))) (eC (.int 2)))) (tOrF (tNotF (tBool (eCall fn_is_field [.v] (pE (eBin itemD (eVar 0) (eC (.int 0))) (pNil))))) (tNotF (tBool (eUn (fun d => some (.bl (isiD "tuple" d))) (eBin itemD (eVar 0) (eC (.int 1))))))))) (sRet (eC (.bl false))) (sNx)) (sSeq (sIf (tNotF (tBool (eChain gLt gLe (eC (.int 0)) (eArgs (g1 gLen) (aCons (eBin itemD (eVar 0) (eC (.int 1))) (aNil))) (eArgs (g1 gLen) (aCons (eC (.str "abcdef")) (aNil)))))) (sRet (eC (.bl false))) (sNx)) (sRet (eArgs (g1 (onL fAll)) (aCons (eLc (gNm 1) [1] (tYesF) (eAnd (eCall fn_is_integer [.v] (pE (eVar 1) (pNil))) (eChain gLt gLe (eC (.int 0)) (eVar 1) (eC (.int 9)))) (iSeq (eBin itemD (eVar 0) (eC (.int 1))))) (aNil)))))
def fn_is_setting : List D → FR := runDef 2 [.v] F_is_setting
theorem ok_is_setting (h : Facts P K mg) : Cl P wd K mg base "is_setting" 4 ["value"] fn_is_setting [.v] :=
  (h.d_is_setting).cl (k := 3) sc_is_setting [.v] rfl (by decide) (fun f cdv A outer s H E hf => show BSs _ _ _ _ _ F_is_setting from
    ss_cons (s_if (t_w (w_or (t_not (t_val (b_isi hf h.t_tuple (b_var hf 0) h.z_isinstance h.z_tuple))) (w_or (t_cmp (fun j => o_ne (Fam.hK hf j) (Fam.room hf j)) d_ne (b_fn hf (fun j => c_len (Fam.hK hf j)) d_len h.z_len (a_cons (b_var hf 0) (a_nil))) (b_int)) (w_or (t_not (t_val (b_call hf (ok_is_field h) (p_e (b_ix hf (b_var hf 0) (b_int)) (p_nil))))) (w_or1 (t_not (t_val (b_isi hf h.t_tuple (b_ix hf (b_var hf 0) (b_int)) h.z_isinstance h.z_tuple)))))))) (ss_one (s_ret (b_bl))) (ss_nil)) (ss_cons (s_if (t_not (t_chain (fun _ => o_lt) (fun _ => op_le) d_lt d_le (b_int) (b_fn hf (fun j => c_len (Fam.hK hf j)) d_len h.z_len (a_cons (b_ix hf (b_var hf 0) (b_int)) (a_nil))) (b_fn hf (fun j => c_len (Fam.hK hf j)) d_len h.z_len (a_cons (b_globS hf h.g_LETTERS) (a_nil))))) (ss_one (s_ret (b_bl))) (ss_nil)) (ss_one (s_ret (b_fn hf (fun j => c_all (Fam.hK hf j) (Fam.calm hf j)) d_all h.z_all (a_cons ((b_lc hf [("own", 1)] (fun _ => blkOk_by (by kernel_rfl)) (i_seq hf (b_ix hf (b_var hf 0) (b_int))) (g_name (Fam.blk hf _) 1) (ts_nil) (b_and (b_call (Fam.blk hf _) (ok_is_integer h) (p_e (b_var (Fam.blk hf _) 1) (p_nil))) (b_one (b_chain (fun _ => o_lt) (fun _ => op_le) d_lt d_le (b_int) (b_var (Fam.blk hf _) 1) (b_globI (Fam.blk hf _) h.g_HEAVIEST))))).be) (a_nil))))))) (by decide)
/-! check_setting 0:setting -/
theorem sc_check_setting : FnScope ["setting"] ["setting"] (defScope st_check_setting) := ⟨rfl, rfl, rfl, by decide +kernel, rfl, by decide +kernel, by decide +kernel⟩
def F_check_setting : SE → O := sIf (tNotF (tBool (eCall fn_is_setting [.v] (pE (eVar 0) (pNil))))) (sRaise "InvalidSetting" (eVar 0)) (sNx)
def fn_check_setting : List D → FR := runDef 1 [.v] F_check_setting
theorem ok_check_setting (h : Facts P K mg) : Cl P wd K mg base "check_setting" 5 ["setting"] fn_check_setting [.v] :=
  (h.d_check_setting).cl (k := 4) sc_check_setting [.v] rfl (by decide) (fun f cdv A outer s H E hf => show BSs _ _ _ _ _ F_check_setting from
    ss_one (s_if (t_not (t_val (b_call hf (ok_is_setting h) (p_e (b_var hf 0) (p_nil))))) (ss_one (s_raiseX hf h.x_InvalidSetting (b_var hf 0))) (ss_nil))) (by decide)
/-! words_number 0:setting 1:k 2:numbers 3:own 4:weight -/
theorem sc_words_number : FnScope ["setting", "k", "numbers", "own", "weight"] ["setting", "k"] (defScope st_words_number) := ⟨rfl, rfl, rfl, by decide +kernel, rfl, by decide +kernel, by decide +kernel⟩
def F_words_number : SE → O := sSeq (sDrop (eCall fn_check_setting [.v] (pE (eVar 0) (pNil)))) (sSeq (sDrop (eCall fn_check_integer [.v, .v] (pE (eVar 1) (pE (eC (.int 0)) (pNil))))) (sSeq (sSetO 2 (eLst (aCons (eC (.int 1)) (aNil)))) (sSeq (sFor (iOf iR2 (aCons (eC (.int 1)) (aCons (eBin gAdd (eVar 1) (eC (.int 1))) (aNil)))) (gNm 3) (sDrop (eMt 2 mAppend (aCons (eArgs (g1 (onL fSum)) (aCons (eLc (gNm 4) [4] (tBool (eBin gLe (eVar 4) (eVar 3))) (eIxS 2 (eBin gSub (eVar 3) (eVar 4))) (iSeq (eBin itemD (eVar 0) (eC (.int 1))))) (aNil))) (aNil)))) [3]) (sRet (eIxS 2 (eVar 1))))))
def fn_words_number : List D → FR := runDef 5 [.v, .v] F_words_number
theorem ok_words_number (h : Facts P K mg) : Cl P wd K mg base "words_number" 6 ["setting", "k"] fn_words_number [.v, .v] :=
  (h.d_words_number).cl (k := 5) sc_words_number [.v, .v] rfl (by decide) (fun f cdv A outer s H E hf => show BSs _ _ _ _ _ F_words_number from
    ss_cons (s_expr (b_call hf (ok_check_setting h) (p_e (b_var hf 0) (p_nil)))) (ss_cons (s_expr (b_call hf (ok_check_integer h) (p_e (b_var hf 1) (p_e (b_int) (p_nil))))) (ss_cons (s_setO hf 2 (b_lst (a_cons (b_int) (a_nil)))) (ss_cons (s_for hf (wp := [3]) (i_range2 hf h.z_range (a_cons (b_int) (a_cons (b_op (fun _ => o_add) d_add (b_var hf 1) (b_int)) (a_nil)))) (g_name hf 3) (ss_one (s_expr (b_mt hf 2 PySem.F.slot_list_append PySem.F.type_list_append (fun _ => mt_append) d_append (a_cons (b_fn hf (fun j => c_sum (Fam.hK hf j) (Fam.calm hf j)) d_sum h.z_sum (a_cons ((b_lc hf [("weight", 4)] (fun _ => blkOk_by (by kernel_rfl)) (i_seq hf (b_ix hf (b_var hf 0) (b_int))) (g_name (Fam.blk hf _) 4) (ts_one (t_cmp (fun _ => op_le) d_le (b_var (Fam.blk hf _) 4) (b_var (Fam.blk hf _) 3))) (b_ixS (Fam.blk hf _) 2 (b_op (fun _ => op_sub) d_sub (b_var (Fam.blk hf _) 3) (b_var (Fam.blk hf _) 4)))).be) (a_nil))) (a_nil)))))) (ss_one (s_ret (b_ixS hf 2 (b_var hf 1)))))))) (by decide)
/-! letters_of 0:setting -/
theorem sc_letters_of : FnScope ["setting"] ["setting"] (defScope st_letters_of) := ⟨rfl, rfl, rfl, by decide +kernel, rfl, by decide +kernel, by decide +kernel⟩
def F_letters_of : SE → O := sRet (eSl gSl (eC (.str "abcdef")) (pNo) (pSo (eArgs (g1 gLen) (aCons (eBin itemD (eVar 0) (eC (.int 1))) (aNil)))))
def fn_letters_of : List D → FR := runDef 1 [.v] F_letters_of
theorem ok_letters_of (h : Facts P K mg) : Cl P wd K mg base "letters_of" 1 ["setting"] fn_letters_of [.v] :=
  (h.d_letters_of).cl (k := 0) sc_letters_of [.v] rfl (by decide) (fun f cdv A outer s H E hf => show BSs _ _ _ _ _ F_letters_of from
    ss_one (s_ret (b_sl (fun j => sl_all (Fam.hK hf j)) d_sl (b_globS hf h.g_LETTERS) (o_no) (o_so (b_fn hf (fun j => c_len (Fam.hK hf j)) d_len h.z_len (a_cons (b_ix hf (b_var hf 0) (b_int)) (a_nil))))))) (by decide)
/-! words_by 0:setting 1:k 2:rows 3:own 4:found 5:sign 6:weight 7:word -/
theorem sc_words_by : FnScope ["setting", "k", "rows", "own", "found", "sign", "weight", "word"] ["setting", "k"] (defScope st_words_by) := ⟨rfl, rfl, rfl, by decide +kernel, rfl, by decide +kernel, by decide +kernel⟩
def F_words_by : SE → O := sSeq (sSetO 2 (eLst (aCons (eLst (aCons (eC (.str "")) (aNil))) (aNil)))) (sSeq (sFor (iOf iR2 (aCons (eC (.int 1)) (aCons (eBin gAdd (eVar 1) (eC (.int 1))) (aNil)))) (gNm 3) (sSeq (sSetO 4 (eLst (aNil))) (sSeq (sFor (iOf iZ (aCons (eCall fn_letters_of [.v] (pE (eVar 0) (pNil))) (aCons (eBin itemD (eVar 0) (eC (.int 1))) (aNil)))) (gTupF (gsCons (gNm 5) (gsCons (gNm 6) (gsNil)))) (sIf (tBool (eBin gLe (eVar 6) (eVar 3))) (sDrop (eMt 4 mExtend (aCons (eLc (gNm 7) [7] (tYesF) (eBin gAdd (eVar 7) (eVar 5)) (iSeq (eIxS 2 (eBin gSub (eVar 3) (eVar 6))))) (aNil)))) (sNx)) [5, 6]) (sFrz 4 (sDrop (eMt 2 mAppend (aCons (eVar 4) (aNil))))))) [3, 4, 5, 6]) (sRetO (eArgs (g1 (onL fSort)) (aCons (eIxS 2 (eVar 1)) (aNil)))))
def fn_words_by : List D → FR := runDef 8 [.v, .v] F_words_by
theorem ok_words_by (h : Facts P K mg) : Cl P wd K mg base "words_by" 2 ["setting", "k"] fn_words_by [.v, .v] :=
  (h.d_words_by).cl (k := 1) sc_words_by [.v, .v] rfl (by decide) (fun f cdv A outer s H E hf => show BSs _ _ _ _ _ F_words_by from
    ss_cons (s_setO hf 2 (b_lst (a_cons ((b_lst (a_cons (b_str) (a_nil))).be) (a_nil)))) (ss_cons (s_for hf (wp := [3, 4, 5, 6]) (i_range2 hf h.z_range (a_cons (b_int) (a_cons (b_op (fun _ => o_add) d_add (b_var hf 1) (b_int)) (a_nil)))) (g_name hf 3) (ss_cons (s_setO hf 4 (b_lst (a_nil))) (ss_cons (s_for hf (wp := [5, 6]) (i_zip hf h.z_zip (a_cons (b_call hf (ok_letters_of h) (p_e (b_var hf 0) (p_nil))) (a_cons (b_ix hf (b_var hf 0) (b_int)) (a_nil)))) (g_tup hf (gs_cons (g_name hf 5) (gs_cons (g_name hf 6) (gs_nil)))) (ss_one (s_if (t_cmp (fun _ => op_le) d_le (b_var hf 6) (b_var hf 3)) (ss_one (s_expr (b_mt hf 4 PySem.F.slot_list_extend PySem.F.type_list_extend (fun _ => mt_extend) d_extend (a_cons ((b_lc hf [("word", 7)] (fun _ => blkOk_by (by kernel_rfl)) (i_seq hf (b_ixS hf 2 (b_op (fun _ => op_sub) d_sub (b_var hf 3) (b_var hf 6)))) (g_name (Fam.blk hf _) 7) (ts_nil) (b_op (fun _ => o_add) d_add (b_var (Fam.blk hf _) 7) (b_var (Fam.blk hf _) 5))).be) (a_nil))))) (ss_nil)))) (ss_one (s_frz 4 (s_expr (b_mt hf 2 PySem.F.slot_list_append PySem.F.type_list_append (fun _ => mt_append) d_append (a_cons (b_var hf 4) (a_nil))))))))) (ss_one (s_retO (b_fnO hf (fun j => c_sorted (Fam.hK hf j) (Fam.room hf j)) d_sorted h.z_sorted (a_cons (b_ixS hf 2 (b_var hf 1)) (a_nil))))))) (by decide)
/-! is_lyndon_word 0:word 1:at -/
theorem sc_is_lyndon_word : FnScope ["word", "at"] ["word"] (defScope st_is_lyndon_word) := ⟨rfl, rfl, rfl, by decide +kernel, rfl, by decide +kernel, by decide +kernel⟩
def F_is_lyndon_word : SE → O := sRet (eAnd (eBin gNe (eVar 0) (eC (.str ""))) (eArgs (g1 (onL fAll)) (aCons (eLc (gNm 1) [1] (tYesF) (eBin gLt (eVar 0) (eSl gSl (eVar 0) (pSo (eVar 1)) (pNo))) (iOf iR2 (aCons (eC (.int 1)) (aCons (eArgs (g1 gLen) (aCons (eVar 0) (aNil))) (aNil))))) (aNil))))
def fn_is_lyndon_word : List D → FR := runDef 2 [.v] F_is_lyndon_word
theorem ok_is_lyndon_word (h : Facts P K mg) : Cl P wd K mg base "is_lyndon_word" 1 ["word"] fn_is_lyndon_word [.v] :=
  (h.d_is_lyndon_word).cl (k := 0) sc_is_lyndon_word [.v] rfl (by decide) (fun f cdv A outer s H E hf => show BSs _ _ _ _ _ F_is_lyndon_word from
    ss_one (s_ret (b_and (b_cmp (fun j => o_ne (Fam.hK hf j) (Fam.room hf j)) d_ne (b_var hf 0) (b_str)) (b_one (b_fn hf (fun j => c_all (Fam.hK hf j) (Fam.calm hf j)) d_all h.z_all (a_cons ((b_lc hf [("at", 1)] (fun _ => blkOk_by (by kernel_rfl)) (i_range2 hf h.z_range (a_cons (b_int) (a_cons (b_fn hf (fun j => c_len (Fam.hK hf j)) d_len h.z_len (a_cons (b_var hf 0) (a_nil))) (a_nil)))) (g_name (Fam.blk hf _) 1) (ts_nil) (b_cmp (fun _ => o_lt) d_lt (b_var (Fam.blk hf _) 0) (b_sl (fun j => sl_all (Fam.hK (Fam.blk hf _) j)) d_sl (b_var (Fam.blk hf _) 0) (o_so (b_var (Fam.blk hf _) 1)) (o_no)))).be) (a_nil))))))) (by decide)
/-! lyndon_words 0:setting 1:k 2:word -/
theorem sc_lyndon_words : FnScope ["setting", "k", "word"] ["setting", "k"] (defScope st_lyndon_words) := ⟨rfl, rfl, rfl, by decide +kernel, rfl, by decide +kernel, by decide +kernel⟩
def F_lyndon_words : SE → O := sSeq (sDrop (eCall fn_check_setting [.v] (pE (eVar 0) (pNil)))) (sSeq (sDrop (eCall fn_check_integer [.v, .v] (pE (eVar 1) (pE (eC (.int 0)) (pNil))))) (sRet (eArgs (g1 gTuple) (aCons (eLc (gNm 2) [2] (tBool (eCall fn_is_lyndon_word [.v] (pE (eVar 2) (pNil)))) (eVar 2) (iSeq (eCallO fn_words_by [.v, .v] (pE (eVar 0) (pE (eVar 1) (pNil)))))) (aNil)))))
def fn_lyndon_words : List D → FR := runDef 3 [.v, .v] F_lyndon_words
theorem ok_lyndon_words (h : Facts P K mg) : Cl P wd K mg base "lyndon_words" 6 ["setting", "k"] fn_lyndon_words [.v, .v] :=
  (h.d_lyndon_words).cl (k := 5) sc_lyndon_words [.v, .v] rfl (by decide) (fun f cdv A outer s H E hf => show BSs _ _ _ _ _ F_lyndon_words from
    ss_cons (s_expr (b_call hf (ok_check_setting h) (p_e (b_var hf 0) (p_nil)))) (ss_cons (s_expr (b_call hf (ok_check_integer h) (p_e (b_var hf 1) (p_e (b_int) (p_nil))))) (ss_one (s_ret (b_ty hf (fun j => c_tuple (Fam.hK hf j)) d_tuple h.z_tuple (a_cons ((b_lc hf [("word", 2)] (fun _ => blkOk_by (by kernel_rfl)) (i_seq hf ((b_callO hf (ok_words_by h) (p_e (b_var hf 0) (p_e (b_var hf 1) (p_nil)))).be)) (g_name (Fam.blk hf _) 2) (ts_one (t_val (b_call (Fam.blk hf _) (ok_is_lyndon_word h) (p_e (b_var (Fam.blk hf _) 2) (p_nil))))) (b_var (Fam.blk hf _) 2)).be) (a_nil))))))) (by decide)
theorem kcl_lyndon_words_1_0 (h : Facts P K mg) : KCl P wd K mg base "lyndon_words" 6 ["setting", "k"] ["k", "setting"] [1, 0] fn_lyndon_words [.v, .v] := (h.d_lyndon_words).kcl (ok_lyndon_words h) fun _ _ _ _ _ _ ws hl => match ws, hl with | [_, _], _ => rfl
/-! lyndon_counts 0:setting 1:k 2:own 3:word -/
theorem sc_lyndon_counts : FnScope ["setting", "k", "own", "word"] ["setting", "k"] (defScope st_lyndon_counts) := ⟨rfl, rfl, rfl, by decide +kernel, rfl, by decide +kernel, by decide +kernel⟩
def F_lyndon_counts : SE → O := sSeq (sDrop (eCall fn_check_setting [.v] (pE (eVar 0) (pNil)))) (sSeq (sDrop (eCall fn_check_integer [.v, .v] (pE (eVar 1) (pE (eC (.int 0)) (pNil))))) (sRet (eArgs (g1 gTuple) (aCons (eLc (gNm 2) [2] (tYesF) (eArgs (g1 gLen) (aCons (eLc (gNm 3) [3] (tBool (eCall fn_is_lyndon_word [.v] (pE (eVar 3) (pNil)))) (eVar 3) (iSeq (eCallO fn_words_by [.v, .v] (pE (eVar 0) (pE (eVar 2) (pNil)))))) (aNil))) (iOf iR1 (aCons (eBin gAdd (eVar 1) (eC (.int 1))) (aNil)))) (aNil)))))
def fn_lyndon_counts : List D → FR := runDef 4 [.v, .v] F_lyndon_counts
theorem ok_lyndon_counts (h : Facts P K mg) : Cl P wd K mg base "lyndon_counts" 6 ["setting", "k"] fn_lyndon_counts [.v, .v] :=
  (h.d_lyndon_counts).cl (k := 5) sc_lyndon_counts [.v, .v] rfl (by decide) (fun f cdv A outer s H E hf => show BSs _ _ _ _ _ F_lyndon_counts from
    ss_cons (s_expr (b_call hf (ok_check_setting h) (p_e (b_var hf 0) (p_nil)))) (ss_cons (s_expr (b_call hf (ok_check_integer h) (p_e (b_var hf 1) (p_e (b_int) (p_nil))))) (ss_one (s_ret (b_ty hf (fun j => c_tuple (Fam.hK hf j)) d_tuple h.z_tuple (a_cons ((b_lc hf [("own", 2)] (fun _ => blkOk_by (by kernel_rfl)) (i_range1 hf h.z_range (a_cons (b_op (fun _ => o_add) d_add (b_var hf 1) (b_int)) (a_nil))) (g_name (Fam.blk hf _) 2) (ts_nil) (b_fn (Fam.blk hf _) (fun j => c_len (Fam.hK (Fam.blk hf _) j)) d_len h.z_len (a_cons ((b_lc (Fam.blk hf _) [("word", 3)] (fun _ => blkOk_by (by kernel_rfl)) (i_seq (Fam.blk hf _) ((b_callO (Fam.blk hf _) (ok_words_by h) (p_e (b_var (Fam.blk hf _) 0) (p_e (b_var (Fam.blk hf _) 2) (p_nil)))).be)) (g_name (Fam.blk (Fam.blk hf _) _) 3) (ts_one (t_val (b_call (Fam.blk (Fam.blk hf _) _) (ok_is_lyndon_word h) (p_e (b_var (Fam.blk (Fam.blk hf _) _) 3) (p_nil))))) (b_var (Fam.blk (Fam.blk hf _) _) 3)).be) (a_nil)))).be) (a_nil))))))) (by decide)
theorem kcl_lyndon_counts_1_0 (h : Facts P K mg) : KCl P wd K mg base "lyndon_counts" 6 ["setting", "k"] ["k", "setting"] [1, 0] fn_lyndon_counts [.v, .v] := (h.d_lyndon_counts).kcl (ok_lyndon_counts h) fun _ _ _ _ _ _ ws hl => match ws, hl with | [_, _], _ => rfl
/-! _law_drawn 0:feed 1:many 2:cells 3:at 4:cell 5:first 6:second 7:digit -/
theorem sc__law_drawn : FnScope ["feed", "many", "cells", "at", "cell", "first", "second", "digit"] ["feed", "many"] (defScope st__law_drawn) := ⟨rfl, rfl, rfl, by decide +kernel, rfl, by decide +kernel, by decide +kernel⟩
def F__law_drawn : SE → O := sSeq (sIf (tBool (eBin gEq (eIxS 0 (eC (.int 2))) (eC (.int 0)))) (sSeq (sSet 2 (eIxS 0 (eC (.int 0)))) (sSeq (sSet 3 (eIxS 0 (eC (.int 1)))) (sSeq (sSetIx 0 (eC (.int 1)) (eBin gAdd (eVar 3) (eC (.int 1)))) (sSeq (sSet 4 (eC (.int 0))) (sSeq (sIf (tBool (eBin gGt (eArgs (g1 gLen) (aCons (eVar 2) (aNil))) (eC (.int 0)))) (sSet 4 (eBin itemD (eVar 2) (eBin gMod (eArgs (g1 fInt) (aCons (eVar 3) (aNil))) (eArgs (g1 gLen) (aCons (eVar 2) (aNil)))))) (sNx)) (sSeq (sIf (tOrF (tBool (eBin gGe (eVar 3) (eArgs (g1 gLen) (aCons (eVar 2) (aNil))))) (tBool (eBin gLt (eVar 4) (eBin gPow (eC (.int 10)) (eC (.int 18)))))) (sSeq (sSet 5 (eBin gMod (eArgs (g1 fInt) (aCons (eBin gAdd (eBin gAdd (eBin gAdd (eBin gMod (eArgs (g1 fInt) (aCons (eVar 4) (aNil))) (eC (.int 999979))) (eBin gMul (eBin gMul (eVar 3) (eVar 3)) (eC (.int 307)))) (eBin gMul (eVar 3) (eC (.int 53)))) (eC (.int 17))) (aNil))) (eC (.int 999979)))) (sSeq (sSet 6 (eBin gMod (eArgs (g1 fInt) (aCons (eBin gAdd (eBin gAdd (eBin gMul (eBin gMul (eVar 5) (eVar 5)) (eC (.int 5))) (eBin gMul (eVar 5) (eC (.int 11)))) (eVar 3)) (aNil))) (eC (.int 2147483629)))) (sRet (eBin gMod (eArgs (g1 fInt) (aCons (eBin gMod (eArgs (g1 fInt) (aCons (eBin gMul (eVar 6) (eC (.int 69621))) (aNil))) (eC (.int 2147483647))) (aNil))) (eVar 1))))) (sNx)) (sSetIx 0 (eC (.int 2)) (eVar 4)))))))) (sNx)) (sSeq (sSet 7 (eBin gMod (eArgs (g1 fInt) (aCons (eIxS 0 (eC (.int 2))) (aNil))) (eVar 1))) (sSeq (sSetIx 0 (eC (.int 2)) (eBin gDiv (eArgs (g1 fInt) (aCons (eIxS 0 (eC (.int 2))) (aNil))) (eVar 1))) (sRet (eVar 7))))
def fn__law_drawn : List D → FR := runDef 8 [.m, .v] F__law_drawn
theorem ok__law_drawn (h : Facts P K mg) : Cl P wd K mg base "_law_drawn" 1 ["feed", "many"] fn__law_drawn [.m, .v] :=
  (h.d__law_drawn).cl (k := 0) sc__law_drawn [.m, .v] rfl (by decide) (fun f cdv A outer s H E hf => show BSs _ _ _ _ _ F__law_drawn from
    ss_cons (s_if (t_cmp (fun j => o_eq (Fam.hK hf j) (Fam.room hf j)) d_eq (b_ixS hf 0 (b_int)) (b_int)) (ss_cons (s_set hf 2 (b_ixS hf 0 (b_int))) (ss_cons (s_set hf 3 (b_ixS hf 0 (b_int))) (ss_cons (s_setIx hf 0 (b_int) (b_op (fun _ => o_add) d_add (b_var hf 3) (b_int))) (ss_cons (s_set hf 4 (b_int)) (ss_cons (s_if (t_cmp (fun _ => op_gt) d_gt (b_fn hf (fun j => c_len (Fam.hK hf j)) d_len h.z_len (a_cons (b_var hf 2) (a_nil))) (b_int)) (ss_one (s_set hf 4 (b_ix hf (b_var hf 2) (b_op (fun _ => op_modN) d_mod (b_ty hf (fun _ => call_int1) d_int h.z_int (a_cons (b_var hf 3) (a_nil))) (b_fn hf (fun j => c_len (Fam.hK hf j)) d_len h.z_len (a_cons (b_var hf 2) (a_nil))))))) (ss_nil)) (ss_cons (s_if (t_w (w_or (t_cmp (fun _ => op_ge) d_ge (b_var hf 3) (b_fn hf (fun j => c_len (Fam.hK hf j)) d_len h.z_len (a_cons (b_var hf 2) (a_nil)))) (w_or1 (t_cmp (fun _ => o_lt) d_lt (b_var hf 4) (b_op (fun _ => op_pow) d_pow (b_int) (b_int)))))) (ss_cons (s_set hf 5 (b_op (fun _ => op_modN) d_mod (b_ty hf (fun _ => call_int1) d_int h.z_int (a_cons (b_op (fun _ => o_add) d_add (b_op (fun _ => o_add) d_add (b_op (fun _ => o_add) d_add (b_op (fun _ => op_modN) d_mod (b_ty hf (fun _ => call_int1) d_int h.z_int (a_cons (b_var hf 4) (a_nil))) (b_int)) (b_op (fun _ => o_mul) d_mul (b_op (fun _ => o_mul) d_mul (b_var hf 3) (b_var hf 3)) (b_int))) (b_op (fun _ => o_mul) d_mul (b_var hf 3) (b_int))) (b_int)) (a_nil))) (b_int))) (ss_cons (s_set hf 6 (b_op (fun _ => op_modN) d_mod (b_ty hf (fun _ => call_int1) d_int h.z_int (a_cons (b_op (fun _ => o_add) d_add (b_op (fun _ => o_add) d_add (b_op (fun _ => o_mul) d_mul (b_op (fun _ => o_mul) d_mul (b_var hf 5) (b_var hf 5)) (b_int)) (b_op (fun _ => o_mul) d_mul (b_var hf 5) (b_int))) (b_var hf 3)) (a_nil))) (b_int))) (ss_one (s_ret (b_op (fun _ => op_modN) d_mod (b_ty hf (fun _ => call_int1) d_int h.z_int (a_cons (b_op (fun _ => op_modN) d_mod (b_ty hf (fun _ => call_int1) d_int h.z_int (a_cons (b_op (fun _ => o_mul) d_mul (b_var hf 6) (b_int)) (a_nil))) (b_int)) (a_nil))) (b_var hf 1)))))) (ss_nil)) (ss_one (s_setIx hf 0 (b_int) (b_var hf 4))))))))) (ss_nil)) (ss_cons (s_set hf 7 (b_op (fun _ => op_modN) d_mod (b_ty hf (fun _ => call_int1) d_int h.z_int (a_cons (b_ixS hf 0 (b_int)) (a_nil))) (b_var hf 1))) (ss_cons (s_setIx hf 0 (b_int) (b_op (fun _ => o_div) d_div (b_ty hf (fun _ => call_int1) d_int h.z_int (a_cons (b_ixS hf 0 (b_int)) (a_nil))) (b_var hf 1))) (ss_one (s_ret (b_var hf 7)))))) (by decide)
/-! _law_same 0:found 1:due 2:at -/
theorem sc__law_same : FnScope ["found", "due", "at"] ["found", "due"] (defScope st__law_same) := ⟨rfl, rfl, rfl, by decide +kernel, rfl, by decide +kernel, by decide +kernel⟩
def F__law_same (fr : List D → FR) : SE → O := sSeq (sIf (tBool (eUn (fun d => some (.bl (isiD "tuple" d || isiD "list" d))) (eVar 1))) (sSeq (sIf (tOrF (tBool (eBin gNe (eUn (fun d => some (.bl (isiD "tuple" d))) (eVar 0)) (eUn (fun d => some (.bl (isiD "tuple" d))) (eVar 1)))) (tBool (eBin gNe (eUn (fun d => some (.bl (isiD "list" d))) (eVar 0)) (eUn (fun d => some (.bl (isiD "list" d))) (eVar 1))))) (sRet (eC (.bl false))) (sNx)) (sRet (eAnd (eBin gEq (eArgs (g1 gLen) (aCons (eVar 0) (aNil))) (eArgs (g1 gLen) (aCons (eVar 1) (aNil)))) (eArgs (g1 (onL fAll)) (aCons (eLc (gNm 2) [2] (tYesF) (eCall fr [.v, .v] (pE (eBin itemD (eVar 0) (eVar 2)) (pE (eBin itemD (eVar 1) (eVar 2)) (pNil)))) (iOf iR1 (aCons (eArgs (g1 gLen) (aCons (eVar 1) (aNil))) (aNil)))) (aNil)))))) (sNx)) (sSeq (sIf (tBool (eBin gIsN (eVar 1) (eC .non))) (sRet (eBin gIsN (eVar 0) (eC .non))) (sNx)) (sSeq (sIf (tBool (eUn (fun d => some (.bl (isiD "bool" d))) (eVar 1))) (sRet (eAnd (eUn (fun d => some (.bl (isiD "bool" d))) (eVar 0)) (eBin gEq (eVar 0) (eVar 1)))) (sNx)) (sSeq (sIf (tBool (eUn (fun d => some (.bl (isiD "int" d))) (eVar 1))) (sRet (eAnd (eUn (fun d => some (.bl (isiD "int" d))) (eVar 0)) (eAnd (eNot (eUn (fun d => some (.bl (isiD "bool" d))) (eVar 0))) (eBin gEq (eVar 0) (eVar 1))))) (sNx)) (sRet (eAnd (eUn (fun d => some (.bl (isiD "str" d))) (eVar 0)) (eBin gEq (eVar 0) (eVar 1)))))))
def fn__law_same : Nat → List D → FR
  | 0 => fun _ => .stuck
  | n + 1 => runDef 3 [.v, .v] (F__law_same (fn__law_same n))
theorem ok__law_same (h : Facts P K mg) : ∀ n, Cl P wd K mg base "_law_same" (n + 0) ["found", "due"] (fn__law_same n) [.v, .v]
  | 0 => (h.d__law_same).zero rfl
  | n + 1 => by
    have hr := ok__law_same h n
    refine (h.d__law_same).cl (k := n + 0) sc__law_same [.v, .v] rfl (by decide) (fun f cdv A outer s H E hf => ?_) (by omega)
    show BSs _ _ _ _ _ (F__law_same (fn__law_same n))
    exact ss_cons (s_if (t_val (b_isi2 hf h.t_tuple h.t_list (b_var hf 1) h.z_isinstance h.z_tuple h.z_list)) (ss_cons (s_if (t_w (w_or (t_cmp (fun j => o_ne (Fam.hK hf j) (Fam.room hf j)) d_ne (b_isi hf h.t_tuple (b_var hf 0) h.z_isinstance h.z_tuple) (b_isi hf h.t_tuple (b_var hf 1) h.z_isinstance h.z_tuple)) (w_or1 (t_cmp (fun j => o_ne (Fam.hK hf j) (Fam.room hf j)) d_ne (b_isi hf h.t_list (b_var hf 0) h.z_isinstance h.z_list) (b_isi hf h.t_list (b_var hf 1) h.z_isinstance h.z_list))))) (ss_one (s_ret (b_bl))) (ss_nil)) (ss_one (s_ret (b_and (b_cmp (fun j => o_eq (Fam.hK hf j) (Fam.room hf j)) d_eq (b_fn hf (fun j => c_len (Fam.hK hf j)) d_len h.z_len (a_cons (b_var hf 0) (a_nil))) (b_fn hf (fun j => c_len (Fam.hK hf j)) d_len h.z_len (a_cons (b_var hf 1) (a_nil)))) (b_one (b_fn hf (fun j => c_all (Fam.hK hf j) (Fam.calm hf j)) d_all h.z_all (a_cons ((b_lc hf [("at", 2)] (fun _ => blkOk_by (by kernel_rfl)) (i_range1 hf h.z_range (a_cons (b_fn hf (fun j => c_len (Fam.hK hf j)) d_len h.z_len (a_cons (b_var hf 1) (a_nil))) (a_nil))) (g_name (Fam.blk hf _) 2) (ts_nil) (b_call (Fam.blk hf _) hr (p_e (b_ix (Fam.blk hf _) (b_var (Fam.blk hf _) 0) (b_var (Fam.blk hf _) 2)) (p_e (b_ix (Fam.blk hf _) (b_var (Fam.blk hf _) 1) (b_var (Fam.blk hf _) 2)) (p_nil))))).be) (a_nil)))))))) (ss_nil)) (ss_cons (s_if (t_cmp (fun _ => op_isN) d_isN (b_var hf 1) (b_non)) (ss_one (s_ret (b_cmp (fun _ => op_isN) d_isN (b_var hf 0) (b_non)))) (ss_nil)) (ss_cons (s_if (t_val (b_isi hf h.t_bool (b_var hf 1) h.z_isinstance h.z_bool)) (ss_one (s_ret (b_and (b_isi hf h.t_bool (b_var hf 0) h.z_isinstance h.z_bool) (b_one (b_cmp (fun j => o_eq (Fam.hK hf j) (Fam.room hf j)) d_eq (b_var hf 0) (b_var hf 1)))))) (ss_nil)) (ss_cons (s_if (t_val (b_isi hf h.t_int (b_var hf 1) h.z_isinstance h.z_int)) (ss_one (s_ret (b_and (b_isi hf h.t_int (b_var hf 0) h.z_isinstance h.z_int) (b_and (b_not (b_isi hf h.t_bool (b_var hf 0) h.z_isinstance h.z_bool)) (b_one (b_cmp (fun j => o_eq (Fam.hK hf j) (Fam.room hf j)) d_eq (b_var hf 0) (b_var hf 1))))))) (ss_nil)) (ss_one (s_ret (b_and (b_isi hf h.t_str (b_var hf 0) h.z_isinstance h.z_str) (b_one (b_cmp (fun j => o_eq (Fam.hK hf j) (Fam.room hf j)) d_eq (b_var hf 0) (b_var hf 1)))))))))
/-! _law_letters 0:setting -/
theorem sc__law_letters : FnScope ["setting"] ["setting"] (defScope st__law_letters) := ⟨rfl, rfl, rfl, by decide +kernel, rfl, by decide +kernel, by decide +kernel⟩
def F__law_letters : SE → O := sRet (eSl gSl (eC (.str "abcdef")) (pNo) (pSo (eArgs (g1 gLen) (aCons (eBin itemD (eVar 0) (eC (.int 1))) (aNil)))))
def fn__law_letters : List D → FR := runDef 1 [.v] F__law_letters
theorem ok__law_letters (h : Facts P K mg) : Cl P wd K mg base "_law_letters" 1 ["setting"] fn__law_letters [.v] :=
  (h.d__law_letters).cl (k := 0) sc__law_letters [.v] rfl (by decide) (fun f cdv A outer s H E hf => show BSs _ _ _ _ _ F__law_letters from
    ss_one (s_ret (b_sl (fun j => sl_all (Fam.hK hf j)) d_sl (b_str) (o_no) (o_so (b_fn hf (fun j => c_len (Fam.hK hf j)) d_len h.z_len (a_cons (b_ix hf (b_var hf 0) (b_int)) (a_nil))))))) (by decide)
/-! _law_words 0:setting 1:k 2:found 3:weight 4:letter 5:own 6:word -/
theorem sc__law_words : FnScope ["setting", "k", "found", "weight", "letter", "own", "word"] ["setting", "k"] (defScope st__law_words) := ⟨rfl, rfl, rfl, by decide +kernel, rfl, by decide +kernel, by decide +kernel⟩
def F__law_words : SE → O := sSeq (sSetO 2 (eDisp (ppCons (eC (.int 0)) (eLst (aCons (eC (.str "")) (aNil))) (ppNil)))) (sSeq (sFor (iOf iR2 (aCons (eC (.int 1)) (aCons (eBin gAdd (eVar 1) (eC (.int 1))) (aNil)))) (gNm 3) (sSeq (sDPut_ 2 (eVar 3) (eLst (aNil))) (sFor (iSeq (eCall fn__law_letters [.v] (pE (eVar 0) (pNil)))) (gNm 4) (sSeq (sSet 5 (eBin itemD (eBin itemD (eVar 0) (eC (.int 1))) (eTm gSIndex (eC (.str "abcdef")) (aCons (eVar 4) (aNil))))) (sIf (tBool (eBin gLe (eVar 5) (eVar 3))) (sDPut_ 2 (eVar 3) (eBin gCatL (eDGet 2 (eVar 3)) (eLc (gNm 6) [6] (tYesF) (eBin gAdd (eVar 6) (eVar 4)) (iSeq (eDGet 2 (eBin gSub (eVar 3) (eVar 5))))))) (sNx))) [4, 5])) [3, 4, 5]) (sRetO (eArgs (g1 (onL fSort)) (aCons (eDGet 2 (eVar 1)) (aNil)))))
def fn__law_words : List D → FR := runDef 7 [.v, .v] F__law_words
theorem ok__law_words (h : Facts P K mg) : Cl P wd K mg base "_law_words" 2 ["setting", "k"] fn__law_words [.v, .v] :=
  (h.d__law_words).cl (k := 1) sc__law_words [.v, .v] rfl (by decide) (fun f cdv A outer s H E hf => show BSs _ _ _ _ _ F__law_words from
    ss_cons (s_setO hf 2 (b_disp (pp_cons (b_int) ((b_lst (a_cons (b_str) (a_nil))).be) (pp_nil)))) (ss_cons (s_for hf (wp := [3, 4, 5]) (i_range2 hf h.z_range (a_cons (b_int) (a_cons (b_op (fun _ => o_add) d_add (b_var hf 1) (b_int)) (a_nil)))) (g_name hf 3) (ss_cons (s_dput hf 2 (b_var hf 3) ((b_lst (a_nil)).be)) (ss_one (s_for hf (wp := [4, 5]) (i_seq hf (b_call hf (ok__law_letters h) (p_e (b_var hf 0) (p_nil)))) (g_name hf 4) (ss_cons (s_set hf 5 (b_ix hf (b_ix hf (b_var hf 0) (b_int)) (b_tm hf PySem.F.slot_str_index PySem.F.type_str_index (fun _ => mt_sindex) d_sindex (b_str) (a_cons (b_var hf 4) (a_nil))))) (ss_one (s_if (t_cmp (fun _ => op_le) d_le (b_var hf 5) (b_var hf 3)) (ss_one (s_dput hf 2 (b_var hf 3) ((b_opO (fun _ => op_cat) d_catL (b_dget hf 2 (b_var hf 3)) ((b_lc hf [("word", 6)] (fun _ => blkOk_by (by kernel_rfl)) (i_seq hf (b_dget hf 2 (b_op (fun _ => op_sub) d_sub (b_var hf 3) (b_var hf 5)))) (g_name (Fam.blk hf _) 6) (ts_nil) (b_op (fun _ => o_add) d_add (b_var (Fam.blk hf _) 6) (b_var (Fam.blk hf _) 4))).be)).be))) (ss_nil)))))))) (ss_one (s_retO (b_fnO hf (fun j => c_sorted (Fam.hK hf j) (Fam.room hf j)) d_sorted h.z_sorted (a_cons (b_dget hf 2 (b_var hf 1)) (a_nil))))))) (by decide)
/-! _law_drawn_word 0:feed 1:setting 2:most 3:letters 4:at -/
theorem sc__law_drawn_word : FnScope ["feed", "setting", "most", "letters", "at"] ["feed", "setting", "most"] (defScope st__law_drawn_word) := ⟨rfl, rfl, rfl, by decide +kernel, rfl, by decide +kernel, by decide +kernel⟩
def F__law_drawn_word : SE → O := sSeq (sSet 3 (eCall fn__law_letters [.v] (pE (eVar 1) (pNil)))) (sRet (eTm gJoin (eC (.str "")) (aCons (eLc (gNm 4) [4] (tYesF) (eBin itemD (eVar 3) (eCallM fn__law_drawn [.m, .v] 0 (pS 0 (pE (eArgs (g1 gLen) (aCons (eVar 3) (aNil))) (pNil))))) (iOf iR1 (aCons (eCallM fn__law_drawn [.m, .v] 0 (pS 0 (pE (eBin gAdd (eVar 2) (eC (.int 1))) (pNil)))) (aNil)))) (aNil))))
def fn__law_drawn_word : List D → FR := runDef 5 [.m, .v, .v] F__law_drawn_word
theorem ok__law_drawn_word (h : Facts P K mg) : Cl P wd K mg base "_law_drawn_word" 2 ["feed", "setting", "most"] fn__law_drawn_word [.m, .v, .v] :=
  (h.d__law_drawn_word).cl (k := 1) sc__law_drawn_word [.m, .v, .v] rfl (by decide) (fun f cdv A outer s H E hf => show BSs _ _ _ _ _ F__law_drawn_word from
    ss_cons (s_set hf 3 (b_call hf (ok__law_letters h) (p_e (b_var hf 1) (p_nil)))) (ss_one (s_ret (b_tm hf PySem.F.slot_str_join PySem.F.type_str_join (fun j => m_join (Fam.hK hf j)) d_join (b_str) (a_cons ((b_lc hf [("at", 4)] (fun _ => blkOk_by (by kernel_rfl)) (i_range1 hf h.z_range (a_cons (b_callM hf 0 0 (ok__law_drawn h) (p_s hf 0 (p_e (b_op (fun _ => o_add) d_add (b_var hf 2) (b_int)) (p_nil)))) (a_nil))) (g_name (Fam.blk hf _) 4) (ts_nil) (b_ix (Fam.blk hf _) (b_var (Fam.blk hf _) 3) (b_callM (Fam.blk hf _) 0 0 (ok__law_drawn h) (p_s (Fam.blk hf _) 0 (p_e (b_fn (Fam.blk hf _) (fun j => c_len (Fam.hK (Fam.blk hf _) j)) d_len h.z_len (a_cons (b_var (Fam.blk hf _) 3) (a_nil))) (p_nil)))))).be) (a_nil)))))) (by decide)
/-! _law_is_lyndon 0:word 1:at -/
theorem sc__law_is_lyndon : FnScope ["word", "at"] ["word"] (defScope st__law_is_lyndon) := ⟨rfl, rfl, rfl, by decide +kernel, rfl, by decide +kernel, by decide +kernel⟩
def F__law_is_lyndon : SE → O := sRet (eAnd (eBin gGt (eArgs (g1 gLen) (aCons (eVar 0) (aNil))) (eC (.int 0))) (eArgs (g1 (onL fAll)) (aCons (eLc (gNm 1) [1] (tYesF) (eBin gLt (eVar 0) (eBin gAdd (eSl gSl (eVar 0) (pSo (eVar 1)) (pNo)) (eSl gSl (eVar 0) (pNo) (pSo (eVar 1))))) (iOf iR2 (aCons (eC (.int 1)) (aCons (eArgs (g1 gLen) (aCons (eVar 0) (aNil))) (aNil))))) (aNil))))
def fn__law_is_lyndon : List D → FR := runDef 2 [.v] F__law_is_lyndon
theorem ok__law_is_lyndon (h : Facts P K mg) : Cl P wd K mg base "_law_is_lyndon" 1 ["word"] fn__law_is_lyndon [.v] :=
  (h.d__law_is_lyndon).cl (k := 0) sc__law_is_lyndon [.v] rfl (by decide) (fun f cdv A outer s H E hf => show BSs _ _ _ _ _ F__law_is_lyndon from
    ss_one (s_ret (b_and (b_cmp (fun _ => op_gt) d_gt (b_fn hf (fun j => c_len (Fam.hK hf j)) d_len h.z_len (a_cons (b_var hf 0) (a_nil))) (b_int)) (b_one (b_fn hf (fun j => c_all (Fam.hK hf j) (Fam.calm hf j)) d_all h.z_all (a_cons ((b_lc hf [("at", 1)] (fun _ => blkOk_by (by kernel_rfl)) (i_range2 hf h.z_range (a_cons (b_int) (a_cons (b_fn hf (fun j => c_len (Fam.hK hf j)) d_len h.z_len (a_cons (b_var hf 0) (a_nil))) (a_nil)))) (g_name (Fam.blk hf _) 1) (ts_nil) (b_cmp (fun _ => o_lt) d_lt (b_var (Fam.blk hf _) 0) (b_op (fun _ => o_add) d_add (b_sl (fun j => sl_all (Fam.hK (Fam.blk hf _) j)) d_sl (b_var (Fam.blk hf _) 0) (o_so (b_var (Fam.blk hf _) 1)) (o_no)) (b_sl (fun j => sl_all (Fam.hK (Fam.blk hf _) j)) d_sl (b_var (Fam.blk hf _) 0) (o_no) (o_so (b_var (Fam.blk hf _) 1)))))).be) (a_nil))))))) (by decide)
/-! is_word_of 0:setting 1:value 2:sign -/
theorem sc_is_word_of : FnScope ["setting", "value", "sign"] ["setting", "value"] (defScope st_is_word_of) := ⟨rfl, rfl, rfl, by decide +kernel, rfl, by decide +kernel, by decide +kernel⟩
def F_is_word_of : SE → O := sRet (eAnd (eUn (fun d => some (.bl (isiD "str" d))) (eVar 1)) (eArgs (g1 (onL fAll)) (aCons (eLc (gNm 2) [2] (tYesF) (eBin gIn (eVar 2) (eCall fn_letters_of [.v] (pE (eVar 0) (pNil)))) (iSeq (eVar 1))) (aNil))))
def fn_is_word_of : List D → FR := runDef 3 [.v, .v] F_is_word_of
theorem ok_is_word_of (h : Facts P K mg) : Cl P wd K mg base "is_word_of" 2 ["setting", "value"] fn_is_word_of [.v, .v] :=
  (h.d_is_word_of).cl (k := 1) sc_is_word_of [.v, .v] rfl (by decide) (fun f cdv A outer s H E hf => show BSs _ _ _ _ _ F_is_word_of from
    ss_one (s_ret (b_and (b_isi hf h.t_str (b_var hf 1) h.z_isinstance h.z_str) (b_one (b_fn hf (fun j => c_all (Fam.hK hf j) (Fam.calm hf j)) d_all h.z_all (a_cons ((b_lc hf [("sign", 2)] (fun _ => blkOk_by (by kernel_rfl)) (i_seq hf (b_var hf 1)) (g_name (Fam.blk hf _) 2) (ts_nil) (b_cmp (fun j => o_in (Fam.hK (Fam.blk hf _) j)) d_in (b_var (Fam.blk hf _) 2) (b_call (Fam.blk hf _) (ok_letters_of h) (p_e (b_var (Fam.blk hf _) 0) (p_nil))))).be) (a_nil))))))) (by decide)
/-! check_word 0:setting 1:word -/
theorem sc_check_word : FnScope ["setting", "word"] ["setting", "word"] (defScope st_check_word) := ⟨rfl, rfl, rfl, by decide +kernel, rfl, by decide +kernel, by decide +kernel⟩
def F_check_word : SE → O := sIf (tNotF (tBool (eCall fn_is_word_of [.v, .v] (pE (eVar 0) (pE (eVar 1) (pNil)))))) (sRaise "InvalidWord" (eVar 1)) (sNx)
def fn_check_word : List D → FR := runDef 2 [.v, .v] F_check_word
theorem ok_check_word (h : Facts P K mg) : Cl P wd K mg base "check_word" 3 ["setting", "word"] fn_check_word [.v, .v] :=
  (h.d_check_word).cl (k := 2) sc_check_word [.v, .v] rfl (by decide) (fun f cdv A outer s H E hf => show BSs _ _ _ _ _ F_check_word from
    ss_one (s_if (t_not (t_val (b_call hf (ok_is_word_of h) (p_e (b_var hf 0) (p_e (b_var hf 1) (p_nil)))))) (ss_one (s_raiseX hf h.x_InvalidWord (b_var hf 1))) (ss_nil))) (by decide)
/-! is_lyndon 0:setting 1:word -/
theorem sc_is_lyndon : FnScope ["setting", "word"] ["setting", "word"] (defScope st_is_lyndon) := ⟨rfl, rfl, rfl, by decide +kernel, rfl, by decide +kernel, by decide +kernel⟩
def F_is_lyndon : SE → O := sSeq (sDrop (eCall fn_check_setting [.v] (pE (eVar 0) (pNil)))) (sSeq (sDrop (eCall fn_check_word [.v, .v] (pE (eVar 0) (pE (eVar 1) (pNil))))) (sRet (eCall fn_is_lyndon_word [.v] (pE (eVar 1) (pNil)))))
def fn_is_lyndon : List D → FR := runDef 2 [.v, .v] F_is_lyndon
theorem ok_is_lyndon (h : Facts P K mg) : Cl P wd K mg base "is_lyndon" 6 ["setting", "word"] fn_is_lyndon [.v, .v] :=
  (h.d_is_lyndon).cl (k := 5) sc_is_lyndon [.v, .v] rfl (by decide) (fun f cdv A outer s H E hf => show BSs _ _ _ _ _ F_is_lyndon from
    ss_cons (s_expr (b_call hf (ok_check_setting h) (p_e (b_var hf 0) (p_nil)))) (ss_cons (s_expr (b_call hf (ok_check_word h) (p_e (b_var hf 0) (p_e (b_var hf 1) (p_nil))))) (ss_one (s_ret (b_call hf (ok_is_lyndon_word h) (p_e (b_var hf 1) (p_nil))))))) (by decide)
theorem kcl_is_lyndon_1_0 (h : Facts P K mg) : KCl P wd K mg base "is_lyndon" 6 ["setting", "word"] ["word", "setting"] [1, 0] fn_is_lyndon [.v, .v] := (h.d_is_lyndon).kcl (ok_is_lyndon h) fun _ _ _ _ _ _ ws hl => match ws, hl with | [_, _], _ => rfl
/-! factors_of 0:word 1:found 2:many 3:at -/
theorem sc_factors_of : FnScope ["word", "found", "many", "at"] ["word"] (defScope st_factors_of) := ⟨rfl, rfl, rfl, by decide +kernel, rfl, by decide +kernel, by decide +kernel⟩
def F_factors_of : SE → O := sSeq (sSetO 1 (eLst (aNil))) (sSeq (sWhile (fun _ => 1000000) (tBool (eBin gNe (eVar 0) (eC (.str "")))) (sSeq (sSet 2 (eArgs (g1 (onL (fMin PySem.W.maxOf PySem.W.maxOf))) (aCons (eLc (gNm 3) [3] (tBool (eCall fn_is_lyndon_word [.v] (pE (eSl gSl (eVar 0) (pNo) (pSo (eVar 3))) (pNil)))) (eVar 3) (iOf iR2 (aCons (eC (.int 1)) (aCons (eBin gAdd (eArgs (g1 gLen) (aCons (eVar 0) (aNil))) (eC (.int 1))) (aNil))))) (aNil)))) (sSeq (sDrop (eMt 1 mAppend (aCons (eSl gSl (eVar 0) (pNo) (pSo (eVar 2))) (aNil)))) (sSet 0 (eSl gSl (eVar 0) (pSo (eVar 2)) (pNo))))) [2]) (sRetS 1))
def fn_factors_of : List D → FR := runDef 4 [.v] F_factors_of
theorem ok_factors_of (h : Facts P K mg) : Cl P wd K mg base "factors_of" 2 ["word"] fn_factors_of [.v] :=
  (h.d_factors_of).cl (k := 1) sc_factors_of [.v] rfl (by decide) (fun f cdv A outer s H E hf => show BSs _ _ _ _ _ F_factors_of from
    ss_cons (s_setO hf 1 (b_lst (a_nil))) (ss_cons (s_while hf (fun _ => 1000000) [2] (t_cmp (fun j => o_ne (Fam.hK hf j) (Fam.room hf j)) d_ne (b_var hf 0) (b_str)) (ss_cons (s_set hf 2 (b_fn hf (fun j => c_max (Fam.hK hf j) (Fam.calm hf j) (Fam.room hf j)) d_min h.z_max (a_cons ((b_lc hf [("at", 3)] (fun _ => blkOk_by (by kernel_rfl)) (i_range2 hf h.z_range (a_cons (b_int) (a_cons (b_op (fun _ => o_add) d_add (b_fn hf (fun j => c_len (Fam.hK hf j)) d_len h.z_len (a_cons (b_var hf 0) (a_nil))) (b_int)) (a_nil)))) (g_name (Fam.blk hf _) 3) (ts_one (t_val (b_call (Fam.blk hf _) (ok_is_lyndon_word h) (p_e (b_sl (fun j => sl_all (Fam.hK (Fam.blk hf _) j)) d_sl (b_var (Fam.blk hf _) 0) (o_no) (o_so (b_var (Fam.blk hf _) 3))) (p_nil))))) (b_var (Fam.blk hf _) 3)).be) (a_nil)))) (ss_cons (s_expr (b_mt hf 1 PySem.F.slot_list_append PySem.F.type_list_append (fun _ => mt_append) d_append (a_cons (b_sl (fun j => sl_all (Fam.hK hf j)) d_sl (b_var hf 0) (o_no) (o_so (b_var hf 2))) (a_nil)))) (ss_one (s_set hf 0 (b_sl (fun j => sl_all (Fam.hK hf j)) d_sl (b_var hf 0) (o_so (b_var hf 2)) (o_no))))))) (ss_one (s_retS hf 1)))) (by decide)
/-! lyndon_factors 0:setting 1:word -/
theorem sc_lyndon_factors : FnScope ["setting", "word"] ["setting", "word"] (defScope st_lyndon_factors) := ⟨rfl, rfl, rfl, by decide +kernel, rfl, by decide +kernel, by decide +kernel⟩
def F_lyndon_factors : SE → O := sSeq (sDrop (eCall fn_check_setting [.v] (pE (eVar 0) (pNil)))) (sSeq (sDrop (eCall fn_check_word [.v, .v] (pE (eVar 0) (pE (eVar 1) (pNil))))) (sRet (eArgs (g1 gTuple) (aCons (eCallO fn_factors_of [.v] (pE (eVar 1) (pNil))) (aNil)))))
def fn_lyndon_factors : List D → FR := runDef 2 [.v, .v] F_lyndon_factors
theorem ok_lyndon_factors (h : Facts P K mg) : Cl P wd K mg base "lyndon_factors" 6 ["setting", "word"] fn_lyndon_factors [.v, .v] :=
  (h.d_lyndon_factors).cl (k := 5) sc_lyndon_factors [.v, .v] rfl (by decide) (fun f cdv A outer s H E hf => show BSs _ _ _ _ _ F_lyndon_factors from
    ss_cons (s_expr (b_call hf (ok_check_setting h) (p_e (b_var hf 0) (p_nil)))) (ss_cons (s_expr (b_call hf (ok_check_word h) (p_e (b_var hf 0) (p_e (b_var hf 1) (p_nil))))) (ss_one (s_ret (b_ty hf (fun j => c_tuple (Fam.hK hf j)) d_tuple h.z_tuple (a_cons ((b_callO hf (ok_factors_of h) (p_e (b_var hf 1) (p_nil))).be) (a_nil))))))) (by decide)
theorem kcl_lyndon_factors_1_0 (h : Facts P K mg) : KCl P wd K mg base "lyndon_factors" 6 ["setting", "word"] ["word", "setting"] [1, 0] fn_lyndon_factors [.v, .v] := (h.d_lyndon_factors).kcl (ok_lyndon_factors h) fun _ _ _ _ _ _ ws hl => match ws, hl with | [_, _], _ => rfl
/-! split_of 0:word 1:at 2:own -/
theorem sc_split_of : FnScope ["word", "at", "own"] ["word"] (defScope st_split_of) := ⟨rfl, rfl, rfl, by decide +kernel, rfl, by decide +kernel, by decide +kernel⟩
def F_split_of : SE → O := sSeq (sSet 1 (eArgs (g1 (onL (fMin PySem.W.minOf PySem.W.minOf))) (aCons (eLc (gNm 2) [2] (tBool (eCall fn_is_lyndon_word [.v] (pE (eSl gSl (eVar 0) (pSo (eVar 2)) (pNo)) (pNil)))) (eVar 2) (iOf iR2 (aCons (eC (.int 1)) (aCons (eArgs (g1 gLen) (aCons (eVar 0) (aNil))) (aNil))))) (aNil)))) (sRet (eTup (aCons (eSl gSl (eVar 0) (pNo) (pSo (eVar 1))) (aCons (eSl gSl (eVar 0) (pSo (eVar 1)) (pNo)) (aNil)))))
def fn_split_of : List D → FR := runDef 3 [.v] F_split_of
theorem ok_split_of (h : Facts P K mg) : Cl P wd K mg base "split_of" 2 ["word"] fn_split_of [.v] :=
  (h.d_split_of).cl (k := 1) sc_split_of [.v] rfl (by decide) (fun f cdv A outer s H E hf => show BSs _ _ _ _ _ F_split_of from
    ss_cons (s_set hf 1 (b_fn hf (fun j => c_min (Fam.hK hf j) (Fam.calm hf j) (Fam.room hf j)) d_min h.z_min (a_cons ((b_lc hf [("own", 2)] (fun _ => blkOk_by (by kernel_rfl)) (i_range2 hf h.z_range (a_cons (b_int) (a_cons (b_fn hf (fun j => c_len (Fam.hK hf j)) d_len h.z_len (a_cons (b_var hf 0) (a_nil))) (a_nil)))) (g_name (Fam.blk hf _) 2) (ts_one (t_val (b_call (Fam.blk hf _) (ok_is_lyndon_word h) (p_e (b_sl (fun j => sl_all (Fam.hK (Fam.blk hf _) j)) d_sl (b_var (Fam.blk hf _) 0) (o_so (b_var (Fam.blk hf _) 2)) (o_no)) (p_nil))))) (b_var (Fam.blk hf _) 2)).be) (a_nil)))) (ss_one (s_ret (b_tup (a_cons (b_sl (fun j => sl_all (Fam.hK hf j)) d_sl (b_var hf 0) (o_no) (o_so (b_var hf 1))) (a_cons (b_sl (fun j => sl_all (Fam.hK hf j)) d_sl (b_var hf 0) (o_so (b_var hf 1)) (o_no)) (a_nil))))))) (by decide)
/-! check_lyndon 0:setting 1:word 2:least -/
theorem sc_check_lyndon : FnScope ["setting", "word", "least"] ["setting", "word", "least"] (defScope st_check_lyndon) := ⟨rfl, rfl, rfl, by decide +kernel, rfl, by decide +kernel, by decide +kernel⟩
def F_check_lyndon : SE → O := sSeq (sDrop (eCall fn_check_setting [.v] (pE (eVar 0) (pNil)))) (sSeq (sDrop (eCall fn_check_word [.v, .v] (pE (eVar 0) (pE (eVar 1) (pNil))))) (sIf (tOrF (tNotF (tBool (eCall fn_is_lyndon_word [.v] (pE (eVar 1) (pNil))))) (tBool (eBin gLt (eArgs (g1 gLen) (aCons (eVar 1) (aNil))) (eVar 2)))) (sRaise "InvalidWord" (eVar 1)) (sNx)))
def fn_check_lyndon : List D → FR := runDef 3 [.v, .v, .v] F_check_lyndon
theorem ok_check_lyndon (h : Facts P K mg) : Cl P wd K mg base "check_lyndon" 6 ["setting", "word", "least"] fn_check_lyndon [.v, .v, .v] :=
  (h.d_check_lyndon).cl (k := 5) sc_check_lyndon [.v, .v, .v] rfl (by decide) (fun f cdv A outer s H E hf => show BSs _ _ _ _ _ F_check_lyndon from
    ss_cons (s_expr (b_call hf (ok_check_setting h) (p_e (b_var hf 0) (p_nil)))) (ss_cons (s_expr (b_call hf (ok_check_word h) (p_e (b_var hf 0) (p_e (b_var hf 1) (p_nil))))) (ss_one (s_if (t_w (w_or (t_not (t_val (b_call hf (ok_is_lyndon_word h) (p_e (b_var hf 1) (p_nil))))) (w_or1 (t_cmp (fun _ => o_lt) d_lt (b_fn hf (fun j => c_len (Fam.hK hf j)) d_len h.z_len (a_cons (b_var hf 1) (a_nil))) (b_var hf 2))))) (ss_one (s_raiseX hf h.x_InvalidWord (b_var hf 1))) (ss_nil))))) (by decide)
/-! lyndon_split 0:setting 1:word -/
theorem sc_lyndon_split : FnScope ["setting", "word"] ["setting", "word"] (defScope st_lyndon_split) := ⟨rfl, rfl, rfl, by decide +kernel, rfl, by decide +kernel, by decide +kernel⟩
def F_lyndon_split : SE → O := sSeq (sDrop (eCall fn_check_lyndon [.v, .v, .v] (pE (eVar 0) (pE (eVar 1) (pE (eC (.int 2)) (pNil)))))) (sRet (eCall fn_split_of [.v] (pE (eVar 1) (pNil))))
def fn_lyndon_split : List D → FR := runDef 2 [.v, .v] F_lyndon_split
theorem ok_lyndon_split (h : Facts P K mg) : Cl P wd K mg base "lyndon_split" 7 ["setting", "word"] fn_lyndon_split [.v, .v] :=
  (h.d_lyndon_split).cl (k := 6) sc_lyndon_split [.v, .v] rfl (by decide) (fun f cdv A outer s H E hf => show BSs _ _ _ _ _ F_lyndon_split from
    ss_cons (s_expr (b_call hf (ok_check_lyndon h) (p_e (b_var hf 0) (p_e (b_var hf 1) (p_e (b_int) (p_nil)))))) (ss_one (s_ret (b_call hf (ok_split_of h) (p_e (b_var hf 1) (p_nil)))))) (by decide)
theorem kcl_lyndon_split_1_0 (h : Facts P K mg) : KCl P wd K mg base "lyndon_split" 7 ["setting", "word"] ["word", "setting"] [1, 0] fn_lyndon_split [.v, .v] := (h.d_lyndon_split).kcl (ok_lyndon_split h) fun _ _ _ _ _ _ ws hl => match ws, hl with | [_, _], _ => rfl
/-! _law_asked 0:which 1:setting 2:a 3:told 4:error -/
theorem sc__law_asked : FnScope ["which", "setting", "a", "told", "error"] ["which", "setting", "a"] (defScope st__law_asked) := ⟨rfl, rfl, rfl, by decide +kernel, rfl, by decide +kernel, by decide +kernel⟩
def F__law_asked : SE → O := sSeq (sSet 3 (eTup (aCons (eC (.str "none")) (aCons (eC .non) (aNil))))) (sSeq (sTry allExc subExc 4 3 [("InvalidSetting", fun d => .tup [.str "setting", d]), ("InvalidWord", fun d => .tup [.str "word", d]), ("InvalidInteger", fun d => .tup [.str "integer", d])] (sIf (tBool (eBin gEq (eVar 0) (eC (.int 0)))) (sDrop (eCall fn_is_lyndon [.v, .v] (pE (eVar 1) (pE (eVar 2) (pNil))))) (sIf (tBool (eBin gEq (eVar 0) (eC (.int 1)))) (sDrop (eCall fn_lyndon_factors [.v, .v] (pE (eVar 1) (pE (eVar 2) (pNil))))) (sIf (tBool (eBin gEq (eVar 0) (eC (.int 2)))) (sDrop (eCall fn_lyndon_split [.v, .v] (pE (eVar 1) (pE (eVar 2) (pNil))))) (sIf (tBool (eBin gEq (eVar 0) (eC (.int 3)))) (sDrop (eCall fn_lyndon_words [.v, .v] (pE (eVar 1) (pE (eVar 2) (pNil))))) (sDrop (eCall fn_lyndon_counts [.v, .v] (pE (eVar 1) (pE (eVar 2) (pNil)))))))))) (sRet (eVar 3)))
def fn__law_asked : List D → FR := runDef 5 [.v, .v, .v] F__law_asked
theorem ok__law_asked (h : Facts P K mg) : Cl P wd K mg base "_law_asked" 8 ["which", "setting", "a"] fn__law_asked [.v, .v, .v] :=
  (h.d__law_asked).cl (k := 7) sc__law_asked [.v, .v, .v] rfl (by decide) (fun f cdv A outer s H E hf => show BSs _ _ _ _ _ F__law_asked from
    ss_cons (s_set hf 3 (b_tup (a_cons (b_str) (a_cons (b_non) (a_nil))))) (ss_cons (s_try hf allExc subExc 4 3 (hs := [("InvalidSetting", fun d => .tup [.str "setting", d]), ("InvalidWord", fun d => .tup [.str "word", d]), ("InvalidInteger", fun d => .tup [.str "integer", d])]) (ex := exF h (by decide)) (fun W1 hf1 => ss_one (s_if (t_cmp (fun j => o_eq (Fam.hK hf1 j) (Fam.room hf1 j)) d_eq (b_var hf1 0) (b_int)) (ss_one (s_expr (b_call hf1 (ok_is_lyndon h) (p_e (b_var hf1 1) (p_e (b_var hf1 2) (p_nil)))))) (ss_one (s_if (t_cmp (fun j => o_eq (Fam.hK hf1 j) (Fam.room hf1 j)) d_eq (b_var hf1 0) (b_int)) (ss_one (s_expr (b_call hf1 (ok_lyndon_factors h) (p_e (b_var hf1 1) (p_e (b_var hf1 2) (p_nil)))))) (ss_one (s_if (t_cmp (fun j => o_eq (Fam.hK hf1 j) (Fam.room hf1 j)) d_eq (b_var hf1 0) (b_int)) (ss_one (s_expr (b_call hf1 (ok_lyndon_split h) (p_e (b_var hf1 1) (p_e (b_var hf1 2) (p_nil)))))) (ss_one (s_if (t_cmp (fun j => o_eq (Fam.hK hf1 j) (Fam.room hf1 j)) d_eq (b_var hf1 0) (b_int)) (ss_one (s_expr (b_call hf1 (ok_lyndon_words h) (p_e (b_var hf1 1) (p_e (b_var hf1 2) (p_nil)))))) (ss_one (s_expr (b_call hf1 (ok_lyndon_counts h) (p_e (b_var hf1 1) (p_e (b_var hf1 2) (p_nil)))))))))))))) (hd_cons (h.x_InvalidSetting).cls (hd_kind hf 4 3) (hd_cons (h.x_InvalidWord).cls (hd_kind hf 4 3) (hd_cons (h.x_InvalidInteger).cls (hd_kind hf 4 3) (.nil))))) (ss_one (s_ret (b_var hf 3))))) (by decide)
/-! _law_split 0:word 1:at 2:own -/
theorem sc__law_split : FnScope ["word", "at", "own"] ["word"] (defScope st__law_split) := ⟨rfl, rfl, rfl, by decide +kernel, rfl, by decide +kernel, by decide +kernel⟩
def F__law_split : SE → O := sSeq (sSet 1 (eBin itemD (eLc (gNm 2) [2] (tBool (eCall fn__law_is_lyndon [.v] (pE (eSl gSl (eVar 0) (pSo (eVar 2)) (pNo)) (pNil)))) (eVar 2) (iOf iR2 (aCons (eC (.int 1)) (aCons (eArgs (g1 gLen) (aCons (eVar 0) (aNil))) (aNil))))) (eC (.int 0)))) (sRet (eTup (aCons (eSl gSl (eVar 0) (pNo) (pSo (eVar 1))) (aCons (eSl gSl (eVar 0) (pSo (eVar 1)) (pNo)) (aNil)))))
def fn__law_split : List D → FR := runDef 3 [.v] F__law_split
theorem ok__law_split (h : Facts P K mg) : Cl P wd K mg base "_law_split" 2 ["word"] fn__law_split [.v] :=
  (h.d__law_split).cl (k := 1) sc__law_split [.v] rfl (by decide) (fun f cdv A outer s H E hf => show BSs _ _ _ _ _ F__law_split from
    ss_cons (s_set hf 1 (b_ix hf ((b_lc hf [("own", 2)] (fun _ => blkOk_by (by kernel_rfl)) (i_range2 hf h.z_range (a_cons (b_int) (a_cons (b_fn hf (fun j => c_len (Fam.hK hf j)) d_len h.z_len (a_cons (b_var hf 0) (a_nil))) (a_nil)))) (g_name (Fam.blk hf _) 2) (ts_one (t_val (b_call (Fam.blk hf _) (ok__law_is_lyndon h) (p_e (b_sl (fun j => sl_all (Fam.hK (Fam.blk hf _) j)) d_sl (b_var (Fam.blk hf _) 0) (o_so (b_var (Fam.blk hf _) 2)) (o_no)) (p_nil))))) (b_var (Fam.blk hf _) 2)).be) (b_int))) (ss_one (s_ret (b_tup (a_cons (b_sl (fun j => sl_all (Fam.hK hf j)) d_sl (b_var hf 0) (o_no) (o_so (b_var hf 1))) (a_cons (b_sl (fun j => sl_all (Fam.hK hf j)) d_sl (b_var hf 0) (o_so (b_var hf 1)) (o_no)) (a_nil))))))) (by decide)
/-! _law_factors_right 0:word 1:found 2:own 3:at -/
theorem sc__law_factors_right : FnScope ["word", "found", "own", "at"] ["word", "found"] (defScope st__law_factors_right) := ⟨rfl, rfl, rfl, by decide +kernel, rfl, by decide +kernel, by decide +kernel⟩
def F__law_factors_right : SE → O := sSeq (sIf (tOrF (tNotF (tBool (eUn (fun d => some (.bl (isiD "tuple" d))) (eVar 1)))) (tBool (eArgs (g1 (onL fAny)) (aCons (eLc (gNm 2) [2] (tYesF) (eOr (eNot (eUn (fun d => some (.bl (isiD "str" d))) (eVar 2))) (eNot (eCall fn__law_is_lyndon [.v] (pE (eVar 2) (pNil))))) (iSeq (eVar 1))) (aNil))))) (sRet (eC (.bl false))) (sNx)) (sRet (eAnd (eBin gEq (eTm gJoin (eC (.str "")) (aCons (eVar 1) (aNil))) (eVar 0)) (eArgs (g1 (onL fAll)) (aCons (eLc (gNm 3) [3] (tYesF) (eBin gLeA (eBin itemD (eVar 1) (eVar 3)) (eBin itemD (eVar 1) (eBin gSub (eVar 3) (eC (.int 1))))) (iOf iR2 (aCons (eC (.int 1)) (aCons (eArgs (g1 gLen) (aCons (eVar 1) (aNil))) (aNil))))) (aNil)))))
def fn__law_factors_right : List D → FR := runDef 4 [.v, .v] F__law_factors_right
theorem ok__law_factors_right (h : Facts P K mg) : Cl P wd K mg base "_law_factors_right" 2 ["word", "found"] fn__law_factors_right [.v, .v] :=
  (h.d__law_factors_right).cl (k := 1) sc__law_factors_right [.v, .v] rfl (by decide) (fun f cdv A outer s H E hf => show BSs _ _ _ _ _ F__law_factors_right from
    ss_cons (s_if (t_w (w_or (t_not (t_val (b_isi hf h.t_tuple (b_var hf 1) h.z_isinstance h.z_tuple))) (w_or1 (t_val (b_fn hf (fun j => c_any (Fam.hK hf j) (Fam.calm hf j)) d_any h.z_any (a_cons ((b_lc hf [("own", 2)] (fun _ => blkOk_by (by kernel_rfl)) (i_seq hf (b_var hf 1)) (g_name (Fam.blk hf _) 2) (ts_nil) (b_or (b_not (b_isi (Fam.blk hf _) h.t_str (b_var (Fam.blk hf _) 2) h.z_isinstance h.z_str)) (b_one (b_not (b_call (Fam.blk hf _) (ok__law_is_lyndon h) (p_e (b_var (Fam.blk hf _) 2) (p_nil))))))).be) (a_nil))))))) (ss_one (s_ret (b_bl))) (ss_nil)) (ss_one (s_ret (b_and (b_cmp (fun j => o_eq (Fam.hK hf j) (Fam.room hf j)) d_eq (b_tm hf PySem.F.slot_str_join PySem.F.type_str_join (fun j => m_join (Fam.hK hf j)) d_join (b_str) (a_cons (b_var hf 1) (a_nil))) (b_var hf 0)) (b_one (b_fn hf (fun j => c_all (Fam.hK hf j) (Fam.calm hf j)) d_all h.z_all (a_cons ((b_lc hf [("at", 3)] (fun _ => blkOk_by (by kernel_rfl)) (i_range2 hf h.z_range (a_cons (b_int) (a_cons (b_fn hf (fun j => c_len (Fam.hK hf j)) d_len h.z_len (a_cons (b_var hf 1) (a_nil))) (a_nil)))) (g_name (Fam.blk hf _) 3) (ts_nil) (b_cmp (fun _ => o_leA) d_leA (b_ix (Fam.blk hf _) (b_var (Fam.blk hf _) 1) (b_var (Fam.blk hf _) 3)) (b_ix (Fam.blk hf _) (b_var (Fam.blk hf _) 1) (b_op (fun _ => op_sub) d_sub (b_var (Fam.blk hf _) 3) (b_int))))).be) (a_nil)))))))) (by decide)
/-! _law_word_right 0:setting 1:word 2:due 3:found 4:first 5:second -/
theorem sc__law_word_right : FnScope ["setting", "word", "due", "found", "first", "second"] ["setting", "word"] (defScope st__law_word_right) := ⟨rfl, rfl, rfl, by decide +kernel, rfl, by decide +kernel, by decide +kernel⟩
def F__law_word_right : SE → O := sSeq (sSet 2 (eCall fn__law_is_lyndon [.v] (pE (eVar 1) (pNil)))) (sSeq (sIf (tNotF (tBool (eCall (fn__law_same 6) [.v, .v] (pE (eLst (aCons (eCall fn_is_lyndon [.v, .v] (pE (eVar 0) (pE (eVar 1) (pNil)))) (aCons (eKw fn_is_lyndon [.v, .v] [1, 0] (pE (eVar 1) (pE (eVar 0) (pNil)))) (aNil)))) (pE (eLst (aCons (eVar 2) (aCons (eVar 2) (aNil)))) (pNil)))))) (sRet (eC (.bl false))) (sNx)) (sSeq (sSet 3 (eCall fn_lyndon_factors [.v, .v] (pE (eVar 0) (pE (eVar 1) (pNil))))) (sSeq (sIf (tOrF (tNotF (tBool (eCall fn__law_factors_right [.v, .v] (pE (eVar 1) (pE (eVar 3) (pNil)))))) (tOrF (tNotF (tBool (eCall (fn__law_same 6) [.v, .v] (pE (eKw fn_lyndon_factors [.v, .v] [1, 0] (pE (eVar 1) (pE (eVar 0) (pNil)))) (pE (eVar 3) (pNil)))))) (tBool (eBin gNe (eVar 2) (eBin gEq (eArgs (g1 gLen) (aCons (eVar 3) (aNil))) (eC (.int 1))))))) (sRet (eC (.bl false))) (sNx)) (sSeq (sIf (tOrF (tNotF (tBool (eVar 2))) (tBool (eBin gLt (eArgs (g1 gLen) (aCons (eVar 1) (aNil))) (eC (.int 2))))) (sRet (eCall (fn__law_same 6) [.v, .v] (pE (eCall fn__law_asked [.v, .v, .v] (pE (eC (.int 2)) (pE (eVar 0) (pE (eVar 1) (pNil))))) (pE (eTup (aCons (eC (.str "word")) (aCons (eVar 1) (aNil)))) (pNil))))) (sNx)) (sSeq (sAsgG (gTupF (gsCons (gNm 4) (gsCons (gNm 5) (gsNil)))) (eCall fn__law_split [.v] (pE (eVar 1) (pNil)))) (sRet (eAnd (eCall fn__law_is_lyndon [.v] (pE (eVar 4) (pNil))) (eAnd (eBin gLt (eVar 4) (eVar 5)) (eCall (fn__law_same 6) [.v, .v] (pE (eLst (aCons (eCall fn_lyndon_split [.v, .v] (pE (eVar 0) (pE (eVar 1) (pNil)))) (aCons (eKw fn_lyndon_split [.v, .v] [1, 0] (pE (eVar 1) (pE (eVar 0) (pNil)))) (aNil)))) (pE (eBin gMulL (eLst (aCons (eTup (aCons (eVar 4) (aCons (eVar 5) (aNil)))) (aNil))) (eC (.int 2))) (pNil))))))))))))
def fn__law_word_right : List D → FR := runDef 6 [.v, .v] F__law_word_right
theorem ok__law_word_right (h : Facts P K mg) : Cl P wd K mg base "_law_word_right" 9 ["setting", "word"] fn__law_word_right [.v, .v] :=
  (h.d__law_word_right).cl (k := 8) sc__law_word_right [.v, .v] rfl (by decide) (fun f cdv A outer s H E hf => show BSs _ _ _ _ _ F__law_word_right from
    ss_cons (s_set hf 2 (b_call hf (ok__law_is_lyndon h) (p_e (b_var hf 1) (p_nil)))) (ss_cons (s_if (t_not (t_val (b_call hf (ok__law_same h 6) (p_e ((b_lst (a_cons (b_call hf (ok_is_lyndon h) (p_e (b_var hf 0) (p_e (b_var hf 1) (p_nil)))) (a_cons (b_kw hf (kcl_is_lyndon_1_0 h) (kw_e (b_var hf 1) (kw_e (b_var hf 0) (kw_nil)))) (a_nil)))).be) (p_e ((b_lst (a_cons (b_var hf 2) (a_cons (b_var hf 2) (a_nil)))).be) (p_nil)))))) (ss_one (s_ret (b_bl))) (ss_nil)) (ss_cons (s_set hf 3 (b_call hf (ok_lyndon_factors h) (p_e (b_var hf 0) (p_e (b_var hf 1) (p_nil))))) (ss_cons (s_if (t_w (w_or (t_not (t_val (b_call hf (ok__law_factors_right h) (p_e (b_var hf 1) (p_e (b_var hf 3) (p_nil)))))) (w_or (t_not (t_val (b_call hf (ok__law_same h 6) (p_e (b_kw hf (kcl_lyndon_factors_1_0 h) (kw_e (b_var hf 1) (kw_e (b_var hf 0) (kw_nil)))) (p_e (b_var hf 3) (p_nil)))))) (w_or1 (t_cmp (fun j => o_ne (Fam.hK hf j) (Fam.room hf j)) d_ne (b_var hf 2) (b_cmp (fun j => o_eq (Fam.hK hf j) (Fam.room hf j)) d_eq (b_fn hf (fun j => c_len (Fam.hK hf j)) d_len h.z_len (a_cons (b_var hf 3) (a_nil))) (b_int))))))) (ss_one (s_ret (b_bl))) (ss_nil)) (ss_cons (s_if (t_w (w_or (t_not (t_val (b_var hf 2))) (w_or1 (t_cmp (fun _ => o_lt) d_lt (b_fn hf (fun j => c_len (Fam.hK hf j)) d_len h.z_len (a_cons (b_var hf 1) (a_nil))) (b_int))))) (ss_one (s_ret (b_call hf (ok__law_same h 6) (p_e (b_call hf (ok__law_asked h) (p_e (b_int) (p_e (b_var hf 0) (p_e (b_var hf 1) (p_nil))))) (p_e (b_tup (a_cons (b_str) (a_cons (b_var hf 1) (a_nil)))) (p_nil)))))) (ss_nil)) (ss_cons (s_asgG (g_tup hf (gs_cons (g_name hf 4) (gs_cons (g_name hf 5) (gs_nil)))) (b_call hf (ok__law_split h) (p_e (b_var hf 1) (p_nil)))) (ss_one (s_ret (b_and (b_call hf (ok__law_is_lyndon h) (p_e (b_var hf 4) (p_nil))) (b_and (b_cmp (fun _ => o_lt) d_lt (b_var hf 4) (b_var hf 5)) (b_one (b_call hf (ok__law_same h 6) (p_e ((b_lst (a_cons (b_call hf (ok_lyndon_split h) (p_e (b_var hf 0) (p_e (b_var hf 1) (p_nil)))) (a_cons (b_kw hf (kcl_lyndon_split_1_0 h) (kw_e (b_var hf 1) (kw_e (b_var hf 0) (kw_nil)))) (a_nil)))).be) (p_e ((b_opO (fun _ => op_rep) d_mulL ((b_lst (a_cons (b_tup (a_cons (b_var hf 4) (a_cons (b_var hf 5) (a_nil)))) (a_nil))).be) (b_int)).be) (p_nil))))))))))))))) (by decide)
/-! _law_right 0:feed 1:p 2:at 3:setting 4:most 5:turn 6:word 7:turned 8:numbers 9:ways 10:k 11:words 12:more 13:wrong 14:odd 15:bad 16:which 17:other 18:told 19:own -/
theorem sc__law_right : FnScope ["feed", "p", "at", "setting", "most", "turn", "word", "turned", "numbers", "ways", "k", "words", "more", "wrong", "odd", "bad", "which", "other", "told", "own"] ["feed"] (defScope st__law_right) := ⟨rfl, rfl, rfl, by decide +kernel, rfl, by decide +kernel, by decide +kernel⟩
def F__law_right : SE → O := sSeq (sSet 1 (eBin itemD (eLst (aCons (eC (.int 0)) (aCons (eC (.int 2)) (aCons (eC (.int 3)) (aCons (eC (.int 5)) (aCons (eC (.int 89)) (aNil))))))) (eCallM fn__law_drawn [.m, .v] 0 (pS 0 (pE (eC (.int 5)) (pNil)))))) (sSeq (sSet 2 (eCallM fn__law_drawn [.m, .v] 0 (pS 0 (pE (eC (.int 6)) (pNil))))) (sSeq (sSet 3 (eTup (aCons (eVar 1) (aCons (eBin itemD (eLst (aCons (eTup (aCons (eC (.int 1)) (aNil))) (aCons (eTup (aCons (eC (.int 1)) (aCons (eC (.int 1)) (aNil)))) (aCons (eTup (aCons (eC (.int 1)) (aCons (eC (.int 2)) (aNil)))) (aCons (eTup (aCons (eC (.int 1)) (aCons (eC (.int 1)) (aCons (eC (.int 1)) (aNil))))) (aCons (eTup (aCons (eC (.int 2)) (aCons (eC (.int 3)) (aNil)))) (aCons (eTup (aCons (eC (.int 1)) (aCons (eC (.int 1)) (aCons (eC (.int 2)) (aNil))))) (aNil)))))))) (eVar 2)) (aNil))))) (sSeq (sSet 4 (eBin itemD (eLst (aCons (eC (.int 8)) (aCons (eC (.int 7)) (aCons (eC (.int 8)) (aCons (eC (.int 4)) (aCons (eC (.int 8)) (aCons (eC (.int 6)) (aNil)))))))) (eVar 2))) (sSeq (sFor (iOf iR1 (aCons (eC (.int 4)) (aNil))) (gNm 5) (sSeq (sSet 6 (eCallM fn__law_drawn_word [.m, .v, .v] 0 (pS 0 (pE (eVar 3) (pE (eIf (tBool (eBin gEq (eVar 2) (eC (.int 4)))) (eC (.int 6)) (eC (.int 8))) (pNil)))))) (sSeq (sSet 7 (eArgs (g1 (onL (fMin PySem.W.minOf PySem.W.minOf))) (aCons (eLc (gNm 19) [19] (tYesF) (eBin gAdd (eSl gSl (eVar 6) (pSo (eVar 19)) (pNo)) (eSl gSl (eVar 6) (pNo) (pSo (eVar 19)))) (iOf iR1 (aCons (eBin gAdd (eArgs (g1 gLen) (aCons (eVar 6) (aNil))) (eC (.int 1))) (aNil)))) (aNil)))) (sIf (tOrF (tNotF (tBool (eCall fn__law_word_right [.v, .v] (pE (eVar 3) (pE (eVar 6) (pNil)))))) (tOrF (tNotF (tBool (eCall fn__law_word_right [.v, .v] (pE (eVar 3) (pE (eVar 7) (pNil)))))) (tNotF (tBool (eCall fn__law_word_right [.v, .v] (pE (eVar 3) (pE (eBin gMulS (eSl gSl (eVar 6) (pNo) (pSo (eC (.int 3)))) (eC (.int 2))) (pNil)))))))) (sRet (eC (.bl false))) (sNx)))) [5, 7]) (sSeq (sPar true true 8 9 (eBin gMulL (eLst (aCons (eC (.int 0)) (aNil))) (eBin gAdd (eVar 4) (eC (.int 1)))) (eBin gCatL (eLst (aCons (eC (.int 1)) (aNil))) (eBin gMulL (eLst (aCons (eC (.int 0)) (aNil))) (eVar 4)))) (sSeq (sFor (iOf iR1 (aCons (eBin gAdd (eVar 4) (eC (.int 1))) (aNil))) (gNm 10) (sSeq (sFrzA 11 (sSetO 11 (eLc (gNm 6) [6] (tBool (eCall fn__law_is_lyndon [.v] (pE (eVar 6) (pNil)))) (eVar 6) (iSeq (eCallO fn__law_words [.v, .v] (pE (eVar 3) (pE (eVar 10) (pNil)))))))) (sSeq (sSetIx 8 (eVar 10) (eArgs (g1 gLen) (aCons (eVar 11) (aNil)))) (sSeq (sIf (tNotF (tBool (eCall (fn__law_same 6) [.v, .v] (pE (eLst (aCons (eCall fn_lyndon_words [.v, .v] (pE (eVar 3) (pE (eVar 10) (pNil)))) (aCons (eKw fn_lyndon_words [.v, .v] [1, 0] (pE (eVar 10) (pE (eVar 3) (pNil)))) (aNil)))) (pE (eBin gMulL (eLst (aCons (eArgs (g1 gTuple) (aCons (eVar 11) (aNil))) (aNil))) (eC (.int 2))) (pNil)))))) (sRet (eC (.bl false))) (sNx)) (sFor (iSeq (eVar 11)) (gNm 6) (sFor (iOf iR2 (aCons (eVar 10) (aCons (eBin gAdd (eVar 4) (eC (.int 1))) (aNil)))) (gNm 12) (sSetIx 9 (eVar 12) (eBin gAdd (eIxS 9 (eVar 12)) (eIxS 9 (eBin gSub (eVar 12) (eVar 10))))) [12]) [12])))) [11, 12]) (sSeq (sIf (tNotF (tBool (eCall (fn__law_same 6) [.v, .v] (pE (eLst (aCons (eCall fn_lyndon_counts [.v, .v] (pE (eVar 3) (pE (eVar 4) (pNil)))) (aCons (eKw fn_lyndon_counts [.v, .v] [1, 0] (pE (eBin gDiv (eVar 4) (eC (.int 2))) (pE (eVar 3) (pNil)))) (aNil)))) (pE (eLst (aCons (eArgS gTuple 8) (aCons (eArgs (g1 gTuple) (aCons (eSlS 8 (pNo) (pSo (eBin gAdd (eBin gDiv (eVar 4) (eC (.int 2))) (eC (.int 1))))) (aNil))) (aNil)))) (pNil)))))) (sRet (eC (.bl false))) (sNx)) (sSeq (sIf (tBool (eCmpS gNe 9 (eLc (gNm 10) [10] (tYesF) (eCall fn_words_number [.v, .v] (pE (eVar 3) (pE (eVar 10) (pNil)))) (iOf iR1 (aCons (eBin gAdd (eVar 4) (eC (.int 1))) (aNil)))))) (sRet (eC (.bl false))) (sNx)) (sSeq (sSet 13 (eBin itemD (eLst (aCons (eTup (aCons (eC (.int 4)) (aCons (eTup (aCons (eC (.int 1)) (aNil))) (aNil)))) (aCons (eTup (aCons (eVar 1) (aCons (eTup (aNil)) (aNil)))) (aCons (eC .non) (aCons (eTup (aCons (eVar 1) (aCons (eTup (aCons (eC (.int 0)) (aNil))) (aNil)))) (aNil)))))) (eCallM fn__law_drawn [.m, .v] 0 (pS 0 (pE (eC (.int 4)) (pNil)))))) (sSeq (sSet 14 (eBin itemD (eLst (aCons (eC (.str "z")) (aCons (eC .non) (aCons (eC (.int 3)) (aCons (eLst (aCons (eC (.str "a")) (aNil))) (aCons (eC (.str "A")) (aCons (eC (.str " ")) (aNil)))))))) (eCallM fn__law_drawn [.m, .v] 0 (pS 0 (pE (eC (.int 6)) (pNil)))))) (sSeq (sSet 15 (eBin itemD (eLst (aCons (eUn gNeg (eC (.int 1))) (aCons (eC .non) (aCons (eC (.bl true)) (aCons (eC (.str "1")) (aNil)))))) (eCallM fn__law_drawn [.m, .v] 0 (pS 0 (pE (eC (.int 4)) (pNil)))))) (sSeq (sPar false false 16 17 (eCallM fn__law_drawn [.m, .v] 0 (pS 0 (pE (eC (.int 3)) (pNil)))) (eBin gAdd (eC (.int 3)) (eCallM fn__law_drawn [.m, .v] 0 (pS 0 (pE (eC (.int 2)) (pNil)))))) (sSeq (sSet 18 (eLst (aCons (eCall fn__law_asked [.v, .v, .v] (pE (eVar 16) (pE (eVar 13) (pE (eVar 14) (pNil))))) (aCons (eCall fn__law_asked [.v, .v, .v] (pE (eVar 16) (pE (eVar 3) (pE (eVar 14) (pNil))))) (aCons (eCall fn__law_asked [.v, .v, .v] (pE (eVar 17) (pE (eVar 13) (pE (eVar 15) (pNil))))) (aCons (eCall fn__law_asked [.v, .v, .v] (pE (eVar 17) (pE (eVar 3) (pE (eVar 15) (pNil))))) (aNil))))))) (sRet (eCall (fn__law_same 6) [.v, .v] (pE (eVar 18) (pE (eLst (aCons (eTup (aCons (eC (.str "setting")) (aCons (eVar 13) (aNil)))) (aCons (eTup (aCons (eC (.str "word")) (aCons (eVar 14) (aNil)))) (aCons (eTup (aCons (eC (.str "setting")) (aCons (eVar 13) (aNil)))) (aCons (eTup (aCons (eC (.str "integer")) (aCons (eVar 15) (aNil)))) (aNil)))))) (pNil))))))))))))))))))
def fn__law_right : List D → FR := runDef 20 [.m] F__law_right
theorem ok__law_right (h : Facts P K mg) : Cl P wd K mg base "_law_right" 10 ["feed"] fn__law_right [.m] :=
  (h.d__law_right).cl (k := 9) sc__law_right [.m] rfl (by decide) (fun f cdv A outer s H E hf => show BSs _ _ _ _ _ F__law_right from
    ss_cons (s_set hf 1 (b_ix hf ((b_lst (a_cons (b_int) (a_cons (b_int) (a_cons (b_int) (a_cons (b_int) (a_cons (b_int) (a_nil))))))).be) (b_callM hf 0 0 (ok__law_drawn h) (p_s hf 0 (p_e (b_int) (p_nil)))))) (ss_cons (s_set hf 2 (b_callM hf 0 0 (ok__law_drawn h) (p_s hf 0 (p_e (b_int) (p_nil))))) (ss_cons (s_set hf 3 (b_tup (a_cons (b_var hf 1) (a_cons (b_ix hf ((b_lst (a_cons (b_tup (a_cons (b_int) (a_nil))) (a_cons (b_tup (a_cons (b_int) (a_cons (b_int) (a_nil)))) (a_cons (b_tup (a_cons (b_int) (a_cons (b_int) (a_nil)))) (a_cons (b_tup (a_cons (b_int) (a_cons (b_int) (a_cons (b_int) (a_nil))))) (a_cons (b_tup (a_cons (b_int) (a_cons (b_int) (a_nil)))) (a_cons (b_tup (a_cons (b_int) (a_cons (b_int) (a_cons (b_int) (a_nil))))) (a_nil)))))))).be) (b_var hf 2)) (a_nil))))) (ss_cons (s_set hf 4 (b_ix hf ((b_lst (a_cons (b_int) (a_cons (b_int) (a_cons (b_int) (a_cons (b_int) (a_cons (b_int) (a_cons (b_int) (a_nil)))))))).be) (b_var hf 2))) (ss_cons (s_for hf (wp := [5, 7]) (i_range1 hf h.z_range (a_cons (b_int) (a_nil))) (g_name hf 5) (ss_cons (s_set hf 6 (b_callM hf 0 0 (ok__law_drawn_word h) (p_s hf 0 (p_e (b_var hf 3) (p_e (b_if (t_cmp (fun j => o_eq (Fam.hK hf j) (Fam.room hf j)) d_eq (b_var hf 2) (b_int)) (b_int) (b_int)) (p_nil)))))) (ss_cons (s_set hf 7 (b_fn hf (fun j => c_min (Fam.hK hf j) (Fam.calm hf j) (Fam.room hf j)) d_min h.z_min (a_cons ((b_lc hf [("own", 19)] (fun _ => blkOk_by (by kernel_rfl)) (i_range1 hf h.z_range (a_cons (b_op (fun _ => o_add) d_add (b_fn hf (fun j => c_len (Fam.hK hf j)) d_len h.z_len (a_cons (b_var hf 6) (a_nil))) (b_int)) (a_nil))) (g_name (Fam.blk hf _) 19) (ts_nil) (b_op (fun _ => o_add) d_add (b_sl (fun j => sl_all (Fam.hK (Fam.blk hf _) j)) d_sl (b_var (Fam.blk hf _) 6) (o_so (b_var (Fam.blk hf _) 19)) (o_no)) (b_sl (fun j => sl_all (Fam.hK (Fam.blk hf _) j)) d_sl (b_var (Fam.blk hf _) 6) (o_no) (o_so (b_var (Fam.blk hf _) 19))))).be) (a_nil)))) (ss_one (s_if (t_w (w_or (t_not (t_val (b_call hf (ok__law_word_right h) (p_e (b_var hf 3) (p_e (b_var hf 6) (p_nil)))))) (w_or (t_not (t_val (b_call hf (ok__law_word_right h) (p_e (b_var hf 3) (p_e (b_var hf 7) (p_nil)))))) (w_or1 (t_not (t_val (b_call hf (ok__law_word_right h) (p_e (b_var hf 3) (p_e (b_op (fun _ => o_mulS) d_mulS (b_sl (fun j => sl_all (Fam.hK hf j)) d_sl (b_var hf 6) (o_no) (o_so (b_int))) (b_int)) (p_nil)))))))))) (ss_one (s_ret (b_bl))) (ss_nil)))))) (ss_cons (s_par hf true true 8 9 (BH_o (b_opO (fun _ => op_rep) d_mulL ((b_lst (a_cons (b_int) (a_nil))).be) (b_op (fun _ => o_add) d_add (b_var hf 4) (b_int)))) (BH_o (b_opO (fun _ => op_cat) d_catL ((b_lst (a_cons (b_int) (a_nil))).be) ((b_opO (fun _ => op_rep) d_mulL ((b_lst (a_cons (b_int) (a_nil))).be) (b_var hf 4)).be))) (fun _ => pf_bin (pf_lst (pf_acons (pf_c) (pf_anil))) (pf_bin (pf_lst (pf_acons (pf_c) (pf_anil))) (pf_var)))) (ss_cons (s_for hf (wp := [11, 12]) (i_range1 hf h.z_range (a_cons (b_op (fun _ => o_add) d_add (b_var hf 4) (b_int)) (a_nil))) (g_name hf 10) (ss_cons (s_frzA 11 (s_setLc hf 11 [("word", 6)] (fun _ => blkOk_by (by kernel_rfl)) (i_seq hf ((b_callO hf (ok__law_words h) (p_e (b_var hf 3) (p_e (b_var hf 10) (p_nil)))).be)) (g_name (Fam.blk hf _) 6) (ts_one (t_val (b_call (Fam.blk hf _) (ok__law_is_lyndon h) (p_e (b_var (Fam.blk hf _) 6) (p_nil))))) (b_var (Fam.blk hf _) 6) (hsw := fun _ => sw_true rfl rfl rfl (by decide +kernel)))) (ss_cons (s_setIx hf 8 (b_var hf 10) (b_fn hf (fun j => c_len (Fam.hK hf j)) d_len h.z_len (a_cons (b_var hf 11) (a_nil)))) (ss_cons (s_if (t_not (t_val (b_call hf (ok__law_same h 6) (p_e ((b_lst (a_cons (b_call hf (ok_lyndon_words h) (p_e (b_var hf 3) (p_e (b_var hf 10) (p_nil)))) (a_cons (b_kw hf (kcl_lyndon_words_1_0 h) (kw_e (b_var hf 10) (kw_e (b_var hf 3) (kw_nil)))) (a_nil)))).be) (p_e ((b_opO (fun _ => op_rep) d_mulL ((b_lst (a_cons (b_ty hf (fun j => c_tuple (Fam.hK hf j)) d_tuple h.z_tuple (a_cons (b_var hf 11) (a_nil))) (a_nil))).be) (b_int)).be) (p_nil)))))) (ss_one (s_ret (b_bl))) (ss_nil)) (ss_one (s_for hf (wp := [12]) (i_seq hf (b_var hf 11)) (g_name hf 6) (ss_one (s_for hf (wp := [12]) (i_range2 hf h.z_range (a_cons (b_var hf 10) (a_cons (b_op (fun _ => o_add) d_add (b_var hf 4) (b_int)) (a_nil)))) (g_name hf 12) (ss_one (s_setIx hf 9 (b_var hf 12) (b_op (fun _ => o_add) d_add (b_ixS hf 9 (b_var hf 12)) (b_ixS hf 9 (b_op (fun _ => op_sub) d_sub (b_var hf 12) (b_var hf 10)))))))))))))) (ss_cons (s_if (t_not (t_val (b_call hf (ok__law_same h 6) (p_e ((b_lst (a_cons (b_call hf (ok_lyndon_counts h) (p_e (b_var hf 3) (p_e (b_var hf 4) (p_nil)))) (a_cons (b_kw hf (kcl_lyndon_counts_1_0 h) (kw_e (b_op (fun _ => o_div) d_div (b_var hf 4) (b_int)) (kw_e (b_var hf 3) (kw_nil)))) (a_nil)))).be) (p_e ((b_lst (a_cons (b_tyS hf (fun j => c_tuple (Fam.hK hf j)) d_tupleS h.z_tuple 8) (a_cons (b_ty hf (fun j => c_tuple (Fam.hK hf j)) d_tuple h.z_tuple (a_cons ((b_slS hf 8 (o_no) (o_so (b_op (fun _ => o_add) d_add (b_op (fun _ => o_div) d_div (b_var hf 4) (b_int)) (b_int)))).be) (a_nil))) (a_nil)))).be) (p_nil)))))) (ss_one (s_ret (b_bl))) (ss_nil)) (ss_cons (s_if (t_neS hf 9 ((b_lc hf [("k", 10)] (fun _ => blkOk_by (by kernel_rfl)) (i_range1 hf h.z_range (a_cons (b_op (fun _ => o_add) d_add (b_var hf 4) (b_int)) (a_nil))) (g_name (Fam.blk hf _) 10) (ts_nil) (b_call (Fam.blk hf _) (ok_words_number h) (p_e (b_var (Fam.blk hf _) 3) (p_e (b_var (Fam.blk hf _) 10) (p_nil))))).be)) (ss_one (s_ret (b_bl))) (ss_nil)) (ss_cons (s_set hf 13 (b_ix hf ((b_lst (a_cons (b_tup (a_cons (b_int) (a_cons (b_tup (a_cons (b_int) (a_nil))) (a_nil)))) (a_cons (b_tup (a_cons (b_var hf 1) (a_cons (b_tup (a_nil)) (a_nil)))) (a_cons (b_non) (a_cons (b_tup (a_cons (b_var hf 1) (a_cons (b_tup (a_cons (b_int) (a_nil))) (a_nil)))) (a_nil)))))).be) (b_callM hf 0 0 (ok__law_drawn h) (p_s hf 0 (p_e (b_int) (p_nil)))))) (ss_cons (s_set hf 14 (b_ix hf ((b_lst (a_cons (b_str) (a_cons (b_non) (a_cons (b_int) (a_cons ((b_lst (a_cons (b_str) (a_nil))).be) (a_cons (b_str) (a_cons (b_str) (a_nil)))))))).be) (b_callM hf 0 0 (ok__law_drawn h) (p_s hf 0 (p_e (b_int) (p_nil)))))) (ss_cons (s_set hf 15 (b_ix hf ((b_lst (a_cons (b_un (fun _ => un_neg) d_neg (b_int)) (a_cons (b_non) (a_cons (b_bl) (a_cons (b_str) (a_nil)))))).be) (b_callM hf 0 0 (ok__law_drawn h) (p_s hf 0 (p_e (b_int) (p_nil)))))) (ss_cons (s_par hf false false 16 17 (BH_v (b_callM hf 0 0 (ok__law_drawn h) (p_s hf 0 (p_e (b_int) (p_nil))))) (BH_v (b_op (fun _ => o_add) d_add (b_int) (b_callM hf 0 0 (ok__law_drawn h) (p_s hf 0 (p_e (b_int) (p_nil)))))) (fun z => nomatch z)) (ss_cons (s_set hf 18 ((b_lst (a_cons (b_call hf (ok__law_asked h) (p_e (b_var hf 16) (p_e (b_var hf 13) (p_e (b_var hf 14) (p_nil))))) (a_cons (b_call hf (ok__law_asked h) (p_e (b_var hf 16) (p_e (b_var hf 3) (p_e (b_var hf 14) (p_nil))))) (a_cons (b_call hf (ok__law_asked h) (p_e (b_var hf 17) (p_e (b_var hf 13) (p_e (b_var hf 15) (p_nil))))) (a_cons (b_call hf (ok__law_asked h) (p_e (b_var hf 17) (p_e (b_var hf 3) (p_e (b_var hf 15) (p_nil))))) (a_nil)))))).be)) (ss_one (s_ret (b_call hf (ok__law_same h 6) (p_e (b_var hf 18) (p_e ((b_lst (a_cons (b_tup (a_cons (b_str) (a_cons (b_var hf 13) (a_nil)))) (a_cons (b_tup (a_cons (b_str) (a_cons (b_var hf 14) (a_nil)))) (a_cons (b_tup (a_cons (b_str) (a_cons (b_var hf 13) (a_nil)))) (a_cons (b_tup (a_cons (b_str) (a_cons (b_var hf 15) (a_nil)))) (a_nil)))))).be) (p_nil)))))))))))))))))))) (by decide)
/-! law 0:script 1:feed 2:turn -/
theorem sc_law : FnScope ["script", "feed", "turn"] ["script"] (defScope st_law) := ⟨rfl, rfl, rfl, by decide +kernel, rfl, by decide +kernel, by decide +kernel⟩
def F_law : SE → O := sSeq (sSetO 1 (eCallO fn__law_feed [.b] (pS 0 (pNil)))) (sSeq (sFor (iOf iR1 (aCons (eC (.int 2)) (aNil))) (gNm 2) (sIf (tNotF (tBool (eCallM fn__law_right [.m] 1 (pS 1 (pNil))))) (sRet (eC (.bl false))) (sNx)) [2]) (sRet (eC (.bl true))))
def fn_law : List D → FR := runDef 3 [.b] F_law
theorem ok_law (h : Facts P K mg) : Cl P wd K mg base "law" 11 ["script"] fn_law [.b] :=
  (h.d_law).cl (k := 10) sc_law [.b] rfl (by decide) (fun f cdv A outer s H E hf => show BSs _ _ _ _ _ F_law from
    ss_cons (s_setO hf 1 (b_callO hf (ok__law_feed h) (p_s hf 0 (p_nil)))) (ss_cons (s_for hf (wp := [2]) (i_range1 hf h.z_range (a_cons (b_int) (a_nil))) (g_name hf 2) (ss_one (s_if (t_not (t_val (b_callM hf 0 1 (ok__law_right h) (p_s hf 1 (p_nil))))) (ss_one (s_ret (b_bl))) (ss_nil)))) (ss_one (s_ret (b_bl))))) (by decide)
end
end Gk85

set_option Elab.async false
set_option linter.all false
set_option maxRecDepth 100000
set_option maxHeartbeats 2000000
namespace Gk85
open PySem PySem.Spec PyProof.Rows L2 DL Lyn
theorem S_ne (w : List Nat) : gNe (S w) (.str "") = some (.bl (decide (w ≠ []))) := by
  show some (D.bl (!decide ((⟨w.toArray⟩ : Str) = ""))) = _
  congr 2
  rw [show ("" : Str) = ⟨([] : List Nat).toArray⟩ from rfl]
  by_cases h : w = []
  · subst h; rfl
  · have : ¬ ((⟨w.toArray⟩ : Str) = ⟨([] : List Nat).toArray⟩) := fun z => h (S_inj z)
    rw [decide_eq_false this, decide_eq_true h]
    rfl
theorem m_lyn {w : List Nat} (hw : w.length ≤ 1000) : fn_is_lyndon_word [S w] = .ok (.v (.bl (lynB w))) none := by
  refine run_rt rfl (st_ret (ρ1 := [Sl.val (S w), Sl.any]) ?_) rfl
  unfold lynB
  refine ev_and (ev_bin rfl rfl (S_ne w)) (fun h0 => ?_) (fun h0 => by rw [h0]; rfl)
  rw [h0, Bool.true_and]
  have hr : iOf iR2 (aCons (eC (.int 1)) (aCons (eArgs (g1 gLen) (aCons (eVar 0) aNil)) aNil)) [Sl.val (S w), Sl.any] = .ok ((List.range (w.length - 1)).map fun k => D.int ((1 + k : Nat) : Int)) [Sl.val (S w), Sl.any] :=
    ev_iOf (ev_cons rfl (ev_cons (ev_args (ev_cons rfl ev_nil) (g_len hw)) ev_nil)) (g_range (i := 1) (by omega) (by omega))
  refine ev_args (ev_cons (ev_lc hr (by rw [List.length_map, List.length_range]; omega) (lc_ev_map (f := fun d => match d with | .int i => .bl (decide (w < w.drop i.toNat)) | _ => .non) ⟨by simp, rfl⟩ fun d hd => ?_)) ev_nil) ?_
  · obtain ⟨k, hk, rfl⟩ := List.mem_map.mp hd
    have hk := List.mem_range.mp hk
    exact ev_bin (x := S w) rfl (ev_sl (x := S w) rfl (ev_so rfl) ev_no (g_from hw (by omega))) g_lt
  · rw [List.map_map]
    exact g_all (fun k => decide (w < w.drop (1 + k))) (List.range (w.length - 1))
theorem m_rot {w : List Nat} (hw : w.length ≤ 1000) : fn__law_is_lyndon [S w] = .ok (.v (.bl (lynB w))) none := by
  refine run_rt rfl (st_ret (ρ1 := [Sl.val (S w), Sl.any]) ?_) rfl
  rw [← rot_lynB]
  unfold rotB
  have e0 : gGt (.int (w.length : Nat)) (.int 0) = some (.bl (decide (w ≠ []))) := by
    show some (D.bl (decide ((0 : Int) < (w.length : Nat)))) = _
    congr 2
    cases w with
    | nil => rfl
    | cons a w => rw [decide_eq_true (by rw [List.length_cons]; omega), decide_eq_true (by simp)]
  refine ev_and (ev_bin (ev_args (ev_cons rfl ev_nil) (g_len hw)) rfl e0) (fun h0 => ?_) (fun h0 => by rw [h0]; rfl)
  rw [h0, Bool.true_and]
  have hr : iOf iR2 (aCons (eC (.int 1)) (aCons (eArgs (g1 gLen) (aCons (eVar 0) aNil)) aNil)) [Sl.val (S w), Sl.any] = .ok ((List.range (w.length - 1)).map fun k => D.int ((1 + k : Nat) : Int)) [Sl.val (S w), Sl.any] :=
    ev_iOf (ev_cons rfl (ev_cons (ev_args (ev_cons rfl ev_nil) (g_len hw)) ev_nil)) (g_range (i := 1) (by omega) (by omega))
  refine ev_args (ev_cons (ev_lc hr (by rw [List.length_map, List.length_range]; omega) (lc_ev_map (f := fun d => match d with | .int i => .bl (decide (w < w.drop i.toNat ++ w.take i.toNat)) | _ => .non) ⟨by simp, rfl⟩ fun d hd => ?_)) ev_nil) ?_
  · obtain ⟨k, hk, rfl⟩ := List.mem_map.mp hd
    have hk := List.mem_range.mp hk
    refine ev_bin (x := S w) rfl (ev_bin (ev_sl (x := S w) rfl (ev_so rfl) ev_no (g_from hw (by omega))) (ev_sl (x := S w) rfl ev_no (ev_so rfl) (g_to hw)) (g_app ?_)) g_lt
    rw [List.length_drop, List.length_take]
    omega
  · rw [List.map_map]
    exact g_all (fun k => decide (w < w.drop (1 + k) ++ w.take (1 + k))) (List.range (w.length - 1))
/-! settings -/
def set (p : Int) (ws : List Int) : D := .tup [.int p, .tup (ws.map D.int)]
def PS : List Int := [0, 2, 3, 5, 89]
def WS : List (List Int) := [[1], [1, 1], [1, 2], [1, 1, 1], [2, 3], [1, 1, 2]]
def lets (ws : List Int) : List Nat := (List.range ws.length).map (97 + ·)
theorem m_set {p : Int} {ws : List Int} (hp : p ∈ PS) (hw : ws ∈ WS) : fn_check_setting [set p ws] = .ok (.v .non) none := by
  unfold PS at hp
  unfold WS at hw
  simp only [List.mem_cons, List.not_mem_nil, or_false] at hp hw
  rcases hp with rfl | rfl | rfl | rfl | rfl <;> rcases hw with rfl | rfl | rfl | rfl | rfl | rfl <;> kernel_rfl
theorem m_letters {p : Int} {ws : List Int} (hw : ws ∈ WS) : fn_letters_of [set p ws] = .ok (.v (S (lets ws))) none := by
  unfold WS at hw
  simp only [List.mem_cons, List.not_mem_nil, or_false] at hw
  rcases hw with rfl | rfl | rfl | rfl | rfl | rfl <;> kernel_rfl
theorem m_lletters {p : Int} {ws : List Int} (hw : ws ∈ WS) : fn__law_letters [set p ws] = .ok (.v (S (lets ws))) none := by
  unfold WS at hw
  simp only [List.mem_cons, List.not_mem_nil, or_false] at hw
  rcases hw with rfl | rfl | rfl | rfl | rfl | rfl <;> kernel_rfl
theorem g_inl {ws : List Int} {c : Nat} (hw : ws ∈ WS) (hc : c ∈ lets ws) : gIn (S [c]) (S (lets ws)) = some (.bl true) := by
  unfold WS at hw
  simp only [List.mem_cons, List.not_mem_nil, or_false] at hw
  rcases hw with rfl | rfl | rfl | rfl | rfl | rfl <;> (simp [lets, List.range, List.range.loop] at hc) <;> (first | subst hc | (rcases hc with rfl | rfl) | (rcases hc with rfl | rfl | rfl)) <;> kernel_rfl
def good (ws : List Int) (w : List Nat) : Prop := ∀ c ∈ w, c ∈ lets ws
theorem m_isw {p : Int} {ws : List Int} {w : List Nat} (hws : ws ∈ WS) (hw : w.length ≤ 1000) (hg : good ws w) : fn_is_word_of [set p ws, S w] = .ok (.v (.bl true)) none := by
  refine run_rt rfl (st_ret (ρ1 := [Sl.val (set p ws), Sl.val (S w), Sl.any]) ?_) rfl
  refine ev_and (b := true) (ev_un (x := S w) rfl rfl) (fun _ => ?_) (fun z => by cases z)
  refine ev_args (ev_cons (ev_lc (ds := w.map fun c => S [c]) (ev_iSeq (x := S w) rfl rfl) (by rw [List.length_map]; omega) (lc_ev_map (f := fun _ => .bl true) ⟨by simp, rfl⟩ fun d hd => ?_)) ev_nil) ?_
  · obtain ⟨c, hc, rfl⟩ := List.mem_map.mp hd
    exact ev_bin (x := S [c]) rfl (ev_call (ev_pe rfl ev_pnil) rfl (m_letters hws)) (g_inl hws (hg c hc))
  · rw [List.map_map]
    refine (g_all (fun _ => true) w).trans ?_
    congr 2
    exact List.all_eq_true.mpr fun _ _ => rfl
theorem m_chw {p : Int} {ws : List Int} {w : List Nat} (hws : ws ∈ WS) (hw : w.length ≤ 1000) (hg : good ws w) : fn_check_word [set p ws, S w] = .ok (.v .non) none := by
  refine run_nx rfl ((st_if_f (ρ1 := [Sl.val (set p ws), Sl.val (S w)]) (ev_not (b := true) (ev_tB (ev_call (ev_pe rfl (ev_pe rfl ev_pnil)) rfl (m_isw hws hw hg))))).trans rfl) rfl
theorem m_islyn {p : Int} {ws : List Int} {w : List Nat} (hp : p ∈ PS) (hws : ws ∈ WS) (hw : w.length ≤ 1000) (hg : good ws w) : fn_is_lyndon [set p ws, S w] = .ok (.v (.bl (lynB w))) none := by
  refine run_rt (ρ := [Sl.val (set p ws), Sl.val (S w)]) rfl ?_ rfl
  refine (st_seq (st_drop (ev_call (ev_pe rfl ev_pnil) rfl (m_set hp hws)))).trans ?_
  refine (st_seq (st_drop (ev_call (ev_pe rfl (ev_pe rfl ev_pnil)) rfl (m_chw hws hw hg)))).trans ?_
  exact st_ret (ev_call (ev_pe rfl ev_pnil) rfl (m_lyn hw))
end Gk85

set_option Elab.async false
set_option linter.all false
set_option maxRecDepth 100000
set_option maxHeartbeats 2000000
namespace Gk85
open PySem PySem.Spec PyProof.Rows L2 DL Lyn
/-- the body of the loop of factors_of -/
theorem m_longest {w : List Nat} {acc : D} (hw : w.length ≤ 1000) (h0 : w ≠ []) : ∃ m : Nat, 1 ≤ m ∧ m ≤ w.length ∧ lyn (w.take m) ∧ (∀ k, m < k → k ≤ w.length → ¬ lyn (w.take k)) ∧
    eArgs (g1 (onL (fMin PySem.W.maxOf PySem.W.maxOf))) (aCons (eLc (gNm 3) [3] (tBool (eCall fn_is_lyndon_word [.v] (pE (eSl gSl (eVar 0) (pNo) (pSo (eVar 3))) (pNil)))) (eVar 3) (iOf iR2 (aCons (eC (.int 1)) (aCons (eBin gAdd (eArgs (g1 gLen) (aCons (eVar 0) (aNil))) (eC (.int 1))) (aNil))))) (aNil))
      [Sl.val (S w), Sl.own acc, Sl.any, Sl.any] = .ok (.int (m : Nat)) [Sl.val (S w), Sl.own acc, Sl.any, Sl.any] := by
  have pw := len_pos h0
  have hr : iOf iR2 (aCons (eC (.int 1)) (aCons (eBin gAdd (eArgs (g1 gLen) (aCons (eVar 0) (aNil))) (eC (.int 1))) (aNil))) [Sl.val (S w), Sl.own acc, Sl.any, Sl.any] = .ok ((List.range w.length).map fun k => D.int ((1 + k : Nat) : Int)) [Sl.val (S w), Sl.own acc, Sl.any, Sl.any] := by
    have := g_range (i := 1) (j := w.length + 1) (by omega) (by omega)
    rw [Nat.add_sub_cancel] at this
    exact ev_iOf (ev_cons rfl (ev_cons (ev_bin (ev_args (ev_cons rfl ev_nil) (g_len hw)) rfl rfl) ev_nil)) this
  have hlc := lc_ev (i := 3) (ρ := [Sl.val (S w), Sl.own acc, Sl.any, Sl.any]) (Ft := tBool (eCall fn_is_lyndon_word [.v] (pE (eSl gSl (eVar 0) (pNo) (pSo (eVar 3))) (pNil)))) (Fe := eVar 3)
    (t := fun d => match d with | .int i => lynB (w.take i.toNat) | _ => false) (f := id) ⟨by simp, rfl⟩ (ds := (List.range w.length).map fun k => D.int ((1 + k : Nat) : Int)) fun d hd => by
      obtain ⟨k, hk, rfl⟩ := List.mem_map.mp hd
      refine ⟨ev_tB (ev_call (ev_pe (ev_sl (x := S w) rfl ev_no (ev_so rfl) (g_to hw)) ev_pnil) rfl (m_lyn ?_)), fun _ => rfl⟩
      rw [List.length_take]
      omega
  rw [List.filter_map, List.map_map] at hlc
  let ks := (List.range w.length).filter fun k => lynB (w.take (1 + k))
  have hks : ((List.range w.length).filter ((fun d => match d with | D.int i => lynB (w.take i.toNat) | _ => false) ∘ fun k => D.int ((1 + k : Nat) : Int))).map (id ∘ fun k => D.int ((1 + k : Nat) : Int)) = (ks.map fun k => ((1 + k : Nat) : Int)).map fun n => D.int n := by
    rw [List.map_map]
    rfl
  rw [hks] at hlc
  have k0 : 0 ∈ ks := List.mem_filter.mpr ⟨List.mem_range.mpr pw, by
    rw [lynB_iff]
    cases w with
    | nil => exact absurd rfl h0
    | cons a w => exact lyn_one a⟩
  obtain ⟨m, em, hm, hx⟩ := g_max (ns := ks.map fun k => ((1 + k : Nat) : Int)) (fun z => by
    have := List.mem_map_of_mem (f := fun k => ((1 + k : Nat) : Int)) k0
    rw [z] at this
    cases this)
  obtain ⟨k, hk, rfl⟩ := List.mem_map.mp hm
  obtain ⟨hk1, hk2⟩ := List.mem_filter.mp hk
  have hk1 := List.mem_range.mp hk1
  refine ⟨1 + k, by omega, by omega, lynB_iff.mp hk2, fun j hj hjl hly => ?_, ev_args (ev_cons (ev_lc hr (by rw [List.length_map, List.length_range]; omega) hlc) ev_nil) em⟩
  have : ((1 + (j - 1) : Nat) : Int) ∈ ks.map fun k => ((1 + k : Nat) : Int) := List.mem_map.mpr ⟨j - 1, List.mem_filter.mpr ⟨List.mem_range.mpr (by omega), by rw [show 1 + (j - 1) = j by omega, lynB_iff]; exact hly⟩, rfl⟩
  have := hx _ this
  omega
theorem m_while : ∀ (n : Nat) (w : List Nat) (acc : List D) (s : Sl), w.length < n → w.length + acc.length ≤ 1000 → ∃ fs, Facs w fs ∧
    whileF (tBool (eBin gNe (eVar 0) (eC (.str "")))) (sSeq (sSet 2 (eArgs (g1 (onL (fMin PySem.W.maxOf PySem.W.maxOf))) (aCons (eLc (gNm 3) [3] (tBool (eCall fn_is_lyndon_word [.v] (pE (eSl gSl (eVar 0) (pNo) (pSo (eVar 3))) (pNil)))) (eVar 3) (iOf iR2 (aCons (eC (.int 1)) (aCons (eBin gAdd (eArgs (g1 gLen) (aCons (eVar 0) (aNil))) (eC (.int 1))) (aNil))))) (aNil)))) (sSeq (sDrop (eMt 1 mAppend (aCons (eSl gSl (eVar 0) (pNo) (pSo (eVar 2))) (aNil)))) (sSet 0 (eSl gSl (eVar 0) (pSo (eVar 2)) (pNo))))) [2] n
      [Sl.val (S w), Sl.own (.lst acc), s, Sl.any] = .nx [Sl.val (S []), Sl.own (.lst (acc ++ fs.map S)), Sl.any, Sl.any]
  | 0, _, _, _, h, _ => absurd h (Nat.not_lt_zero _)
  | n + 1, w, acc, s, h, hl => by
    by_cases h0 : w = []
    · subst h0
      exact ⟨[], .nil, by
        rw [List.map_nil, List.append_nil]
        exact while_f (ev_tB (ev_bin (x := S []) rfl rfl (S_ne [])))⟩
    · obtain ⟨m, h1, h2, h3, h4, h5⟩ := m_longest (acc := .lst acc) (w := w) (by omega) h0
      obtain ⟨fs, f1, f2⟩ := m_while n (w.drop m) (acc ++ [S (w.take m)]) (.val (.int (m : Nat))) (by rw [List.length_drop]; omega) (by rw [List.length_drop, List.length_append, List.length_singleton]; omega)
      refine ⟨_, .cons h1 h2 h3 h4 f1, ?_⟩
      refine (while_t (ρ1 := [Sl.val (S w), Sl.own (.lst acc), Sl.any, Sl.any]) (ρ2 := [Sl.val (S (w.drop m)), Sl.own (.lst (acc ++ [S (w.take m)])), Sl.val (.int (m : Nat)), Sl.any]) ?_ ?_).trans ?_
      · have := ev_tB (ev_bin (Fa := eVar 0) (Fb := eC (.str "")) (ρ := [Sl.val (S w), Sl.own (.lst acc), Sl.any, Sl.any]) (x := S w) rfl rfl (S_ne w))
        rw [decide_eq_true h0] at this
        exact this
      · refine (st_seq (st_set h5 rfl)).trans ?_
        refine (st_seq (st_drop (ev_mt (i := 1) (ρ := [Sl.val (S w), Sl.own (.lst acc), Sl.val (.int (m : Nat)), Sl.any]) (ρ1 := [Sl.val (S w), Sl.own (.lst acc), Sl.val (.int (m : Nat)), Sl.any]) (ds0 := acc) (ds := acc) rfl (ev_cons (ev_sl (x := S w) rfl ev_no (ev_so rfl) (g_to (by omega))) ev_nil) rfl (g_append (by omega)) rfl))).trans ?_
        exact st_set (ev_sl (x := S w) rfl (ev_so rfl) ev_no (g_from (by omega) h2)) rfl
      · rw [f2, List.map_cons, List.append_assoc]
        rfl
theorem m_facs {w : List Nat} (hw : w.length ≤ 1000) : ∃ fs, Facs w fs ∧ fn_factors_of [S w] = .ok (.o (.lst (fs.map S))) none := by
  obtain ⟨fs, h1, h2⟩ := m_while 1000000 w [] .any (by omega) (by simpa using hw)
  refine ⟨fs, h1, run_rt (ρ := [Sl.val (S []), .any, .any, .any]) rfl ?_ rfl⟩
  refine (st_seq (ρ1 := [Sl.val (S w), Sl.own (.lst []), Sl.any, Sl.any]) (st_setO (ev_lst ev_nil (by simp)) rfl)).trans ?_
  rw [List.nil_append] at h2
  exact (st_seq h2).trans rfl
theorem m_lfac {p : Int} {ws : List Int} {w : List Nat} (hp : p ∈ PS) (hws : ws ∈ WS) (hw : w.length ≤ 1000) (hg : good ws w) : ∃ fs, Facs w fs ∧ fn_lyndon_factors [set p ws, S w] = .ok (.v (.tup (fs.map S))) none := by
  obtain ⟨fs, h1, h2⟩ := m_facs hw
  refine ⟨fs, h1, run_rt (ρ := [Sl.val (set p ws), Sl.val (S w)]) rfl ?_ rfl⟩
  refine (st_seq (st_drop (ev_call (ev_pe rfl ev_pnil) rfl (m_set hp hws)))).trans ?_
  refine (st_seq (st_drop (ev_call (ev_pe rfl (ev_pe rfl ev_pnil)) rfl (m_chw hws hw hg)))).trans ?_
  exact st_ret (ev_args (ev_cons (ev_callO (ev_pe rfl ev_pnil) rfl h2) ev_nil) rfl)
end Gk85

set_option Elab.async false
set_option linter.all false
set_option maxRecDepth 100000
set_option maxHeartbeats 2000000
namespace Gk85
open PySem PySem.Spec PyProof.Rows L2 DL Lyn
theorem m_same : ∀ (n : Nat) (d : D), plain n d = true → fn__law_same n [d, d] = .ok (.v (.bl true)) none
  | 0, _, h => by cases h
  | n + 1, .non, _ => rfl
  | n + 1, .bl b, _ => by cases b <;> rfl
  | n + 1, .int i, _ => by
    have : fn__law_same (n + 1) [.int i, .int i] = .ok (.v (.bl (decide (i = i)))) none := rfl
    rw [this, decide_eq_true rfl]
  | n + 1, .str i, _ => by
    have : fn__law_same (n + 1) [.str i, .str i] = .ok (.v (.bl (decide (i = i)))) none := rfl
    rw [this, decide_eq_true rfl]
  | n + 1, .dk _ _, h => by cases h
  | n + 1, .dt _ _, h => by cases h
  | n + 1, .tup ds, h => by
    have h : (decide (ds.length ≤ 100000) && ds.all (plain n)) = true := h
    rw [Bool.and_eq_true, decide_eq_true_eq, List.all_eq_true] at h
    refine run_rt (ρ := [.val (.tup ds), .val (.tup ds), .any]) rfl ((st_seq_rt (ρ1 := [.val (.tup ds), .val (.tup ds), .any]) (r := .v (.bl true)) ((st_if_t (ρ1 := [.val (.tup ds), .val (.tup ds), .any]) rfl).trans ((st_seq (ρ1 := [.val (.tup ds), .val (.tup ds), .any]) rfl).trans (st_ret ?_))))) rfl
    refine ev_and (b := true) (ev_bin (x := .int (ds.length : Nat)) (y := .int (ds.length : Nat)) rfl rfl (gEq_int _)) (fun _ => ?_) (fun z => by cases z)
    refine ev_args (ev_cons (ev_lc (ds := (List.range ds.length).map fun k : Nat => D.int (k : Int)) (ev_iOf (xs := [.int (ds.length : Nat)]) rfl (g_range1 h.1)) (by rw [List.length_map, List.length_range]; omega) (lc_ev_map (f := fun _ => .bl true) ⟨by simp, rfl⟩ fun d hd => ?_)) ev_nil) ?_
    · obtain ⟨k, hk, rfl⟩ := List.mem_map.mp hd
      have hk := List.mem_range.mp hk
      have e : ds[k]? = some ds[k] := List.getElem?_eq_getElem hk
      exact ev_call (ev_pe (ev_bin (x := .tup ds) rfl rfl (item_tup e)) (ev_pe (ev_bin (x := .tup ds) rfl rfl (item_tup e)) ev_pnil)) rfl (m_same n ds[k] (h.2 _ (List.getElem_mem hk)))
    · rw [List.map_map]
      exact all_true (List.range ds.length)
  | n + 1, .lst ds, h => by
    have h : (decide (ds.length ≤ 100000) && ds.all (plain n)) = true := h
    rw [Bool.and_eq_true, decide_eq_true_eq, List.all_eq_true] at h
    refine run_rt (ρ := [.val (.lst ds), .val (.lst ds), .any]) rfl ((st_seq_rt (ρ1 := [.val (.lst ds), .val (.lst ds), .any]) (r := .v (.bl true)) ((st_if_t (ρ1 := [.val (.lst ds), .val (.lst ds), .any]) rfl).trans ((st_seq (ρ1 := [.val (.lst ds), .val (.lst ds), .any]) rfl).trans (st_ret ?_))))) rfl
    refine ev_and (b := true) (ev_bin (x := .int (ds.length : Nat)) (y := .int (ds.length : Nat)) rfl rfl (gEq_int _)) (fun _ => ?_) (fun z => by cases z)
    refine ev_args (ev_cons (ev_lc (ds := (List.range ds.length).map fun k : Nat => D.int (k : Int)) (ev_iOf (xs := [.int (ds.length : Nat)]) rfl (g_range1 h.1)) (by rw [List.length_map, List.length_range]; omega) (lc_ev_map (f := fun _ => .bl true) ⟨by simp, rfl⟩ fun d hd => ?_)) ev_nil) ?_
    · obtain ⟨k, hk, rfl⟩ := List.mem_map.mp hd
      have hk := List.mem_range.mp hk
      have e : ds[k]? = some ds[k] := List.getElem?_eq_getElem hk
      exact ev_call (ev_pe (ev_bin (x := .lst ds) rfl rfl (item_lst e)) (ev_pe (ev_bin (x := .lst ds) rfl rfl (item_lst e)) ev_pnil)) rfl (m_same n ds[k] (h.2 _ (List.getElem_mem hk)))
    · rw [List.map_map]
      exact all_true (List.range ds.length)
end Gk85

set_option Elab.async false
set_option linter.all false
set_option maxRecDepth 100000
set_option maxHeartbeats 2000000
namespace Gk85
open PySem PySem.Spec PyProof.Rows L2 DL Lyn
theorem facs_len {w : List Nat} {fs : List (List Nat)} (h : Facs w fs) : fs.length ≤ w.length ∧ ∀ p ∈ fs, p.length ≤ w.length := by
  induction h with
  | nil => exact ⟨Nat.le_refl _, fun p hp => by cases hp⟩
  | @cons w m fs h1 h2 hl hx r ih =>
    rw [List.length_drop] at ih
    refine ⟨by rw [List.length_cons]; omega, fun p hp => ?_⟩
    rcases List.mem_cons.mp hp with rfl | hp
    · rw [List.length_take]; omega
    · have := ih.2 p hp
      omega
theorem g_leS {u v : List Nat} (h : ¬ v < u) : gLeA (S u) (S v) = some (.bl true) := by
  show some (D.bl (!decide (v < u))) = _
  rw [decide_eq_false h]
  rfl
theorem m_fright {w : List Nat} {fs : List (List Nat)} (hw : w.length ≤ 1000) (h : Facs w fs) : fn__law_factors_right [S w, .tup (fs.map S)] = .ok (.v (.bl true)) none := by
  obtain ⟨l1, l2⟩ := facs_len h
  refine run_rt (ρ := [.val (S w), .val (.tup (fs.map S)), .any, .any]) rfl ?_ rfl
  refine (st_seq (ρ1 := [.val (S w), .val (.tup (fs.map S)), .any, .any]) ((st_if_f ?_).trans rfl)).trans (st_ret ?_)
  · refine ev_tor (b := false) (c := false) rfl fun _ => ev_tB (ev_args (ev_cons (ev_lc (ds := fs.map S) (ev_iSeq (x := .tup (fs.map S)) rfl rfl) (by rw [List.length_map]; omega) (lc_ev_map (f := fun _ => .bl false) ⟨by simp, rfl⟩ fun d hd => ?_)) ev_nil) ?_)
    · obtain ⟨p, hp, rfl⟩ := List.mem_map.mp hd
      have e : lynB p = true := lynB_iff.mpr (h.all p hp)
      have hc := ev_call (Fp := pE (eVar 2) pNil) (ρ := [Sl.val (S w), .val (.tup (fs.map S)), .val (S p), .any]) (ms := [.v]) (ev_pe rfl ev_pnil) rfl (m_rot (w := p) (Nat.le_trans (l2 p hp) hw))
      rw [e] at hc
      refine ev_or (b := false) rfl (fun _ => ?_) (fun z => by cases z)
      exact ev_notD hc
    · rw [List.map_map]
      refine (g_any (fun _ => false) fs).trans ?_
      congr 2
      exact List.any_eq_false.mpr fun _ _ z => by cases z
  · have hj := h.join
    refine ev_and (b := true) ?_ (fun _ => ?_) (fun z => by cases z)
    · have := ev_bin (ρ := [Sl.val (S w), .val (.tup (fs.map S)), .any, .any]) (ev_tm (Fo := eC (.str "")) (Fa := aCons (eVar 1) aNil) rfl (ev_cons rfl ev_nil) (g_join (fs := fs) (by rw [hj]; omega))) (Fb := eVar 0) rfl (gEq_S fs.flatten w)
      rw [decide_eq_true hj] at this
      exact this
    · have hr : iOf iR2 (aCons (eC (.int 1)) (aCons (eArgs (g1 gLen) (aCons (eVar 1) aNil)) aNil)) [Sl.val (S w), Sl.val (.tup (fs.map S)), .any, .any] = .ok ((List.range (fs.length - 1)).map fun k => D.int ((1 + k : Nat) : Int)) [Sl.val (S w), Sl.val (.tup (fs.map S)), .any, .any] := by
        have := g_range (i := 1) (j := fs.length) (by omega) (by omega)
        refine ev_iOf (xs := [.int 1, .int (fs.length : Nat)]) (ev_cons rfl (ev_cons (ev_args (ev_cons rfl ev_nil) ?_) ev_nil)) this
        show some (D.int ((fs.map S).length : Nat)) = _
        rw [List.length_map]
      refine ev_args (ev_cons (ev_lc hr (by rw [List.length_map, List.length_range]; omega) (lc_ev_map (f := fun _ => .bl true) ⟨by simp, rfl⟩ fun d hd => ?_)) ev_nil) ?_
      · obtain ⟨k, hk, rfl⟩ := List.mem_map.mp hd
        have hk := List.mem_range.mp hk
        have e1 : fs[k + 1]? = some fs[k + 1] := List.getElem?_eq_getElem (by omega)
        have e0 : fs[k]? = some fs[k] := List.getElem?_eq_getElem (by omega)
        have f1 : (fs.map S)[1 + k]? = some (S fs[k + 1]) := by rw [List.getElem?_map, Nat.add_comm, e1]; rfl
        have f0 : (fs.map S)[k]? = some (S fs[k]) := by rw [List.getElem?_map, e0]; rfl
        have hsub : gSub (.int ((1 + k : Nat) : Int)) (.int 1) = some (.int (k : Nat)) := by
          rw [g_sub, show ((1 + k : Nat) : Int) - 1 = (k : Nat) by omega]
        exact ev_bin (ev_bin (x := .tup (fs.map S)) rfl rfl (item_tup f1)) (ev_bin (x := .tup (fs.map S)) rfl (ev_bin rfl rfl hsub) (item_tup f0)) (g_leS (h.chain k _ _ e0 e1))
      · rw [List.map_map]
        exact all_true (List.range (fs.length - 1))
end Gk85

set_option Elab.async false
set_option linter.all false
set_option maxRecDepth 100000
set_option maxHeartbeats 2000000
namespace Gk85
open PySem PySem.Spec PyProof.Rows L2 DL Lyn
def cuts (w : List Nat) : List Nat := (List.range (w.length - 1)).filter fun k => lynB (w.drop (1 + k))
theorem m_cuts {fn : List D → FR} (hfn : ∀ v : List Nat, v.length ≤ 1000 → fn [S v] = .ok (.v (.bl (lynB v))) none) {w : List Nat} (hw : w.length ≤ 1000) :
    eLc (gNm 2) [2] (tBool (eCall fn [.v] (pE (eSl gSl (eVar 0) (pSo (eVar 2)) (pNo)) (pNil)))) (eVar 2) (iOf iR2 (aCons (eC (.int 1)) (aCons (eArgs (g1 gLen) (aCons (eVar 0) (aNil))) (aNil)))) [Sl.val (S w), .any, .any] = .ok (.lst (((cuts w).map fun k => ((1 + k : Nat) : Int)).map fun n => D.int n)) [Sl.val (S w), .any, .any] := by
  have hr : iOf iR2 (aCons (eC (.int 1)) (aCons (eArgs (g1 gLen) (aCons (eVar 0) aNil)) aNil)) [Sl.val (S w), .any, .any] = .ok ((List.range (w.length - 1)).map fun k => D.int ((1 + k : Nat) : Int)) [Sl.val (S w), .any, .any] :=
    ev_iOf (ev_cons rfl (ev_cons (ev_args (ev_cons rfl ev_nil) (g_len hw)) ev_nil)) (g_range (i := 1) (by omega) (by omega))
  have hlc := lc_ev (i := 2) (ρ := [Sl.val (S w), .any, .any]) (Ft := tBool (eCall fn [.v] (pE (eSl gSl (eVar 0) (pSo (eVar 2)) (pNo)) (pNil)))) (Fe := eVar 2)
    (t := fun d => match d with | .int i => lynB (w.drop i.toNat) | _ => false) (f := id) ⟨by simp, rfl⟩ (ds := (List.range (w.length - 1)).map fun k => D.int ((1 + k : Nat) : Int)) fun d hd => by
      obtain ⟨k, hk, rfl⟩ := List.mem_map.mp hd
      have hk := List.mem_range.mp hk
      refine ⟨ev_tB (ev_call (ev_pe (ev_sl (x := S w) rfl (ev_so rfl) ev_no (g_from hw (by omega))) ev_pnil) rfl (hfn _ ?_)), fun _ => rfl⟩
      rw [List.length_drop]
      omega
  rw [List.filter_map, List.map_map] at hlc
  refine (ev_lc hr (by rw [List.length_map, List.length_range]; omega) hlc).trans ?_
  rw [List.map_map]
  rfl
theorem cuts_sorted (w : List Nat) : (cuts w).Pairwise (· < ·) := by
  unfold cuts
  exact List.pairwise_lt_range.filter _
theorem m_split {w : List Nat} (hw : w.length ≤ 1000) (hl : 2 ≤ w.length) : ∃ k : Nat, 1 ≤ k ∧ k < w.length ∧ lyn (w.drop k) ∧ (∀ j, 1 ≤ j → j < k → ¬ lyn (w.drop j)) ∧
    fn_split_of [S w] = .ok (.v (.tup [S (w.take k), S (w.drop k)])) none ∧ fn__law_split [S w] = .ok (.v (.tup [S (w.take k), S (w.drop k)])) none := by
  have k0 : w.length - 2 ∈ cuts w := by
    unfold cuts
    refine List.mem_filter.mpr ⟨List.mem_range.mpr (by omega), ?_⟩
    rw [lynB_iff]
    have hl1 : (w.drop (1 + (w.length - 2))).length = 1 := by rw [List.length_drop]; omega
    obtain ⟨a, e⟩ := List.length_eq_one_iff.mp hl1
    rw [e]
    exact lyn_one a
  have hs := cuts_sorted w
  cases hc : cuts w with
  | nil => rw [hc] at k0; cases k0
  | cons k ks =>
    have hk : k ∈ cuts w := by rw [hc]; exact List.mem_cons_self
    have hmin : ∀ j ∈ cuts w, k ≤ j := fun j hj => by
      rw [hc] at hj hs
      rcases List.mem_cons.mp hj with rfl | hj
      · exact Nat.le_refl _
      · exact Nat.le_of_lt ((List.pairwise_cons.mp hs).1 j hj)
    obtain ⟨hk1, hk2⟩ := List.mem_filter.mp (show k ∈ (List.range (w.length - 1)).filter fun k => lynB (w.drop (1 + k)) from hk)
    have hk1 := List.mem_range.mp hk1
    have tail : ∀ (Fa : SE → R D), Fa [Sl.val (S w), .any, .any] = .ok (.int ((1 + k : Nat) : Int)) [Sl.val (S w), .any, .any] →
        sSeq (sSet 1 Fa) (sRet (eTup (aCons (eSl gSl (eVar 0) (pNo) (pSo (eVar 1))) (aCons (eSl gSl (eVar 0) (pSo (eVar 1)) (pNo)) (aNil))))) [Sl.val (S w), .any, .any] = .rt (.v (.tup [S (w.take (1 + k)), S (w.drop (1 + k))])) [Sl.val (S w), .val (.int ((1 + k : Nat) : Int)), .any] := fun Fa h => by
      refine (st_seq (st_set h rfl)).trans (st_ret ?_)
      exact ev_tup (ev_cons (ev_sl (x := S w) rfl ev_no (ev_so rfl) (g_to hw)) (ev_cons (ev_sl (x := S w) rfl (ev_so rfl) ev_no (g_from hw (by omega))) ev_nil)) (by simp)
    refine ⟨1 + k, by omega, by omega, lynB_iff.mp hk2, fun j h1 h2 hj => ?_, ?_, ?_⟩
    · have : j - 1 ∈ cuts w := by
        unfold cuts
        exact List.mem_filter.mpr ⟨List.mem_range.mpr (by omega), by rw [show 1 + (j - 1) = j by omega, lynB_iff]; exact hj⟩
      have := hmin _ this
      omega
    · obtain ⟨m, em, hm, hx⟩ := g_min (ns := (cuts w).map fun k => ((1 + k : Nat) : Int)) (fun z => by rw [hc] at z; cases z)
      have : m = ((1 + k : Nat) : Int) := by
        obtain ⟨j, hj, rfl⟩ := List.mem_map.mp hm
        have h1 := hmin j hj
        have h2 := hx _ (List.mem_map.mpr ⟨k, hk, rfl⟩)
        omega
      subst this
      exact run_rt rfl (tail _ (ev_args (ev_cons (m_cuts (fun v hv => m_lyn hv) hw) ev_nil) em)) rfl
    · refine run_rt rfl (tail _ (ev_bin (m_cuts (fun v hv => m_rot hv) hw) rfl ?_)) rfl
      rw [hc]
      exact item_lst (k := 0) rfl
theorem m_lsplit {p : Int} {ws : List Int} {w : List Nat} {d : D} (hp : p ∈ PS) (hws : ws ∈ WS) (hw : w.length ≤ 1000) (hg : good ws w) (hl : 2 ≤ w.length) (hy : lynB w = true) (h : fn_split_of [S w] = .ok (.v d) none) : fn_lyndon_split [set p ws, S w] = .ok (.v d) none := by
  have hc : fn_check_lyndon [set p ws, S w, .int 2] = .ok (.v .non) none := by
    refine run_nx (ρ := [.val (set p ws), .val (S w), .val (.int 2)]) rfl ?_ rfl
    refine (st_seq (st_drop (ev_call (ev_pe rfl ev_pnil) rfl (m_set hp hws)))).trans ?_
    refine (st_seq (st_drop (ev_call (ev_pe rfl (ev_pe rfl ev_pnil)) rfl (m_chw hws hw hg)))).trans ?_
    refine (st_if_f (ρ1 := [.val (set p ws), .val (S w), .val (.int 2)]) ?_).trans rfl
    have h1 := ev_call (Fp := pE (eVar 1) pNil) (ρ := [Sl.val (set p ws), .val (S w), .val (.int 2)]) (ms := [.v]) (ev_pe rfl ev_pnil) rfl (m_lyn hw)
    rw [hy] at h1
    refine ev_tor (b := false) (c := false) (ev_not (b := true) (ev_tB h1)) fun _ => ev_tB (ev_bin (ev_args (ev_cons rfl ev_nil) (g_len hw)) rfl ?_)
    show some (D.bl (decide ((w.length : Int) < 2))) = _
    rw [decide_eq_false (by omega)]
  refine run_rt (ρ := [.val (set p ws), .val (S w)]) rfl ?_ rfl
  refine (st_seq (st_drop (ev_call (ev_pe rfl (ev_pe rfl (ev_pe rfl ev_pnil))) rfl hc))).trans ?_
  exact st_ret (ev_call (ev_pe rfl ev_pnil) rfl h)
end Gk85

set_option Elab.async false
set_option linter.all false
set_option maxRecDepth 100000
set_option maxHeartbeats 400000
namespace Gk85
open PySem PySem.Spec PyProof.Rows L2 DL Lyn
theorem st_try_raise {cs : List Str} {sub : Str → Str → Bool} {i j : Nat} {hs : List (Str × (D → D))} {F : SE → O} {ρ ρ1 : SE} {c : Str} {d : D} (h : F ρ = .raise c d ρ1) (hc : cs.contains c = true) (hi : i < ρ1.length) : sTry cs sub i j hs F ρ = tryH sub i j c d ρ1 hs := by
  unfold sTry
  rw [h]
  show (if cs.contains c = true ∧ i < ρ1.length then _ else _) = _
  rw [if_pos ⟨hc, hi⟩]
theorem st_drop_r {Fa : SE → R D} {ρ ρ1 : SE} {c : Str} {d : D} (h : Fa ρ = .raise c d ρ1) : sDrop Fa ρ = .raise c d ρ1 := st_drop_raise h
/-- what is told of a refusal -/
theorem m_asked {n : Nat} {a b d e : D} {c : Str} (hc : allExc.contains c = true) (he : tryH subExc 4 3 c d [.val (.int (n : Int)), .val a, .val b, .val (.tup [.str "none", .non]), .any] [("InvalidSetting", fun d => .tup [.str "setting", d]), ("InvalidWord", fun d => .tup [.str "word", d]), ("InvalidInteger", fun d => .tup [.str "integer", d])] = .nx [.val (.int (n : Int)), .val a, .val b, .val e, .any])
    (h : (match n with | 0 => fn_is_lyndon [a, b] | 1 => fn_lyndon_factors [a, b] | 2 => fn_lyndon_split [a, b] | 3 => fn_lyndon_words [a, b] | _ => fn_lyndon_counts [a, b]) = .raise c d) (hn : n ≤ 4) : fn__law_asked [.int (n : Int), a, b] = .ok (.v e) none := by
  refine run_rt (ρ := [.val (.int (n : Int)), .val a, .val b, .val e, .any]) rfl ?_ rfl
  refine (st_seq (ρ1 := [.val (.int (n : Int)), .val a, .val b, .val (.tup [.str "none", .non]), .any]) rfl).trans ?_
  have key : ∀ fn : List D → FR, fn [a, b] = .raise c d → sDrop (eCall fn [.v, .v] (pE (eVar 1) (pE (eVar 2) pNil))) [.val (.int (n : Int)), .val a, .val b, .val (.tup [.str "none", .non]), .any] = .raise c d [.val (.int (n : Int)), .val a, .val b, .val (.tup [.str "none", .non]), .any] := fun fn hf =>
    st_drop_raise (ev_callR (ev_pe rfl (ev_pe rfl ev_pnil)) rfl hf)
  refine (st_seq ((st_try_raise (c := c) (d := d) (ρ1 := [.val (.int (n : Int)), .val a, .val b, .val (.tup [.str "none", .non]), .any]) ?_ hc (by simp)).trans he)).trans (st_ret rfl)
  match n, hn, h with
  | 0, _, h => exact (st_if_t rfl).trans (key _ h)
  | 1, _, h => exact (st_if_f rfl).trans ((st_if_t rfl).trans (key _ h))
  | 2, _, h => exact (st_if_f rfl).trans ((st_if_f rfl).trans ((st_if_t rfl).trans (key _ h)))
  | 3, _, h => exact (st_if_f rfl).trans ((st_if_f rfl).trans ((st_if_f rfl).trans ((st_if_t rfl).trans (key _ h))))
  | 4, _, h => exact (st_if_f rfl).trans ((st_if_f rfl).trans ((st_if_f rfl).trans ((st_if_f rfl).trans (key _ h))))
theorem m_nosplit {p : Int} {ws : List Int} {w : List Nat} (hp : p ∈ PS) (hws : ws ∈ WS) (hw : w.length ≤ 1000) (hg : good ws w) (h : (!lynB w || decide ((w.length : Int) < 2)) = true) : fn_lyndon_split [set p ws, S w] = .raise "InvalidWord" (S w) := by
  have hc : fn_check_lyndon [set p ws, S w, .int 2] = .raise "InvalidWord" (S w) := by
    refine run_raise (ρ := [.val (set p ws), .val (S w), .val (.int 2)]) rfl ?_ rfl
    refine (st_seq (st_drop (ev_call (ev_pe rfl ev_pnil) rfl (m_set hp hws)))).trans ?_
    refine (st_seq (st_drop (ev_call (ev_pe rfl (ev_pe rfl ev_pnil)) rfl (m_chw hws hw hg)))).trans ?_
    refine (st_if_t (ρ1 := [.val (set p ws), .val (S w), .val (.int 2)]) ?_).trans (st_raise rfl)
    rw [← h]
    exact ev_tor (ev_not (ev_tB (ev_call (ev_pe rfl ev_pnil) rfl (m_lyn hw)))) fun _ => ev_tB (ev_bin (ev_args (ev_cons rfl ev_nil) (g_len hw)) rfl rfl)
  refine run_raise (ρ := [.val (set p ws), .val (S w)]) rfl ?_ rfl
  exact st_seq_raise (st_drop_raise (ev_callR (ev_pe rfl (ev_pe rfl (ev_pe rfl ev_pnil))) rfl hc))
theorem ev_same {F1 F2 : SE → R D} {ρ ρ1 ρ2 : SE} {d : D} (h1 : F1 ρ = .ok d ρ1) (h2 : F2 ρ1 = .ok d ρ2) (hp : plain 6 d = true) : eCall (fn__law_same 6) [.v, .v] (pE F1 (pE F2 pNil)) ρ = .ok (.bl true) ρ2 :=
  ev_call (as := [d, d]) (ev_pe h1 (ev_pe h2 ev_pnil)) rfl (m_same 6 d hp)
theorem mul2 (d : D) : gMulL (.lst [d]) (.int 2) = some (.lst [d, d]) := by
  show (if okI 2 = true ∧ [d].length * (2 : Int).toNat ≤ sizeLine then some (D.lst (List.replicate (2 : Int).toNat [d]).flatten) else none) = _
  rw [if_pos ⟨by decide, by rw [sizeLine_eq]; simp⟩]
  rfl
theorem plain_tupS {n : Nat} (fs : List (List Nat)) (h : fs.length ≤ 100000) : plain (n + 2) (.tup (fs.map S)) = true := by
  show (decide ((fs.map S).length ≤ 100000) && (fs.map S).all (plain (n + 1))) = true
  rw [Bool.and_eq_true, decide_eq_true_eq, List.length_map, List.all_eq_true]
  refine ⟨h, fun x hx => ?_⟩
  obtain ⟨p, _, rfl⟩ := List.mem_map.mp hx
  simp [DL.plain, S]
theorem ev_c2 {fn : List D → FR} {F1 F2 : SE → R D} {ρ : SE} {a b d : D} (h1 : F1 ρ = .ok a ρ) (h2 : F2 ρ = .ok b ρ) (h : fn [a, b] = .ok (.v d) none) : eCall fn [.v, .v] (pE F1 (pE F2 pNil)) ρ = .ok d ρ := ev_call (ev_pe h1 (ev_pe h2 ev_pnil)) rfl h
theorem ev_k10 {fn : List D → FR} {F1 F2 : SE → R D} {ρ : SE} {a b d : D} (h1 : F1 ρ = .ok b ρ) (h2 : F2 ρ = .ok a ρ) (h : fn [a, b] = .ok (.v d) none) : eKw fn [.v, .v] [1, 0] (pE F1 (pE F2 pNil)) ρ = .ok d ρ := ev_kw (pvs := [.d b, .d a]) (ev_pe h1 (ev_pe h2 ev_pnil)) rfl rfl h
theorem m_wr {p : Int} {ws : List Int} {w : List Nat} (hp : p ∈ PS) (hws : ws ∈ WS) (hw : w.length ≤ 1000) (hg : good ws w) : fn__law_word_right [set p ws, S w] = .ok (.v (.bl true)) none := by
  obtain ⟨fs, hF, hfac⟩ := m_lfac hp hws hw hg
  have hone : lynB w = decide ((fs.length : Int) = 1) := by
    have h1 := hF.one
    have h2 : lynB w = true ↔ lyn w := lynB_iff
    cases hb : lynB w with
    | true =>
      have := h1.mpr (h2.mp hb)
      rw [decide_eq_true (by omega)]
    | false =>
      refine (decide_eq_false fun z => ?_).symm
      have := h2.mpr (h1.mp (by omega))
      rw [hb] at this
      cases this
  have hlyn := m_islyn hp hws hw hg
  -- the first three statements
  have s1 : sSet 2 (eCall fn__law_is_lyndon [.v] (pE (eVar 1) (pNil))) [Sl.val (set p ws), .val (S w), .any, .any, .any, .any] = .nx [Sl.val (set p ws), .val (S w), .val (.bl (lynB w)), .any, .any, .any] :=
    st_set (ev_call (ev_pe rfl ev_pnil) rfl (m_rot hw)) rfl
  have s2 : ∀ G : SE → O, sIf (tNotF (tBool (eCall (fn__law_same 6) [.v, .v] (pE (eLst (aCons (eCall fn_is_lyndon [.v, .v] (pE (eVar 0) (pE (eVar 1) (pNil)))) (aCons (eKw fn_is_lyndon [.v, .v] [1, 0] (pE (eVar 1) (pE (eVar 0) (pNil)))) (aNil)))) (pE (eLst (aCons (eVar 2) (aCons (eVar 2) (aNil)))) (pNil)))))) G sNx [Sl.val (set p ws), .val (S w), .val (.bl (lynB w)), .any, .any, .any] = .nx [Sl.val (set p ws), .val (S w), .val (.bl (lynB w)), .any, .any, .any] := fun G => by
    refine (st_if_f (ρ1 := [Sl.val (set p ws), .val (S w), .val (.bl (lynB w)), .any, .any, .any]) ?_).trans rfl
    exact ev_not (b := true) (ev_tB (ev_same (d := .lst [.bl (lynB w), .bl (lynB w)]) (ρ1 := [Sl.val (set p ws), .val (S w), .val (.bl (lynB w)), .any, .any, .any]) (ev_lst (ev_cons (ev_c2 rfl rfl hlyn) (ev_cons (ev_k10 rfl rfl hlyn) ev_nil)) (by simp)) (ev_lst (ev_cons rfl (ev_cons rfl ev_nil)) (by simp)) (by simp [DL.plain])))
  have s3 : sSet 3 (eCall fn_lyndon_factors [.v, .v] (pE (eVar 0) (pE (eVar 1) (pNil)))) [Sl.val (set p ws), .val (S w), .val (.bl (lynB w)), .any, .any, .any] = .nx [Sl.val (set p ws), .val (S w), .val (.bl (lynB w)), .val (.tup (fs.map S)), .any, .any] :=
    st_set (ev_c2 rfl rfl hfac) rfl
  have s4 : ∀ G : SE → O, sIf (tOrF (tNotF (tBool (eCall fn__law_factors_right [.v, .v] (pE (eVar 1) (pE (eVar 3) (pNil)))))) (tOrF (tNotF (tBool (eCall (fn__law_same 6) [.v, .v] (pE (eKw fn_lyndon_factors [.v, .v] [1, 0] (pE (eVar 1) (pE (eVar 0) (pNil)))) (pE (eVar 3) (pNil)))))) (tBool (eBin gNe (eVar 2) (eBin gEq (eArgs (g1 gLen) (aCons (eVar 3) (aNil))) (eC (.int 1))))))) G sNx
      [Sl.val (set p ws), .val (S w), .val (.bl (lynB w)), .val (.tup (fs.map S)), .any, .any] = .nx [Sl.val (set p ws), .val (S w), .val (.bl (lynB w)), .val (.tup (fs.map S)), .any, .any] := fun G => by
    refine (st_if_f (ρ1 := [Sl.val (set p ws), .val (S w), .val (.bl (lynB w)), .val (.tup (fs.map S)), .any, .any]) ?_).trans rfl
    refine ev_tor (b := false) (c := false) (ev_not (b := true) (ev_tB (ev_c2 rfl rfl (m_fright hw hF)))) fun _ => ?_
    refine ev_tor (b := false) (c := false) (ev_not (b := true) (ev_tB (ev_same (d := .tup (fs.map S)) (ev_k10 rfl rfl hfac) rfl (plain_tupS fs ?_)))) fun _ => ?_
    · have := (facs_len hF).1
      omega
    · have hlen : eArgs (g1 gLen) (aCons (eVar 3) aNil) [Sl.val (set p ws), .val (S w), .val (.bl (lynB w)), .val (.tup (fs.map S)), .any, .any] = .ok (.int (fs.length : Nat)) [Sl.val (set p ws), .val (S w), .val (.bl (lynB w)), .val (.tup (fs.map S)), .any, .any] := by
        refine ev_args (ev_cons rfl ev_nil) ?_
        show some (D.int ((fs.map S).length : Nat)) = _
        rw [List.length_map]
      have heq : eBin gEq (eArgs (g1 gLen) (aCons (eVar 3) aNil)) (eC (.int 1)) [Sl.val (set p ws), .val (S w), .val (.bl (lynB w)), .val (.tup (fs.map S)), .any, .any] = .ok (.bl (decide ((fs.length : Int) = 1))) [Sl.val (set p ws), .val (S w), .val (.bl (lynB w)), .val (.tup (fs.map S)), .any, .any] :=
        ev_bin hlen rfl rfl
      rw [← hone] at heq
      refine ev_tB (ev_bin (x := .bl (lynB w)) rfl heq ?_)
      show some (D.bl (!decide (lynB w = lynB w))) = _
      rw [decide_eq_true rfl]
      rfl
  by_cases h5 : (!lynB w || decide ((w.length : Int) < 2)) = true
  · refine run_rt (ρ := [Sl.val (set p ws), .val (S w), .val (.bl (lynB w)), .val (.tup (fs.map S)), .any, .any]) rfl ?_ rfl
    refine (st_seq s1).trans ((st_seq (s2 _)).trans ((st_seq s3).trans ((st_seq (s4 _)).trans (st_seq_rt ((st_if_t (ρ1 := [Sl.val (set p ws), .val (S w), .val (.bl (lynB w)), .val (.tup (fs.map S)), .any, .any]) ?_).trans (st_ret ?_))))))
    · rw [← h5]
      exact ev_tor (ev_not (ev_tB rfl)) fun _ => ev_tB (ev_bin (ev_args (ev_cons rfl ev_nil) (g_len hw)) rfl rfl)
    · have ha := m_asked (n := 2) (a := set p ws) (b := S w) (d := S w) (e := .tup [.str "word", S w]) (c := "InvalidWord") rfl rfl (m_nosplit hp hws hw hg h5) (by omega)
      exact ev_same (ev_call (ev_pe rfl (ev_pe rfl (ev_pe rfl ev_pnil))) rfl ha) (ev_tup (ev_cons rfl (ev_cons rfl ev_nil)) (by simp)) (by simp [DL.plain, S])
  · rw [Bool.not_eq_true, Bool.or_eq_false_iff, Bool.not_eq_false', decide_eq_false_iff_not] at h5
    obtain ⟨hy, hl⟩ := h5
    have hl : 2 ≤ w.length := by omega
    obtain ⟨k, k1, k2, k3, k4, k5, k6⟩ := m_split hw hl
    have hsp := split_lyn (lynB_iff.mp hy) (List.take_append_drop k w).symm (fun z => by
      have := congrArg List.length z
      rw [List.length_take, List.length_nil] at this
      omega) k3.1 k3 (fun u' v' e hu hv => by
        have l1 := congrArg List.length e
        rw [List.length_append] at l1
        have p1 := len_pos hu
        have p2 := len_pos hv.1
        rw [List.length_drop]
        by_cases hlt : u'.length < k
        · refine absurd ?_ (k4 u'.length p1 hlt)
          rw [e, List.drop_left]
          exact hv
        · omega)
    have hspl := m_lsplit hp hws hw hg hl hy k5
    refine run_rt (ρ := [Sl.val (set p ws), .val (S w), .val (.bl (lynB w)), .val (.tup (fs.map S)), .val (S (w.take k)), .val (S (w.drop k))]) rfl ?_ rfl
    refine (st_seq s1).trans ((st_seq (s2 _)).trans ((st_seq s3).trans ((st_seq (s4 _)).trans ((st_seq (ρ1 := [Sl.val (set p ws), .val (S w), .val (.bl (lynB w)), .val (.tup (fs.map S)), .any, .any]) ((st_if_f ?_).trans rfl)).trans ((st_seq (st_asg (ev_call (ev_pe rfl ev_pnil) rfl k6) rfl)).trans (st_ret ?_))))))
    · exact ev_tor (b := false) (c := false) (ev_not (b := true) (ev_tB (by rw [hy]; rfl))) fun _ => ev_tB (ev_bin (ev_args (ev_cons rfl ev_nil) (g_len hw)) rfl (by
        show some (D.bl (decide ((w.length : Int) < 2))) = _
        rw [decide_eq_false (by omega)]))
    · have lt1 : (w.take k).length ≤ 1000 := by rw [List.length_take]; omega
      have h1 := ev_call (Fp := pE (eVar 4) pNil) (ρ := [Sl.val (set p ws), .val (S w), .val (.bl (lynB w)), .val (.tup (fs.map S)), .val (S (w.take k)), .val (S (w.drop k))]) (ms := [.v]) (ev_pe rfl ev_pnil) rfl (m_rot lt1)
      rw [lynB_iff.mpr hsp.1] at h1
      have h2 : gLt (S (w.take k)) (S (w.drop k)) = some (.bl true) := by rw [g_lt, decide_eq_true hsp.2]
      refine ev_and (b := true) h1 (fun _ => ev_and (b := true) (ev_bin rfl rfl h2) (fun _ => ?_) fun z => by cases z) fun z => by cases z
      refine ev_same (d := .lst [.tup [S (w.take k), S (w.drop k)], .tup [S (w.take k), S (w.drop k)]]) (ev_lst (ev_cons (ev_c2 rfl rfl hspl) (ev_cons (ev_k10 rfl rfl hspl) ev_nil)) (by simp)) (ev_bin (ev_lst (ev_cons (ev_tup (ev_cons rfl (ev_cons rfl ev_nil)) (by simp)) ev_nil) (by simp)) rfl (mul2 _)) (by simp [DL.plain, S])
end Gk85

set_option Elab.async false
set_option linter.all false
set_option maxRecDepth 100000
set_option maxHeartbeats 2000000
namespace Gk85
open PySem PySem.Spec PyProof.Rows L2 DL Lyn
/-- the words of one weight, made of the rows before -/
def nxt (lt : List (Nat × Nat)) (r : List (List (List Nat))) (own : Nat) : List (List Nat) := lt.flatMap fun p => if p.2 ≤ own then (r.getD (own - p.2) []).map (· ++ [p.1]) else []
def rowsT (lt : List (Nat × Nat)) : Nat → List (List (List Nat))
  | 0 => [[[]]]
  | n + 1 => rowsT lt n ++ [nxt lt (rowsT lt n) (n + 1)]
def pr (ws : List Int) : List (Nat × Nat) := (lets ws).zip (ws.map Int.toNat)
def after (wp : List Nat) : O → Option SE
  | .nx ρ => some (forget wp ρ)
  | _ => none
theorem after_nx {wp : List Nat} {o : O} {s : SE} (h : after wp o = some s) : ∃ ρ, o = .nx ρ ∧ forget wp ρ = s := by
  cases o with
  | nx ρ => exact ⟨ρ, rfl, Option.some.inj h⟩
  | _ => cases h
def BB : SE → O := (sSeq (sSetO 4 (eLst (aNil))) (sSeq (sFor (iOf iZ (aCons (eCall fn_letters_of [.v] (pE (eVar 0) (pNil))) (aCons (eBin itemD (eVar 0) (eC (.int 1))) (aNil)))) (gTupF (gsCons (gNm 5) (gsCons (gNm 6) (gsNil)))) (sIf (tBool (eBin gLe (eVar 6) (eVar 3))) (sDrop (eMt 4 mExtend (aCons (eLc (gNm 7) [7] (tYesF) (eBin gAdd (eVar 7) (eVar 5)) (iSeq (eIxS 2 (eBin gSub (eVar 3) (eVar 6))))) (aNil)))) (sNx)) [5, 6]) (sFrz 4 (sDrop (eMt 2 mAppend (aCons (eVar 4) (aNil)))))))
def LB : SE → O := (sSeq (sDPut_ 2 (eVar 3) (eLst (aNil))) (sFor (iSeq (eCall fn__law_letters [.v] (pE (eVar 0) (pNil)))) (gNm 4) (sSeq (sSet 5 (eBin itemD (eBin itemD (eVar 0) (eC (.int 1))) (eTm gSIndex (eC (.str "abcdef")) (aCons (eVar 4) (aNil))))) (sIf (tBool (eBin gLe (eVar 5) (eVar 3))) (sDPut_ 2 (eVar 3) (eBin gCatL (eDGet 2 (eVar 3)) (eLc (gNm 6) [6] (tYesF) (eBin gAdd (eVar 6) (eVar 4)) (iSeq (eDGet 2 (eBin gSub (eVar 3) (eVar 5))))))) (sNx))) [4, 5]))
def rowD (ws : List Int) (n : Nat) : List D := (rowsT (pr ws) n).map fun r => D.lst (r.map S)
def stB (p : Int) (ws : List Int) (k : Int) (n : Nat) : SE := [.val (set p ws), .val (.int k), .own (.lst (rowD ws n)), .any, .any, .any, .any, .any]
def stL (p : Int) (ws : List Int) (k : Int) (n : Nat) : SE := [.val (set p ws), .val (.int k), .own (.dk ((List.range (n + 1)).map fun i : Nat => (.inl (i : Int) : Key)) (rowD ws n)), .any, .any, .any, .any]
theorem b0_0 (p k : Int) : after [3, 4, 5, 6] (BB ((stB p [1] k 0).set 3 (.val (.int 1)))) = some (stB p [1] k 1) := by kernel_rfl
theorem l0_0 (p k : Int) : after [3, 4, 5] (LB ((stL p [1] k 0).set 3 (.val (.int 1)))) = some (stL p [1] k 1) := by kernel_rfl
theorem b0_1 (p k : Int) : after [3, 4, 5, 6] (BB ((stB p [1] k 1).set 3 (.val (.int 2)))) = some (stB p [1] k 2) := by kernel_rfl
theorem l0_1 (p k : Int) : after [3, 4, 5] (LB ((stL p [1] k 1).set 3 (.val (.int 2)))) = some (stL p [1] k 2) := by kernel_rfl
theorem b0_2 (p k : Int) : after [3, 4, 5, 6] (BB ((stB p [1] k 2).set 3 (.val (.int 3)))) = some (stB p [1] k 3) := by kernel_rfl
theorem l0_2 (p k : Int) : after [3, 4, 5] (LB ((stL p [1] k 2).set 3 (.val (.int 3)))) = some (stL p [1] k 3) := by kernel_rfl
theorem b0_3 (p k : Int) : after [3, 4, 5, 6] (BB ((stB p [1] k 3).set 3 (.val (.int 4)))) = some (stB p [1] k 4) := by kernel_rfl
theorem l0_3 (p k : Int) : after [3, 4, 5] (LB ((stL p [1] k 3).set 3 (.val (.int 4)))) = some (stL p [1] k 4) := by kernel_rfl
theorem b0_4 (p k : Int) : after [3, 4, 5, 6] (BB ((stB p [1] k 4).set 3 (.val (.int 5)))) = some (stB p [1] k 5) := by kernel_rfl
theorem l0_4 (p k : Int) : after [3, 4, 5] (LB ((stL p [1] k 4).set 3 (.val (.int 5)))) = some (stL p [1] k 5) := by kernel_rfl
theorem b0_5 (p k : Int) : after [3, 4, 5, 6] (BB ((stB p [1] k 5).set 3 (.val (.int 6)))) = some (stB p [1] k 6) := by kernel_rfl
theorem l0_5 (p k : Int) : after [3, 4, 5] (LB ((stL p [1] k 5).set 3 (.val (.int 6)))) = some (stL p [1] k 6) := by kernel_rfl
theorem b0_6 (p k : Int) : after [3, 4, 5, 6] (BB ((stB p [1] k 6).set 3 (.val (.int 7)))) = some (stB p [1] k 7) := by kernel_rfl
theorem l0_6 (p k : Int) : after [3, 4, 5] (LB ((stL p [1] k 6).set 3 (.val (.int 7)))) = some (stL p [1] k 7) := by kernel_rfl
theorem b0_7 (p k : Int) : after [3, 4, 5, 6] (BB ((stB p [1] k 7).set 3 (.val (.int 8)))) = some (stB p [1] k 8) := by kernel_rfl
theorem l0_7 (p k : Int) : after [3, 4, 5] (LB ((stL p [1] k 7).set 3 (.val (.int 8)))) = some (stL p [1] k 8) := by kernel_rfl
theorem b1_0 (p k : Int) : after [3, 4, 5, 6] (BB ((stB p [1, 1] k 0).set 3 (.val (.int 1)))) = some (stB p [1, 1] k 1) := by kernel_rfl
theorem l1_0 (p k : Int) : after [3, 4, 5] (LB ((stL p [1, 1] k 0).set 3 (.val (.int 1)))) = some (stL p [1, 1] k 1) := by kernel_rfl
theorem b1_1 (p k : Int) : after [3, 4, 5, 6] (BB ((stB p [1, 1] k 1).set 3 (.val (.int 2)))) = some (stB p [1, 1] k 2) := by kernel_rfl
theorem l1_1 (p k : Int) : after [3, 4, 5] (LB ((stL p [1, 1] k 1).set 3 (.val (.int 2)))) = some (stL p [1, 1] k 2) := by kernel_rfl
theorem b1_2 (p k : Int) : after [3, 4, 5, 6] (BB ((stB p [1, 1] k 2).set 3 (.val (.int 3)))) = some (stB p [1, 1] k 3) := by kernel_rfl
theorem l1_2 (p k : Int) : after [3, 4, 5] (LB ((stL p [1, 1] k 2).set 3 (.val (.int 3)))) = some (stL p [1, 1] k 3) := by kernel_rfl
theorem b1_3 (p k : Int) : after [3, 4, 5, 6] (BB ((stB p [1, 1] k 3).set 3 (.val (.int 4)))) = some (stB p [1, 1] k 4) := by kernel_rfl
theorem l1_3 (p k : Int) : after [3, 4, 5] (LB ((stL p [1, 1] k 3).set 3 (.val (.int 4)))) = some (stL p [1, 1] k 4) := by kernel_rfl
theorem b1_4 (p k : Int) : after [3, 4, 5, 6] (BB ((stB p [1, 1] k 4).set 3 (.val (.int 5)))) = some (stB p [1, 1] k 5) := by kernel_rfl
theorem l1_4 (p k : Int) : after [3, 4, 5] (LB ((stL p [1, 1] k 4).set 3 (.val (.int 5)))) = some (stL p [1, 1] k 5) := by kernel_rfl
theorem b1_5 (p k : Int) : after [3, 4, 5, 6] (BB ((stB p [1, 1] k 5).set 3 (.val (.int 6)))) = some (stB p [1, 1] k 6) := by kernel_rfl
theorem l1_5 (p k : Int) : after [3, 4, 5] (LB ((stL p [1, 1] k 5).set 3 (.val (.int 6)))) = some (stL p [1, 1] k 6) := by kernel_rfl
theorem b1_6 (p k : Int) : after [3, 4, 5, 6] (BB ((stB p [1, 1] k 6).set 3 (.val (.int 7)))) = some (stB p [1, 1] k 7) := by kernel_rfl
theorem l1_6 (p k : Int) : after [3, 4, 5] (LB ((stL p [1, 1] k 6).set 3 (.val (.int 7)))) = some (stL p [1, 1] k 7) := by kernel_rfl
theorem b2_0 (p k : Int) : after [3, 4, 5, 6] (BB ((stB p [1, 2] k 0).set 3 (.val (.int 1)))) = some (stB p [1, 2] k 1) := by kernel_rfl
theorem l2_0 (p k : Int) : after [3, 4, 5] (LB ((stL p [1, 2] k 0).set 3 (.val (.int 1)))) = some (stL p [1, 2] k 1) := by kernel_rfl
theorem b2_1 (p k : Int) : after [3, 4, 5, 6] (BB ((stB p [1, 2] k 1).set 3 (.val (.int 2)))) = some (stB p [1, 2] k 2) := by kernel_rfl
theorem l2_1 (p k : Int) : after [3, 4, 5] (LB ((stL p [1, 2] k 1).set 3 (.val (.int 2)))) = some (stL p [1, 2] k 2) := by kernel_rfl
theorem b2_2 (p k : Int) : after [3, 4, 5, 6] (BB ((stB p [1, 2] k 2).set 3 (.val (.int 3)))) = some (stB p [1, 2] k 3) := by kernel_rfl
theorem l2_2 (p k : Int) : after [3, 4, 5] (LB ((stL p [1, 2] k 2).set 3 (.val (.int 3)))) = some (stL p [1, 2] k 3) := by kernel_rfl
theorem b2_3 (p k : Int) : after [3, 4, 5, 6] (BB ((stB p [1, 2] k 3).set 3 (.val (.int 4)))) = some (stB p [1, 2] k 4) := by kernel_rfl
theorem l2_3 (p k : Int) : after [3, 4, 5] (LB ((stL p [1, 2] k 3).set 3 (.val (.int 4)))) = some (stL p [1, 2] k 4) := by kernel_rfl
theorem b2_4 (p k : Int) : after [3, 4, 5, 6] (BB ((stB p [1, 2] k 4).set 3 (.val (.int 5)))) = some (stB p [1, 2] k 5) := by kernel_rfl
theorem l2_4 (p k : Int) : after [3, 4, 5] (LB ((stL p [1, 2] k 4).set 3 (.val (.int 5)))) = some (stL p [1, 2] k 5) := by kernel_rfl
theorem b2_5 (p k : Int) : after [3, 4, 5, 6] (BB ((stB p [1, 2] k 5).set 3 (.val (.int 6)))) = some (stB p [1, 2] k 6) := by kernel_rfl
theorem l2_5 (p k : Int) : after [3, 4, 5] (LB ((stL p [1, 2] k 5).set 3 (.val (.int 6)))) = some (stL p [1, 2] k 6) := by kernel_rfl
theorem b2_6 (p k : Int) : after [3, 4, 5, 6] (BB ((stB p [1, 2] k 6).set 3 (.val (.int 7)))) = some (stB p [1, 2] k 7) := by kernel_rfl
theorem l2_6 (p k : Int) : after [3, 4, 5] (LB ((stL p [1, 2] k 6).set 3 (.val (.int 7)))) = some (stL p [1, 2] k 7) := by kernel_rfl
theorem b2_7 (p k : Int) : after [3, 4, 5, 6] (BB ((stB p [1, 2] k 7).set 3 (.val (.int 8)))) = some (stB p [1, 2] k 8) := by kernel_rfl
theorem l2_7 (p k : Int) : after [3, 4, 5] (LB ((stL p [1, 2] k 7).set 3 (.val (.int 8)))) = some (stL p [1, 2] k 8) := by kernel_rfl
theorem b3_0 (p k : Int) : after [3, 4, 5, 6] (BB ((stB p [1, 1, 1] k 0).set 3 (.val (.int 1)))) = some (stB p [1, 1, 1] k 1) := by kernel_rfl
theorem l3_0 (p k : Int) : after [3, 4, 5] (LB ((stL p [1, 1, 1] k 0).set 3 (.val (.int 1)))) = some (stL p [1, 1, 1] k 1) := by kernel_rfl
theorem b3_1 (p k : Int) : after [3, 4, 5, 6] (BB ((stB p [1, 1, 1] k 1).set 3 (.val (.int 2)))) = some (stB p [1, 1, 1] k 2) := by kernel_rfl
theorem l3_1 (p k : Int) : after [3, 4, 5] (LB ((stL p [1, 1, 1] k 1).set 3 (.val (.int 2)))) = some (stL p [1, 1, 1] k 2) := by kernel_rfl
theorem b3_2 (p k : Int) : after [3, 4, 5, 6] (BB ((stB p [1, 1, 1] k 2).set 3 (.val (.int 3)))) = some (stB p [1, 1, 1] k 3) := by kernel_rfl
theorem l3_2 (p k : Int) : after [3, 4, 5] (LB ((stL p [1, 1, 1] k 2).set 3 (.val (.int 3)))) = some (stL p [1, 1, 1] k 3) := by kernel_rfl
theorem b3_3 (p k : Int) : after [3, 4, 5, 6] (BB ((stB p [1, 1, 1] k 3).set 3 (.val (.int 4)))) = some (stB p [1, 1, 1] k 4) := by kernel_rfl
theorem l3_3 (p k : Int) : after [3, 4, 5] (LB ((stL p [1, 1, 1] k 3).set 3 (.val (.int 4)))) = some (stL p [1, 1, 1] k 4) := by kernel_rfl
theorem b4_0 (p k : Int) : after [3, 4, 5, 6] (BB ((stB p [2, 3] k 0).set 3 (.val (.int 1)))) = some (stB p [2, 3] k 1) := by kernel_rfl
theorem l4_0 (p k : Int) : after [3, 4, 5] (LB ((stL p [2, 3] k 0).set 3 (.val (.int 1)))) = some (stL p [2, 3] k 1) := by kernel_rfl
theorem b4_1 (p k : Int) : after [3, 4, 5, 6] (BB ((stB p [2, 3] k 1).set 3 (.val (.int 2)))) = some (stB p [2, 3] k 2) := by kernel_rfl
theorem l4_1 (p k : Int) : after [3, 4, 5] (LB ((stL p [2, 3] k 1).set 3 (.val (.int 2)))) = some (stL p [2, 3] k 2) := by kernel_rfl
theorem b4_2 (p k : Int) : after [3, 4, 5, 6] (BB ((stB p [2, 3] k 2).set 3 (.val (.int 3)))) = some (stB p [2, 3] k 3) := by kernel_rfl
theorem l4_2 (p k : Int) : after [3, 4, 5] (LB ((stL p [2, 3] k 2).set 3 (.val (.int 3)))) = some (stL p [2, 3] k 3) := by kernel_rfl
theorem b4_3 (p k : Int) : after [3, 4, 5, 6] (BB ((stB p [2, 3] k 3).set 3 (.val (.int 4)))) = some (stB p [2, 3] k 4) := by kernel_rfl
theorem l4_3 (p k : Int) : after [3, 4, 5] (LB ((stL p [2, 3] k 3).set 3 (.val (.int 4)))) = some (stL p [2, 3] k 4) := by kernel_rfl
theorem b4_4 (p k : Int) : after [3, 4, 5, 6] (BB ((stB p [2, 3] k 4).set 3 (.val (.int 5)))) = some (stB p [2, 3] k 5) := by kernel_rfl
theorem l4_4 (p k : Int) : after [3, 4, 5] (LB ((stL p [2, 3] k 4).set 3 (.val (.int 5)))) = some (stL p [2, 3] k 5) := by kernel_rfl
theorem b4_5 (p k : Int) : after [3, 4, 5, 6] (BB ((stB p [2, 3] k 5).set 3 (.val (.int 6)))) = some (stB p [2, 3] k 6) := by kernel_rfl
theorem l4_5 (p k : Int) : after [3, 4, 5] (LB ((stL p [2, 3] k 5).set 3 (.val (.int 6)))) = some (stL p [2, 3] k 6) := by kernel_rfl
theorem b4_6 (p k : Int) : after [3, 4, 5, 6] (BB ((stB p [2, 3] k 6).set 3 (.val (.int 7)))) = some (stB p [2, 3] k 7) := by kernel_rfl
theorem l4_6 (p k : Int) : after [3, 4, 5] (LB ((stL p [2, 3] k 6).set 3 (.val (.int 7)))) = some (stL p [2, 3] k 7) := by kernel_rfl
theorem b4_7 (p k : Int) : after [3, 4, 5, 6] (BB ((stB p [2, 3] k 7).set 3 (.val (.int 8)))) = some (stB p [2, 3] k 8) := by kernel_rfl
theorem l4_7 (p k : Int) : after [3, 4, 5] (LB ((stL p [2, 3] k 7).set 3 (.val (.int 8)))) = some (stL p [2, 3] k 8) := by kernel_rfl
theorem b5_0 (p k : Int) : after [3, 4, 5, 6] (BB ((stB p [1, 1, 2] k 0).set 3 (.val (.int 1)))) = some (stB p [1, 1, 2] k 1) := by kernel_rfl
theorem l5_0 (p k : Int) : after [3, 4, 5] (LB ((stL p [1, 1, 2] k 0).set 3 (.val (.int 1)))) = some (stL p [1, 1, 2] k 1) := by kernel_rfl
theorem b5_1 (p k : Int) : after [3, 4, 5, 6] (BB ((stB p [1, 1, 2] k 1).set 3 (.val (.int 2)))) = some (stB p [1, 1, 2] k 2) := by kernel_rfl
theorem l5_1 (p k : Int) : after [3, 4, 5] (LB ((stL p [1, 1, 2] k 1).set 3 (.val (.int 2)))) = some (stL p [1, 1, 2] k 2) := by kernel_rfl
theorem b5_2 (p k : Int) : after [3, 4, 5, 6] (BB ((stB p [1, 1, 2] k 2).set 3 (.val (.int 3)))) = some (stB p [1, 1, 2] k 3) := by kernel_rfl
theorem l5_2 (p k : Int) : after [3, 4, 5] (LB ((stL p [1, 1, 2] k 2).set 3 (.val (.int 3)))) = some (stL p [1, 1, 2] k 3) := by kernel_rfl
theorem b5_3 (p k : Int) : after [3, 4, 5, 6] (BB ((stB p [1, 1, 2] k 3).set 3 (.val (.int 4)))) = some (stB p [1, 1, 2] k 4) := by kernel_rfl
theorem l5_3 (p k : Int) : after [3, 4, 5] (LB ((stL p [1, 1, 2] k 3).set 3 (.val (.int 4)))) = some (stL p [1, 1, 2] k 4) := by kernel_rfl
theorem b5_4 (p k : Int) : after [3, 4, 5, 6] (BB ((stB p [1, 1, 2] k 4).set 3 (.val (.int 5)))) = some (stB p [1, 1, 2] k 5) := by kernel_rfl
theorem l5_4 (p k : Int) : after [3, 4, 5] (LB ((stL p [1, 1, 2] k 4).set 3 (.val (.int 5)))) = some (stL p [1, 1, 2] k 5) := by kernel_rfl
theorem b5_5 (p k : Int) : after [3, 4, 5, 6] (BB ((stB p [1, 1, 2] k 5).set 3 (.val (.int 6)))) = some (stB p [1, 1, 2] k 6) := by kernel_rfl
theorem l5_5 (p k : Int) : after [3, 4, 5] (LB ((stL p [1, 1, 2] k 5).set 3 (.val (.int 6)))) = some (stL p [1, 1, 2] k 6) := by kernel_rfl
end Gk85

set_option Elab.async false
set_option linter.all false
set_option maxRecDepth 100000
set_option maxHeartbeats 2000000
namespace Gk85
open PySem PySem.Spec PyProof.Rows L2 DL Lyn
def most (ws : List Int) : Nat := if ws = [1] then 8 else if ws = [1, 1] then 7 else if ws = [1, 2] then 8 else if ws = [1, 1, 1] then 4 else if ws = [2, 3] then 8 else 6
theorem bstep (p k : Int) {ws : List Int} {n : Nat} (hw : ws ∈ WS) (hn : n < most ws) : after [3, 4, 5, 6] (BB ((stB p ws k n).set 3 (.val (.int ((n + 1 : Nat) : Int))))) = some (stB p ws k (n + 1)) := by
  unfold WS at hw
  simp only [List.mem_cons, List.not_mem_nil, or_false] at hw
  rcases hw with rfl | rfl | rfl | rfl | rfl | rfl
  · have hn : n < 8 := hn
    match n, hn with
    | 0, _ => exact b0_0 p k
    | 1, _ => exact b0_1 p k
    | 2, _ => exact b0_2 p k
    | 3, _ => exact b0_3 p k
    | 4, _ => exact b0_4 p k
    | 5, _ => exact b0_5 p k
    | 6, _ => exact b0_6 p k
    | 7, _ => exact b0_7 p k
  · have hn : n < 7 := hn
    match n, hn with
    | 0, _ => exact b1_0 p k
    | 1, _ => exact b1_1 p k
    | 2, _ => exact b1_2 p k
    | 3, _ => exact b1_3 p k
    | 4, _ => exact b1_4 p k
    | 5, _ => exact b1_5 p k
    | 6, _ => exact b1_6 p k
  · have hn : n < 8 := hn
    match n, hn with
    | 0, _ => exact b2_0 p k
    | 1, _ => exact b2_1 p k
    | 2, _ => exact b2_2 p k
    | 3, _ => exact b2_3 p k
    | 4, _ => exact b2_4 p k
    | 5, _ => exact b2_5 p k
    | 6, _ => exact b2_6 p k
    | 7, _ => exact b2_7 p k
  · have hn : n < 4 := hn
    match n, hn with
    | 0, _ => exact b3_0 p k
    | 1, _ => exact b3_1 p k
    | 2, _ => exact b3_2 p k
    | 3, _ => exact b3_3 p k
  · have hn : n < 8 := hn
    match n, hn with
    | 0, _ => exact b4_0 p k
    | 1, _ => exact b4_1 p k
    | 2, _ => exact b4_2 p k
    | 3, _ => exact b4_3 p k
    | 4, _ => exact b4_4 p k
    | 5, _ => exact b4_5 p k
    | 6, _ => exact b4_6 p k
    | 7, _ => exact b4_7 p k
  · have hn : n < 6 := hn
    match n, hn with
    | 0, _ => exact b5_0 p k
    | 1, _ => exact b5_1 p k
    | 2, _ => exact b5_2 p k
    | 3, _ => exact b5_3 p k
    | 4, _ => exact b5_4 p k
    | 5, _ => exact b5_5 p k
theorem lstep (p k : Int) {ws : List Int} {n : Nat} (hw : ws ∈ WS) (hn : n < most ws) : after [3, 4, 5] (LB ((stL p ws k n).set 3 (.val (.int ((n + 1 : Nat) : Int))))) = some (stL p ws k (n + 1)) := by
  unfold WS at hw
  simp only [List.mem_cons, List.not_mem_nil, or_false] at hw
  rcases hw with rfl | rfl | rfl | rfl | rfl | rfl
  · have hn : n < 8 := hn
    match n, hn with
    | 0, _ => exact l0_0 p k
    | 1, _ => exact l0_1 p k
    | 2, _ => exact l0_2 p k
    | 3, _ => exact l0_3 p k
    | 4, _ => exact l0_4 p k
    | 5, _ => exact l0_5 p k
    | 6, _ => exact l0_6 p k
    | 7, _ => exact l0_7 p k
  · have hn : n < 7 := hn
    match n, hn with
    | 0, _ => exact l1_0 p k
    | 1, _ => exact l1_1 p k
    | 2, _ => exact l1_2 p k
    | 3, _ => exact l1_3 p k
    | 4, _ => exact l1_4 p k
    | 5, _ => exact l1_5 p k
    | 6, _ => exact l1_6 p k
  · have hn : n < 8 := hn
    match n, hn with
    | 0, _ => exact l2_0 p k
    | 1, _ => exact l2_1 p k
    | 2, _ => exact l2_2 p k
    | 3, _ => exact l2_3 p k
    | 4, _ => exact l2_4 p k
    | 5, _ => exact l2_5 p k
    | 6, _ => exact l2_6 p k
    | 7, _ => exact l2_7 p k
  · have hn : n < 4 := hn
    match n, hn with
    | 0, _ => exact l3_0 p k
    | 1, _ => exact l3_1 p k
    | 2, _ => exact l3_2 p k
    | 3, _ => exact l3_3 p k
  · have hn : n < 8 := hn
    match n, hn with
    | 0, _ => exact l4_0 p k
    | 1, _ => exact l4_1 p k
    | 2, _ => exact l4_2 p k
    | 3, _ => exact l4_3 p k
    | 4, _ => exact l4_4 p k
    | 5, _ => exact l4_5 p k
    | 6, _ => exact l4_6 p k
    | 7, _ => exact l4_7 p k
  · have hn : n < 6 := hn
    match n, hn with
    | 0, _ => exact l5_0 p k
    | 1, _ => exact l5_1 p k
    | 2, _ => exact l5_2 p k
    | 3, _ => exact l5_3 p k
    | 4, _ => exact l5_4 p k
    | 5, _ => exact l5_5 p k
theorem rowsT_len (lt : List (Nat × Nat)) : ∀ n, (rowsT lt n).length = n + 1
  | 0 => rfl
  | n + 1 => by
    show (rowsT lt n ++ [_]).length = _
    rw [List.length_append, rowsT_len lt n]
    rfl
/-- the words of weight k -/
def W (ws : List Int) (k : Nat) : List (List Nat) := (rowsT (pr ws) k).getD k []
theorem rowD_at (ws : List Int) (k : Nat) : (rowD ws k)[k]? = some (.lst ((W ws k).map S)) := by
  unfold rowD W
  have h : k < (rowsT (pr ws) k).length := by rw [rowsT_len]; omega
  rw [List.getElem?_map, List.getElem?_eq_getElem h, List.getD_eq_getElem?_getD, List.getElem?_eq_getElem h]
  rfl
theorem w_range {k : Nat} (hk : k ≤ 8) : iR2 [.int 1, .int ((k : Nat) + 1 : Int)] = some ((List.range k).map fun i => D.int ((i + 1 : Nat) : Int)) := by
  have h := g_range (i := 1) (j := k + 1) (by omega) (by omega)
  rw [Nat.add_sub_cancel] at h
  exact h.trans (congrArg some (List.map_congr_left fun i _ => by rw [Nat.add_comm]))
theorem most_le {ws : List Int} : most ws ≤ 8 := by
  unfold most
  repeat' split
  all_goals omega
theorem rng_at {k i : Nat} {d : D} (h : ((List.range k).map fun i => D.int ((i + 1 : Nat) : Int))[i]? = some d) : i < k ∧ d = D.int ((i + 1 : Nat) : Int) := by
  rw [List.getElem?_map] at h
  by_cases hi : i < k
  · rw [List.getElem?_range hi] at h
    exact ⟨hi, (Option.some.inj h).symm⟩
  · rw [List.getElem?_eq_none (by rw [List.length_range]; omega)] at h
    cases h
theorem m_by {p : Int} {ws : List Int} {k : Nat} (hw : ws ∈ WS) (hk : k ≤ most ws) : fn_words_by [set p ws, .int (k : Nat)] = .ok (.o (.lst (((W ws k).map S).mergeSort leD))) none := by
  have h8 : k ≤ 8 := Nat.le_trans hk most_le
  refine run_rt (ρ := stB p ws k k) rfl ?_ rfl
  refine (st_seq (ρ1 := stB p ws k 0) rfl).trans ?_
  refine (st_seq (ρ1 := stB p ws k k) ?_).trans (st_retO (ev_args (ev_cons (ev_ixS rfl rfl rfl (item_lst (rowD_at ws k))) ev_nil) (f_sort _)))
  have hr : iOf iR2 (aCons (eC (.int 1)) (aCons (eBin gAdd (eVar 1) (eC (.int 1))) aNil)) (stB p ws k 0) = .ok ((List.range k).map fun i => D.int ((i + 1 : Nat) : Int)) (stB p ws k 0) :=
    ev_iOf (ev_cons rfl (ev_cons (ev_bin rfl rfl rfl) ev_nil)) (w_range h8)
  refine (st_for hr).trans ?_
  have := for_inv (F := BB) (g := gNm 3) (wp := [3, 4, 5, 6]) (fun n => stB p ws k n) (ds := (List.range k).map fun i => D.int ((i + 1 : Nat) : Int)) (n := 0) (ρ := stB p ws k 0) rfl (fun i d ρ hd _ => by
    obtain ⟨hi, e⟩ := rng_at hd
    rw [Nat.zero_add]
    obtain ⟨ρ2, h1, h2⟩ := after_nx (bstep p k hw (show i < most ws by omega))
    exact ⟨_, ρ2, by rw [e]; rfl, h1, h2⟩)
  rw [List.length_map, List.length_range, Nat.zero_add] at this
  exact this
end Gk85

set_option Elab.async false
set_option linter.all false
set_option maxRecDepth 100000
set_option maxHeartbeats 2000000
namespace Gk85
open PySem PySem.Spec PyProof.Rows L2 DL Lyn
theorem zGet_rng : ∀ (m s k : Nat) (ds : List D), s ≤ k → ds.length = m → zGet ((List.range' s m).map fun i : Nat => (.inl (i : Int) : Key)) ds (.inl (k : Int)) = ds[k - s]?
  | 0, s, k, ds, _, h => by
    have : ds = [] := List.length_eq_zero_iff.mp h
    subst this
    rfl
  | m + 1, s, k, d :: ds, hs, h => by
    rw [List.range'_succ, List.map_cons]
    unfold zGet
    by_cases he : s = k
    · subst he
      rw [if_pos rfl, Nat.sub_self]
      rfl
    · rw [if_neg (fun z => he (by injection z with z; omega)), zGet_rng m (s + 1) k ds (by omega) (by rw [List.length_cons] at h; omega), show k - s = (k - (s + 1)) + 1 by omega, List.getElem?_cons_succ]
theorem m_lwords {p : Int} {ws : List Int} {k : Nat} (hw : ws ∈ WS) (hk : k ≤ most ws) : fn__law_words [set p ws, .int (k : Nat)] = .ok (.o (.lst (((W ws k).map S).mergeSort leD))) none := by
  have h8 : k ≤ 8 := Nat.le_trans hk most_le
  refine run_rt (ρ := stL p ws k k) rfl ?_ rfl
  refine (st_seq (ρ1 := stL p ws k 0) rfl).trans ?_
  have hz : zGet ((List.range (k + 1)).map fun i : Nat => (.inl (i : Int) : Key)) (rowD ws k) (.inl (k : Int)) = some (.lst ((W ws k).map S)) := by
    rw [List.range_eq_range', zGet_rng (k + 1) 0 k _ (by omega) (by unfold rowD; rw [List.length_map, rowsT_len]), Nat.sub_zero]
    exact rowD_at ws k
  refine (st_seq (ρ1 := stL p ws k k) ?_).trans (st_retO (ev_args (ev_cons (ev_dget (k := .inl (k : Int)) rfl rfl rfl rfl hz) ev_nil) (f_sort _)))
  have hr : iOf iR2 (aCons (eC (.int 1)) (aCons (eBin gAdd (eVar 1) (eC (.int 1))) aNil)) (stL p ws k 0) = .ok ((List.range k).map fun i => D.int ((i + 1 : Nat) : Int)) (stL p ws k 0) :=
    ev_iOf (ev_cons rfl (ev_cons (ev_bin rfl rfl rfl) ev_nil)) (w_range h8)
  refine (st_for hr).trans ?_
  have := for_inv (F := LB) (g := gNm 3) (wp := [3, 4, 5]) (fun n => stL p ws k n) (ds := (List.range k).map fun i => D.int ((i + 1 : Nat) : Int)) (n := 0) (ρ := stL p ws k 0) rfl (fun i d ρ hd _ => by
    obtain ⟨hi, e⟩ := rng_at hd
    rw [Nat.zero_add]
    obtain ⟨ρ2, h1, h2⟩ := after_nx (lstep p k hw (show i < most ws by omega))
    exact ⟨_, ρ2, by rw [e]; rfl, h1, h2⟩)
  rw [List.length_map, List.length_range, Nat.zero_add] at this
  exact this
theorem W_ok : (WS.all fun ws => (List.range (most ws + 1)).all fun k => Nat.ble (W ws k).length 1000 && (W ws k).all fun w => Nat.ble w.length 1000) = true := by kernel_rfl
theorem W_len {ws : List Int} {k : Nat} (hw : ws ∈ WS) (hk : k ≤ most ws) : (W ws k).length ≤ 1000 ∧ ∀ w ∈ W ws k, w.length ≤ 1000 := by
  have h := List.all_eq_true.mp (List.all_eq_true.mp W_ok ws hw) k (List.mem_range.mpr (by omega))
  rw [Bool.and_eq_true] at h
  exact ⟨Nat.le_of_ble_eq_true h.1, fun w hw => Nat.le_of_ble_eq_true (List.all_eq_true.mp h.2 w hw)⟩
/-- the sorted words of weight k, and the Lyndon words of them -/
def SW (ws : List Int) (k : Nat) : List D := ((W ws k).map S).mergeSort leD
def L (ws : List Int) (k : Nat) : List D := (SW ws k).filter fun d => lynB (unS d)
theorem m_chint {k : Nat} (hk : k ≤ 8) : fn_check_integer [.int (k : Nat), .int 0] = .ok (.v .non) none := by
  match k, hk with
  | 0, _ => kernel_rfl
  | 1, _ => kernel_rfl
  | 2, _ => kernel_rfl
  | 3, _ => kernel_rfl
  | 4, _ => kernel_rfl
  | 5, _ => kernel_rfl
  | 6, _ => kernel_rfl
  | 7, _ => kernel_rfl
  | 8, _ => kernel_rfl
end Gk85

set_option Elab.async false
set_option linter.all false
set_option maxRecDepth 100000
set_option maxHeartbeats 2000000
namespace Gk85
open PySem PySem.Spec PyProof.Rows L2 DL Lyn
def cnt (ws : List Int) (k : Nat) : Nat := ((W ws k).filter lynB).length
theorem L_len (ws : List Int) (k : Nat) : (L ws k).length = cnt ws k := srt_count lynB (W ws k)
theorem SW_len {ws : List Int} {k : Nat} (hw : ws ∈ WS) (hk : k ≤ most ws) : (SW ws k).length ≤ 1000 := by
  unfold SW
  rw [srt_len]
  exact (W_len hw hk).1
theorem SW_mem {ws : List Int} {k : Nat} (hw : ws ∈ WS) (hk : k ≤ most ws) {d : D} (h : d ∈ SW ws k) : ∃ w, d = S w ∧ w.length ≤ 1000 := by
  obtain ⟨w, h1, h2⟩ := srt_mem h
  exact ⟨w, h2, (W_len hw hk).2 w h1⟩
theorem m_lynwords {p : Int} {ws : List Int} {k : Nat} (hp : p ∈ PS) (hw : ws ∈ WS) (hk : k ≤ most ws) : fn_lyndon_words [set p ws, .int (k : Nat)] = .ok (.v (.tup (L ws k))) none := by
  have h8 : k ≤ 8 := Nat.le_trans hk most_le
  refine run_rt (ρ := [.val (set p ws), .val (.int (k : Nat)), .any]) rfl ?_ rfl
  refine (st_seq (st_drop (ev_call (ev_pe rfl ev_pnil) rfl (m_set hp hw)))).trans ?_
  refine (st_seq (st_drop (ev_c2 rfl rfl (m_chint h8)))).trans ?_
  have hl := lc_ev (i := 2) (Ft := tBool (eCall fn_is_lyndon_word [.v] (pE (eVar 2) pNil))) (Fe := eVar 2) (ρ := [.val (set p ws), .val (.int (k : Nat)), .any]) (t := fun d => lynB (unS d)) (f := id) ⟨by simp, rfl⟩ (ds := SW ws k) (fun d hd => by
    obtain ⟨w, e, hwl⟩ := SW_mem hw hk hd
    subst e
    exact ⟨ev_tB (ev_call (ev_pe (d := S w) rfl ev_pnil) rfl (m_lyn hwl)), fun _ => rfl⟩)
  rw [List.map_id] at hl
  refine st_ret (ev_args (ev_cons (ev_lc (ev_iSeq (ev_callO (ev_pe rfl (ev_pe rfl ev_pnil)) rfl (m_by hw hk)) rfl) ?_ hl) ev_nil) rfl)
  have := SW_len hw hk
  exact Nat.le_trans this (by omega)
theorem m_lyncounts {p : Int} {ws : List Int} {m : Nat} (hp : p ∈ PS) (hw : ws ∈ WS) (hm : m ≤ most ws) : fn_lyndon_counts [set p ws, .int (m : Nat)] = .ok (.v (.tup ((List.range (m + 1)).map fun k => D.int (cnt ws k : Nat)))) none := by
  have h8 : m ≤ 8 := Nat.le_trans hm most_le
  refine run_rt (ρ := [.val (set p ws), .val (.int (m : Nat)), .any, .any]) rfl ?_ rfl
  refine (st_seq (st_drop (ev_call (ev_pe rfl ev_pnil) rfl (m_set hp hw)))).trans ?_
  refine (st_seq (st_drop (ev_c2 rfl rfl (m_chint h8)))).trans ?_
  have hl := lc_ev_map (i := 2) (Fe := eArgs (g1 gLen) (aCons (eLc (gNm 3) [3] (tBool (eCall fn_is_lyndon_word [.v] (pE (eVar 3) (pNil)))) (eVar 3) (iSeq (eCallO fn_words_by [.v, .v] (pE (eVar 0) (pE (eVar 2) (pNil)))))) (aNil))) (ρ := [.val (set p ws), .val (.int (m : Nat)), .any, .any]) (f := fun d => match d with | .int i => .int (cnt ws i.toNat : Nat) | _ => .non) ⟨by simp, rfl⟩ (ds := (List.range (m + 1)).map fun k : Nat => D.int (k : Int)) (fun d hd => by
    obtain ⟨k, hk, rfl⟩ := List.mem_map.mp hd
    have hk := List.mem_range.mp hk
    have hl := lc_ev (i := 3) (Ft := tBool (eCall fn_is_lyndon_word [.v] (pE (eVar 3) pNil))) (Fe := eVar 3) (ρ := [.val (set p ws), .val (.int (m : Nat)), .val (.int (k : Nat)), .any]) (t := fun d => lynB (unS d)) (f := id) ⟨by simp, rfl⟩ (ds := SW ws k) (fun d hd => by
      obtain ⟨w, e, hwl⟩ := SW_mem hw (k := k) (by omega) hd
      subst e
      exact ⟨ev_tB (ev_call (ev_pe (d := S w) rfl ev_pnil) rfl (m_lyn hwl)), fun _ => rfl⟩)
    rw [List.map_id] at hl
    refine ev_args (ev_cons (ev_lc (ev_iSeq (ev_callO (ev_pe rfl (ev_pe rfl ev_pnil)) rfl (m_by hw (k := k) (by omega))) rfl) ?_ hl) ev_nil) ?_
    · have := SW_len hw (k := k) (by omega)
      exact Nat.le_trans this (by omega)
    · show some (D.int ((L ws k).length : Nat)) = some (D.int (cnt ws ((k : Int)).toNat : Nat))
      rw [L_len, Int.toNat_natCast])
  rw [List.map_map] at hl
  refine st_ret (ev_args (ev_cons (ev_lc (ev_iOf (ev_cons (ev_bin rfl rfl rfl) ev_nil) (g_range1 (j := m + 1) (by omega))) ?_ hl) ev_nil) rfl)
  rw [List.length_map, List.length_range]
  omega
end Gk85

set_option Elab.async false
set_option linter.all false
set_option maxRecDepth 100000
set_option maxHeartbeats 2000000
namespace Gk85
open PySem PySem.Spec PyProof.Rows L2 DL Lyn
def wstep (k : Nat) (v : List Int) (i : Nat) : List Int := v.set (k + i) (v.getD (k + i) 0 + v.getD i 0)
def way1 (k m : Nat) (v : List Int) : List Int := (List.range (m + 1 - k)).foldl (wstep k) v
def wayN (k m : Nat) : Nat → List Int → List Int
  | 0, v => v
  | n + 1, v => wayN k m n (way1 k m v)
def WBD : SE → O := sSetIx 9 (eVar 12) (eBin gAdd (eIxS 9 (eVar 12)) (eIxS 9 (eBin gSub (eVar 12) (eVar 10))))
def WLP : SE → O := sFor (iOf iR2 (aCons (eVar 10) (aCons (eBin gAdd (eVar 4) (eC (.int 1))) (aNil)))) (gNm 12) WBD [12]
theorem wstep_len (k : Nat) (v : List Int) (i : Nat) : (wstep k v i).length = v.length := by unfold wstep; rw [List.length_set]
theorem fold_len (k : Nat) : ∀ (l : List Nat) (v : List Int), (l.foldl (wstep k) v).length = v.length
  | [], _ => rfl
  | i :: l, v => by rw [List.foldl_cons, fold_len k l, wstep_len]
theorem at_int {v : List Int} {j : Nat} (h : j < v.length) : (v.map D.int)[j]? = some (.int (v.getD j 0)) := by
  rw [List.getElem?_map, List.getElem?_eq_getElem h, List.getD_eq_getElem?_getD, List.getElem?_eq_getElem h]
  rfl
section
variable (s0 s1 s2 s3 s5 s6 s7 s8 s11 : Sl) (m k : Nat)
def stW (s12 : Sl) (v : List Int) : SE := [s0, s1, s2, s3, .val (.int (m : Nat)), s5, s6, s7, s8, .own (.lst (v.map D.int)), .val (.int (k : Nat)), s11, s12, .any, .any, .any, .any, .any, .any, .any]
theorem w_body {v : List Int} {i : Nat} (h : k + i < v.length) : WBD (stW s0 s1 s2 s3 s5 s6 s7 s8 s11 m k (.val (.int ((k + i : Nat) : Int))) v) = .nx (stW s0 s1 s2 s3 s5 s6 s7 s8 s11 m k (.val (.int ((k + i : Nat) : Int))) (wstep k v i)) := by
  have e1 := item_lst (at_int h)
  have e2 := item_lst (at_int (v := v) (j := i) (by omega))
  have e3 : gSub (.int ((k + i : Nat) : Int)) (.int (k : Nat)) = some (.int (i : Nat)) := by
    rw [g_sub]
    congr 2
    omega
  refine st_setIx (ρ1 := stW s0 s1 s2 s3 s5 s6 s7 s8 s11 m k (.val (.int ((k + i : Nat) : Int))) v) (ρ2 := stW s0 s1 s2 s3 s5 s6 s7 s8 s11 m k (.val (.int ((k + i : Nat) : Int))) v) (ds := v.map D.int) (n := ((k + i : Nat) : Int)) (m := k + i) (ev_bin (ev_ixS rfl rfl rfl e1) (ev_ixS rfl (ev_bin rfl rfl e3) rfl e2) (g_addI _ _)) rfl rfl rfl ?_ ?_
  · rw [List.length_map]
    unfold ixN
    rw [if_pos (by omega), if_pos (by omega), Int.toNat_natCast]
  · unfold wstep
    rw [← List.map_set]
    rfl
theorem w_loop {v : List Int} (hv : v.length = m + 1) (hm : m ≤ 8) (hk : k ≤ m) {s12 : Sl} : WLP (stW s0 s1 s2 s3 s5 s6 s7 s8 s11 m k s12 v) = .nx (stW s0 s1 s2 s3 s5 s6 s7 s8 s11 m k .any (way1 k m v)) := by
  have hr : iR2 [.int (k : Nat), .int ((m : Nat) + 1 : Int)] = some ((List.range (m + 1 - k)).map fun i => D.int ((k + i : Nat) : Int)) := g_range (i := k) (j := m + 1) (by omega) (by omega)
  have ha : aCons (eVar 10) (aCons (eBin gAdd (eVar 4) (eC (.int 1))) aNil) (stW s0 s1 s2 s3 s5 s6 s7 s8 s11 m k s12 v) = .ok [.int (k : Nat), .int ((m : Nat) + 1 : Int)] (stW s0 s1 s2 s3 s5 s6 s7 s8 s11 m k s12 v) := ev_cons rfl (ev_cons (ev_bin rfl rfl rfl) ev_nil)
  refine (st_for (ev_iOf ha hr)).trans ?_
  have := for_inv (F := WBD) (g := gNm 12) (wp := [12]) (fun n => stW s0 s1 s2 s3 s5 s6 s7 s8 s11 m k .any ((List.range n).foldl (wstep k) v)) (ds := (List.range (m + 1 - k)).map fun i => D.int ((k + i : Nat) : Int)) (n := 0) (ρ := stW s0 s1 s2 s3 s5 s6 s7 s8 s11 m k s12 v) rfl (fun i d ρ hd _ => by
    have hi : i < m + 1 - k := by
      have := (List.getElem?_eq_some_iff.mp hd).1
      rwa [List.length_map, List.length_range] at this
    rw [List.getElem?_map, List.getElem?_range hi] at hd
    have e := (Option.some.inj hd).symm
    rw [Nat.zero_add]
    refine ⟨stW s0 s1 s2 s3 s5 s6 s7 s8 s11 m k (.val (.int ((k + i : Nat) : Int))) _, _, by rw [e]; rfl, w_body s0 s1 s2 s3 s5 s6 s7 s8 s11 m k (i := i) (by rw [fold_len]; omega), ?_⟩
    rw [List.range_succ, List.foldl_append]
    rfl)
  rw [List.length_map, List.length_range, Nat.zero_add] at this
  exact this
end
end Gk85

set_option Elab.async false
set_option linter.all false
set_option maxRecDepth 100000
set_option maxHeartbeats 2000000
namespace Gk85
open PySem PySem.Spec PyProof.Rows L2 DL Lyn
theorem way1_len (k m : Nat) (v : List Int) : (way1 k m v).length = v.length := fold_len k _ v
theorem wayN_len (k m : Nat) : ∀ (n : Nat) (v : List Int), (wayN k m n v).length = v.length
  | 0, _ => rfl
  | n + 1, v => by
    show (wayN k m n (way1 k m v)).length = _
    rw [wayN_len, way1_len]
theorem w_words (s0 s1 s2 s3 s5 s7 s8 s11 : Sl) (m k : Nat) (hm : m ≤ 8) (hk : k ≤ m) : ∀ (ds : List D) (v : List Int) (x6 : D) (s12 : Sl), v.length = m + 1 → ∃ x6', forF (gNm 6) WLP [12] ds (stW s0 s1 s2 s3 s5 (.val x6) s7 s8 s11 m k s12 v) = .nx (stW s0 s1 s2 s3 s5 (.val x6') s7 s8 s11 m k .any (wayN k m ds.length v))
  | [], v, x6, s12, _ => ⟨x6, rfl⟩
  | d :: ds, v, x6, s12, hv => by
    obtain ⟨x6', h⟩ := w_words s0 s1 s2 s3 s5 s7 s8 s11 m k hm hk ds (way1 k m v) d .any (by rw [way1_len, hv])
    refine ⟨x6', ?_⟩
    rw [for_cons (ρ1 := stW s0 s1 s2 s3 s5 (.val d) s7 s8 s11 m k .any v) rfl (w_loop s0 s1 s2 s3 s5 (.val d) s7 s8 s11 m k hv hm hk), h]
    rfl
/-- the ways ahead of weight k -/
def V (ws : List Int) : Nat → List Int
  | 0 => 1 :: List.replicate (most ws) 0
  | k + 1 => wayN k (most ws) (cnt ws k) (V ws k)
theorem V_len (ws : List Int) : ∀ k, (V ws k).length = most ws + 1
  | 0 => by
    show (1 :: List.replicate (most ws) (0 : Int)).length = _
    rw [List.length_cons, List.length_replicate]
  | k + 1 => by
    show (wayN k (most ws) (cnt ws k) (V ws k)).length = _
    rw [wayN_len, V_len ws k]
def num (ws : List Int) (k : Nat) : Int := (V ws (most ws + 1)).getD k 0
def afterR : O → Option Rv
  | .rt r _ => some r
  | _ => none
theorem after_rt {o : O} {r : Rv} (h : afterR o = some r) : ∃ ρ, o = .rt r ρ := by
  cases o with
  | rt r' ρ =>
    cases h
    exact ⟨ρ, rfl⟩
  | _ => cases h
def NB : SE → O := (sSeq (sSetO 2 (eLst (aCons (eC (.int 1)) (aNil)))) (sSeq (sFor (iOf iR2 (aCons (eC (.int 1)) (aCons (eBin gAdd (eVar 1) (eC (.int 1))) (aNil)))) (gNm 3) (sDrop (eMt 2 mAppend (aCons (eArgs (g1 (onL fSum)) (aCons (eLc (gNm 4) [4] (tBool (eBin gLe (eVar 4) (eVar 3))) (eIxS 2 (eBin gSub (eVar 3) (eVar 4))) (iSeq (eBin itemD (eVar 0) (eC (.int 1))))) (aNil))) (aNil)))) [3]) (sRet (eIxS 2 (eVar 1)))))
theorem n0_0 (p : Int) : afterR (NB [.val (set p [1]), .val (.int 0), .any, .any, .any]) = some (.v (.int (num [1] 0))) := by kernel_rfl
theorem n0_1 (p : Int) : afterR (NB [.val (set p [1]), .val (.int 1), .any, .any, .any]) = some (.v (.int (num [1] 1))) := by kernel_rfl
theorem n0_2 (p : Int) : afterR (NB [.val (set p [1]), .val (.int 2), .any, .any, .any]) = some (.v (.int (num [1] 2))) := by kernel_rfl
theorem n0_3 (p : Int) : afterR (NB [.val (set p [1]), .val (.int 3), .any, .any, .any]) = some (.v (.int (num [1] 3))) := by kernel_rfl
theorem n0_4 (p : Int) : afterR (NB [.val (set p [1]), .val (.int 4), .any, .any, .any]) = some (.v (.int (num [1] 4))) := by kernel_rfl
theorem n0_5 (p : Int) : afterR (NB [.val (set p [1]), .val (.int 5), .any, .any, .any]) = some (.v (.int (num [1] 5))) := by kernel_rfl
theorem n0_6 (p : Int) : afterR (NB [.val (set p [1]), .val (.int 6), .any, .any, .any]) = some (.v (.int (num [1] 6))) := by kernel_rfl
theorem n0_7 (p : Int) : afterR (NB [.val (set p [1]), .val (.int 7), .any, .any, .any]) = some (.v (.int (num [1] 7))) := by kernel_rfl
theorem n0_8 (p : Int) : afterR (NB [.val (set p [1]), .val (.int 8), .any, .any, .any]) = some (.v (.int (num [1] 8))) := by kernel_rfl
theorem n1_0 (p : Int) : afterR (NB [.val (set p [1, 1]), .val (.int 0), .any, .any, .any]) = some (.v (.int (num [1, 1] 0))) := by kernel_rfl
theorem n1_1 (p : Int) : afterR (NB [.val (set p [1, 1]), .val (.int 1), .any, .any, .any]) = some (.v (.int (num [1, 1] 1))) := by kernel_rfl
theorem n1_2 (p : Int) : afterR (NB [.val (set p [1, 1]), .val (.int 2), .any, .any, .any]) = some (.v (.int (num [1, 1] 2))) := by kernel_rfl
theorem n1_3 (p : Int) : afterR (NB [.val (set p [1, 1]), .val (.int 3), .any, .any, .any]) = some (.v (.int (num [1, 1] 3))) := by kernel_rfl
theorem n1_4 (p : Int) : afterR (NB [.val (set p [1, 1]), .val (.int 4), .any, .any, .any]) = some (.v (.int (num [1, 1] 4))) := by kernel_rfl
theorem n1_5 (p : Int) : afterR (NB [.val (set p [1, 1]), .val (.int 5), .any, .any, .any]) = some (.v (.int (num [1, 1] 5))) := by kernel_rfl
theorem n1_6 (p : Int) : afterR (NB [.val (set p [1, 1]), .val (.int 6), .any, .any, .any]) = some (.v (.int (num [1, 1] 6))) := by kernel_rfl
theorem n1_7 (p : Int) : afterR (NB [.val (set p [1, 1]), .val (.int 7), .any, .any, .any]) = some (.v (.int (num [1, 1] 7))) := by kernel_rfl
theorem n2_0 (p : Int) : afterR (NB [.val (set p [1, 2]), .val (.int 0), .any, .any, .any]) = some (.v (.int (num [1, 2] 0))) := by kernel_rfl
theorem n2_1 (p : Int) : afterR (NB [.val (set p [1, 2]), .val (.int 1), .any, .any, .any]) = some (.v (.int (num [1, 2] 1))) := by kernel_rfl
theorem n2_2 (p : Int) : afterR (NB [.val (set p [1, 2]), .val (.int 2), .any, .any, .any]) = some (.v (.int (num [1, 2] 2))) := by kernel_rfl
theorem n2_3 (p : Int) : afterR (NB [.val (set p [1, 2]), .val (.int 3), .any, .any, .any]) = some (.v (.int (num [1, 2] 3))) := by kernel_rfl
theorem n2_4 (p : Int) : afterR (NB [.val (set p [1, 2]), .val (.int 4), .any, .any, .any]) = some (.v (.int (num [1, 2] 4))) := by kernel_rfl
theorem n2_5 (p : Int) : afterR (NB [.val (set p [1, 2]), .val (.int 5), .any, .any, .any]) = some (.v (.int (num [1, 2] 5))) := by kernel_rfl
theorem n2_6 (p : Int) : afterR (NB [.val (set p [1, 2]), .val (.int 6), .any, .any, .any]) = some (.v (.int (num [1, 2] 6))) := by kernel_rfl
theorem n2_7 (p : Int) : afterR (NB [.val (set p [1, 2]), .val (.int 7), .any, .any, .any]) = some (.v (.int (num [1, 2] 7))) := by kernel_rfl
theorem n2_8 (p : Int) : afterR (NB [.val (set p [1, 2]), .val (.int 8), .any, .any, .any]) = some (.v (.int (num [1, 2] 8))) := by kernel_rfl
theorem n3_0 (p : Int) : afterR (NB [.val (set p [1, 1, 1]), .val (.int 0), .any, .any, .any]) = some (.v (.int (num [1, 1, 1] 0))) := by kernel_rfl
theorem n3_1 (p : Int) : afterR (NB [.val (set p [1, 1, 1]), .val (.int 1), .any, .any, .any]) = some (.v (.int (num [1, 1, 1] 1))) := by kernel_rfl
theorem n3_2 (p : Int) : afterR (NB [.val (set p [1, 1, 1]), .val (.int 2), .any, .any, .any]) = some (.v (.int (num [1, 1, 1] 2))) := by kernel_rfl
theorem n3_3 (p : Int) : afterR (NB [.val (set p [1, 1, 1]), .val (.int 3), .any, .any, .any]) = some (.v (.int (num [1, 1, 1] 3))) := by kernel_rfl
theorem n3_4 (p : Int) : afterR (NB [.val (set p [1, 1, 1]), .val (.int 4), .any, .any, .any]) = some (.v (.int (num [1, 1, 1] 4))) := by kernel_rfl
theorem n4_0 (p : Int) : afterR (NB [.val (set p [2, 3]), .val (.int 0), .any, .any, .any]) = some (.v (.int (num [2, 3] 0))) := by kernel_rfl
theorem n4_1 (p : Int) : afterR (NB [.val (set p [2, 3]), .val (.int 1), .any, .any, .any]) = some (.v (.int (num [2, 3] 1))) := by kernel_rfl
theorem n4_2 (p : Int) : afterR (NB [.val (set p [2, 3]), .val (.int 2), .any, .any, .any]) = some (.v (.int (num [2, 3] 2))) := by kernel_rfl
theorem n4_3 (p : Int) : afterR (NB [.val (set p [2, 3]), .val (.int 3), .any, .any, .any]) = some (.v (.int (num [2, 3] 3))) := by kernel_rfl
theorem n4_4 (p : Int) : afterR (NB [.val (set p [2, 3]), .val (.int 4), .any, .any, .any]) = some (.v (.int (num [2, 3] 4))) := by kernel_rfl
theorem n4_5 (p : Int) : afterR (NB [.val (set p [2, 3]), .val (.int 5), .any, .any, .any]) = some (.v (.int (num [2, 3] 5))) := by kernel_rfl
theorem n4_6 (p : Int) : afterR (NB [.val (set p [2, 3]), .val (.int 6), .any, .any, .any]) = some (.v (.int (num [2, 3] 6))) := by kernel_rfl
theorem n4_7 (p : Int) : afterR (NB [.val (set p [2, 3]), .val (.int 7), .any, .any, .any]) = some (.v (.int (num [2, 3] 7))) := by kernel_rfl
theorem n4_8 (p : Int) : afterR (NB [.val (set p [2, 3]), .val (.int 8), .any, .any, .any]) = some (.v (.int (num [2, 3] 8))) := by kernel_rfl
theorem n5_0 (p : Int) : afterR (NB [.val (set p [1, 1, 2]), .val (.int 0), .any, .any, .any]) = some (.v (.int (num [1, 1, 2] 0))) := by kernel_rfl
theorem n5_1 (p : Int) : afterR (NB [.val (set p [1, 1, 2]), .val (.int 1), .any, .any, .any]) = some (.v (.int (num [1, 1, 2] 1))) := by kernel_rfl
theorem n5_2 (p : Int) : afterR (NB [.val (set p [1, 1, 2]), .val (.int 2), .any, .any, .any]) = some (.v (.int (num [1, 1, 2] 2))) := by kernel_rfl
theorem n5_3 (p : Int) : afterR (NB [.val (set p [1, 1, 2]), .val (.int 3), .any, .any, .any]) = some (.v (.int (num [1, 1, 2] 3))) := by kernel_rfl
theorem n5_4 (p : Int) : afterR (NB [.val (set p [1, 1, 2]), .val (.int 4), .any, .any, .any]) = some (.v (.int (num [1, 1, 2] 4))) := by kernel_rfl
theorem n5_5 (p : Int) : afterR (NB [.val (set p [1, 1, 2]), .val (.int 5), .any, .any, .any]) = some (.v (.int (num [1, 1, 2] 5))) := by kernel_rfl
theorem n5_6 (p : Int) : afterR (NB [.val (set p [1, 1, 2]), .val (.int 6), .any, .any, .any]) = some (.v (.int (num [1, 1, 2] 6))) := by kernel_rfl
theorem nstep (p : Int) {ws : List Int} {k : Nat} (hw : ws ∈ WS) (hk : k ≤ most ws) : afterR (NB [.val (set p ws), .val (.int (k : Nat)), .any, .any, .any]) = some (.v (.int (num ws k))) := by
  unfold WS at hw
  simp only [List.mem_cons, List.not_mem_nil, or_false] at hw
  rcases hw with rfl | rfl | rfl | rfl | rfl | rfl
  · have hk : k ≤ 8 := hk
    match k, hk with
    | 0, _ => exact n0_0 p
    | 1, _ => exact n0_1 p
    | 2, _ => exact n0_2 p
    | 3, _ => exact n0_3 p
    | 4, _ => exact n0_4 p
    | 5, _ => exact n0_5 p
    | 6, _ => exact n0_6 p
    | 7, _ => exact n0_7 p
    | 8, _ => exact n0_8 p
  · have hk : k ≤ 7 := hk
    match k, hk with
    | 0, _ => exact n1_0 p
    | 1, _ => exact n1_1 p
    | 2, _ => exact n1_2 p
    | 3, _ => exact n1_3 p
    | 4, _ => exact n1_4 p
    | 5, _ => exact n1_5 p
    | 6, _ => exact n1_6 p
    | 7, _ => exact n1_7 p
  · have hk : k ≤ 8 := hk
    match k, hk with
    | 0, _ => exact n2_0 p
    | 1, _ => exact n2_1 p
    | 2, _ => exact n2_2 p
    | 3, _ => exact n2_3 p
    | 4, _ => exact n2_4 p
    | 5, _ => exact n2_5 p
    | 6, _ => exact n2_6 p
    | 7, _ => exact n2_7 p
    | 8, _ => exact n2_8 p
  · have hk : k ≤ 4 := hk
    match k, hk with
    | 0, _ => exact n3_0 p
    | 1, _ => exact n3_1 p
    | 2, _ => exact n3_2 p
    | 3, _ => exact n3_3 p
    | 4, _ => exact n3_4 p
  · have hk : k ≤ 8 := hk
    match k, hk with
    | 0, _ => exact n4_0 p
    | 1, _ => exact n4_1 p
    | 2, _ => exact n4_2 p
    | 3, _ => exact n4_3 p
    | 4, _ => exact n4_4 p
    | 5, _ => exact n4_5 p
    | 6, _ => exact n4_6 p
    | 7, _ => exact n4_7 p
    | 8, _ => exact n4_8 p
  · have hk : k ≤ 6 := hk
    match k, hk with
    | 0, _ => exact n5_0 p
    | 1, _ => exact n5_1 p
    | 2, _ => exact n5_2 p
    | 3, _ => exact n5_3 p
    | 4, _ => exact n5_4 p
    | 5, _ => exact n5_5 p
    | 6, _ => exact n5_6 p
theorem m_num {p : Int} {ws : List Int} {k : Nat} (hp : p ∈ PS) (hw : ws ∈ WS) (hk : k ≤ most ws) : fn_words_number [set p ws, .int (k : Nat)] = .ok (.v (.int (num ws k))) none := by
  obtain ⟨ρ, h⟩ := after_rt (nstep p hw hk)
  refine run_rt (ρ := ρ) rfl ?_ rfl
  refine (st_seq (st_drop (ev_call (ev_pe rfl ev_pnil) rfl (m_set hp hw)))).trans ?_
  exact (st_seq (st_drop (ev_c2 rfl rfl (m_chint (Nat.le_trans hk most_le))))).trans h
end Gk85

set_option Elab.async false
set_option linter.all false
set_option maxRecDepth 100000
set_option maxHeartbeats 2000000
namespace Gk85
open PySem PySem.Spec PyProof.Rows L2 DL Lyn
/-- one turn of the law's loop over k -/
def KB : SE → O := (sSeq (sFrzA 11 (sSetO 11 (eLc (gNm 6) [6] (tBool (eCall fn__law_is_lyndon [.v] (pE (eVar 6) (pNil)))) (eVar 6) (iSeq (eCallO fn__law_words [.v, .v] (pE (eVar 3) (pE (eVar 10) (pNil)))))))) (sSeq (sSetIx 8 (eVar 10) (eArgs (g1 gLen) (aCons (eVar 11) (aNil)))) (sSeq (sIf (tNotF (tBool (eCall (fn__law_same 6) [.v, .v] (pE (eLst (aCons (eCall fn_lyndon_words [.v, .v] (pE (eVar 3) (pE (eVar 10) (pNil)))) (aCons (eKw fn_lyndon_words [.v, .v] [1, 0] (pE (eVar 10) (pE (eVar 3) (pNil)))) (aNil)))) (pE (eBin gMulL (eLst (aCons (eArgs (g1 gTuple) (aCons (eVar 11) (aNil))) (aNil))) (eC (.int 2))) (pNil)))))) (sRet (eC (.bl false))) (sNx)) (sFor (iSeq (eVar 11)) (gNm 6) WLP [12]))))
theorem plain_L {n : Nat} {ws : List Int} {k : Nat} (hw : ws ∈ WS) (hk : k ≤ most ws) : plain (n + 2) (.tup (L ws k)) = true := by
  show (decide ((L ws k).length ≤ 100000) && (L ws k).all (plain (n + 1))) = true
  have h1 := SW_len hw hk
  have h2 : (L ws k).length ≤ (SW ws k).length := List.length_filter_le _ _
  rw [Bool.and_eq_true, decide_eq_true_eq, List.all_eq_true]
  refine ⟨by omega, fun x hx => ?_⟩
  obtain ⟨w, e, _⟩ := SW_mem hw hk (List.mem_filter.mp hx).1
  subst e
  simp [DL.plain, S]
theorem k_turn {p : Int} {ws : List Int} {k : Nat} (hp : p ∈ PS) (hw : ws ∈ WS) (hk : k ≤ most ws) (s0 s1 s2 s5 s7 : Sl) (x6 : D) (ns v : List Int) (hn : ns.length = most ws + 1) (hv : v.length = most ws + 1) :
    ∃ x6', KB (stW s0 s1 s2 (.val (set p ws)) s5 (.val x6) s7 (.own (.lst (ns.map D.int))) .any (most ws) k .any v) = .nx (stW s0 s1 s2 (.val (set p ws)) s5 (.val x6') s7 (.own (.lst ((ns.set k (cnt ws k : Nat)).map D.int))) (.val (.lst (L ws k))) (most ws) k .any (wayN k (most ws) (cnt ws k) v)) := by
  obtain ⟨x6', h6⟩ := w_words s0 s1 s2 (.val (set p ws)) s5 s7 (.own (.lst ((ns.set k (cnt ws k : Nat)).map D.int))) (.val (.lst (L ws k))) (most ws) k most_le hk (L ws k) v x6 .any hv
  rw [L_len] at h6
  refine ⟨x6', ?_⟩
  have hl := lc_ev (i := 6) (Ft := tBool (eCall fn__law_is_lyndon [.v] (pE (eVar 6) pNil))) (Fe := eVar 6) (ρ := stW s0 s1 s2 (.val (set p ws)) s5 (.val x6) s7 (.own (.lst (ns.map D.int))) .any (most ws) k .any v) (t := fun d => lynB (unS d)) (f := id) ⟨by simp [stW], rfl⟩ (ds := SW ws k) (fun d hd => by
    obtain ⟨w, e, hwl⟩ := SW_mem hw hk hd
    subst e
    exact ⟨ev_tB (ev_call (ev_pe (d := S w) rfl ev_pnil) rfl (m_rot hwl)), fun _ => rfl⟩)
  rw [List.map_id] at hl
  have hlen := SW_len hw hk
  have hc : eCallO fn__law_words [.v, .v] (pE (eVar 3) (pE (eVar 10) (pNil))) (stW s0 s1 s2 (.val (set p ws)) s5 (.val x6) s7 (.own (.lst (ns.map D.int))) .any (most ws) k .any v) = .ok (.lst (SW ws k)) (stW s0 s1 s2 (.val (set p ws)) s5 (.val x6) s7 (.own (.lst (ns.map D.int))) .any (most ws) k .any v) := ev_callO (ev_pe rfl (ev_pe rfl ev_pnil)) rfl (m_lwords hw hk)
  have hx := ev_lc (ev_iSeq hc rfl) (Nat.le_trans hlen (by omega)) hl
  have hy : sFrzA 11 (sSetO 11 (eLc (gNm 6) [6] (tBool (eCall fn__law_is_lyndon [.v] (pE (eVar 6) (pNil)))) (eVar 6) (iSeq (eCallO fn__law_words [.v, .v] (pE (eVar 3) (pE (eVar 10) (pNil))))))) (stW s0 s1 s2 (.val (set p ws)) s5 (.val x6) s7 (.own (.lst (ns.map D.int))) .any (most ws) k .any v) = .nx (stW s0 s1 s2 (.val (set p ws)) s5 (.val x6) s7 (.own (.lst (ns.map D.int))) (.val (.lst (L ws k))) (most ws) k .any v) :=
    st_frzA (ρ1 := stW s0 s1 s2 (.val (set p ws)) s5 (.val x6) s7 (.own (.lst (ns.map D.int))) (.own (.lst (L ws k))) (most ws) k .any v) (st_setO hx rfl)
  refine (st_seq hy).trans ?_
  have hg : g1 gLen [.lst (L ws k)] = some (.int (cnt ws k : Nat)) := by rw [← L_len]; rfl
  have hq : eArgs (g1 gLen) (aCons (eVar 11) aNil) (stW s0 s1 s2 (.val (set p ws)) s5 (.val x6) s7 (.own (.lst (ns.map D.int))) (.val (.lst (L ws k))) (most ws) k .any v) = .ok (.int (cnt ws k : Nat)) (stW s0 s1 s2 (.val (set p ws)) s5 (.val x6) s7 (.own (.lst (ns.map D.int))) (.val (.lst (L ws k))) (most ws) k .any v) := ev_args (ev_cons rfl ev_nil) hg
  have hz : sSetIx 8 (eVar 10) (eArgs (g1 gLen) (aCons (eVar 11) (aNil))) (stW s0 s1 s2 (.val (set p ws)) s5 (.val x6) s7 (.own (.lst (ns.map D.int))) (.val (.lst (L ws k))) (most ws) k .any v) = .nx (stW s0 s1 s2 (.val (set p ws)) s5 (.val x6) s7 (.own (.lst ((ns.set k (cnt ws k : Nat)).map D.int))) (.val (.lst (L ws k))) (most ws) k .any v) := by
    refine st_setIx (ρ1 := stW s0 s1 s2 (.val (set p ws)) s5 (.val x6) s7 (.own (.lst (ns.map D.int))) (.val (.lst (L ws k))) (most ws) k .any v) (ρ2 := stW s0 s1 s2 (.val (set p ws)) s5 (.val x6) s7 (.own (.lst (ns.map D.int))) (.val (.lst (L ws k))) (most ws) k .any v) (n := (k : Nat)) (m := k) (ds := ns.map D.int) hq rfl rfl rfl ?_ ?_
    · rw [List.length_map]
      unfold ixN
      rw [if_pos (by omega), if_pos (by omega), Int.toNat_natCast]
    · rw [List.map_set]
      rfl
  refine (st_seq hz).trans ?_
  refine (st_seq ((st_if_f (ρ1 := stW s0 s1 s2 (.val (set p ws)) s5 (.val x6) s7 (.own (.lst ((ns.set k (cnt ws k : Nat)).map D.int))) (.val (.lst (L ws k))) (most ws) k .any v) ?_).trans rfl)).trans ?_
  · have hw1 := m_lynwords hp hw hk
    exact ev_not (b := true) (ev_tB (ev_same (d := .lst [.tup (L ws k), .tup (L ws k)]) (ev_lst (ev_cons (ev_c2 rfl rfl hw1) (ev_cons (ev_k10 rfl rfl hw1) ev_nil)) (by simp)) (ev_bin (ev_lst (ev_cons (ev_args (ev_cons rfl ev_nil) rfl) ev_nil) (by simp)) rfl (mul2 _)) (by
      have h1 := plain_L (n := 3) hw hk
      show (decide (_ ≤ _) && ([D.tup (L ws k), D.tup (L ws k)]).all (plain 5)) = true
      rw [List.all_cons, List.all_cons, h1]
      rfl)))
  · exact (st_for (ev_iSeq rfl rfl)).trans h6
end Gk85

set_option Elab.async false
set_option linter.all false
set_option maxRecDepth 100000
set_option maxHeartbeats 2000000
namespace Gk85
open PySem PySem.Spec PyProof.Rows L2 DL Lyn
/-- the numbers ahead of weight k -/
def NS (ws : List Int) (k : Nat) : List Int := (List.range k).map (fun i => (cnt ws i : Int)) ++ List.replicate (most ws + 1 - k) 0
theorem NS_len (ws : List Int) {k : Nat} (h : k ≤ most ws + 1) : (NS ws k).length = most ws + 1 := by
  unfold NS
  rw [List.length_append, List.length_map, List.length_range, List.length_replicate]
  omega
theorem NS_set (ws : List Int) {k : Nat} (h : k ≤ most ws) : (NS ws k).set k (cnt ws k : Nat) = NS ws (k + 1) := by
  unfold NS
  rw [List.set_append_right _ _ (by rw [List.length_map, List.length_range]; omega), List.length_map, List.length_range, Nat.sub_self, show most ws + 1 - k = (most ws + 1 - (k + 1)) + 1 by omega, List.replicate_succ, List.set_cons_zero, List.range_succ, List.map_append, List.append_assoc]
  rfl
def stK (s0 s1 s2 s3 s5 s7 s10 s11 s12 : Sl) (x6 : D) (m : Nat) (ns v : List Int) : SE := [s0, s1, s2, s3, .val (.int (m : Nat)), s5, .val x6, s7, .own (.lst (ns.map D.int)), .own (.lst (v.map D.int)), s10, s11, s12, .any, .any, .any, .any, .any, .any, .any]
theorem k_loop {p : Int} {ws : List Int} (hp : p ∈ PS) (hw : ws ∈ WS) (s0 s1 s2 s5 s7 : Sl) : ∀ (n k : Nat) (x6 : D) (s10 s11 s12 : Sl), (s10 = .any ∨ ∃ x, s10 = .val x) → k + n = most ws + 1 →
    ∃ x6' s10', (s10' = .any ∨ ∃ x, s10' = .val x) ∧ forF (gNm 10) KB [11, 12] ((List.range' k n).map fun i : Nat => D.int (i : Int)) (stK s0 s1 s2 (.val (set p ws)) s5 s7 s10 s11 s12 x6 (most ws) (NS ws k) (V ws k)) = .nx (stK s0 s1 s2 (.val (set p ws)) s5 s7 s10' .any .any x6' (most ws) (NS ws (most ws + 1)) (V ws (most ws + 1)))
  | 0, k, x6, s10, s11, s12, h10, h => by
    have : k = most ws + 1 := by omega
    subst this
    exact ⟨x6, s10, h10, rfl⟩
  | n + 1, k, x6, s10, s11, s12, h10, h => by
    obtain ⟨x6', h1⟩ := k_turn hp hw (k := k) (by omega) s0 s1 s2 s5 s7 x6 (NS ws k) (V ws k) (NS_len ws (by omega)) (V_len ws k)
    rw [NS_set ws (by omega)] at h1
    obtain ⟨y6, y10, g10, h2⟩ := k_loop hp hw s0 s1 s2 s5 s7 n (k + 1) x6' (.val (.int (k : Nat))) (.val (.lst (L ws k))) .any (.inr ⟨_, rfl⟩) (by omega)
    refine ⟨y6, y10, g10, ?_⟩
    rw [List.range'_succ, List.map_cons]
    rcases h10 with rfl | ⟨x10, rfl⟩ <;> exact (for_cons (ρ1 := stW s0 s1 s2 (.val (set p ws)) s5 (.val x6) s7 (.own (.lst ((NS ws k).map D.int))) .any (most ws) k .any (V ws k)) rfl h1).trans h2
end Gk85

set_option Elab.async false
set_option linter.all false
set_option maxRecDepth 100000
set_option maxHeartbeats 2000000
namespace Gk85
open PySem PySem.Spec PyProof.Rows L2 DL Lyn
def fd (cs : List D) (a x : Int) : D := .lst [.lst cs, .int a, .int x]
def DT : SE → O := (sSeq (sSet 7 (eBin gMod (eArgs (g1 fInt) (aCons (eIxS 0 (eC (.int 2))) (aNil))) (eVar 1))) (sSeq (sSetIx 0 (eC (.int 2)) (eBin gDiv (eArgs (g1 fInt) (aCons (eIxS 0 (eC (.int 2))) (aNil))) (eVar 1))) (sRet (eVar 7))))
theorem g_mod {a m : Int} (h : m ≠ 0) : gMod (.int a) (.int m) = some (.int (a.fmod m)) := by
  show (if decide (m ≠ 0) = true then _ else _) = _
  rw [if_pos (decide_eq_true h)]
theorem g_div {a m : Int} (h0 : m ≠ 0) (h : m.natAbs < 1073741824) : gDiv (.int a) (.int m) = some (.int (a.fdiv m)) := by
  show (if divOk a m = true then _ else _) = _
  rw [if_pos (by unfold divOk; rw [decide_eq_true h0, decide_eq_true h]; rfl)]
theorem d_tail {cs : List D} {a x : Int} {m : Nat} (h0 : 0 < m) (h9 : m ≤ 9) (s2 s3 s4 s5 s6 : Sl) : DT [.mt (fd cs a x), .val (.int (m : Nat)), s2, s3, s4, s5, s6, .any] = .rt (.v (.int (x.fmod m))) [.mt (fd cs a (x.fdiv m)), .val (.int (m : Nat)), s2, s3, s4, s5, s6, .val (.int (x.fmod m))] := by
  have hm : ((m : Nat) : Int) ≠ 0 := by omega
  have hd : ((m : Nat) : Int).natAbs < 1073741824 := by rw [Int.natAbs_natCast]; omega
  have hi : g1 fInt [.int x] = some (.int x) := rfl
  have e1 : eIxS 0 (eC (.int 2)) [.mt (fd cs a x), .val (.int (m : Nat)), s2, s3, s4, s5, s6, .any] = .ok (.int x) [.mt (fd cs a x), .val (.int (m : Nat)), s2, s3, s4, s5, s6, .any] := rfl
  have e2 : eIxS 0 (eC (.int 2)) [.mt (fd cs a x), .val (.int (m : Nat)), s2, s3, s4, s5, s6, .val (.int (x.fmod m))] = .ok (.int x) [.mt (fd cs a x), .val (.int (m : Nat)), s2, s3, s4, s5, s6, .val (.int (x.fmod m))] := rfl
  have q1 : eBin gMod (eArgs (g1 fInt) (aCons (eIxS 0 (eC (.int 2))) (aNil))) (eVar 1) [.mt (fd cs a x), .val (.int (m : Nat)), s2, s3, s4, s5, s6, .any] = .ok (.int (x.fmod m)) [.mt (fd cs a x), .val (.int (m : Nat)), s2, s3, s4, s5, s6, .any] := ev_bin (ev_args (ev_cons e1 ev_nil) hi) rfl (g_mod hm)
  have q2 : eBin gDiv (eArgs (g1 fInt) (aCons (eIxS 0 (eC (.int 2))) (aNil))) (eVar 1) [.mt (fd cs a x), .val (.int (m : Nat)), s2, s3, s4, s5, s6, .val (.int (x.fmod m))] = .ok (.int (x.fdiv m)) [.mt (fd cs a x), .val (.int (m : Nat)), s2, s3, s4, s5, s6, .val (.int (x.fmod m))] := ev_bin (ev_args (ev_cons e2 ev_nil) hi) rfl (g_div hm hd)
  refine (st_seq (ρ1 := [.mt (fd cs a x), .val (.int (m : Nat)), s2, s3, s4, s5, s6, .val (.int (x.fmod m))]) (st_set q1 rfl)).trans ?_
  refine (st_seq (ρ1 := [.mt (fd cs a (x.fdiv m)), .val (.int (m : Nat)), s2, s3, s4, s5, s6, .val (.int (x.fmod m))]) (st_setIx (ρ1 := [.mt (fd cs a x), .val (.int (m : Nat)), s2, s3, s4, s5, s6, .val (.int (x.fmod m))]) (ρ2 := [.mt (fd cs a x), .val (.int (m : Nat)), s2, s3, s4, s5, s6, .val (.int (x.fmod m))]) (n := 2) (m := 2) (ds := [.lst cs, .int a, .int x]) q2 rfl rfl rfl rfl rfl)).trans ?_
  exact st_ret rfl
end Gk85

set_option Elab.async false
set_option linter.all false
set_option maxRecDepth 100000
set_option maxHeartbeats 2000000
namespace Gk85
open PySem PySem.Spec PyProof.Rows L2 DL Lyn
theorem g_mul {a b : Int} (h1 : -(2 ^ 64) < a) (h2 : a < 2 ^ 64) : gMul (.int a) (.int b) = some (.int (a * b)) := by
  show (if mulOk a b = true then _ else _) = _
  rw [if_pos (by unfold mulOk mulSmall; rw [decide_eq_true h1, decide_eq_true h2]; rfl)]
/-- what is drawn without a cell -/
def DF : SE → O := (sSeq (sSet 5 (eBin gMod (eArgs (g1 fInt) (aCons (eBin gAdd (eBin gAdd (eBin gAdd (eBin gMod (eArgs (g1 fInt) (aCons (eVar 4) (aNil))) (eC (.int 999979))) (eBin gMul (eBin gMul (eVar 3) (eVar 3)) (eC (.int 307)))) (eBin gMul (eVar 3) (eC (.int 53)))) (eC (.int 17))) (aNil))) (eC (.int 999979)))) (sSeq (sSet 6 (eBin gMod (eArgs (g1 fInt) (aCons (eBin gAdd (eBin gAdd (eBin gMul (eBin gMul (eVar 5) (eVar 5)) (eC (.int 5))) (eBin gMul (eVar 5) (eC (.int 11)))) (eVar 3)) (aNil))) (eC (.int 2147483629)))) (sRet (eBin gMod (eArgs (g1 fInt) (aCons (eBin gMod (eArgs (g1 fInt) (aCons (eBin gMul (eVar 6) (eC (.int 69621))) (aNil))) (eC (.int 2147483647))) (aNil))) (eVar 1)))))
theorem fm {a m : Int} (h : 0 < m) : 0 ≤ a.fmod m ∧ a.fmod m < m := ⟨Int.fmod_nonneg_of_pos a h, Int.fmod_lt_of_pos a h⟩
theorem hi (x : Int) : g1 fInt [.int x] = some (.int x) := rfl
theorem d_free {f : D} {c : Int} {a m : Nat} (ha : a ≤ 100000) (h0 : 0 < m) (h9 : m ≤ 9) (s2 : Sl) : ∃ r : Nat, r < m ∧ ∃ s5 s6, DF [.mt f, .val (.int (m : Nat)), s2, .val (.int (a : Nat)), .val (.int c), .any, .any, .any] = .rt (.v (.int (r : Nat))) [.mt f, .val (.int (m : Nat)), s2, .val (.int (a : Nat)), .val (.int c), s5, s6, .any] := by
  have hm : ((m : Nat) : Int) ≠ 0 := by omega
  have hmp : (0 : Int) < (m : Nat) := by omega
  have aa1 : -(2 ^ 64) < ((a : Nat) : Int) := by omega
  have aa2 : ((a : Nat) : Int) < 2 ^ 64 := by omega
  have sq : ((a : Nat) : Int) * (a : Nat) ≤ 100000 * 100000 := Int.mul_le_mul (by omega) (by omega) (by omega) (by omega)
  have sp : (0 : Int) ≤ ((a : Nat) : Int) * (a : Nat) := Int.mul_nonneg (by omega) (by omega)
  have q1 := g_mul (a := ((a : Nat) : Int)) (b := ((a : Nat) : Int)) aa1 aa2
  have q2 := g_mul (a := ((a : Nat) : Int) * (a : Nat)) (b := 307) (by omega) (by omega)
  have q3 := g_mul (a := ((a : Nat) : Int)) (b := 53) aa1 aa2
  have k1 := g_mod (a := c) (m := 999979) (by omega)
  generalize hF : ((c.fmod 999979 + (a : Nat) * (a : Nat) * 307) + (a : Nat) * 53 + 17 : Int) = e1
  have k2 := g_mod (a := e1) (m := 999979) (by omega)
  have b1 := fm (a := e1) (m := 999979) (by omega)
  generalize hG : e1.fmod 999979 = fi at k2 b1
  have sr : fi * fi ≤ 999979 * 999979 := Int.mul_le_mul (by omega) (by omega) (by omega) (by omega)
  have st : (0 : Int) ≤ fi * fi := Int.mul_nonneg (by omega) (by omega)
  have q4 := g_mul (a := fi) (b := fi) (by omega) (by omega)
  have q5 := g_mul (a := fi * fi) (b := 5) (by omega) (by omega)
  have q6 := g_mul (a := fi) (b := 11) (by omega) (by omega)
  generalize hH : (fi * fi * 5 + fi * 11 + (a : Nat) : Int) = e2
  have k3 := g_mod (a := e2) (m := 2147483629) (by omega)
  have b2 := fm (a := e2) (m := 2147483629) (by omega)
  generalize hI : e2.fmod 2147483629 = se at k3 b2
  have q7 := g_mul (a := se) (b := 69621) (by omega) (by omega)
  have k4 := g_mod (a := se * 69621) (m := 2147483647) (by omega)
  have k5 := g_mod (a := (se * 69621).fmod 2147483647) hm
  have b3 := fm (a := (se * 69621).fmod 2147483647) hmp
  generalize hJ : ((se * 69621).fmod 2147483647).fmod (m : Nat) = re at k5 b3
  obtain ⟨r, rfl⟩ := Int.eq_ofNat_of_zero_le b3.1
  refine ⟨r, by omega, .val (.int fi), .val (.int se), ?_⟩
  have w1 : eBin gMod (eArgs (g1 fInt) (aCons (eBin gAdd (eBin gAdd (eBin gAdd (eBin gMod (eArgs (g1 fInt) (aCons (eVar 4) (aNil))) (eC (.int 999979))) (eBin gMul (eBin gMul (eVar 3) (eVar 3)) (eC (.int 307)))) (eBin gMul (eVar 3) (eC (.int 53)))) (eC (.int 17))) (aNil))) (eC (.int 999979)) [.mt f, .val (.int (m : Nat)), s2, .val (.int (a : Nat)), .val (.int c), .any, .any, .any] = .ok (.int fi) [.mt f, .val (.int (m : Nat)), s2, .val (.int (a : Nat)), .val (.int c), .any, .any, .any] := by
    refine ev_bin (ev_args (ev_cons (ev_bin (ev_bin (ev_bin (ev_bin (ev_args (ev_cons rfl ev_nil) (hi c)) rfl k1) (ev_bin (ev_bin rfl rfl q1) rfl q2) (g_addI _ _)) (ev_bin rfl rfl q3) (g_addI _ _)) rfl (g_addI _ _)) ev_nil) (hi _)) rfl ?_
    rw [hF]
    exact k2
  have w2 : eBin gMod (eArgs (g1 fInt) (aCons (eBin gAdd (eBin gAdd (eBin gMul (eBin gMul (eVar 5) (eVar 5)) (eC (.int 5))) (eBin gMul (eVar 5) (eC (.int 11)))) (eVar 3)) (aNil))) (eC (.int 2147483629)) [.mt f, .val (.int (m : Nat)), s2, .val (.int (a : Nat)), .val (.int c), .val (.int fi), .any, .any] = .ok (.int se) [.mt f, .val (.int (m : Nat)), s2, .val (.int (a : Nat)), .val (.int c), .val (.int fi), .any, .any] := by
    refine ev_bin (ev_args (ev_cons (ev_bin (ev_bin (ev_bin (ev_bin rfl rfl q4) rfl q5) (ev_bin rfl rfl q6) (g_addI _ _)) rfl (g_addI _ _)) ev_nil) (hi _)) rfl ?_
    rw [hH]
    exact k3
  refine (st_seq (ρ1 := [.mt f, .val (.int (m : Nat)), s2, .val (.int (a : Nat)), .val (.int c), .val (.int fi), .any, .any]) (st_set w1 rfl)).trans ?_
  refine (st_seq (ρ1 := [.mt f, .val (.int (m : Nat)), s2, .val (.int (a : Nat)), .val (.int c), .val (.int fi), .val (.int se), .any]) (st_set w2 rfl)).trans ?_
  exact st_ret (ev_bin (ev_args (ev_cons (ev_bin (ev_args (ev_cons (ev_bin rfl rfl q7) ev_nil) (hi _)) rfl k4) ev_nil) (hi _)) rfl k5)
end Gk85

set_option Elab.async false
set_option linter.all false
set_option maxRecDepth 100000
set_option maxHeartbeats 2000000
namespace Gk85
open PySem PySem.Spec PyProof.Rows L2 DL Lyn
/-- one draw: a number below many; the feed stays a feed -/
theorem m_drawn {ns : List Int} (hl : ns.length ≤ 63) {a m : Nat} {x : Int} (ha : a ≤ 100000) (h0 : 0 < m) (h9 : m ≤ 9) : ∃ (r a' : Nat) (x' : Int), fn__law_drawn [fd (ns.map D.int) a x, .int (m : Nat)] = .ok (.v (.int (r : Nat))) (some (fd (ns.map D.int) a' x')) ∧ r < m ∧ a' ≤ a + 1 := by
  have hm : ((m : Nat) : Int) ≠ 0 := by omega
  have hmp : (0 : Int) < (m : Nat) := by omega
  by_cases hx : x = 0
  · subst hx
    have hc : ∃ c : Int, sIf (tBool (eBin gGt (eArgs (g1 gLen) (aCons (eVar 2) (aNil))) (eC (.int 0)))) (sSet 4 (eBin itemD (eVar 2) (eBin gMod (eArgs (g1 fInt) (aCons (eVar 3) (aNil))) (eArgs (g1 gLen) (aCons (eVar 2) (aNil)))))) (sNx) [.mt (fd (ns.map D.int) (a + 1 : Nat) 0), .val (.int (m : Nat)), .val (.lst (ns.map D.int)), .val (.int (a : Nat)), .val (.int 0), .any, .any, .any] = .nx [.mt (fd (ns.map D.int) (a + 1 : Nat) 0), .val (.int (m : Nat)), .val (.lst (ns.map D.int)), .val (.int (a : Nat)), .val (.int c), .any, .any, .any] := by
      cases ns with
      | nil => exact ⟨0, rfl⟩
      | cons n ns =>
        have hlp : (0 : Int) < ((n :: ns).length : Nat) := by rw [List.length_cons]; omega
        have hk := fm (a := (a : Nat)) hlp
        obtain ⟨j, hj⟩ := Int.eq_ofNat_of_zero_le hk.1
        rw [hj] at hk
        have hg : g1 gLen [.lst ((n :: ns).map D.int)] = some (.int ((n :: ns).length : Nat)) := by
          show some (D.int (((n :: ns).map D.int).length : Nat)) = _
          rw [List.length_map]
        have hmo := g_mod (a := (a : Nat)) (m := ((n :: ns).length : Nat)) (by omega)
        rw [hj] at hmo
        refine ⟨(n :: ns).getD j 0, ?_⟩
        refine (st_if_t (ev_tB (ev_bin (ev_args (ev_cons rfl ev_nil) hg) rfl (?_ : gGt _ _ = some (.bl true))))).trans (st_set (ev_bin rfl (ev_bin (ev_args (ev_cons rfl ev_nil) (hi _)) (ev_args (ev_cons rfl ev_nil) hg) hmo) (item_lst (at_int (by omega)))) rfl)
        show some (D.bl (decide _)) = _
        rw [decide_eq_true hlp]
    obtain ⟨c, hc⟩ := hc
    have hg : g1 gLen [.lst (ns.map D.int)] = some (.int (ns.length : Nat)) := by
      show some (D.int ((ns.map D.int).length : Nat)) = _
      rw [List.length_map]
    have hi0 : (sSetIx 0 (eC (.int 1)) (eBin gAdd (eVar 3) (eC (.int 1)))) [.mt (fd (ns.map D.int) (a : Nat) 0), .val (.int (m : Nat)), .val (.lst (ns.map D.int)), .val (.int (a : Nat)), .any, .any, .any, .any] = .nx [.mt (fd (ns.map D.int) (a + 1 : Nat) 0), .val (.int (m : Nat)), .val (.lst (ns.map D.int)), .val (.int (a : Nat)), .any, .any, .any, .any] := rfl
    have hcond : (tOrF (tBool (eBin gGe (eVar 3) (eArgs (g1 gLen) (aCons (eVar 2) (aNil))))) (tBool (eBin gLt (eVar 4) (eBin gPow (eC (.int 10)) (eC (.int 18)))))) [.mt (fd (ns.map D.int) (a + 1 : Nat) 0), .val (.int (m : Nat)), .val (.lst (ns.map D.int)), .val (.int (a : Nat)), .val (.int c), .any, .any, .any] = .ok (decide (((ns.length : Nat) : Int) ≤ (a : Nat)) || decide (c < 10 ^ 18)) [.mt (fd (ns.map D.int) (a + 1 : Nat) 0), .val (.int (m : Nat)), .val (.lst (ns.map D.int)), .val (.int (a : Nat)), .val (.int c), .any, .any, .any] :=
      ev_tor (ev_tB (ev_bin rfl (ev_args (ev_cons rfl ev_nil) hg) rfl)) fun _ => ev_tB (ev_bin rfl (ev_bin rfl rfl rfl) rfl)
    have go : ∀ o, (sSeq (sIf (tOrF (tBool (eBin gGe (eVar 3) (eArgs (g1 gLen) (aCons (eVar 2) (aNil))))) (tBool (eBin gLt (eVar 4) (eBin gPow (eC (.int 10)) (eC (.int 18)))))) DF sNx) (sSetIx 0 (eC (.int 2)) (eVar 4))) [.mt (fd (ns.map D.int) (a + 1 : Nat) 0), .val (.int (m : Nat)), .val (.lst (ns.map D.int)), .val (.int (a : Nat)), .val (.int c), .any, .any, .any] = o → (sSeq (sSet 2 (eIxS 0 (eC (.int 0)))) (sSeq (sSet 3 (eIxS 0 (eC (.int 1)))) (sSeq (sSetIx 0 (eC (.int 1)) (eBin gAdd (eVar 3) (eC (.int 1)))) (sSeq (sSet 4 (eC (.int 0))) (sSeq (sIf (tBool (eBin gGt (eArgs (g1 gLen) (aCons (eVar 2) (aNil))) (eC (.int 0)))) (sSet 4 (eBin itemD (eVar 2) (eBin gMod (eArgs (g1 fInt) (aCons (eVar 3) (aNil))) (eArgs (g1 gLen) (aCons (eVar 2) (aNil)))))) (sNx)) (sSeq (sIf (tOrF (tBool (eBin gGe (eVar 3) (eArgs (g1 gLen) (aCons (eVar 2) (aNil))))) (tBool (eBin gLt (eVar 4) (eBin gPow (eC (.int 10)) (eC (.int 18)))))) DF (sNx)) (sSetIx 0 (eC (.int 2)) (eVar 4)))))))) [.mt (fd (ns.map D.int) (a : Nat) 0), .val (.int (m : Nat)), .any, .any, .any, .any, .any, .any] = o := fun o h =>
      (st_seq (ρ1 := [.mt (fd (ns.map D.int) (a : Nat) 0), .val (.int (m : Nat)), .val (.lst (ns.map D.int)), .any, .any, .any, .any, .any]) rfl).trans ((st_seq (ρ1 := [.mt (fd (ns.map D.int) (a : Nat) 0), .val (.int (m : Nat)), .val (.lst (ns.map D.int)), .val (.int (a : Nat)), .any, .any, .any, .any]) rfl).trans ((st_seq hi0).trans ((st_seq (ρ1 := [.mt (fd (ns.map D.int) (a + 1 : Nat) 0), .val (.int (m : Nat)), .val (.lst (ns.map D.int)), .val (.int (a : Nat)), .val (.int 0), .any, .any, .any]) rfl).trans ((st_seq hc).trans h))))
    have hif : tBool (eBin gEq (eIxS 0 (eC (.int 2))) (eC (.int 0))) [.mt (fd (ns.map D.int) (a : Nat) 0), .val (.int (m : Nat)), .any, .any, .any, .any, .any, .any] = .ok true [.mt (fd (ns.map D.int) (a : Nat) 0), .val (.int (m : Nat)), .any, .any, .any, .any, .any, .any] := rfl
    cases hb : (decide (((ns.length : Nat) : Int) ≤ (a : Nat)) || decide (c < 10 ^ 18)) with
    | true =>
      rw [hb] at hcond
      obtain ⟨r, hr, s5, s6, hd⟩ := d_free (f := fd (ns.map D.int) (a + 1 : Nat) 0) (c := c) ha h0 h9 (.val (.lst (ns.map D.int)))
      have h1 := go _ (st_seq_rt ((st_if_t hcond).trans hd))
      exact ⟨r, a + 1, 0, run_rt rfl (st_seq_rt ((st_if_t hif).trans h1)) rfl, hr, by omega⟩
    | false =>
      rw [hb] at hcond
      have h1 := go (.nx [.mt (fd (ns.map D.int) (a + 1 : Nat) c), .val (.int (m : Nat)), .val (.lst (ns.map D.int)), .val (.int (a : Nat)), .val (.int c), .any, .any, .any]) ((st_seq ((st_if_f hcond).trans rfl)).trans rfl)
      have ht := d_tail (cs := ns.map D.int) (a := (a + 1 : Nat)) (x := c) h0 h9 (.val (.lst (ns.map D.int))) (.val (.int (a : Nat))) (.val (.int c)) .any .any
      have b := fm (a := c) hmp
      obtain ⟨r, hr⟩ := Int.eq_ofNat_of_zero_le b.1
      rw [hr] at ht b
      exact ⟨r, a + 1, c.fdiv m, run_rt rfl ((st_seq ((st_if_t hif).trans h1)).trans ht) rfl, by omega, by omega⟩
  · have ht := d_tail (cs := ns.map D.int) (a := a) (x := x) h0 h9 .any .any .any .any .any
    have b := fm (a := x) hmp
    obtain ⟨r, hr⟩ := Int.eq_ofNat_of_zero_le b.1
    rw [hr] at ht b
    refine ⟨r, a, x.fdiv m, run_rt rfl ((st_seq (ρ1 := [.mt (fd (ns.map D.int) a x), .val (.int (m : Nat)), .any, .any, .any, .any, .any, .any]) ((st_if_f (ρ1 := [.mt (fd (ns.map D.int) a x), .val (.int (m : Nat)), .any, .any, .any, .any, .any, .any]) ?_).trans rfl)).trans ht) rfl, by omega, by omega⟩
    have e : gEq (.int x) (.int 0) = some (.bl false) := by
      show some (D.bl (decide (x = 0))) = _
      rw [decide_eq_false hx]
    exact ev_tB (ev_bin (x := .int x) rfl rfl e)
end Gk85

set_option Elab.async false
set_option linter.all false
set_option maxRecDepth 100000
set_option maxHeartbeats 2000000
namespace Gk85
open PySem PySem.Spec PyProof.Rows L2 DL Lyn
theorem g_letter {ws : List Int} (hw : ws ∈ WS) {r : Nat} (h : r < (lets ws).length) : ∃ c ∈ lets ws, itemD (S (lets ws)) (.int (r : Nat)) = some (S [c]) := by
  refine ⟨(lets ws).getD r 0, ?_, ?_⟩
  · rw [List.getD_eq_getElem?_getD, List.getElem?_eq_getElem h]
    exact List.getElem_mem h
  · unfold WS at hw
    simp only [List.mem_cons, List.not_mem_nil, or_false] at hw
    have h3 : r < 3 := by
      rcases hw with rfl | rfl | rfl | rfl | rfl | rfl <;> (simp [lets] at h) <;> omega
    rcases hw with rfl | rfl | rfl | rfl | rfl | rfl <;> (match r, h3, h with
      | 0, _, _ => kernel_rfl
      | 1, _, h => first | exact absurd h (by decide) | kernel_rfl
      | 2, _, h => first | exact absurd h (by decide) | kernel_rfl)
end Gk85

set_option Elab.async false
set_option linter.all false
set_option maxRecDepth 100000
set_option maxHeartbeats 2000000
namespace Gk85
open PySem PySem.Spec PyProof.Rows L2 DL Lyn
theorem lets_len {ws : List Int} (hw : ws ∈ WS) : 0 < (lets ws).length ∧ (lets ws).length ≤ 3 := by
  unfold WS at hw
  simp only [List.mem_cons, List.not_mem_nil, or_false] at hw
  rcases hw with rfl | rfl | rfl | rfl | rfl | rfl <;> decide
def DW : SE → R D := eBin itemD (eVar 3) (eCallM fn__law_drawn [.m, .v] 0 (pS 0 (pE (eArgs (g1 gLen) (aCons (eVar 3) (aNil))) (pNil))))
theorem dw_loop {ns : List Int} (hl : ns.length ≤ 63) {ws : List Int} (hw : ws ∈ WS) (p1 p2 : D) : ∀ (ds : List D) (a : Nat) (x : Int), a + ds.length ≤ 100000 → ∃ (w : List Nat) (a' : Nat) (x' : Int),
    lcF (gNm 4) [4] tYesF DW ds [.mt (fd (ns.map D.int) a x), .val p1, .val p2, .val (S (lets ws)), .any] = .ok (w.map fun c => S [c]) [.mt (fd (ns.map D.int) a' x'), .val p1, .val p2, .val (S (lets ws)), .any] ∧ good ws w ∧ w.length = ds.length ∧ a' ≤ a + ds.length
  | [], a, x, h => ⟨[], a, x, rfl, (fun c hc => by cases hc), rfl, by omega⟩
  | d :: ds, a, x, h => by
    rw [List.length_cons] at h
    have ll := lets_len hw
    obtain ⟨r, a1, x1, h1, h2, h3⟩ := m_drawn hl (a := a) (x := x) (m := (lets ws).length) (by omega) ll.1 (by omega)
    obtain ⟨c, c1, c2⟩ := g_letter hw h2
    obtain ⟨w, a', x', e1, e2, e3, e4⟩ := dw_loop hl hw p1 p2 ds a1 x1 (by omega)
    have hp : pS 0 (pE (eArgs (g1 gLen) (aCons (eVar 3) (aNil))) (pNil)) [.mt (fd (ns.map D.int) a x), .val p1, .val p2, .val (S (lets ws)), .val d] = .ok [.s 0, .d (.int ((lets ws).length : Nat))] [.mt (fd (ns.map D.int) a x), .val p1, .val p2, .val (S (lets ws)), .val d] := by
      have := ev_pe (ρ := [.mt (fd (ns.map D.int) a x), .val p1, .val p2, .val (S (lets ws)), .val d]) (Fr := pNil) (ev_args (F := aCons (eVar 3) aNil) (ev_cons rfl ev_nil) (g_len (w := lets ws) (by omega))) ev_pnil
      unfold pS
      rw [this]
      rfl
    have hd : DW [.mt (fd (ns.map D.int) a x), .val p1, .val p2, .val (S (lets ws)), .val d] = .ok (S [c]) [.mt (fd (ns.map D.int) a1 x1), .val p1, .val p2, .val (S (lets ws)), .val d] :=
      ev_bin (x := S (lets ws)) rfl (ev_callM (ρ1 := [.mt (fd (ns.map D.int) a x), .val p1, .val p2, .val (S (lets ws)), .val d]) (pvs := [.s 0, .d (.int ((lets ws).length : Nat))]) (as := [fd (ns.map D.int) a x, .int ((lets ws).length : Nat)]) hp rfl h1 rfl) c2
    refine ⟨c :: w, a', x', ?_, ?_, ?_, ?_⟩
    · unfold lcF
      show (match DW [.mt (fd (ns.map D.int) a x), .val p1, .val p2, .val (S (lets ws)), .val d] with
        | .ok y ρ3 => _
        | _ => R.stuck) = _
      rw [hd]
      show (match lcF (gNm 4) [4] tYesF DW ds [.mt (fd (ns.map D.int) a1 x1), .val p1, .val p2, .val (S (lets ws)), .any] with
        | .ok xs ρ4 => R.ok (S [c] :: xs) ρ4
        | _ => R.stuck) = _
      rw [e1]
      rfl
    · intro y hy
      rcases List.mem_cons.mp hy with rfl | hy
      · exact c1
      · exact e2 y hy
    · rw [List.length_cons, List.length_cons, e3]
    · rw [List.length_cons]
      omega
end Gk85

set_option Elab.async false
set_option linter.all false
set_option maxRecDepth 100000
set_option maxHeartbeats 2000000
namespace Gk85
open PySem PySem.Spec PyProof.Rows L2 DL Lyn
theorem flat_one (w : List Nat) : (w.map fun c => [c]).flatten = w := by
  induction w with
  | nil => rfl
  | cons c w ih => rw [List.map_cons, List.flatten_cons, ih]; rfl
theorem m_dw {ns : List Int} (hl : ns.length ≤ 63) {p : Int} {ws : List Int} (hw : ws ∈ WS) {a most : Nat} {x : Int} (hm : most ≤ 8) (ha : a ≤ 90000) : ∃ (w : List Nat) (a' : Nat) (x' : Int),
    fn__law_drawn_word [fd (ns.map D.int) a x, set p ws, .int (most : Nat)] = .ok (.v (S w)) (some (fd (ns.map D.int) a' x')) ∧ good ws w ∧ w.length ≤ most ∧ a' ≤ a + 9 := by
  obtain ⟨r, a1, x1, h1, h2, h3⟩ := m_drawn hl (a := a) (x := x) (m := most + 1) (by omega) (by omega) (by omega)
  obtain ⟨w, a', x', e1, e2, e3, e4⟩ := dw_loop hl hw (set p ws) (.int (most : Nat)) ((List.range r).map fun k : Nat => D.int (k : Int)) a1 x1 (by rw [List.length_map, List.length_range]; omega)
  rw [List.length_map, List.length_range] at e3 e4
  refine ⟨w, a', x', ?_, e2, by omega, by omega⟩
  have hc : eCallM fn__law_drawn [.m, .v] 0 (pS 0 (pE (eBin gAdd (eVar 2) (eC (.int 1))) (pNil))) [.mt (fd (ns.map D.int) a x), .val (set p ws), .val (.int (most : Nat)), .val (S (lets ws)), .any] = .ok (.int (r : Nat)) [.mt (fd (ns.map D.int) a1 x1), .val (set p ws), .val (.int (most : Nat)), .val (S (lets ws)), .any] :=
    ev_callM (ρ1 := [.mt (fd (ns.map D.int) a x), .val (set p ws), .val (.int (most : Nat)), .val (S (lets ws)), .any]) (pvs := [.s 0, .d (.int ((most + 1 : Nat) : Int))]) (as := [fd (ns.map D.int) a x, .int ((most + 1 : Nat) : Int)]) rfl rfl h1 rfl
  have hlc := ev_lc (ev_iOf (ev_cons hc ev_nil) (g_range1 (j := r) (by omega))) (by rw [List.length_map, List.length_range]; omega) e1
  have hj := g_joinL (fs := w.map fun c => [c]) (by rw [flat_one]; omega)
  rw [List.map_map, flat_one] at hj
  refine run_rt (ρ := [.mt (fd (ns.map D.int) a' x'), .val (set p ws), .val (.int (most : Nat)), .val (S (lets ws)), .any]) rfl ?_ rfl
  have hs : eCall fn__law_letters [.v] (pE (eVar 1) (pNil)) [.mt (fd (ns.map D.int) a x), .val (set p ws), .val (.int (most : Nat)), .any, .any] = .ok (S (lets ws)) [.mt (fd (ns.map D.int) a x), .val (set p ws), .val (.int (most : Nat)), .any, .any] := ev_call (ev_pe rfl ev_pnil) rfl (m_lletters hw)
  refine (st_seq (ρ1 := [.mt (fd (ns.map D.int) a x), .val (set p ws), .val (.int (most : Nat)), .val (S (lets ws)), .any]) (st_set hs rfl)).trans ?_
  exact st_ret (ev_tm rfl (ev_cons hlc ev_nil) hj)
end Gk85

set_option Elab.async false
set_option linter.all false
set_option maxRecDepth 100000
set_option maxHeartbeats 2000000
namespace Gk85
open PySem PySem.Spec PyProof.Rows L2 DL Lyn
def wrongs (p : Int) : List D := [.tup [.int 4, .tup [.int 1]], .tup [.int p, .tup []], .non, .tup [.int p, .tup [.int 0]]]
def odds : List D := [.str "z", .non, .int 3, .lst [.str "a"], .str "A", .str " "]
def bads : List D := [.int (-1), .non, .bl true, .str "1"]
theorem r_set {p : Int} (hp : p ∈ PS) {x : D} (hx : x ∈ wrongs p) : fn_check_setting [x] = .raise "InvalidSetting" x := by
  unfold PS at hp
  unfold wrongs at hx
  simp only [List.mem_cons, List.not_mem_nil, or_false] at hp hx
  rcases hp with rfl | rfl | rfl | rfl | rfl <;> rcases hx with rfl | rfl | rfl | rfl <;> kernel_rfl
theorem r_word {p : Int} {ws : List Int} (hw : ws ∈ WS) {x : D} (hx : x ∈ odds) : fn_check_word [set p ws, x] = .raise "InvalidWord" x := by
  unfold WS at hw
  unfold odds at hx
  simp only [List.mem_cons, List.not_mem_nil, or_false] at hw hx
  rcases hw with rfl | rfl | rfl | rfl | rfl | rfl <;> rcases hx with rfl | rfl | rfl | rfl | rfl | rfl <;> kernel_rfl
theorem r_int {x : D} (hx : x ∈ bads) : fn_check_integer [x, .int 0] = .raise "InvalidInteger" x := by
  unfold bads at hx
  simp only [List.mem_cons, List.not_mem_nil, or_false] at hx
  rcases hx with rfl | rfl | rfl | rfl <;> kernel_rfl
theorem a_set {n : Nat} (hn : n ≤ 4) {a b : D} (h : fn_check_setting [a] = .raise "InvalidSetting" a) : fn__law_asked [.int (n : Int), a, b] = .ok (.v (.tup [.str "setting", a])) none := by
  refine m_asked (c := "InvalidSetting") (d := a) rfl rfl ?_ hn
  match n, hn with
  | 0, _ => exact run_raise (ρ := [.val a, .val b]) rfl (st_seq_raise (st_drop_raise (ev_callR (ev_pe rfl ev_pnil) rfl h))) rfl
  | 1, _ => exact run_raise (ρ := [.val a, .val b]) rfl (st_seq_raise (st_drop_raise (ev_callR (ev_pe rfl ev_pnil) rfl h))) rfl
  | 2, _ =>
    have hc : fn_check_lyndon [a, b, .int 2] = .raise "InvalidSetting" a := run_raise (ρ := [.val a, .val b, .val (.int 2)]) rfl (st_seq_raise (st_drop_raise (ev_callR (ev_pe rfl ev_pnil) rfl h))) rfl
    exact run_raise (ρ := [.val a, .val b]) rfl (st_seq_raise (st_drop_raise (ev_callR (ev_pe rfl (ev_pe rfl (ev_pe rfl ev_pnil))) rfl hc))) rfl
  | 3, _ => exact run_raise (ρ := [.val a, .val b, .any]) rfl (st_seq_raise (st_drop_raise (ev_callR (ev_pe rfl ev_pnil) rfl h))) rfl
  | 4, _ => exact run_raise (ρ := [.val a, .val b, .any, .any]) rfl (st_seq_raise (st_drop_raise (ev_callR (ev_pe rfl ev_pnil) rfl h))) rfl
theorem a_word {n : Nat} (hn : n ≤ 2) {a b : D} (h0 : fn_check_setting [a] = .ok (.v .non) none) (h : fn_check_word [a, b] = .raise "InvalidWord" b) : fn__law_asked [.int (n : Int), a, b] = .ok (.v (.tup [.str "word", b])) none := by
  refine m_asked (c := "InvalidWord") (d := b) rfl rfl ?_ (by omega)
  match n, hn with
  | 0, _ => exact run_raise (ρ := [.val a, .val b]) rfl ((st_seq (st_drop (ev_call (ev_pe rfl ev_pnil) rfl h0))).trans (st_seq_raise (st_drop_raise (ev_callR (ev_pe rfl (ev_pe rfl ev_pnil)) rfl h)))) rfl
  | 1, _ => exact run_raise (ρ := [.val a, .val b]) rfl ((st_seq (st_drop (ev_call (ev_pe rfl ev_pnil) rfl h0))).trans (st_seq_raise (st_drop_raise (ev_callR (ev_pe rfl (ev_pe rfl ev_pnil)) rfl h)))) rfl
  | 2, _ =>
    have hc : fn_check_lyndon [a, b, .int 2] = .raise "InvalidWord" b := run_raise (ρ := [.val a, .val b, .val (.int 2)]) rfl ((st_seq (st_drop (ev_call (ev_pe rfl ev_pnil) rfl h0))).trans (st_seq_raise (st_drop_raise (ev_callR (ev_pe rfl (ev_pe rfl ev_pnil)) rfl h)))) rfl
    exact run_raise (ρ := [.val a, .val b]) rfl (st_seq_raise (st_drop_raise (ev_callR (ev_pe rfl (ev_pe rfl (ev_pe rfl ev_pnil))) rfl hc))) rfl
theorem a_int {n : Nat} (hn : 3 ≤ n) (hn4 : n ≤ 4) {a b : D} (h0 : fn_check_setting [a] = .ok (.v .non) none) (h : fn_check_integer [b, .int 0] = .raise "InvalidInteger" b) : fn__law_asked [.int (n : Int), a, b] = .ok (.v (.tup [.str "integer", b])) none := by
  refine m_asked (c := "InvalidInteger") (d := b) rfl rfl ?_ (by omega)
  match n, hn, hn4 with
  | 3, _, _ => exact run_raise (ρ := [.val a, .val b, .any]) rfl ((st_seq (st_drop (ev_call (ev_pe rfl ev_pnil) rfl h0))).trans (st_seq_raise (st_drop_raise (ev_callR (ev_pe rfl (ev_pe rfl ev_pnil)) rfl h)))) rfl
  | 4, _, _ => exact run_raise (ρ := [.val a, .val b, .any, .any]) rfl ((st_seq (st_drop (ev_call (ev_pe rfl ev_pnil) rfl h0))).trans (st_seq_raise (st_drop_raise (ev_callR (ev_pe rfl (ev_pe rfl ev_pnil)) rfl h)))) rfl
end Gk85

set_option Elab.async false
set_option linter.all false
set_option maxRecDepth 100000
set_option maxHeartbeats 2000000
namespace Gk85
open PySem PySem.Spec PyProof.Rows L2 DL Lyn
def Q0 : SE → O := sSet 1 (eBin itemD (eLst (aCons (eC (.int 0)) (aCons (eC (.int 2)) (aCons (eC (.int 3)) (aCons (eC (.int 5)) (aCons (eC (.int 89)) (aNil))))))) (eCallM fn__law_drawn [.m, .v] 0 (pS 0 (pE (eC (.int 5)) (pNil)))))
def Q1 : SE → O := sSet 2 (eCallM fn__law_drawn [.m, .v] 0 (pS 0 (pE (eC (.int 6)) (pNil))))
def Q2 : SE → O := sSet 3 (eTup (aCons (eVar 1) (aCons (eBin itemD (eLst (aCons (eTup (aCons (eC (.int 1)) (aNil))) (aCons (eTup (aCons (eC (.int 1)) (aCons (eC (.int 1)) (aNil)))) (aCons (eTup (aCons (eC (.int 1)) (aCons (eC (.int 2)) (aNil)))) (aCons (eTup (aCons (eC (.int 1)) (aCons (eC (.int 1)) (aCons (eC (.int 1)) (aNil))))) (aCons (eTup (aCons (eC (.int 2)) (aCons (eC (.int 3)) (aNil)))) (aCons (eTup (aCons (eC (.int 1)) (aCons (eC (.int 1)) (aCons (eC (.int 2)) (aNil))))) (aNil)))))))) (eVar 2)) (aNil))))
def Q3 : SE → O := sSet 4 (eBin itemD (eLst (aCons (eC (.int 8)) (aCons (eC (.int 7)) (aCons (eC (.int 8)) (aCons (eC (.int 4)) (aCons (eC (.int 8)) (aCons (eC (.int 6)) (aNil)))))))) (eVar 2))
def Q4B : SE → O := sSeq (sSet 6 (eCallM fn__law_drawn_word [.m, .v, .v] 0 (pS 0 (pE (eVar 3) (pE (eIf (tBool (eBin gEq (eVar 2) (eC (.int 4)))) (eC (.int 6)) (eC (.int 8))) (pNil)))))) (sSeq (sSet 7 (eArgs (g1 (onL (fMin PySem.W.minOf PySem.W.minOf))) (aCons (eLc (gNm 19) [19] (tYesF) (eBin gAdd (eSl gSl (eVar 6) (pSo (eVar 19)) (pNo)) (eSl gSl (eVar 6) (pNo) (pSo (eVar 19)))) (iOf iR1 (aCons (eBin gAdd (eArgs (g1 gLen) (aCons (eVar 6) (aNil))) (eC (.int 1))) (aNil)))) (aNil)))) (sIf (tOrF (tNotF (tBool (eCall fn__law_word_right [.v, .v] (pE (eVar 3) (pE (eVar 6) (pNil)))))) (tOrF (tNotF (tBool (eCall fn__law_word_right [.v, .v] (pE (eVar 3) (pE (eVar 7) (pNil)))))) (tNotF (tBool (eCall fn__law_word_right [.v, .v] (pE (eVar 3) (pE (eBin gMulS (eSl gSl (eVar 6) (pNo) (pSo (eC (.int 3)))) (eC (.int 2))) (pNil)))))))) (sRet (eC (.bl false))) (sNx)))
def Q4 : SE → O := sFor (iOf iR1 (aCons (eC (.int 4)) (aNil))) (gNm 5) Q4B [5, 7]
def Q5 : SE → O := sPar true true 8 9 (eBin gMulL (eLst (aCons (eC (.int 0)) (aNil))) (eBin gAdd (eVar 4) (eC (.int 1)))) (eBin gCatL (eLst (aCons (eC (.int 1)) (aNil))) (eBin gMulL (eLst (aCons (eC (.int 0)) (aNil))) (eVar 4)))
def Q6B : SE → O := sSeq (sFrzA 11 (sSetO 11 (eLc (gNm 6) [6] (tBool (eCall fn__law_is_lyndon [.v] (pE (eVar 6) (pNil)))) (eVar 6) (iSeq (eCallO fn__law_words [.v, .v] (pE (eVar 3) (pE (eVar 10) (pNil)))))))) (sSeq (sSetIx 8 (eVar 10) (eArgs (g1 gLen) (aCons (eVar 11) (aNil)))) (sSeq (sIf (tNotF (tBool (eCall (fn__law_same 6) [.v, .v] (pE (eLst (aCons (eCall fn_lyndon_words [.v, .v] (pE (eVar 3) (pE (eVar 10) (pNil)))) (aCons (eKw fn_lyndon_words [.v, .v] [1, 0] (pE (eVar 10) (pE (eVar 3) (pNil)))) (aNil)))) (pE (eBin gMulL (eLst (aCons (eArgs (g1 gTuple) (aCons (eVar 11) (aNil))) (aNil))) (eC (.int 2))) (pNil)))))) (sRet (eC (.bl false))) (sNx)) (sFor (iSeq (eVar 11)) (gNm 6) (sFor (iOf iR2 (aCons (eVar 10) (aCons (eBin gAdd (eVar 4) (eC (.int 1))) (aNil)))) (gNm 12) (sSetIx 9 (eVar 12) (eBin gAdd (eIxS 9 (eVar 12)) (eIxS 9 (eBin gSub (eVar 12) (eVar 10))))) [12]) [12])))
def Q6 : SE → O := sFor (iOf iR1 (aCons (eBin gAdd (eVar 4) (eC (.int 1))) (aNil))) (gNm 10) Q6B [11, 12]
def Q7 : SE → O := sIf (tNotF (tBool (eCall (fn__law_same 6) [.v, .v] (pE (eLst (aCons (eCall fn_lyndon_counts [.v, .v] (pE (eVar 3) (pE (eVar 4) (pNil)))) (aCons (eKw fn_lyndon_counts [.v, .v] [1, 0] (pE (eBin gDiv (eVar 4) (eC (.int 2))) (pE (eVar 3) (pNil)))) (aNil)))) (pE (eLst (aCons (eArgS gTuple 8) (aCons (eArgs (g1 gTuple) (aCons (eSlS 8 (pNo) (pSo (eBin gAdd (eBin gDiv (eVar 4) (eC (.int 2))) (eC (.int 1))))) (aNil))) (aNil)))) (pNil)))))) (sRet (eC (.bl false))) (sNx)
def Q8 : SE → O := sIf (tBool (eCmpS gNe 9 (eLc (gNm 10) [10] (tYesF) (eCall fn_words_number [.v, .v] (pE (eVar 3) (pE (eVar 10) (pNil)))) (iOf iR1 (aCons (eBin gAdd (eVar 4) (eC (.int 1))) (aNil)))))) (sRet (eC (.bl false))) (sNx)
def Q9 : SE → O := sSet 13 (eBin itemD (eLst (aCons (eTup (aCons (eC (.int 4)) (aCons (eTup (aCons (eC (.int 1)) (aNil))) (aNil)))) (aCons (eTup (aCons (eVar 1) (aCons (eTup (aNil)) (aNil)))) (aCons (eC .non) (aCons (eTup (aCons (eVar 1) (aCons (eTup (aCons (eC (.int 0)) (aNil))) (aNil)))) (aNil)))))) (eCallM fn__law_drawn [.m, .v] 0 (pS 0 (pE (eC (.int 4)) (pNil)))))
def Q10 : SE → O := sSet 14 (eBin itemD (eLst (aCons (eC (.str "z")) (aCons (eC .non) (aCons (eC (.int 3)) (aCons (eLst (aCons (eC (.str "a")) (aNil))) (aCons (eC (.str "A")) (aCons (eC (.str " ")) (aNil)))))))) (eCallM fn__law_drawn [.m, .v] 0 (pS 0 (pE (eC (.int 6)) (pNil)))))
def Q11 : SE → O := sSet 15 (eBin itemD (eLst (aCons (eUn gNeg (eC (.int 1))) (aCons (eC .non) (aCons (eC (.bl true)) (aCons (eC (.str "1")) (aNil)))))) (eCallM fn__law_drawn [.m, .v] 0 (pS 0 (pE (eC (.int 4)) (pNil)))))
def Q12 : SE → O := sPar false false 16 17 (eCallM fn__law_drawn [.m, .v] 0 (pS 0 (pE (eC (.int 3)) (pNil)))) (eBin gAdd (eC (.int 3)) (eCallM fn__law_drawn [.m, .v] 0 (pS 0 (pE (eC (.int 2)) (pNil)))))
def Q13 : SE → O := sSet 18 (eLst (aCons (eCall fn__law_asked [.v, .v, .v] (pE (eVar 16) (pE (eVar 13) (pE (eVar 14) (pNil))))) (aCons (eCall fn__law_asked [.v, .v, .v] (pE (eVar 16) (pE (eVar 3) (pE (eVar 14) (pNil))))) (aCons (eCall fn__law_asked [.v, .v, .v] (pE (eVar 17) (pE (eVar 13) (pE (eVar 15) (pNil))))) (aCons (eCall fn__law_asked [.v, .v, .v] (pE (eVar 17) (pE (eVar 3) (pE (eVar 15) (pNil))))) (aNil))))))
def Q14 : SE → O := sRet (eCall (fn__law_same 6) [.v, .v] (pE (eVar 18) (pE (eLst (aCons (eTup (aCons (eC (.str "setting")) (aCons (eVar 13) (aNil)))) (aCons (eTup (aCons (eC (.str "word")) (aCons (eVar 14) (aNil)))) (aCons (eTup (aCons (eC (.str "setting")) (aCons (eVar 13) (aNil)))) (aCons (eTup (aCons (eC (.str "integer")) (aCons (eVar 15) (aNil)))) (aNil)))))) (pNil))))
theorem Q_eq : F__law_right = sSeq Q0 (sSeq Q1 (sSeq Q2 (sSeq Q3 (sSeq Q4 (sSeq Q5 (sSeq Q6 (sSeq Q7 (sSeq Q8 (sSeq Q9 (sSeq Q10 (sSeq Q11 (sSeq Q12 (sSeq Q13 (Q14)))))))))))))) := rfl
theorem g_mulS2 {u : List Nat} (h : u.length ≤ 1000) : gMulS (S u) (.int 2) = some (S (u ++ u)) := by
  have e : repS ⟨u.toArray⟩ (2 : Int).toNat = ⟨(u ++ u).toArray⟩ := by
    show (⟨(u ++ (u ++ [])).toArray⟩ : Str) = _
    rw [List.append_nil]
  show (if (decide ((0 : Int) ≤ 2) && decide ((2 : Int) ≤ 1000000) && decide ((⟨u.toArray⟩ : Str).length * (2 : Int).toNat ≤ 1000000)) = true then some (D.str (repS ⟨u.toArray⟩ (2 : Int).toNat)) else none) = _
  rw [e, if_pos (by
    rw [S_len, show (2 : Int).toNat = 2 from rfl, Bool.and_eq_true, Bool.and_eq_true, decide_eq_true_eq, decide_eq_true_eq, decide_eq_true_eq]
    omega)]
  rfl
theorem good_app {ws : List Int} {u v : List Nat} (hu : good ws u) (hv : good ws v) : good ws (u ++ v) := fun c hc => by
  rcases List.mem_append.mp hc with h | h
  · exact hu c h
  · exact hv c h
theorem good_take {ws : List Int} {u : List Nat} (hu : good ws u) (k : Nat) : good ws (u.take k) := fun c hc => hu c (List.mem_of_mem_take hc)
theorem good_drop {ws : List Int} {u : List Nat} (hu : good ws u) (k : Nat) : good ws (u.drop k) := fun c hc => hu c (List.mem_of_mem_drop hc)
def st8 (s0 s1 s2 s3 s4 s5 s6 s7 : Sl) : SE := [s0, s1, s2, s3, s4, s5, s6, s7, .any, .any, .any, .any, .any, .any, .any, .any, .any, .any, .any, .any]
theorem m_turned {w : List Nat} (hw : w.length ≤ 8) (s0 s1 s2 s3 s4 s5 s7 : Sl) : ∃ k, sSet 7 (eArgs (g1 (onL (fMin PySem.W.minOf PySem.W.minOf))) (aCons (eLc (gNm 19) [19] (tYesF) (eBin gAdd (eSl gSl (eVar 6) (pSo (eVar 19)) (pNo)) (eSl gSl (eVar 6) (pNo) (pSo (eVar 19)))) (iOf iR1 (aCons (eBin gAdd (eArgs (g1 gLen) (aCons (eVar 6) (aNil))) (eC (.int 1))) (aNil)))) (aNil)))
    (st8 s0 s1 s2 s3 s4 s5 (.val (S w)) .any) = .nx (st8 s0 s1 s2 s3 s4 s5 (.val (S w)) (.val (S (w.drop k ++ w.take k)))) := by
  have hi : iOf iR1 (aCons (eBin gAdd (eArgs (g1 gLen) (aCons (eVar 6) (aNil))) (eC (.int 1))) (aNil)) (st8 s0 s1 s2 s3 s4 s5 (.val (S w)) .any) = .ok ((List.range (w.length + 1)).map fun k : Nat => D.int (k : Int)) (st8 s0 s1 s2 s3 s4 s5 (.val (S w)) .any) :=
    ev_iOf (ev_cons (ev_bin (ev_args (ev_cons rfl ev_nil) (g_len (w := w) (by omega))) rfl rfl) ev_nil) (g_range1 (j := w.length + 1) (by omega))
  have hl := lc_ev_map (i := 19) (ρ := st8 s0 s1 s2 s3 s4 s5 (.val (S w)) .any) (Fe := eBin gAdd (eSl gSl (eVar 6) (pSo (eVar 19)) (pNo)) (eSl gSl (eVar 6) (pNo) (pSo (eVar 19)))) (f := fun d => match d with | .int i => S (w.drop i.toNat ++ w.take i.toNat) | _ => .non) ⟨by simp [st8], rfl⟩ (ds := (List.range (w.length + 1)).map fun k : Nat => D.int (k : Int)) (fun d hd => by
    obtain ⟨k, hk, rfl⟩ := List.mem_map.mp hd
    have hk := List.mem_range.mp hk
    refine ev_bin (ev_sl (x := S w) rfl (ev_so rfl) ev_no (g_from (by omega) (by omega))) (ev_sl (x := S w) rfl ev_no (ev_so rfl) (g_to (by omega))) (g_app ?_)
    rw [List.length_drop, List.length_take]
    omega)
  rw [List.map_map] at hl
  obtain ⟨m, e1, e2⟩ := g_minS (ws := (List.range (w.length + 1)).map fun k => (⟨(w.drop k ++ w.take k).toArray⟩ : Str)) (fun z => by
    have := congrArg List.length z
    rw [List.length_map, List.length_range] at this
    cases this)
  obtain ⟨k, _, rfl⟩ := List.mem_map.mp e2
  rw [List.map_map] at e1
  exact ⟨k, st_set (ev_args (ev_cons (ev_lc hi (by rw [List.length_map, List.length_range]; omega) hl) ev_nil) e1) rfl⟩
theorem q4_body {ns : List Int} (hl : ns.length ≤ 63) {p : Int} {ws : List Int} (hp : p ∈ PS) (hw : ws ∈ WS) {at_ a : Nat} {x : Int} (ha : a ≤ 80000) (s4 s5 s6 : Sl) (h6 : s6 = .any ∨ ∃ y, s6 = .val y) : ∃ (w : List Nat) (a' : Nat) (x' : Int) (s7 : Sl),
    Q4B (st8 (.mt (fd (ns.map D.int) a x)) (.val (.int p)) (.val (.int (at_ : Nat))) (.val (set p ws)) s4 s5 s6 .any) = .nx (st8 (.mt (fd (ns.map D.int) a' x')) (.val (.int p)) (.val (.int (at_ : Nat))) (.val (set p ws)) s4 s5 (.val (S w)) s7) ∧ a' ≤ a + 9 := by
  obtain ⟨m, hm8, hm⟩ : ∃ m : Nat, m ≤ 8 ∧ eIf (tBool (eBin gEq (eVar 2) (eC (.int 4)))) (eC (.int 6)) (eC (.int 8)) (st8 (.mt (fd (ns.map D.int) a x)) (.val (.int p)) (.val (.int (at_ : Nat))) (.val (set p ws)) s4 s5 s6 .any) = .ok (.int (m : Nat)) (st8 (.mt (fd (ns.map D.int) a x)) (.val (.int p)) (.val (.int (at_ : Nat))) (.val (set p ws)) s4 s5 s6 .any) := by
    have hb : tBool (eBin gEq (eVar 2) (eC (.int 4))) (st8 (.mt (fd (ns.map D.int) a x)) (.val (.int p)) (.val (.int (at_ : Nat))) (.val (set p ws)) s4 s5 s6 .any) = .ok (decide ((at_ : Int) = 4)) (st8 (.mt (fd (ns.map D.int) a x)) (.val (.int p)) (.val (.int (at_ : Nat))) (.val (set p ws)) s4 s5 s6 .any) := ev_tB (ev_bin rfl rfl rfl)
    unfold eIf
    rw [hb]
    cases decide ((at_ : Int) = 4) with
    | true => exact ⟨6, by omega, rfl⟩
    | false => exact ⟨8, by omega, rfl⟩
  obtain ⟨w, a', x', h1, h2, h3, h4⟩ := m_dw hl (p := p) hw (a := a) (x := x) hm8 (by omega)
  have hw8 : w.length ≤ 8 := by omega
  obtain ⟨k, hk⟩ := m_turned hw8 (.mt (fd (ns.map D.int) a' x')) (.val (.int p)) (.val (.int (at_ : Nat))) (.val (set p ws)) s4 s5 .any
  refine ⟨w, a', x', .val (S (w.drop k ++ w.take k)), ?_, h4⟩
  have hc : eCallM fn__law_drawn_word [.m, .v, .v] 0 (pS 0 (pE (eVar 3) (pE (eIf (tBool (eBin gEq (eVar 2) (eC (.int 4)))) (eC (.int 6)) (eC (.int 8))) (pNil)))) (st8 (.mt (fd (ns.map D.int) a x)) (.val (.int p)) (.val (.int (at_ : Nat))) (.val (set p ws)) s4 s5 s6 .any) = .ok (S w) (st8 (.mt (fd (ns.map D.int) a' x')) (.val (.int p)) (.val (.int (at_ : Nat))) (.val (set p ws)) s4 s5 s6 .any) := by
    have hpp : pS 0 (pE (eVar 3) (pE (eIf (tBool (eBin gEq (eVar 2) (eC (.int 4)))) (eC (.int 6)) (eC (.int 8))) (pNil))) (st8 (.mt (fd (ns.map D.int) a x)) (.val (.int p)) (.val (.int (at_ : Nat))) (.val (set p ws)) s4 s5 s6 .any) = .ok [.s 0, .d (set p ws), .d (.int (m : Nat))] (st8 (.mt (fd (ns.map D.int) a x)) (.val (.int p)) (.val (.int (at_ : Nat))) (.val (set p ws)) s4 s5 s6 .any) := by
      have := ev_pe (ρ := st8 (.mt (fd (ns.map D.int) a x)) (.val (.int p)) (.val (.int (at_ : Nat))) (.val (set p ws)) s4 s5 s6 .any) (Fa := eVar 3) (d := set p ws) (Fr := pE (eIf (tBool (eBin gEq (eVar 2) (eC (.int 4)))) (eC (.int 6)) (eC (.int 8))) (pNil)) rfl (ev_pe hm ev_pnil)
      unfold pS
      rw [this]
      rfl
    exact ev_callM (ρ1 := st8 (.mt (fd (ns.map D.int) a x)) (.val (.int p)) (.val (.int (at_ : Nat))) (.val (set p ws)) s4 s5 s6 .any) (pvs := [.s 0, .d (set p ws), .d (.int (m : Nat))]) (as := [fd (ns.map D.int) a x, set p ws, .int (m : Nat)]) hpp rfl h1 rfl
  have hs : sSet 6 (eCallM fn__law_drawn_word [.m, .v, .v] 0 (pS 0 (pE (eVar 3) (pE (eIf (tBool (eBin gEq (eVar 2) (eC (.int 4)))) (eC (.int 6)) (eC (.int 8))) (pNil))))) (st8 (.mt (fd (ns.map D.int) a x)) (.val (.int p)) (.val (.int (at_ : Nat))) (.val (set p ws)) s4 s5 s6 .any) = .nx (st8 (.mt (fd (ns.map D.int) a' x')) (.val (.int p)) (.val (.int (at_ : Nat))) (.val (set p ws)) s4 s5 (.val (S w)) .any) := by
    rcases h6 with rfl | ⟨y, rfl⟩ <;> exact st_set hc rfl
  refine (st_seq hs).trans ((st_seq hk).trans ?_)
  refine (st_if_f (ρ1 := st8 (.mt (fd (ns.map D.int) a' x')) (.val (.int p)) (.val (.int (at_ : Nat))) (.val (set p ws)) s4 s5 (.val (S w)) (.val (S (w.drop k ++ w.take k)))) ?_).trans rfl
  have l2 : (w.drop k ++ w.take k).length ≤ 1000 := by
    rw [List.length_append, List.length_drop, List.length_take]
    omega
  have l3 : (w.take 3).length ≤ 8 := by
    rw [List.length_take]
    omega
  refine ev_tor (b := false) (c := false) (ev_not (b := true) (ev_tB (ev_c2 rfl rfl (m_wr hp hw (w := w) (by omega) h2)))) fun _ => ?_
  refine ev_tor (b := false) (c := false) (ev_not (b := true) (ev_tB (ev_c2 rfl rfl (m_wr hp hw l2 (good_app (good_drop h2 k) (good_take h2 k)))))) fun _ => ?_
  refine ev_not (b := true) (ev_tB (ev_c2 rfl (ev_bin (ev_sl (x := S w) (l := none) (h := some ((3 : Nat) : Int)) rfl ev_no (ev_so rfl) (g_to (by omega))) rfl (g_mulS2 (by omega))) (m_wr hp hw (by rw [List.length_append]; omega) (good_app (good_take h2 3) (good_take h2 3)))))
theorem q4_loop {ns : List Int} (hl : ns.length ≤ 63) {p : Int} {ws : List Int} (hp : p ∈ PS) (hw : ws ∈ WS) {at_ : Nat} (s4 : Sl) : ∀ (ds : List D) (a : Nat) (x : Int) (s5 s7 : Sl) (y : D), (s5 = .any ∨ ∃ y, s5 = .val y) → a + 9 * ds.length ≤ 80000 → ∃ (y' : D) (a' : Nat) (x' : Int),
    forF (gNm 5) Q4B [5, 7] ds (st8 (.mt (fd (ns.map D.int) a x)) (.val (.int p)) (.val (.int (at_ : Nat))) (.val (set p ws)) s4 s5 (.val y) s7) = .nx (st8 (.mt (fd (ns.map D.int) a' x')) (.val (.int p)) (.val (.int (at_ : Nat))) (.val (set p ws)) s4 .any (.val y') .any) ∧ a' ≤ a + 9 * ds.length
  | [], a, x, s5, s7, y, h5, h => ⟨y, a, x, rfl, by omega⟩
  | d :: ds, a, x, s5, s7, y, h5, h => by
    rw [List.length_cons] at h
    obtain ⟨w, a1, x1, s7', h1, h2⟩ := q4_body hl hp hw (at_ := at_) (a := a) (x := x) (by omega) s4 (.val d) (.val y) (.inr ⟨y, rfl⟩)
    obtain ⟨y', a', x', h3, h4⟩ := q4_loop hl hp hw (at_ := at_) s4 ds a1 x1 (.val d) s7' (S w) (.inr ⟨d, rfl⟩) (by omega)
    refine ⟨y', a', x', (for_cons (ρ1 := st8 (.mt (fd (ns.map D.int) a x)) (.val (.int p)) (.val (.int (at_ : Nat))) (.val (set p ws)) s4 (.val d) (.val y) .any) rfl h1).trans h3, ?_⟩
    rw [List.length_cons]
    omega
theorem q4 {ns : List Int} (hl : ns.length ≤ 63) {p : Int} {ws : List Int} (hp : p ∈ PS) (hw : ws ∈ WS) {at_ a : Nat} {x : Int} (ha : a ≤ 70000) (s4 : Sl) : ∃ (y' : D) (a' : Nat) (x' : Int),
    Q4 (st8 (.mt (fd (ns.map D.int) a x)) (.val (.int p)) (.val (.int (at_ : Nat))) (.val (set p ws)) s4 .any .any .any) = .nx (st8 (.mt (fd (ns.map D.int) a' x')) (.val (.int p)) (.val (.int (at_ : Nat))) (.val (set p ws)) s4 .any (.val y') .any) ∧ a' ≤ a + 36 := by
  obtain ⟨w, a1, x1, s7', h1, h2⟩ := q4_body hl hp hw (at_ := at_) (a := a) (x := x) (by omega) s4 (.val (.int 0)) .any (.inl rfl)
  obtain ⟨y', a', x', h3, h4⟩ := q4_loop hl hp hw (at_ := at_) s4 [.int 1, .int 2, .int 3] a1 x1 (.val (.int 0)) s7' (S w) (.inr ⟨_, rfl⟩) (by simp; omega)
  refine ⟨y', a', x', (st_for (ds := [.int 0, .int 1, .int 2, .int 3]) rfl).trans ((for_cons (ρ1 := st8 (.mt (fd (ns.map D.int) a x)) (.val (.int p)) (.val (.int (at_ : Nat))) (.val (set p ws)) s4 (.val (.int 0)) .any .any) rfl h1).trans h3), ?_⟩
  have e : [D.int 1, .int 2, .int 3].length = 3 := rfl
  rw [e] at h4
  omega
end Gk85

set_option Elab.async false
set_option linter.all false
set_option maxRecDepth 100000
set_option maxHeartbeats 2000000
namespace Gk85
open PySem PySem.Spec PyProof.Rows L2 DL Lyn
theorem okI_nat {n : Nat} (h : n ≤ 100000) : okI (n : Int) = true := by
  unfold okI
  simp
  omega
theorem g_mulL1 (d : D) {n : Nat} (h : n ≤ 1000) : gMulL (.lst [d]) (.int (n : Nat)) = some (.lst (List.replicate n d)) := by
  show (if okI (n : Int) = true ∧ [d].length * (n : Int).toNat ≤ sizeLine then some (D.lst (List.replicate (n : Int).toNat [d]).flatten) else none) = _
  rw [Int.toNat_natCast, if_pos ⟨okI_nat (by omega), by rw [sizeLine_eq, List.length_singleton]; omega⟩, List.flatten_replicate_singleton]
theorem g_succ (m : Nat) : gAdd (.int (m : Nat)) (.int 1) = some (.int ((m + 1 : Nat) : Int)) := rfl
theorem ev_slS {i : Nat} {Fl Fh : SE → R (Option Int)} {ρ ρ1 ρ2 : SE} {l h : Option Int} {c0 : D} {ds : List D} (h0 : conOf ρ i = some c0) (hl : Fl ρ = .ok l ρ1) (hh : Fh ρ1 = .ok h ρ2) (h1 : conOf ρ2 i = some (.lst ds)) : eSlS i Fl Fh ρ = .ok (.lst (DL.cutD ds l h)) ρ2 := by
  unfold eSlS
  rw [h0]
  show (Fl ρ).bind _ = _
  rw [hl]
  show (Fh ρ1).bind _ = _
  rw [hh]
  show (match conOf ρ2 i with | some (.lst ds) => R.ok (D.lst (DL.cutD ds l h)) ρ2 | _ => R.stuck) = _
  rw [h1]
theorem st_par {oa ob : Bool} {i j : Nat} {Fa Fb : SE → R D} {ρ ρ1 ρ2 ρ3 ρ4 : SE} {x y : D} (h1 : Fa ρ = .ok x ρ1) (h2 : Fb ρ1 = .ok y ρ2) (e1 : setS i (if oa then .own x else .val x) ρ2 = some ρ3) (e2 : setS j (if ob then .own y else .val y) ρ3 = some ρ4) : sPar oa ob i j Fa Fb ρ = .nx ρ4 := by
  unfold sPar
  rw [h1]
  show (Fb ρ1).to _ = _
  rw [h2]
  show O.of2 (setS i (if oa then .own x else .val x) ρ2) (setS j (if ob then .own y else .val y)) = _
  rw [e1]
  show O.of (setS j (if ob then .own y else .val y) ρ3) = _
  rw [e2]
  rfl
theorem q5 (s0 s1 s2 s3 s5 s6 s7 : Sl) (ws : List Int) : Q5 (st8 s0 s1 s2 s3 (.val (.int (most ws : Nat))) s5 s6 s7) = .nx [s0, s1, s2, s3, .val (.int (most ws : Nat)), s5, s6, s7, .own (.lst ((NS ws 0).map D.int)), .own (.lst ((V ws 0).map D.int)), .any, .any, .any, .any, .any, .any, .any, .any, .any, .any] := by
  have hm := most_le (ws := ws)
  have e1 : eBin gMulL (eLst (aCons (eC (.int 0)) (aNil))) (eBin gAdd (eVar 4) (eC (.int 1))) (st8 s0 s1 s2 s3 (.val (.int (most ws : Nat))) s5 s6 s7) = .ok (.lst (List.replicate (most ws + 1) (.int 0))) (st8 s0 s1 s2 s3 (.val (.int (most ws : Nat))) s5 s6 s7) :=
    ev_bin (ev_lst (ev_cons rfl ev_nil) (by simp)) (ev_bin (x := .int (most ws : Nat)) rfl rfl (g_succ _)) (g_mulL1 _ (by omega))
  have e2 : eBin gCatL (eLst (aCons (eC (.int 1)) (aNil))) (eBin gMulL (eLst (aCons (eC (.int 0)) (aNil))) (eVar 4)) (st8 s0 s1 s2 s3 (.val (.int (most ws : Nat))) s5 s6 s7) = .ok (.lst (.int 1 :: List.replicate (most ws) (.int 0))) (st8 s0 s1 s2 s3 (.val (.int (most ws : Nat))) s5 s6 s7) := by
    refine ev_bin (ev_lst (ev_cons rfl ev_nil) (by simp)) (ev_bin (ev_lst (ev_cons rfl ev_nil) (by simp)) rfl (g_mulL1 _ (by omega))) ?_
    show (if [D.int 1].length + (List.replicate (most ws) (D.int 0)).length ≤ sizeLine then some (D.lst ([D.int 1] ++ List.replicate (most ws) (D.int 0))) else none) = _
    rw [if_pos (by rw [sizeLine_eq, List.length_singleton, List.length_replicate]; omega)]
    rfl
  have n1 : (NS ws 0).map D.int = List.replicate (most ws + 1) (.int 0) := by
    unfold NS
    rw [List.range_zero, List.map_nil, List.nil_append, Nat.sub_zero, List.map_replicate]
  have n2 : (V ws 0).map D.int = .int 1 :: List.replicate (most ws) (.int 0) := by
    show (1 :: List.replicate (most ws) (0 : Int)).map D.int = _
    rw [List.map_cons, List.map_replicate]
  rw [n1, n2]
  exact st_par e1 e2 rfl rfl
theorem q6 {p : Int} {ws : List Int} (hp : p ∈ PS) (hw : ws ∈ WS) (s0 s1 s2 s5 s7 : Sl) (y : D) : ∃ x6' s10', (s10' = .any ∨ ∃ x, s10' = .val x) ∧ Q6 (stK s0 s1 s2 (.val (set p ws)) s5 s7 .any .any .any y (most ws) (NS ws 0) (V ws 0)) = .nx (stK s0 s1 s2 (.val (set p ws)) s5 s7 s10' .any .any x6' (most ws) (NS ws (most ws + 1)) (V ws (most ws + 1))) := by
  obtain ⟨x6', s10', h1, h2⟩ := k_loop hp hw s0 s1 s2 s5 s7 (most ws + 1) 0 y .any .any .any (.inl rfl) (by omega)
  have hm := most_le (ws := ws)
  have hi : iOf iR1 (aCons (eBin gAdd (eVar 4) (eC (.int 1))) (aNil)) (stK s0 s1 s2 (.val (set p ws)) s5 s7 .any .any .any y (most ws) (NS ws 0) (V ws 0)) = .ok ((List.range' 0 (most ws + 1)).map fun i : Nat => D.int (i : Int)) (stK s0 s1 s2 (.val (set p ws)) s5 s7 .any .any .any y (most ws) (NS ws 0) (V ws 0)) := by
    rw [← List.range_eq_range']
    exact ev_iOf (ev_cons (ev_bin (x := .int (most ws : Nat)) rfl rfl (g_succ _)) ev_nil) (g_range1 (j := most ws + 1) (by omega))
  exact ⟨x6', s10', h1, (st_for hi).trans h2⟩
theorem halfm {ws : List Int} (hw : ws ∈ WS) : gDiv (.int (most ws : Nat)) (.int 2) = some (.int ((most ws / 2 : Nat) : Int)) := by
  unfold WS at hw
  simp only [List.mem_cons, List.not_mem_nil, or_false] at hw
  rcases hw with rfl | rfl | rfl | rfl | rfl | rfl <;> kernel_rfl
theorem NS_all (ws : List Int) : (NS ws (most ws + 1)).map D.int = (List.range (most ws + 1)).map fun k => D.int (cnt ws k : Nat) := by
  unfold NS
  rw [Nat.sub_self, List.replicate_zero, List.append_nil, List.map_map]
  rfl
theorem plain_ints {n : Nat} {α : Type} (f : α → Int) (l : List α) (h : l.length ≤ 100000) : plain (n + 2) (.tup (l.map fun a => D.int (f a))) = true := by
  show (decide ((l.map fun a => D.int (f a)).length ≤ 100000) && (l.map fun a => D.int (f a)).all (plain (n + 1))) = true
  rw [Bool.and_eq_true, decide_eq_true_eq, List.length_map, List.all_eq_true]
  refine ⟨h, fun x hx => ?_⟩
  obtain ⟨p, _, rfl⟩ := List.mem_map.mp hx
  rfl
theorem cut_take {ds : List D} {n : Nat} (h : n ≤ ds.length) : DL.cutD ds none (some (n : Int)) = ds.take n := by
  unfold DL.cutD
  rw [HT.sIx_nat, HT.sIx_none, List.drop_zero, Nat.sub_zero, Nat.min_eq_left h]
theorem q7 {p : Int} {ws : List Int} (hp : p ∈ PS) (hw : ws ∈ WS) (s0 s1 s2 s5 s7 s10 : Sl) (y : D) : Q7 (stK s0 s1 s2 (.val (set p ws)) s5 s7 s10 .any .any y (most ws) (NS ws (most ws + 1)) (V ws (most ws + 1))) = .nx (stK s0 s1 s2 (.val (set p ws)) s5 s7 s10 .any .any y (most ws) (NS ws (most ws + 1)) (V ws (most ws + 1))) := by
  have hm := most_le (ws := ws)
  have e1 := m_lyncounts hp hw (m := most ws) (Nat.le_refl _)
  have e2 := m_lyncounts hp hw (m := most ws / 2) (by omega)
  refine (st_if_f (ρ1 := stK s0 s1 s2 (.val (set p ws)) s5 s7 s10 .any .any y (most ws) (NS ws (most ws + 1)) (V ws (most ws + 1))) ?_).trans rfl
  have c1 : eArgS gTuple 8 (stK s0 s1 s2 (.val (set p ws)) s5 s7 s10 .any .any y (most ws) (NS ws (most ws + 1)) (V ws (most ws + 1))) = .ok (.tup ((List.range (most ws + 1)).map fun k => D.int (cnt ws k : Nat))) (stK s0 s1 s2 (.val (set p ws)) s5 s7 s10 .any .any y (most ws) (NS ws (most ws + 1)) (V ws (most ws + 1))) := by
    rw [← NS_all]
    rfl
  have c2 : eArgs (g1 gTuple) (aCons (eSlS 8 (pNo) (pSo (eBin gAdd (eBin gDiv (eVar 4) (eC (.int 2))) (eC (.int 1))))) (aNil)) (stK s0 s1 s2 (.val (set p ws)) s5 s7 s10 .any .any y (most ws) (NS ws (most ws + 1)) (V ws (most ws + 1))) = .ok (.tup ((List.range (most ws / 2 + 1)).map fun k => D.int (cnt ws k : Nat))) (stK s0 s1 s2 (.val (set p ws)) s5 s7 s10 .any .any y (most ws) (NS ws (most ws + 1)) (V ws (most ws + 1))) := by
    refine ev_args (xs := [.lst ((List.range (most ws / 2 + 1)).map fun k => D.int (cnt ws k : Nat))]) (ev_cons ?_ ev_nil) rfl
    have hb : pSo (eBin gAdd (eBin gDiv (eVar 4) (eC (.int 2))) (eC (.int 1))) (stK s0 s1 s2 (.val (set p ws)) s5 s7 s10 .any .any y (most ws) (NS ws (most ws + 1)) (V ws (most ws + 1))) = .ok (some ((most ws / 2 + 1 : Nat) : Int)) (stK s0 s1 s2 (.val (set p ws)) s5 s7 s10 .any .any y (most ws) (NS ws (most ws + 1)) (V ws (most ws + 1))) := ev_so (ev_bin (ev_bin rfl rfl (halfm hw)) rfl rfl)
    have hs := ev_slS (i := 8) (Fl := pNo) (l := none) (ds := (NS ws (most ws + 1)).map D.int) rfl rfl hb rfl
    refine hs.trans ?_
    rw [cut_take (by rw [List.length_map, NS_len ws (Nat.le_refl _)]; omega), NS_all, ← List.map_take, List.take_range, Nat.min_eq_left (by omega)]
  refine ev_not (b := true) (ev_tB (ev_same (d := .lst [.tup ((List.range (most ws + 1)).map fun k => D.int (cnt ws k : Nat)), .tup ((List.range (most ws / 2 + 1)).map fun k => D.int (cnt ws k : Nat))]) (ρ1 := stK s0 s1 s2 (.val (set p ws)) s5 s7 s10 .any .any y (most ws) (NS ws (most ws + 1)) (V ws (most ws + 1))) (ev_lst (ev_cons (ev_c2 rfl rfl e1) (ev_cons (ev_k10 (ev_bin rfl rfl (halfm hw)) rfl e2) ev_nil)) (by simp)) (ev_lst (ev_cons c1 (ev_cons c2 ev_nil)) (by simp)) ?_))
  · show (decide (_ ≤ _) && ([D.tup _, D.tup _]).all (plain 5)) = true
    rw [List.all_cons, List.all_cons, plain_ints (n := 3) (fun k => ((cnt ws k : Nat) : Int)) _ (by rw [List.length_range]; omega), plain_ints (n := 3) (fun k => ((cnt ws k : Nat) : Int)) _ (by rw [List.length_range]; omega)]
    rfl
theorem ways_ne {ws : List Int} (hw : ws ∈ WS) : gNe (.lst ((V ws (most ws + 1)).map D.int)) (.lst ((List.range (most ws + 1)).map fun k => D.int (num ws k))) = some (.bl false) := by
  unfold WS at hw
  simp only [List.mem_cons, List.not_mem_nil, or_false] at hw
  rcases hw with rfl | rfl | rfl | rfl | rfl | rfl <;> kernel_rfl
theorem q8 {p : Int} {ws : List Int} (hp : p ∈ PS) (hw : ws ∈ WS) (s0 s1 s2 s5 s7 s10 : Sl) (h10 : s10 = .any ∨ ∃ x, s10 = .val x) (y : D) : Q8 (stK s0 s1 s2 (.val (set p ws)) s5 s7 s10 .any .any y (most ws) (NS ws (most ws + 1)) (V ws (most ws + 1))) = .nx (stK s0 s1 s2 (.val (set p ws)) s5 s7 s10 .any .any y (most ws) (NS ws (most ws + 1)) (V ws (most ws + 1))) := by
  have hm := most_le (ws := ws)
  have hst : still 10 (stK s0 s1 s2 (.val (set p ws)) s5 s7 s10 .any .any y (most ws) (NS ws (most ws + 1)) (V ws (most ws + 1))) := by
    rcases h10 with rfl | ⟨x, rfl⟩ <;> exact ⟨by simp [stK], rfl⟩
  have hl := lc_ev_map (i := 10) (Fe := eCall fn_words_number [.v, .v] (pE (eVar 3) (pE (eVar 10) (pNil)))) (f := fun d => match d with | .int i => .int (num ws i.toNat) | _ => .non) hst (ds := (List.range (most ws + 1)).map fun k : Nat => D.int (k : Int)) (fun d hd => by
    obtain ⟨k, hk, rfl⟩ := List.mem_map.mp hd
    have hk := List.mem_range.mp hk
    exact ev_c2 (b := .int (k : Nat)) rfl rfl (m_num hp hw (by omega)))
  rw [List.map_map] at hl
  have hc : eLc (gNm 10) [10] (tYesF) (eCall fn_words_number [.v, .v] (pE (eVar 3) (pE (eVar 10) (pNil)))) (iOf iR1 (aCons (eBin gAdd (eVar 4) (eC (.int 1))) (aNil))) (stK s0 s1 s2 (.val (set p ws)) s5 s7 s10 .any .any y (most ws) (NS ws (most ws + 1)) (V ws (most ws + 1))) = .ok (.lst ((List.range (most ws + 1)).map fun k => D.int (num ws k))) (stK s0 s1 s2 (.val (set p ws)) s5 s7 s10 .any .any y (most ws) (NS ws (most ws + 1)) (V ws (most ws + 1))) :=
    ev_lc (ev_iOf (ev_cons (ev_bin (x := .int (most ws : Nat)) rfl rfl (g_succ _)) ev_nil) (g_range1 (j := most ws + 1) (by omega))) (by rw [List.length_map, List.length_range]; omega) hl
  refine (st_if_f (ρ1 := stK s0 s1 s2 (.val (set p ws)) s5 s7 s10 .any .any y (most ws) (NS ws (most ws + 1)) (V ws (most ws + 1))) (ev_tB ?_)).trans rfl
  unfold eCmpS
  show (eLc (gNm 10) [10] (tYesF) (eCall fn_words_number [.v, .v] (pE (eVar 3) (pE (eVar 10) (pNil)))) (iOf iR1 (aCons (eBin gAdd (eVar 4) (eC (.int 1))) (aNil))) (stK s0 s1 s2 (.val (set p ws)) s5 s7 s10 .any .any y (most ws) (NS ws (most ws + 1)) (V ws (most ws + 1)))).bind _ = _
  rw [hc]
  show R.of _ (gNe (.lst ((V ws (most ws + 1)).map D.int)) (.lst ((List.range (most ws + 1)).map fun k => D.int (num ws k)))) = _
  rw [ways_ne hw]
  rfl
end Gk85

set_option Elab.async false
set_option linter.all false
set_option maxRecDepth 100000
set_option maxHeartbeats 2000000
namespace Gk85
open PySem PySem.Spec PyProof.Rows L2 DL Lyn
theorem dr {ns : List Int} (hl : ns.length ≤ 63) {a m : Nat} {x : Int} (ha : a ≤ 100000) (h0 : 0 < m) (h9 : m ≤ 9) (rest : SE) : ∃ (r a' : Nat) (x' : Int),
    eCallM fn__law_drawn [.m, .v] 0 (pS 0 (pE (eC (.int (m : Nat))) (pNil))) (.mt (fd (ns.map D.int) a x) :: rest) = .ok (.int (r : Nat)) (.mt (fd (ns.map D.int) a' x') :: rest) ∧ r < m ∧ a' ≤ a + 1 := by
  obtain ⟨r, a', x', h1, h2, h3⟩ := m_drawn hl (a := a) (x := x) ha h0 h9
  exact ⟨r, a', x', ev_callM (ρ1 := .mt (fd (ns.map D.int) a x) :: rest) (pvs := [.s 0, .d (.int (m : Nat))]) (as := [fd (ns.map D.int) a x, .int (m : Nat)]) rfl rfl h1 rfl, h2, h3⟩
theorem pick {ds : List D} {r : Nat} (h : r < ds.length) : ∃ d ∈ ds, itemD (.lst ds) (.int (r : Nat)) = some d := ⟨ds[r], List.getElem_mem h, item_lst (List.getElem?_eq_getElem h)⟩
def an (n : Nat) : SE := List.replicate n .any
theorem q0 {ns : List Int} (hl : ns.length ≤ 63) {a : Nat} {x : Int} (ha : a ≤ 100000) : ∃ (p : Int) (a' : Nat) (x' : Int), p ∈ PS ∧ Q0 (.mt (fd (ns.map D.int) a x) :: .any :: an 18) = .nx (.mt (fd (ns.map D.int) a' x') :: .val (.int p) :: an 18) ∧ a' ≤ a + 1 := by
  obtain ⟨r, a', x', h1, h2, h3⟩ := dr hl (a := a) (x := x) (m := 5) ha (by omega) (by omega) (.any :: an 18)
  obtain ⟨d, d1, d2⟩ := pick (ds := PS.map D.int) (r := r) h2
  obtain ⟨p, hp, rfl⟩ := List.mem_map.mp d1
  exact ⟨p, a', x', hp, st_set (ev_bin (ev_lst (xs := PS.map D.int) rfl (by simp [PS])) h1 d2) rfl, h3⟩
theorem q1 {ns : List Int} (hl : ns.length ≤ 63) {p : Int} {a : Nat} {x : Int} (ha : a ≤ 100000) : ∃ (r a' : Nat) (x' : Int), r < 6 ∧ Q1 (.mt (fd (ns.map D.int) a x) :: .val (.int p) :: an 18) = .nx (.mt (fd (ns.map D.int) a' x') :: .val (.int p) :: .val (.int (r : Nat)) :: an 17) ∧ a' ≤ a + 1 := by
  obtain ⟨r, a', x', h1, h2, h3⟩ := dr hl (a := a) (x := x) (m := 6) ha (by omega) (by omega) (.val (.int p) :: an 18)
  exact ⟨r, a', x', h2, st_set h1 rfl, h3⟩
theorem q23 {r : Nat} (h : r < 6) (s0 : Sl) (p : Int) : ∃ ws ∈ WS, sSeq Q2 Q3 (s0 :: .val (.int p) :: .val (.int (r : Nat)) :: an 17) = .nx (st8 s0 (.val (.int p)) (.val (.int (r : Nat))) (.val (set p ws)) (.val (.int (most ws : Nat))) .any .any .any) := by
  match r, h with
  | 0, _ => exact ⟨[1], by simp [WS], rfl⟩
  | 1, _ => exact ⟨[1, 1], by simp [WS], rfl⟩
  | 2, _ => exact ⟨[1, 2], by simp [WS], rfl⟩
  | 3, _ => exact ⟨[1, 1, 1], by simp [WS], rfl⟩
  | 4, _ => exact ⟨[2, 3], by simp [WS], rfl⟩
  | 5, _ => exact ⟨[1, 1, 2], by simp [WS], rfl⟩
def stZ (f : D) (p : Int) (at_ : Nat) (ws : List Int) (s10 : Sl) (y n8 n9 : D) (s13 s14 s15 s16 s17 s18 : Sl) : SE := [.mt f, .val (.int p), .val (.int (at_ : Nat)), .val (set p ws), .val (.int (most ws : Nat)), .any, .val y, .any, .own n8, .own n9, s10, .any, .any, s13, s14, s15, s16, s17, s18, .any]
section
variable {ns : List Int} (hl : ns.length ≤ 63) (p : Int) (at_ : Nat) (ws : List Int) (s10 : Sl) (y n8 n9 : D)
include hl
theorem q9 {a : Nat} {x : Int} (ha : a ≤ 100000) : ∃ d ∈ wrongs p, ∃ (a' : Nat) (x' : Int), Q9 (stZ (fd (ns.map D.int) a x) p at_ ws s10 y n8 n9 .any .any .any .any .any .any) = .nx (stZ (fd (ns.map D.int) a' x') p at_ ws s10 y n8 n9 (.val d) .any .any .any .any .any) ∧ a' ≤ a + 1 := by
  obtain ⟨r, a', x', h1, h2, h3⟩ := dr hl (a := a) (x := x) (m := 4) ha (by omega) (by omega) (stZ (fd (ns.map D.int) a x) p at_ ws s10 y n8 n9 .any .any .any .any .any .any).tail
  obtain ⟨d, d1, d2⟩ := pick (ds := wrongs p) (r := r) h2
  exact ⟨d, d1, a', x', st_set (ev_bin (ev_lst (xs := wrongs p) rfl (by simp [wrongs])) h1 d2) rfl, h3⟩
theorem q10 {a : Nat} {x : Int} (ha : a ≤ 100000) (s13 : Sl) : ∃ d ∈ odds, ∃ (a' : Nat) (x' : Int), Q10 (stZ (fd (ns.map D.int) a x) p at_ ws s10 y n8 n9 s13 .any .any .any .any .any) = .nx (stZ (fd (ns.map D.int) a' x') p at_ ws s10 y n8 n9 s13 (.val d) .any .any .any .any) ∧ a' ≤ a + 1 := by
  obtain ⟨r, a', x', h1, h2, h3⟩ := dr hl (a := a) (x := x) (m := 6) ha (by omega) (by omega) (stZ (fd (ns.map D.int) a x) p at_ ws s10 y n8 n9 s13 .any .any .any .any .any).tail
  obtain ⟨d, d1, d2⟩ := pick (ds := odds) (r := r) h2
  exact ⟨d, d1, a', x', st_set (ev_bin (ev_lst (xs := odds) rfl (by simp [odds])) h1 d2) rfl, h3⟩
theorem q11 {a : Nat} {x : Int} (ha : a ≤ 100000) (s13 s14 : Sl) : ∃ d ∈ bads, ∃ (a' : Nat) (x' : Int), Q11 (stZ (fd (ns.map D.int) a x) p at_ ws s10 y n8 n9 s13 s14 .any .any .any .any) = .nx (stZ (fd (ns.map D.int) a' x') p at_ ws s10 y n8 n9 s13 s14 (.val d) .any .any .any) ∧ a' ≤ a + 1 := by
  obtain ⟨r, a', x', h1, h2, h3⟩ := dr hl (a := a) (x := x) (m := 4) ha (by omega) (by omega) (stZ (fd (ns.map D.int) a x) p at_ ws s10 y n8 n9 s13 s14 .any .any .any .any).tail
  obtain ⟨d, d1, d2⟩ := pick (ds := bads) (r := r) h2
  exact ⟨d, d1, a', x', st_set (ev_bin (ev_lst (xs := bads) rfl (by simp [bads])) h1 d2) rfl, h3⟩
theorem q12 {a : Nat} {x : Int} (ha : a ≤ 99999) (s13 s14 s15 : Sl) : ∃ (n m a' : Nat) (x' : Int), n ≤ 2 ∧ 3 ≤ m ∧ m ≤ 4 ∧ Q12 (stZ (fd (ns.map D.int) a x) p at_ ws s10 y n8 n9 s13 s14 s15 .any .any .any) = .nx (stZ (fd (ns.map D.int) a' x') p at_ ws s10 y n8 n9 s13 s14 s15 (.val (.int (n : Nat))) (.val (.int (m : Nat))) .any) ∧ a' ≤ a + 2 := by
  obtain ⟨r, a1, x1, h1, h2, h3⟩ := dr hl (a := a) (x := x) (m := 3) (by omega) (by omega) (by omega) (stZ (fd (ns.map D.int) a x) p at_ ws s10 y n8 n9 s13 s14 s15 .any .any .any).tail
  obtain ⟨r', a', x', h1', h2', h3'⟩ := dr hl (a := a1) (x := x1) (m := 2) (by omega) (by omega) (by omega) (stZ (fd (ns.map D.int) a x) p at_ ws s10 y n8 n9 s13 s14 s15 .any .any .any).tail
  have e : gAdd (.int 3) (.int (r' : Nat)) = some (.int ((3 + r' : Nat) : Int)) := by
    rw [g_addI]
    congr 2
  exact ⟨r, 3 + r', a', x', by omega, by omega, by omega, st_par h1 (ev_bin rfl h1' e) rfl rfl, by omega⟩
end
theorem plain_w {p : Int} {d : D} (h : d ∈ wrongs p) : plain 4 d = true := by
  unfold wrongs at h
  simp only [List.mem_cons, List.not_mem_nil, or_false] at h
  rcases h with rfl | rfl | rfl | rfl <;> simp [DL.plain]
theorem plain_o {d : D} (h : d ∈ odds) : plain 4 d = true := by
  unfold odds at h
  simp only [List.mem_cons, List.not_mem_nil, or_false] at h
  rcases h with rfl | rfl | rfl | rfl | rfl | rfl <;> simp [DL.plain]
theorem plain_b {d : D} (h : d ∈ bads) : plain 4 d = true := by
  unfold bads at h
  simp only [List.mem_cons, List.not_mem_nil, or_false] at h
  rcases h with rfl | rfl | rfl | rfl <;> simp [DL.plain]
theorem ev_c3 {fn : List D → FR} {F1 F2 F3 : SE → R D} {ρ : SE} {a b c d : D} (h1 : F1 ρ = .ok a ρ) (h2 : F2 ρ = .ok b ρ) (h3 : F3 ρ = .ok c ρ) (h : fn [a, b, c] = .ok (.v d) none) : eCall fn [.v, .v, .v] (pE F1 (pE F2 (pE F3 pNil))) ρ = .ok d ρ := ev_call (ev_pe h1 (ev_pe h2 (ev_pe h3 ev_pnil))) rfl h
theorem m_right {ns : List Int} (hl : ns.length ≤ 63) {a : Nat} {x : Int} (ha : a ≤ 60000) : ∃ (a' : Nat) (x' : Int), fn__law_right [fd (ns.map D.int) a x] = .ok (.v (.bl true)) (some (fd (ns.map D.int) a' x')) ∧ a' ≤ a + 100 := by
  obtain ⟨p, a0, x0, hp, e0, l0⟩ := q0 hl (a := a) (x := x) (by omega)
  obtain ⟨r, a1, x1, hr, e1, l1⟩ := q1 hl (p := p) (a := a0) (x := x0) (by omega)
  obtain ⟨ws, hw, e2⟩ := q23 hr (.mt (fd (ns.map D.int) a1 x1)) p
  obtain ⟨y, a4, x4, e4, l4⟩ := q4 hl hp hw (at_ := r) (a := a1) (x := x1) (by omega) (.val (.int (most ws : Nat)))
  have e5 := q5 (.mt (fd (ns.map D.int) a4 x4)) (.val (.int p)) (.val (.int (r : Nat))) (.val (set p ws)) .any (.val y) .any ws
  obtain ⟨y6, s10, h10, e6⟩ := q6 hp hw (.mt (fd (ns.map D.int) a4 x4)) (.val (.int p)) (.val (.int (r : Nat))) .any .any y
  have e7 := q7 hp hw (.mt (fd (ns.map D.int) a4 x4)) (.val (.int p)) (.val (.int (r : Nat))) .any .any s10 y6
  have e8 := q8 hp hw (.mt (fd (ns.map D.int) a4 x4)) (.val (.int p)) (.val (.int (r : Nat))) .any .any s10 h10 y6
  obtain ⟨wr, hwr, a9, x9, e9, l9⟩ := q9 hl p r ws s10 y6 (.lst ((NS ws (most ws + 1)).map D.int)) (.lst ((V ws (most ws + 1)).map D.int)) (a := a4) (x := x4) (by omega)
  obtain ⟨od, hod, a10, x10, e10, l10⟩ := q10 hl p r ws s10 y6 (.lst ((NS ws (most ws + 1)).map D.int)) (.lst ((V ws (most ws + 1)).map D.int)) (a := a9) (x := x9) (by omega) (.val wr)
  obtain ⟨bd, hbd, a11, x11, e11, l11⟩ := q11 hl p r ws s10 y6 (.lst ((NS ws (most ws + 1)).map D.int)) (.lst ((V ws (most ws + 1)).map D.int)) (a := a10) (x := x10) (by omega) (.val wr) (.val od)
  obtain ⟨n, m, a12, x12, hn, hm3, hm4, e12, l12⟩ := q12 hl p r ws s10 y6 (.lst ((NS ws (most ws + 1)).map D.int)) (.lst ((V ws (most ws + 1)).map D.int)) (a := a11) (x := x11) (by omega) (.val wr) (.val od) (.val bd)
  refine ⟨a12, x12, ?_, by omega⟩
  have t1 := a_set (n := n) (by omega) (b := od) (r_set hp hwr)
  have t2 := a_word (n := n) hn (m_set hp hw) (r_word (p := p) hw hod)
  have t3 := a_set (n := m) (by omega) (b := bd) (r_set hp hwr)
  have t4 := a_int (n := m) hm3 hm4 (m_set hp hw) (r_int hbd)
  have pl : plain 6 (.lst [.tup [.str "setting", wr], .tup [.str "word", od], .tup [.str "setting", wr], .tup [.str "integer", bd]]) = true := by
    show (decide (_ ≤ _) && ([D.tup [.str "setting", wr], .tup [.str "word", od], .tup [.str "setting", wr], .tup [.str "integer", bd]]).all (plain 5)) = true
    have k1 : plain 5 (.tup [.str "setting", wr]) = true := by
      show (decide (_ ≤ _) && ([D.str "setting", wr]).all (plain 4)) = true
      rw [List.all_cons, List.all_cons, plain_w hwr]
      rfl
    have k2 : plain 5 (.tup [.str "word", od]) = true := by
      show (decide (_ ≤ _) && ([D.str "word", od]).all (plain 4)) = true
      rw [List.all_cons, List.all_cons, plain_o hod]
      rfl
    have k3 : plain 5 (.tup [.str "integer", bd]) = true := by
      show (decide (_ ≤ _) && ([D.str "integer", bd]).all (plain 4)) = true
      rw [List.all_cons, List.all_cons, plain_b hbd]
      rfl
    rw [List.all_cons, List.all_cons, List.all_cons, List.all_cons, k1, k2, k3]
    rfl
  have e13 : Q13 (stZ (fd (ns.map D.int) a12 x12) p r ws s10 y6 (.lst ((NS ws (most ws + 1)).map D.int)) (.lst ((V ws (most ws + 1)).map D.int)) (.val wr) (.val od) (.val bd) (.val (.int (n : Nat))) (.val (.int (m : Nat))) .any) = .nx (stZ (fd (ns.map D.int) a12 x12) p r ws s10 y6 (.lst ((NS ws (most ws + 1)).map D.int)) (.lst ((V ws (most ws + 1)).map D.int)) (.val wr) (.val od) (.val bd) (.val (.int (n : Nat))) (.val (.int (m : Nat))) (.val (.lst [.tup [.str "setting", wr], .tup [.str "word", od], .tup [.str "setting", wr], .tup [.str "integer", bd]]))) :=
    st_set (ev_lst (ev_cons (ev_c3 rfl rfl rfl t1) (ev_cons (ev_c3 rfl rfl rfl t2) (ev_cons (ev_c3 rfl rfl rfl t3) (ev_cons (ev_c3 rfl rfl rfl t4) ev_nil)))) (by simp)) rfl
  have e14 : Q14 (stZ (fd (ns.map D.int) a12 x12) p r ws s10 y6 (.lst ((NS ws (most ws + 1)).map D.int)) (.lst ((V ws (most ws + 1)).map D.int)) (.val wr) (.val od) (.val bd) (.val (.int (n : Nat))) (.val (.int (m : Nat))) (.val (.lst [.tup [.str "setting", wr], .tup [.str "word", od], .tup [.str "setting", wr], .tup [.str "integer", bd]]))) = .rt (.v (.bl true)) (stZ (fd (ns.map D.int) a12 x12) p r ws s10 y6 (.lst ((NS ws (most ws + 1)).map D.int)) (.lst ((V ws (most ws + 1)).map D.int)) (.val wr) (.val od) (.val bd) (.val (.int (n : Nat))) (.val (.int (m : Nat))) (.val (.lst [.tup [.str "setting", wr], .tup [.str "word", od], .tup [.str "setting", wr], .tup [.str "integer", bd]]))) :=
    st_ret (ev_same rfl (ev_lst rfl (by simp)) pl)
  have e23 : ∀ G : SE → O, ∀ ρ ρ2 : SE, sSeq Q2 Q3 ρ = .nx ρ2 → sSeq Q2 (sSeq Q3 G) ρ = G ρ2 := fun G ρ ρ2 h => by
    unfold sSeq at h ⊢
    cases hq : Q2 ρ with
    | nx ρ1 =>
      rw [hq] at h
      show (match Q3 ρ1 with | .nx ρ1 => G ρ1 | o => o) = _
      have h : Q3 ρ1 = .nx ρ2 := h
      rw [h]
    | rt r ρ1 => rw [hq] at h; cases h
    | bk ρ1 => rw [hq] at h; cases h
    | ct ρ1 => rw [hq] at h; cases h
    | raise c d ρ1 => rw [hq] at h; cases h
    | stuck => rw [hq] at h; cases h
  refine run_rt rfl (Eq.trans (congrFun Q_eq _) ((st_seq e0).trans ((st_seq e1).trans ((e23 _ _ _ e2).trans ((st_seq e4).trans ((st_seq e5).trans ((st_seq e6).trans ((st_seq e7).trans ((st_seq e8).trans ((st_seq e9).trans ((st_seq e10).trans ((st_seq e11).trans ((st_seq e12).trans ((st_seq e13).trans e14)))))))))))))) rfl
theorem m_feed {ns : List Int} (hl : ns.length ≤ 63) : fn__law_feed [.lst (ns.map D.int)] = .ok (.o (fd (ns.map D.int) 0 0)) none := by
  have hc : DL.cutD (ns.map D.int) none (some (63 : Int)) = ns.map D.int := by
    unfold DL.cutD
    have e : HT.sIx (ns.map D.int).length (ns.map D.int).length (some ((63 : Nat) : Int)) = min 63 (ns.map D.int).length := HT.sIx_nat ..
    rw [show (63 : Int) = ((63 : Nat) : Int) from rfl, e, HT.sIx_none, List.drop_zero, Nat.sub_zero, List.length_map, Nat.min_eq_right hl, List.take_of_length_le (by rw [List.length_map]; omega)]
  refine run_rt (ρ := [.bor (.lst (ns.map D.int))]) rfl ?_ rfl
  have h := ev_slS (i := 0) (Fl := pNo) (Fh := pSo (eC (.int 63))) (ρ := [.bor (.lst (ns.map D.int))]) (l := none) (h := some 63) (ds := ns.map D.int) rfl rfl rfl rfl
  rw [hc] at h
  exact st_retO (ev_lst (ev_cons (ev_args (ev_cons h ev_nil) rfl) (ev_cons rfl (ev_cons rfl ev_nil))) (by simp))
theorem law_ok : ∀ ns : List Int, ns.length ≤ 63 → fn_law [.lst (ns.map D.int)] = .ok (.v (.bl true)) none := fun ns hl => by
  obtain ⟨a1, x1, h1, l1⟩ := m_right hl (a := 0) (x := 0) (by omega)
  obtain ⟨a2, x2, h2, l2⟩ := m_right hl (a := a1) (x := x1) (by omega)
  have turn : ∀ (a a' : Nat) (x x' : Int) (s : D), fn__law_right [fd (ns.map D.int) a x] = .ok (.v (.bl true)) (some (fd (ns.map D.int) a' x')) → sIf (tNotF (tBool (eCallM fn__law_right [.m] 1 (pS 1 (pNil))))) (sRet (eC (.bl false))) (sNx) [.bor (.lst (ns.map D.int)), .own (fd (ns.map D.int) a x), .val s] = .nx [.bor (.lst (ns.map D.int)), .own (fd (ns.map D.int) a' x'), .val s] := fun a a' x x' s h =>
    (st_if_f (ev_not (b := true) (ev_tB (ev_callM (ρ1 := [.bor (.lst (ns.map D.int)), .own (fd (ns.map D.int) a x), .val s]) (pvs := [.s 1]) (as := [fd (ns.map D.int) a x]) rfl rfl h rfl)))).trans rfl
  refine run_rt (ρ := [.bor (.lst (ns.map D.int)), .own (fd (ns.map D.int) a2 x2), .any]) rfl ?_ rfl
  refine (st_seq (ρ1 := [.bor (.lst (ns.map D.int)), .own (fd (ns.map D.int) 0 0), .any]) (st_setO (i := 1) (Fa := eCallO fn__law_feed [.b] (pS 0 (pNil))) (ρ1 := [.bor (.lst (ns.map D.int)), .any, .any]) (ev_callO (pvs := [.s 0]) (as := [.lst (ns.map D.int)]) rfl rfl (m_feed hl)) rfl)).trans ?_
  refine (st_seq (ρ1 := [.bor (.lst (ns.map D.int)), .own (fd (ns.map D.int) a2 x2), .any]) ?_).trans (st_ret rfl)
  exact (st_for (ds := [.int 0, .int 1]) rfl).trans ((for_cons rfl (turn 0 a1 0 x1 _ h1)).trans ((for_cons rfl (turn a1 a2 x1 x2 _ h2)).trans rfl))
end Gk85

set_option Elab.async false
set_option linter.all false
set_option maxRecDepth 100000
set_option maxHeartbeats 4000000
namespace Gk85
open PySem PySem.Spec PyProof.Rows L2 DL
theorem all_mk {l : PySem.W.OpenLaw} {w : World} {K : PySem.W.Frag} {h : Heap} {mg : Str → Option Value} {fa : Addr} (X : K.In h) (G : h.Ns mainGlobals mg) (hfa : mg "law" = some (.ref fa)) (F : Facts l.prog K mg) (nl : noLst K = true) :
    ∃ fd : FuncData, (∀ (s : Shared) (v : Value), BindsTo s fd ⟨[v], []⟩ [("script", v)]) ∧ ∀ base : Heap, K.In base → base.Ns mainGlobals mg → FnOk l.prog w K mg base (L2.CX l.prog w) 11 fa fd ["script"] (spLaw K) := by
  obtain ⟨f, fd, hm, Fn, bi⟩ := F.d_law.ex
  rw [hfa] at hm
  cases hm
  obtain ⟨oc, od, kV, doc, pm, an, cdv, ct, osl, rfl, lk, _⟩ := Fn.ex
  refine ⟨PySem.W.fnOf "law" "law" (defArgs st_law) (defBody st_law) (defScope st_law) .none kV doc pm an cdv ct, fun s v => .of_eq rfl, fun base _ _ => ?_⟩
  obtain ⟨f2, fd2, hm2, _, ⟨oc2, od2, osl2, l2⟩, _, ok⟩ := (ok_law (P := l.prog) (wd := w) (base := base) F).ex
  rw [hfa] at hm2
  cases hm2
  rw [lk] at l2
  cases l2
  exact law_end ok nl law_ok
end Gk85
open PySem PySem.W PyProof.Rows
set_option maxHeartbeats 0 in
theorem PySem.Challenge.cw_wholeoverlaps_k85_whole_lyndon_words_and_holds : PySem.Challenge.rw_wholeoverlaps_k85_whole_lyndon_words_and.Holds := by
  w_on; o_law; k_head; (case hw => w_witness2)
  k_fill
  refine L2.walk_of (l := PySem.Challenge.rw_wholeoverlaps_k85_whole_lyndon_words_and) (n := 63) (k := 11) (x := "script") (CX := fun w => L2.CX PySem.Challenge.rw_wholeoverlaps_k85_whole_lyndon_words_and.prog w) (sp := fun w => DL.spLaw _) rfl (by decide) rfl ⟨rfl, by decide, by decide⟩ (fun w h Y => PySem.W.kIn_of Y) ?F (fun _ _ a ns hl hO hS => ⟨a, ns, rfl, hS, hl, hO, fun _ => rfl⟩) (fun _ _ _ _ _ h => by obtain ⟨_, _, _, _, _, _, _, _, _, _, _, _, z⟩ := h; exact z)
  case F =>
    intro w mg fa h KX G hmg
    refine' Gk85.all_mk KX G hmg ⟨?d__law_feed, ?d_is_integer, ?d_check_integer, ?d_is_natural, ?d_is_field, ?d_is_setting, ?d_check_setting, ?d_words_number, ?d_letters_of, ?d_words_by, ?d_is_lyndon_word, ?d_lyndon_words, ?d_lyndon_counts, ?d__law_drawn, ?d__law_same, ?d__law_letters, ?d__law_words, ?d__law_drawn_word, ?d__law_is_lyndon, ?d_is_word_of, ?d_check_word, ?d_is_lyndon, ?d_factors_of, ?d_lyndon_factors, ?d_split_of, ?d_check_lyndon, ?d_lyndon_split, ?d__law_asked, ?d__law_split, ?d__law_factors_right, ?d__law_word_right, ?d__law_right, ?d_law, ?z_all, ?z_any, ?z_bool, ?z_int, ?z_isinstance, ?z_len, ?z_list, ?z_max, ?z_min, ?z_range, ?z_sorted, ?z_str, ?z_sum, ?z_tuple, ?z_zip, ?t_bool, ?t_int, ?t_list, ?t_str, ?t_tuple, ?g_LARGEST, ?g_LETTERS, ?g_HEAVIEST, ?x_InvalidInteger, ?x_InvalidSetting, ?x_InvalidWord, ?e_0_0, ?e_0_1, ?e_0_2, ?e_1_0, ?e_1_1, ?e_1_2, ?e_2_0, ?e_2_1, ?e_2_2⟩ ?nl
    (case d__law_feed => refine' DL.defOk_mk KX G ?a23 ?l23 ?c23 ?k23 ?b23; (case a23 => k_is); (case l23 => k_is); (case c23 => k_is); (case k23 => k_is); (case b23 => exact fun _ _ _ _ _ _ us hl => match us, hl with | [_], _ => rfl))
    (case d_is_integer => refine' DL.defOk_mk KX G ?a24 ?l24 ?c24 ?k24 ?b24; (case a24 => k_is); (case l24 => k_is); (case c24 => k_is); (case k24 => k_is); (case b24 => exact fun _ _ _ _ _ _ us hl => match us, hl with | [_], _ => rfl))
    (case d_check_integer => refine' DL.defOk_mk KX G ?a25 ?l25 ?c25 ?k25 ?b25; (case a25 => k_is); (case l25 => k_is); (case c25 => k_is); (case k25 => k_is); (case b25 => exact fun _ _ _ _ _ _ us hl => match us, hl with | [_, _], _ => rfl))
    (case d_is_natural => refine' DL.defOk_mk KX G ?a26 ?l26 ?c26 ?k26 ?b26; (case a26 => k_is); (case l26 => k_is); (case c26 => k_is); (case k26 => k_is); (case b26 => exact fun _ _ _ _ _ _ us hl => match us, hl with | [_], _ => rfl))
    (case d_is_field => refine' DL.defOk_mk KX G ?a27 ?l27 ?c27 ?k27 ?b27; (case a27 => k_is); (case l27 => k_is); (case c27 => k_is); (case k27 => k_is); (case b27 => exact fun _ _ _ _ _ _ us hl => match us, hl with | [_], _ => rfl))
    (case d_is_setting => refine' DL.defOk_mk KX G ?a28 ?l28 ?c28 ?k28 ?b28; (case a28 => k_is); (case l28 => k_is); (case c28 => k_is); (case k28 => k_is); (case b28 => exact fun _ _ _ _ _ _ us hl => match us, hl with | [_], _ => rfl))
    (case d_check_setting => refine' DL.defOk_mk KX G ?a29 ?l29 ?c29 ?k29 ?b29; (case a29 => k_is); (case l29 => k_is); (case c29 => k_is); (case k29 => k_is); (case b29 => exact fun _ _ _ _ _ _ us hl => match us, hl with | [_], _ => rfl))
    (case d_words_number => refine' DL.defOk_mk KX G ?a30 ?l30 ?c30 ?k30 ?b30; (case a30 => k_is); (case l30 => k_is); (case c30 => k_is); (case k30 => k_is); (case b30 => exact fun _ _ _ _ _ _ us hl => match us, hl with | [_, _], _ => rfl))
    (case d_letters_of => refine' DL.defOk_mk KX G ?a31 ?l31 ?c31 ?k31 ?b31; (case a31 => k_is); (case l31 => k_is); (case c31 => k_is); (case k31 => k_is); (case b31 => exact fun _ _ _ _ _ _ us hl => match us, hl with | [_], _ => rfl))
    (case d_words_by => refine' DL.defOk_mk KX G ?a32 ?l32 ?c32 ?k32 ?b32; (case a32 => k_is); (case l32 => k_is); (case c32 => k_is); (case k32 => k_is); (case b32 => exact fun _ _ _ _ _ _ us hl => match us, hl with | [_, _], _ => rfl))
    (case d_is_lyndon_word => refine' DL.defOk_mk KX G ?a33 ?l33 ?c33 ?k33 ?b33; (case a33 => k_is); (case l33 => k_is); (case c33 => k_is); (case k33 => k_is); (case b33 => exact fun _ _ _ _ _ _ us hl => match us, hl with | [_], _ => rfl))
    (case d_lyndon_words => refine' DL.defOk_mk KX G ?a34 ?l34 ?c34 ?k34 ?b34; (case a34 => k_is); (case l34 => k_is); (case c34 => k_is); (case k34 => k_is); (case b34 => exact fun _ _ _ _ _ _ us hl => match us, hl with | [_, _], _ => rfl))
    (case d_lyndon_counts => refine' DL.defOk_mk KX G ?a35 ?l35 ?c35 ?k35 ?b35; (case a35 => k_is); (case l35 => k_is); (case c35 => k_is); (case k35 => k_is); (case b35 => exact fun _ _ _ _ _ _ us hl => match us, hl with | [_, _], _ => rfl))
    (case d__law_drawn => refine' DL.defOk_mk KX G ?a36 ?l36 ?c36 ?k36 ?b36; (case a36 => k_is); (case l36 => k_is); (case c36 => k_is); (case k36 => k_is); (case b36 => exact fun _ _ _ _ _ _ us hl => match us, hl with | [_, _], _ => rfl))
    (case d__law_same => refine' DL.defOk_mk KX G ?a37 ?l37 ?c37 ?k37 ?b37; (case a37 => k_is); (case l37 => k_is); (case c37 => k_is); (case k37 => k_is); (case b37 => exact fun _ _ _ _ _ _ us hl => match us, hl with | [_, _], _ => rfl))
    (case d__law_letters => refine' DL.defOk_mk KX G ?a38 ?l38 ?c38 ?k38 ?b38; (case a38 => k_is); (case l38 => k_is); (case c38 => k_is); (case k38 => k_is); (case b38 => exact fun _ _ _ _ _ _ us hl => match us, hl with | [_], _ => rfl))
    (case d__law_words => refine' DL.defOk_mk KX G ?a39 ?l39 ?c39 ?k39 ?b39; (case a39 => k_is); (case l39 => k_is); (case c39 => k_is); (case k39 => k_is); (case b39 => exact fun _ _ _ _ _ _ us hl => match us, hl with | [_, _], _ => rfl))
    (case d__law_drawn_word => refine' DL.defOk_mk KX G ?a40 ?l40 ?c40 ?k40 ?b40; (case a40 => k_is); (case l40 => k_is); (case c40 => k_is); (case k40 => k_is); (case b40 => exact fun _ _ _ _ _ _ us hl => match us, hl with | [_, _, _], _ => rfl))
    (case d__law_is_lyndon => refine' DL.defOk_mk KX G ?a41 ?l41 ?c41 ?k41 ?b41; (case a41 => k_is); (case l41 => k_is); (case c41 => k_is); (case k41 => k_is); (case b41 => exact fun _ _ _ _ _ _ us hl => match us, hl with | [_], _ => rfl))
    (case d_is_word_of => refine' DL.defOk_mk KX G ?a42 ?l42 ?c42 ?k42 ?b42; (case a42 => k_is); (case l42 => k_is); (case c42 => k_is); (case k42 => k_is); (case b42 => exact fun _ _ _ _ _ _ us hl => match us, hl with | [_, _], _ => rfl))
    (case d_check_word => refine' DL.defOk_mk KX G ?a43 ?l43 ?c43 ?k43 ?b43; (case a43 => k_is); (case l43 => k_is); (case c43 => k_is); (case k43 => k_is); (case b43 => exact fun _ _ _ _ _ _ us hl => match us, hl with | [_, _], _ => rfl))
    (case d_is_lyndon => refine' DL.defOk_mk KX G ?a44 ?l44 ?c44 ?k44 ?b44; (case a44 => k_is); (case l44 => k_is); (case c44 => k_is); (case k44 => k_is); (case b44 => exact fun _ _ _ _ _ _ us hl => match us, hl with | [_, _], _ => rfl))
    (case d_factors_of => refine' DL.defOk_mk KX G ?a45 ?l45 ?c45 ?k45 ?b45; (case a45 => k_is); (case l45 => k_is); (case c45 => k_is); (case k45 => k_is); (case b45 => exact fun _ _ _ _ _ _ us hl => match us, hl with | [_], _ => rfl))
    (case d_lyndon_factors => refine' DL.defOk_mk KX G ?a46 ?l46 ?c46 ?k46 ?b46; (case a46 => k_is); (case l46 => k_is); (case c46 => k_is); (case k46 => k_is); (case b46 => exact fun _ _ _ _ _ _ us hl => match us, hl with | [_, _], _ => rfl))
    (case d_split_of => refine' DL.defOk_mk KX G ?a47 ?l47 ?c47 ?k47 ?b47; (case a47 => k_is); (case l47 => k_is); (case c47 => k_is); (case k47 => k_is); (case b47 => exact fun _ _ _ _ _ _ us hl => match us, hl with | [_], _ => rfl))
    (case d_check_lyndon => refine' DL.defOk_mk KX G ?a48 ?l48 ?c48 ?k48 ?b48; (case a48 => k_is); (case l48 => k_is); (case c48 => k_is); (case k48 => k_is); (case b48 => exact fun _ _ _ _ _ _ us hl => match us, hl with | [_, _, _], _ => rfl))
    (case d_lyndon_split => refine' DL.defOk_mk KX G ?a49 ?l49 ?c49 ?k49 ?b49; (case a49 => k_is); (case l49 => k_is); (case c49 => k_is); (case k49 => k_is); (case b49 => exact fun _ _ _ _ _ _ us hl => match us, hl with | [_, _], _ => rfl))
    (case d__law_asked => refine' DL.defOk_mk KX G ?a50 ?l50 ?c50 ?k50 ?b50; (case a50 => k_is); (case l50 => k_is); (case c50 => k_is); (case k50 => k_is); (case b50 => exact fun _ _ _ _ _ _ us hl => match us, hl with | [_, _, _], _ => rfl))
    (case d__law_split => refine' DL.defOk_mk KX G ?a51 ?l51 ?c51 ?k51 ?b51; (case a51 => k_is); (case l51 => k_is); (case c51 => k_is); (case k51 => k_is); (case b51 => exact fun _ _ _ _ _ _ us hl => match us, hl with | [_], _ => rfl))
    (case d__law_factors_right => refine' DL.defOk_mk KX G ?a52 ?l52 ?c52 ?k52 ?b52; (case a52 => k_is); (case l52 => k_is); (case c52 => k_is); (case k52 => k_is); (case b52 => exact fun _ _ _ _ _ _ us hl => match us, hl with | [_, _], _ => rfl))
    (case d__law_word_right => refine' DL.defOk_mk KX G ?a53 ?l53 ?c53 ?k53 ?b53; (case a53 => k_is); (case l53 => k_is); (case c53 => k_is); (case k53 => k_is); (case b53 => exact fun _ _ _ _ _ _ us hl => match us, hl with | [_, _], _ => rfl))
    (case d__law_right => refine' DL.defOk_mk KX G ?a54 ?l54 ?c54 ?k54 ?b54; (case a54 => k_is); (case l54 => k_is); (case c54 => k_is); (case k54 => k_is); (case b54 => exact fun _ _ _ _ _ _ us hl => match us, hl with | [_], _ => rfl))
    (case d_law => refine' DL.defOk_mk KX G ?a55 ?l55 ?c55 ?k55 ?b55; (case a55 => k_is); (case l55 => k_is); (case c55 => k_is); (case k55 => k_is); (case b55 => exact fun _ _ _ _ _ _ us hl => match us, hl with | [_], _ => rfl))
    (case z_all => refine' PySem.W.mg_none_of KX G ?a56; k_is)
    (case z_any => refine' PySem.W.mg_none_of KX G ?a57; k_is)
    (case z_bool => refine' PySem.W.mg_none_of KX G ?a58; k_is)
    (case z_int => refine' PySem.W.mg_none_of KX G ?a59; k_is)
    (case z_isinstance => refine' PySem.W.mg_none_of KX G ?a60; k_is)
    (case z_len => refine' PySem.W.mg_none_of KX G ?a61; k_is)
    (case z_list => refine' PySem.W.mg_none_of KX G ?a62; k_is)
    (case z_max => refine' PySem.W.mg_none_of KX G ?a63; k_is)
    (case z_min => refine' PySem.W.mg_none_of KX G ?a64; k_is)
    (case z_range => refine' PySem.W.mg_none_of KX G ?a65; k_is)
    (case z_sorted => refine' PySem.W.mg_none_of KX G ?a66; k_is)
    (case z_str => refine' PySem.W.mg_none_of KX G ?a67; k_is)
    (case z_sum => refine' PySem.W.mg_none_of KX G ?a68; k_is)
    (case z_tuple => refine' PySem.W.mg_none_of KX G ?a69; k_is)
    (case z_zip => refine' PySem.W.mg_none_of KX G ?a70; k_is)
    (case t_bool => exact DL.isT_bool)
    (case t_int => exact DL.isT_int)
    (case t_list => exact DL.isT_list)
    (case t_str => exact DL.isT_str)
    (case t_tuple => exact DL.isT_tuple)
    (case g_LARGEST => refine' DL.g_mk KX G ?a76 ?v76; (case a76 => k_is); (case v76 => exact rfl))
    (case g_LETTERS => refine' DL.g_mk KX G ?a77 ?v77; (case a77 => k_is); (case v77 => exact rfl))
    (case g_HEAVIEST => refine' DL.g_mk KX G ?a78 ?v78; (case a78 => k_is); (case v78 => exact rfl))
    (case x_InvalidInteger => refine' DL.excOk_mk KX G ?a79 ?l79 ?rv79 ?iC79 ?lf79 ?cf79 ?lc79 ?hvs79 ?hfile79 ?lcc79 ?htop79 ?zs79 ?tI79 ?sa79 ?exC79 ?tyC79 ?kC79 ?su79 ?val79 ?sup79 ?isv79 ?opq79 ?ini79 ?ga79 ?gg79 ?hdC79 ?hev79 ?hs179 ?hs279; (case a79 => k_is); (case l79 => k_is); (case rv79 => first | rfl | decide +kernel); (case iC79 => k_is); (case lf79 => k_is); (case cf79 => k_is); (case lc79 => k_is); (case hvs79 => first | rfl | k_is); (case hfile79 => first | rfl | k_is); (case lcc79 => k_is); (case htop79 => first | rfl | k_is); (case zs79 => k_is); (case tI79 => k_is); (case sa79 => k_is); (case exC79 => k_is); (case tyC79 => k_is); (case kC79 => k_is); (case su79 => k_is); (case val79 => k_is); (case sup79 => kernel_rfl); (case isv79 => k_is); (case opq79 => k_is); (case ini79 => k_is); (case ga79 => k_is); (case gg79 => k_is); (case hdC79 => k_is); (case hev79 => exact fun _ => ⟨_, rfl⟩); (case hs179 => exact fun _ => rfl); (case hs279 => exact fun _ => rfl))
    (case x_InvalidSetting => refine' DL.excOk_mk KX G ?a80 ?l80 ?rv80 ?iC80 ?lf80 ?cf80 ?lc80 ?hvs80 ?hfile80 ?lcc80 ?htop80 ?zs80 ?tI80 ?sa80 ?exC80 ?tyC80 ?kC80 ?su80 ?val80 ?sup80 ?isv80 ?opq80 ?ini80 ?ga80 ?gg80 ?hdC80 ?hev80 ?hs180 ?hs280; (case a80 => k_is); (case l80 => k_is); (case rv80 => first | rfl | decide +kernel); (case iC80 => k_is); (case lf80 => k_is); (case cf80 => k_is); (case lc80 => k_is); (case hvs80 => first | rfl | k_is); (case hfile80 => first | rfl | k_is); (case lcc80 => k_is); (case htop80 => first | rfl | k_is); (case zs80 => k_is); (case tI80 => k_is); (case sa80 => k_is); (case exC80 => k_is); (case tyC80 => k_is); (case kC80 => k_is); (case su80 => k_is); (case val80 => k_is); (case sup80 => kernel_rfl); (case isv80 => k_is); (case opq80 => k_is); (case ini80 => k_is); (case ga80 => k_is); (case gg80 => k_is); (case hdC80 => k_is); (case hev80 => exact fun _ => ⟨_, rfl⟩); (case hs180 => exact fun _ => rfl); (case hs280 => exact fun _ => rfl))
    (case x_InvalidWord => refine' DL.excOk_mk KX G ?a81 ?l81 ?rv81 ?iC81 ?lf81 ?cf81 ?lc81 ?hvs81 ?hfile81 ?lcc81 ?htop81 ?zs81 ?tI81 ?sa81 ?exC81 ?tyC81 ?kC81 ?su81 ?val81 ?sup81 ?isv81 ?opq81 ?ini81 ?ga81 ?gg81 ?hdC81 ?hev81 ?hs181 ?hs281; (case a81 => k_is); (case l81 => k_is); (case rv81 => first | rfl | decide +kernel); (case iC81 => k_is); (case lf81 => k_is); (case cf81 => k_is); (case lc81 => k_is); (case hvs81 => first | rfl | k_is); (case hfile81 => first | rfl | k_is); (case lcc81 => k_is); (case htop81 => first | rfl | k_is); (case zs81 => k_is); (case tI81 => k_is); (case sa81 => k_is); (case exC81 => k_is); (case tyC81 => k_is); (case kC81 => k_is); (case su81 => k_is); (case val81 => k_is); (case sup81 => kernel_rfl); (case isv81 => k_is); (case opq81 => k_is); (case ini81 => k_is); (case ga81 => k_is); (case gg81 => k_is); (case hdC81 => k_is); (case hev81 => exact fun _ => ⟨_, rfl⟩); (case hs181 => exact fun _ => rfl); (case hs281 => exact fun _ => rfl))
    (case e_0_0 => refine' DL.exm_mk KX G ?a82 ?b82 ?e82; (case a82 => k_is); (case b82 => k_is); (case e82 => kernel_rfl))
    (case e_0_1 => refine' DL.exm_mk KX G ?a83 ?b83 ?e83; (case a83 => k_is); (case b83 => k_is); (case e83 => kernel_rfl))
    (case e_0_2 => refine' DL.exm_mk KX G ?a84 ?b84 ?e84; (case a84 => k_is); (case b84 => k_is); (case e84 => kernel_rfl))
    (case e_1_0 => refine' DL.exm_mk KX G ?a85 ?b85 ?e85; (case a85 => k_is); (case b85 => k_is); (case e85 => kernel_rfl))
    (case e_1_1 => refine' DL.exm_mk KX G ?a86 ?b86 ?e86; (case a86 => k_is); (case b86 => k_is); (case e86 => kernel_rfl))
    (case e_1_2 => refine' DL.exm_mk KX G ?a87 ?b87 ?e87; (case a87 => k_is); (case b87 => k_is); (case e87 => kernel_rfl))
    (case e_2_0 => refine' DL.exm_mk KX G ?a88 ?b88 ?e88; (case a88 => k_is); (case b88 => k_is); (case e88 => kernel_rfl))
    (case e_2_1 => refine' DL.exm_mk KX G ?a89 ?b89 ?e89; (case a89 => k_is); (case b89 => k_is); (case e89 => kernel_rfl))
    (case e_2_2 => refine' DL.exm_mk KX G ?a90 ?b90 ?e90; (case a90 => k_is); (case b90 => k_is); (case e90 => kernel_rfl))
    (case nl => kernel_rfl)
