import PyProof.Rows.All
import Wide.All
import OpenK.AllK
import Wide.FinOn
import HandS.ForMost
import HandS.ForExc
import HandS.Wide
import HandS.Deep
import HandS.TupMul
import HandS.Flow
import HandS.Style
import HandS.TupAny
import KE.DataEq
import KE.KEqDict
import PyProof.EqKinds
import PyProof.FactsAll.dict_1
import PyProof.FactsAll.dict_2
import PyProof.NeKinds
import HandS.IsInst
import HandS.Zip
import PyProof.EnumMake
import KE.GoesNew
import HandS.ExcOwn
import HandS.More
import HandS.ExcInit
import HandS.WordsExc
import HandS.TryOnly
import KE.KExcIs
import PyProof.FitsInt
import HandS.ExcValue
import PySem.Challenge.RW_bestcalls_k98_each_refusal_of_one_class

section
set_option Elab.async false
set_option linter.all false
set_option maxRecDepth 100000
set_option maxHeartbeats 2000000
namespace VL
open PySem PySem.W PySem.Spec PyProof.Rows L2

/-- a text of the common size, of code points -/
def SOk (s : Str) : Prop := s.length ≤ sizeLine ∧ PyData.strOk s = true
abbrev Fz := Addr → Prop
inductive D where
  | non | bl (b : Bool) | int (i : Int) | str (s : Str)
  | lst (o : Bool) (ds : List D) | tup (ds : List D) | dct (o : Bool) (kvs : List (Key × D))
  /-- an error of the class named c, with what it has as at -/
  | exn (c : Str) (d : D)
/-- the class of the module that is named c -/
def ClsAt (K : Frag) (c : Str) (C : Addr) : Prop := PySem.W.nsIn K mainGlobals c = some (some (.ref C))
/-- an error that was caught -/
def ExnAt (K : Frag) (H : Hp) (a : Addr) (c : Str) (v : V) : Prop := ∃ (C dx : Addr) (oe : Obj) (u : HO), H a = some (.frz oe u) ∧ Zc (.ref C) (some dx) oe ∧ (∃ vs, oe.data = .fields vs) ∧ ClsAt K c C ∧ H dx = some (.xd [("at", v)])

/-- frozen list, locked list -/
def StL (K : Frag) (F : Addr → Prop) (H : Hp) (a : Addr) (vs : List V) : Prop :=
  (F a ∧ H a = some (.lst vs)) ∨ (∃ o, H a = some (.frz o (.lst vs))) ∨
    ∃ (ob : Obj) (us : Array Value) (k : Nat), K.lookup a = some ob ∧ ob.cls = .type "list" ∧ ob.dict = none ∧ ob.data = .seq us k ∧ us.size ≤ sizeLine ∧ Vals vs us.toList
def StD (F : Addr → Prop) (H : Hp) (a : Addr) (kvs : List (Key × V)) : Prop :=
  (F a ∧ H a = some (.dK kvs)) ∨ (∃ o, H a = some (.frz o (.dK kvs)))

mutual
inductive Rep (K : Frag) (H : Hp) (F : Addr → Prop) : V → D → List Addr → Prop
  | non : Rep K H F .non .non []
  | bl (b : Bool) : Rep K H F (.bl b) (.bl b) []
  | int (i : Int) : Rep K H F (.int i) (.int i) []
  | str (s : Str) : SOk s → Rep K H F (.str s) (.str s) []
  | lstO {a : Addr} {vs : List V} {ds : List D} {us : List Addr} : H a = some (.lst vs) → RepL K H F vs ds us → Rep K H F (.ref a) (.lst true ds) (a :: us)
  | lstF {a : Addr} {vs : List V} {ds : List D} : StL K F H a vs → RepL K H F vs ds [] → Rep K H F (.ref a) (.lst false ds) []
  | tup {a : Addr} {vs : List V} {ds : List D} {us : List Addr} : SqT K H a vs → RepL K H F vs ds us → Rep K H F (.ref a) (.tup ds) us
  | dctO {a : Addr} {kvs : List (Key × V)} {ds : List (Key × D)} {us : List Addr} : H a = some (.dK kvs) → RepK K H F kvs ds us → Rep K H F (.ref a) (.dct true ds) (a :: us)
  | dctF {a : Addr} {kvs : List (Key × V)} {ds : List (Key × D)} : StD F H a kvs → RepK K H F kvs ds [] → Rep K H F (.ref a) (.dct false ds) []
  | exn {a : Addr} {c : Str} {v : V} {d : D} {us : List Addr} : ExnAt K H a c v → Rep K H F v d us → Rep K H F (.ref a) (.exn c d) us
inductive RepL (K : Frag) (H : Hp) (F : Addr → Prop) : List V → List D → List Addr → Prop
  | nil : RepL K H F [] [] []
  | cons {v : V} {vs : List V} {d : D} {ds : List D} {u us : List Addr} : Rep K H F v d u → RepL K H F vs ds us → RepL K H F (v :: vs) (d :: ds) (u ++ us)
inductive RepK (K : Frag) (H : Hp) (F : Addr → Prop) : List (Key × V) → List (Key × D) → List Addr → Prop
  | nil : RepK K H F [] [] []
  | cons {k : Key} {v : V} {vs : List (Key × V)} {d : D} {ds : List (Key × D)} {u us : List Addr} : Rep K H F v d u → RepK K H F vs ds us → RepK K H F ((k, v) :: vs) ((k, d) :: ds) (u ++ us)
end

mutual
def frz : D → D
  | .lst _ ds => .lst false (frzL ds)
  | .tup ds => .tup (frzL ds)
  | .dct _ kvs => .dct false (frzK kvs)
  | .exn c d => .exn c (frz d)
  | .non => .non | .bl b => .bl b | .int i => .int i | .str s => .str s
def frzL : List D → List D
  | [] => []
  | d :: ds => frz d :: frzL ds
def frzK : List (Key × D) → List (Key × D)
  | [] => []
  | (k, d) :: ds => (k, frz d) :: frzK ds
end
mutual
def clean : D → Bool
  | .lst o ds => o && cleanL ds
  | .tup ds => cleanL ds
  | .dct o kvs => o && cleanK kvs
  | .exn _ d => clean d
  | .non => true | .bl _ => true | .int _ => true | .str _ => true
def cleanL : List D → Bool
  | [] => true
  | d :: ds => clean d && cleanL ds
def cleanK : List (Key × D) → Bool
  | [] => true
  | (_, d) :: ds => clean d && cleanK ds
end

theorem frzL_map : ∀ ds : List D, frzL ds = ds.map frz
  | [] => rfl
  | d :: ds => by rw [frzL, frzL_map ds]; rfl
theorem cleanL_all : ∀ ds : List D, cleanL ds = ds.all clean
  | [] => rfl
  | d :: ds => by rw [cleanL, cleanL_all ds]; rfl
theorem frzK_map : ∀ ds : List (Key × D), frzK ds = ds.map fun p => (p.1, frz p.2)
  | [] => rfl
  | (k, d) :: ds => by rw [frzK, frzK_map ds]; rfl

mutual
theorem frz_frz : ∀ d : D, frz (frz d) = frz d
  | .lst _ ds => by simp only [frz, frzL_frz ds]
  | .tup ds => by simp only [frz, frzL_frz ds]
  | .dct _ kvs => by simp only [frz, frzK_frz kvs]
  | .exn c d => by simp only [frz, frz_frz d]
  | .non => rfl | .bl _ => rfl | .int _ => rfl | .str _ => rfl
theorem frzL_frz : ∀ ds : List D, frzL (frzL ds) = frzL ds
  | [] => rfl
  | d :: ds => by simp only [frzL, frz_frz d, frzL_frz ds]
theorem frzK_frz : ∀ ds : List (Key × D), frzK (frzK ds) = frzK ds
  | [] => rfl
  | (k, d) :: ds => by simp only [frzK, frz_frz d, frzK_frz ds]
end

/-- what stands in F, at us, or can't be changed stays -/
def Keep (F : Fz) (us : List Addr) (H H' : Hp) : Prop := ∀ b o, H b = some o → (F b ∨ b ∈ us ∨ ¬ Mut (some o)) → H' b = some o
theorem Keep.same {F : Fz} {us : List Addr} {H H' : Hp} (h : Same H H') : Keep F us H H' := fun b o e _ => h b o e
theorem Keep.mono {F : Fz} {us us' : List Addr} {H H' : Hp} (h : Keep F us H H') (s : ∀ a ∈ us', a ∈ us) : Keep F us' H H' := fun b o e q => h b o e (q.imp id fun z => z.imp (s b) id)

section
variable {K : Frag} {H H' : Hp} {F F' : Fz}
theorem StL.keep {a : Addr} {vs : List V} {us : List Addr} (s : StL K F H a vs) (k : Keep F us H H') (f : ∀ b, F b → F' b) : StL K F' H' a vs := by
  rcases s with ⟨h1, h2⟩ | ⟨o, h⟩ | h
  · exact .inl ⟨f _ h1, k _ _ h2 (.inl h1)⟩
  · exact .inr (.inl ⟨o, k _ _ h (.inr (.inr fun z => z))⟩)
  · exact .inr (.inr h)
theorem StD.keep {a : Addr} {vs : List (Key × V)} {us : List Addr} (s : StD F H a vs) (k : Keep F us H H') (f : ∀ b, F b → F' b) : StD F' H' a vs := by
  rcases s with ⟨h1, h2⟩ | ⟨o, h⟩
  · exact .inl ⟨f _ h1, k _ _ h2 (.inl h1)⟩
  · exact .inr ⟨o, k _ _ h (.inr (.inr fun z => z))⟩
theorem SqT.keep {a : Addr} {vs : List V} {us : List Addr} (s : SqT K H a vs) (k : Keep F us H H') : SqT K H' a vs := by
  rcases s with (h | ⟨o, h⟩) | h
  · exact .inl (.inl (k _ _ h (.inr (.inr fun z => z))))
  · exact .inl (.inr ⟨o, k _ _ h (.inr (.inr fun z => z))⟩)
  · exact .inr h
theorem StL.sq {a : Addr} {vs : List V} (s : StL K F H a vs) : SqL K H a vs := by
  rcases s with ⟨_, h2⟩ | h | h
  · exact .inl (.inl h2)
  · exact .inl (.inr h)
  · exact .inr h
theorem StD.rd {a : Addr} {vs : List (Key × V)} (s : StD F H a vs) : Rd H a (.dK vs) := by
  rcases s with ⟨_, h2⟩ | h
  · exact .inl h2
  · exact .inr h
theorem ExnAt.keep {a : Addr} {c : Str} {v : V} {us : List Addr} (s : ExnAt K H a c v) (k : Keep F us H H') : ExnAt K H' a c v := by
  obtain ⟨C, dx, oe, u, h1, h2, h3, h4, h5⟩ := s
  exact ⟨C, dx, oe, u, k _ _ h1 (.inr (.inr fun z => z)), h2, h3, h4, k _ _ h5 (.inr (.inr fun z => z))⟩

mutual
theorem Rep.keep {v : V} {d : D} {us : List Addr} (r : Rep K H F v d us) (k : Keep F us H H') (f : ∀ b, F b → F' b) : Rep K H' F' v d us := by
  cases r with
  | non => exact .non
  | bl b => exact .bl b
  | int i => exact .int i
  | str s hs => exact .str s hs
  | lstO h l => exact .lstO (k _ _ h (.inr (.inl List.mem_cons_self))) (l.keep (k.mono fun a q => List.mem_cons_of_mem _ q) f)
  | lstF h l => exact .lstF (h.keep k f) (l.keep k f)
  | tup h l => exact .tup (SqT.keep h k) (l.keep k f)
  | dctO h l => exact .dctO (k _ _ h (.inr (.inl List.mem_cons_self))) (l.keep (k.mono fun a q => List.mem_cons_of_mem _ q) f)
  | dctF h l => exact .dctF (h.keep k f) (l.keep k f)
  | exn h l => exact .exn (h.keep k) (l.keep k f)
theorem RepL.keep {v : List V} {d : List D} {us : List Addr} (r : RepL K H F v d us) (k : Keep F us H H') (f : ∀ b, F b → F' b) : RepL K H' F' v d us := by
  cases r with
  | nil => exact .nil
  | cons h l => exact .cons (h.keep (k.mono fun a q => List.mem_append_left _ q) f) (l.keep (k.mono fun a q => List.mem_append_right _ q) f)
theorem RepK.keep {v : List (Key × V)} {d : List (Key × D)} {us : List Addr} (r : RepK K H F v d us) (k : Keep F us H H') (f : ∀ b, F b → F' b) : RepK K H' F' v d us := by
  cases r with
  | nil => exact .nil
  | cons h l => exact .cons (h.keep (k.mono fun a q => List.mem_append_left _ q) f) (l.keep (k.mono fun a q => List.mem_append_right _ q) f)
end
theorem Rep.same {v : V} {d : D} {us : List Addr} (r : Rep K H F v d us) (k : Same H H') (f : ∀ b, F b → F' b) : Rep K H' F' v d us := r.keep (Keep.same k) f
theorem RepL.same {v : List V} {d : List D} {us : List Addr} (r : RepL K H F v d us) (k : Same H H') (f : ∀ b, F b → F' b) : RepL K H' F' v d us := r.keep (Keep.same k) f
theorem RepK.same {v : List (Key × V)} {d : List (Key × D)} {us : List Addr} (r : RepK K H F v d us) (k : Same H H') (f : ∀ b, F b → F' b) : RepK K H' F' v d us := r.keep (Keep.same k) f

mutual
theorem Rep.frz {v : V} {d : D} {us : List Addr} (r : Rep K H F v d us) (f : ∀ b, F b → F' b) (g : ∀ b ∈ us, F' b) : Rep K H F' v (frz d) [] := by
  cases r with
  | non => exact .non
  | bl b => exact .bl b
  | int i => exact .int i
  | str s hs => exact .str s hs
  | lstO h l => exact .lstF (.inl ⟨g _ List.mem_cons_self, h⟩) (l.frz f fun b hb => g b (List.mem_cons_of_mem _ hb))
  | lstF h l => exact .lstF (h.keep (us := []) (fun _ _ e _ => e) f) (l.frz f (fun _ hb => nomatch hb))
  | tup h l => exact .tup h (l.frz f g)
  | dctO h l => exact .dctF (.inl ⟨g _ List.mem_cons_self, h⟩) (l.frz f fun b hb => g b (List.mem_cons_of_mem _ hb))
  | dctF h l => exact .dctF (h.keep (us := []) (fun _ _ e _ => e) f) (l.frz f (fun _ hb => nomatch hb))
  | exn h l => exact .exn h (l.frz f g)
theorem RepL.frz {v : List V} {d : List D} {us : List Addr} (r : RepL K H F v d us) (f : ∀ b, F b → F' b) (g : ∀ b ∈ us, F' b) : RepL K H F' v (frzL d) [] := by
  cases r with
  | nil => exact .nil
  | cons h l => exact .cons (u := []) (us := []) (h.frz f fun b hb => g b (List.mem_append_left _ hb)) (l.frz f fun b hb => g b (List.mem_append_right _ hb))
theorem RepK.frz {v : List (Key × V)} {d : List (Key × D)} {us : List Addr} (r : RepK K H F v d us) (f : ∀ b, F b → F' b) (g : ∀ b ∈ us, F' b) : RepK K H F' v (frzK d) [] := by
  cases r with
  | nil => exact .nil
  | cons h l => exact .cons (u := []) (us := []) (h.frz f fun b hb => g b (List.mem_append_left _ hb)) (l.frz f fun b hb => g b (List.mem_append_right _ hb))
end
mutual
theorem Rep.clean {v : V} {d : D} {us : List Addr} (r : Rep K H F v d us) (c : clean d = true) : Rep K H F' v d us := by
  cases r with
  | non => exact .non
  | bl b => exact .bl b
  | int i => exact .int i
  | str s hs => exact .str s hs
  | lstO h l => exact .lstO h (l.clean (by simpa [VL.clean] using c))
  | lstF h l => simp [VL.clean] at c
  | tup h l => exact .tup h (l.clean (by simpa [VL.clean] using c))
  | dctO h l => exact .dctO h (l.clean (by simpa [VL.clean] using c))
  | dctF h l => simp [VL.clean] at c
  | exn h l => exact .exn h (l.clean (by simpa [VL.clean] using c))
theorem RepL.clean {v : List V} {d : List D} {us : List Addr} (r : RepL K H F v d us) (c : cleanL d = true) : RepL K H F' v d us := by
  cases r with
  | nil => exact .nil
  | cons h l =>
    have c := Bool.and_eq_true_iff.mp (by simpa only [VL.cleanL] using c)
    exact .cons (h.clean c.1) (l.clean c.2)
theorem RepK.clean {v : List (Key × V)} {d : List (Key × D)} {us : List Addr} (r : RepK K H F v d us) (c : cleanK d = true) : RepK K H F' v d us := by
  cases r with
  | nil => exact .nil
  | cons h l =>
    have c := Bool.and_eq_true_iff.mp (by simpa only [VL.cleanK] using c)
    exact .cons (h.clean c.1) (l.clean c.2)
end
mutual
theorem Rep.there {v : V} {d : D} {us : List Addr} (r : Rep K H F v d us) : ∀ a ∈ us, ∃ o, H a = some o ∧ Mut (some o) := by
  cases r with
  | non => exact fun _ h => nomatch h
  | bl b => exact fun _ h => nomatch h
  | int i => exact fun _ h => nomatch h
  | str s hs => exact fun _ h => nomatch h
  | lstO h l =>
    intro a ha
    rcases List.mem_cons.mp ha with rfl | ha
    · exact ⟨_, h, trivial⟩
    · exact l.there a ha
  | lstF h l => exact fun _ h => nomatch h
  | tup h l => exact l.there
  | dctO h l =>
    intro a ha
    rcases List.mem_cons.mp ha with rfl | ha
    · exact ⟨_, h, trivial⟩
    · exact l.there a ha
  | dctF h l => exact fun _ h => nomatch h
  | exn h l => exact l.there
theorem RepL.there {v : List V} {d : List D} {us : List Addr} (r : RepL K H F v d us) : ∀ a ∈ us, ∃ o, H a = some o ∧ Mut (some o) := by
  cases r with
  | nil => exact fun _ h => nomatch h
  | cons h l =>
    intro a ha
    rcases List.mem_append.mp ha with ha | ha
    · exact h.there a ha
    · exact l.there a ha
theorem RepK.there {v : List (Key × V)} {d : List (Key × D)} {us : List Addr} (r : RepK K H F v d us) : ∀ a ∈ us, ∃ o, H a = some o ∧ Mut (some o) := by
  cases r with
  | nil => exact fun _ h => nomatch h
  | cons h l =>
    intro a ha
    rcases List.mem_append.mp ha with ha | ha
    · exact h.there a ha
    · exact l.there a ha
end
theorem RepL.length {v : List V} {d : List D} {us : List Addr} : RepL K H F v d us → v.length = d.length
  | .nil => rfl
  | .cons _ l => by simp [RepL.length l]
theorem RepK.length {v : List (Key × V)} {d : List (Key × D)} {us : List Addr} : RepK K H F v d us → v.length = d.length
  | .nil => rfl
  | .cons _ l => by simp [RepK.length l]
end
end VL
end

section
set_option Elab.async false
set_option linter.all false
set_option maxRecDepth 100000
set_option maxHeartbeats 2000000
namespace VL
open PySem PySem.W PySem.Spec PyProof.Rows L2

inductive R (α : Type) where
  | ok (a : α) | exc (c : Str) (d : D) | bad
def R.bind {α β : Type} : R α → (α → R β) → R β
  | .ok a, f => f a
  | .exc c d, _ => .exc c d
  | .bad, _ => .bad
@[simp] theorem R.bind_ok {α β : Type} (a : α) (f : α → R β) : (R.ok a).bind f = f a := rfl
@[simp] theorem R.bind_exc {α β : Type} (c : Str) (d : D) (f : α → R β) : (R.exc c d : R α).bind f = .exc c d := rfl
@[simp] theorem R.bind_bad {α β : Type} (f : α → R β) : (R.bad : R α).bind f = .bad := rfl
abbrev Env := List (Option D)
abbrev T := Env → R D

structure Grow (F F' : Fz) (us : List Addr) (H : Hp) : Prop where
  sub : ∀ a, F a → F' a
  new : ∀ a, F' a → F a ∨ a ∈ us ∨ H a = none
theorem Grow.refl {F : Fz} {us : List Addr} {H : Hp} : Grow F F us H := ⟨fun _ h => h, fun _ h => .inl h⟩

abbrev RpT (β α : Type) := Hp → Fz → β → α → List Addr → Prop
abbrev RpV (K : Frag) : RpT V D := fun H F v d us => Rep K H F v d us
abbrev RpL (K : Frag) : RpT (List V) (List D) := fun H F v d us => RepL K H F v d us
abbrev RpB : RpT Bool Bool := fun _ _ b c us => b = c ∧ us = []
abbrev RpO : RpT (Option Int) (Option Int) := fun _ _ b c us => b = c ∧ us = []

def Wf (F : Fz) (H : Hp) : Prop := ∀ a, F a → H a ≠ none
theorem Wf.same {F : Fz} {H H' : Hp} (w : Wf F H) (s : Same H H') : Wf F H' := fun a h z => w a h (s.free z)
def Post {α β : Type} (K : Frag) (mg : Str → Option Value) (Rp : RpT β α) (H : Hp) (F : Fz) (us : List Addr) (r : R α) (Q : β → Hp → Prop) (E : Option XK) : Prop := match r with
  | .ok d => ∀ v H' F' us', Same H H' → Grow F F' us H → Wf F' H' → Rp H' F' v d us' → us'.Nodup → (∀ a ∈ us', ¬ F' a ∧ (a ∈ us ∨ H a = none)) → Q v H'
  | .exc c d => ∃ E', E = some E' ∧ ∀ C dx v H' F', ClsAt K c C → Same H H' → Grow F F' us H → Wf F' H' → H' dx = some (.xd [("at", v)]) → Rep K H' F' v d [] → E' (.ref C) (some dx) H'
  | .bad => False

section
variable {α β γ δ : Type} {K : Frag} {mg : Str → Option Value} {Rp : RpT β α} {Rp2 : RpT γ δ} {H H1 : Hp} {F F1 : Fz} {us us1 : List Addr} {E : Option XK}
theorem post_bind {r : R α} {k : α → R δ} {Q : γ → Hp → Prop} {Q1 : β → Hp → Prop} (h : Post K mg Rp2 H F us (r.bind k) Q E)
    (g : ∀ d v H1 F1 us1, r = .ok d → Same H H1 → Grow F F1 us H → Wf F1 H1 → Rp H1 F1 v d us1 → us1.Nodup → (∀ a ∈ us1, ¬ F1 a ∧ (a ∈ us ∨ H a = none)) → Post K mg Rp2 H F us (k d) Q E → Q1 v H1) : Post K mg Rp H F us r Q1 E := by
  cases r with
  | ok d => exact fun v H' F' us' s g' w r n f => g d v H' F' us' rfl s g' w r n f h
  | exc c d => exact h
  | bad => exact h
theorem Grow.trans {F' : Fz} (s : Same H H1) (g : Grow F F1 us H) (u : ∀ a ∈ us1, a ∈ us ∨ H a = none) (g' : Grow F1 F' us1 H1) : Grow F F' us H := ⟨fun a q => g'.sub a (g.sub a q), fun a q => by
    rcases g'.new a q with q | q | q
    · exact g.new a q
    · exact .inr (u a q)
    · exact .inr (.inr (s.free q))⟩
theorem post_later {r : R α} {Q : β → Hp → Prop} (h : Post K mg Rp H F us r Q E) (s : Same H H1) (g : Grow F F1 us H) (u : ∀ a ∈ us1, a ∈ us ∨ H a = none) : Post K mg Rp H1 F1 us1 r Q E := by
  cases r with
  | ok d =>
    intro v H' F' us' s' g' w r n f
    refine h v H' F' us' (s.trans s') (g.trans s u g') w r n fun a ha => ⟨(f a ha).1, ?_⟩
    rcases (f a ha).2 with q | q
    · exact u a q
    · exact .inr (s.free q)
  | exc c d =>
    obtain ⟨E', e, h⟩ := h
    exact ⟨E', e, fun C dx v H' F' m s' g' w x r => h C dx v H' F' m (s.trans s') (g.trans s u g') w x r⟩
  | bad => exact h
theorem post_mono {r : R α} {Q Q' : β → Hp → Prop} (h : Post K mg Rp H F us r Q E) (q : ∀ v H, Q v H → Q' v H) : Post K mg Rp H F us r Q' E := by
  cases r with
  | ok d => exact fun v H' F' us' s g w r n f => q _ _ (h v H' F' us' s g w r n f)
  | exc c d => exact h
  | bad => exact h
theorem post_here {d : α} {Q : β → Hp → Prop} (h : Post K mg Rp H F us (.ok d) Q E) (w : Wf F H) {v : β} (r : Rp H F v d us1) (n : us1.Nodup) (f : ∀ a ∈ us1, ¬ F a ∧ a ∈ us) : Q v H :=
  h v H F us1 (Same.refl H) Grow.refl w r n fun a ha => ⟨(f a ha).1, .inl (f a ha).2⟩
theorem post_flat {d : α} {Q : β → Hp → Prop} (h : Post K mg Rp H F us (.ok d) Q E) (w : Wf F H) {v : β} (r : Rp H F v d []) : Q v H :=
  post_here h w r (by simp) (fun _ z => nomatch z)
end

theorem same_new {H : Hp} {p : Addr} {o : HO} (h : H p = none) : Same H (upd H p o) := fun b u e => by
  rw [upd_ne (ne_of_none e h)]; exact e

section
variable {K : Frag} {mg : Str → Option Value} {H : Hp} {F : Fz} {us u2 : List Addr} {E : Option XK} {vs : List V} {ds : List D} {Q : VK}
theorem Wf.not {p : Addr} (w : Wf F H) (hp : H p = none) : ¬ F p := fun z => w p z hp
theorem post_newL (h : Post K mg (RpV K) H F us (.ok (.lst true ds)) Q E) (w : Wf F H) (r : RepL K H F vs ds u2) (n : u2.Nodup) (f : ∀ a ∈ u2, ¬ F a ∧ a ∈ us) {p : Addr} (hp : H p = none) : Q (.ref p) (upd H p (.lst vs)) := by
  have pf : p ∉ u2 := fun z => by
    obtain ⟨o, e, _⟩ := r.there p z
    rw [hp] at e; cases e
  have s := same_new (o := HO.lst vs) hp
  refine h (.ref p) _ F (p :: u2) s Grow.refl (w.same s) (.lstO upd_same (r.same s fun _ h => h)) (List.nodup_cons.mpr ⟨pf, n⟩) fun a ha => ?_
  rcases List.mem_cons.mp ha with rfl | ha
  · exact ⟨w.not hp, .inr hp⟩
  · exact ⟨(f a ha).1, .inl (f a ha).2⟩
theorem post_newT (h : Post K mg (RpV K) H F us (.ok (.tup ds)) Q E) (w : Wf F H) (r : RepL K H F vs ds u2) (n : u2.Nodup) (f : ∀ a ∈ u2, ¬ F a ∧ a ∈ us) {p : Addr} (hp : H p = none) : Q (.ref p) (upd H p (.tup vs)) := by
  have s := same_new (o := HO.tup vs) hp
  exact h (.ref p) _ F u2 s Grow.refl (w.same s) (.tup (SqT.of upd_same) (r.same s fun _ h => h)) n fun a ha => ⟨(f a ha).1, .inl (f a ha).2⟩
theorem post_newD {kvs : List (Key × V)} {kds : List (Key × D)} (h : Post K mg (RpV K) H F us (.ok (.dct true kds)) Q E) (w : Wf F H) (r : RepK K H F kvs kds u2) (n : u2.Nodup) (f : ∀ a ∈ u2, ¬ F a ∧ a ∈ us) {p : Addr} (hp : H p = none) : Q (.ref p) (upd H p (.dK kvs)) := by
  have pf : p ∉ u2 := fun z => by
    obtain ⟨o, e, _⟩ := r.there p z
    rw [hp] at e; cases e
  have s := same_new (o := HO.dK kvs) hp
  refine h (.ref p) _ F (p :: u2) s Grow.refl (w.same s) (.dctO upd_same (r.same s fun _ h => h)) (List.nodup_cons.mpr ⟨pf, n⟩) fun a ha => ?_
  rcases List.mem_cons.mp ha with rfl | ha
  · exact ⟨w.not hp, .inr hp⟩
  · exact ⟨(f a ha).1, .inl (f a ha).2⟩
end

def EnvT (K : Frag) (H : Hp) (F : Fz) (σ : L2.St) (env : Env) : Prop := env.length ≤ σ.length ∧ ∀ (i : Nat) (d : D), env[i]? = some (some d) → ∃ v, σ[i]? = some (some v) ∧ Rep K H F v (frz d) []
theorem EnvT.same {K : Frag} {H H' : Hp} {F F' : Fz} {σ : L2.St} {env : Env} (h : EnvT K H F σ env) (s : Same H H') (f : ∀ a, F a → F' a) : EnvT K H' F' σ env := ⟨h.1, fun i d e => by
  obtain ⟨v, e1, r⟩ := h.2 i d e
  exact ⟨v, e1, r.same s f⟩⟩
abbrev wX (W : Option WX) (σ : L2.St) : Option XK := W.map fun W c d H' => W c d σ H'
def tT {α β : Type} (K : Frag) (mg : Str → Option Value) (W : Option WX) (Rp : RpT β α) (m : Env → R α) : L2.St → Hp → (β → Hp → Prop) → Prop := fun σ H Q => ∃ F env, EnvT K H F σ env ∧ Wf F H ∧ Post K mg Rp H F [] (m env) Q (wX W σ)

abbrev VE (X : Cx) (W : Option WX) (e : Expr) (m : T) : Prop := PE X e (tT X.K X.mg W (RpV X.K) m)
abbrev VA (X : Cx) (W : Option WX) (es : List Expr) (m : Env → R (List D)) : Prop := PA X es (tT X.K X.mg W (RpL X.K) m)
abbrev VT (X : Cx) (W : Option WX) (e : Expr) (m : Env → R Bool) : Prop := PT X e (tT X.K X.mg W RpB m)
abbrev VW (X : Cx) (W : Option WX) (e : Expr) (m : Env → R Bool) : Prop := PW X e (tT X.K X.mg W RpB m)

theorem PE.to {X : Cx} {e : Expr} {t t' : TE} (h : PE X e t) (i : ∀ σ H Q, t' σ H Q → t σ H Q) : PE X e t' := ⟨fun pins s σ H Q I q => h.run pins s σ H Q I (i σ H Q q)⟩
theorem PT.to {X : Cx} {e : Expr} {t t' : TT} (h : PT X e t) (i : ∀ σ H Q, t' σ H Q → t σ H Q) : PT X e t' := ⟨fun pins s σ H Q I q => h.run pins s σ H Q I (i σ H Q q)⟩
theorem PW.to {X : Cx} {e : Expr} {t t' : TT} (h : PW X e t) (i : ∀ σ H Q, t' σ H Q → t σ H Q) : PW X e t' := ⟨fun wh pins s σ H Q I q => h.run wh pins s σ H Q I (i σ H Q q)⟩
theorem PA.to {X : Cx} {es : List Expr} {t t' : TA} (h : PA X es t) (i : ∀ σ H Q, t' σ H Q → t σ H Q) : PA X es t' := ⟨fun pos pins s σ H Q I q => h.run pos pins s σ H Q I (i σ H Q q)⟩

def look (i : Nat) : T := fun env => match env[i]? with
  | some (some d) => .ok (frz d)
  | _ => .bad

section
variable {X : Cx} {W : Option WX} {a b e : Expr} {es : List Expr} {ma mb : T} {ms : Env → R (List D)} {pos : Pos}
/-- from a reading behind m to the reading of a first part -/
theorem tT_first {α β γ δ : Type} {K : Frag} {mg : Str → Option Value} {Rp : RpT β α} {Rp2 : RpT γ δ} {m : Env → R α} {k : Env → α → R δ} {σ : L2.St} {H : Hp} {Q : γ → Hp → Prop} {Q1 : β → Hp → Prop}
    (h : tT K mg W Rp2 (fun env => (m env).bind (k env)) σ H Q)
    (g : ∀ F env d v H1 F1 us1, EnvT K H1 F1 σ env → Same H H1 → Grow F F1 [] H → Wf F1 H1 → Rp H1 F1 v d us1 → us1.Nodup → (∀ a ∈ us1, ¬ F1 a ∧ H a = none) → Post K mg Rp2 H1 F1 us1 (k env d) Q (wX W σ) → Q1 v H1) : tT K mg W Rp m σ H Q1 := by
  obtain ⟨F, env, he, w, hp⟩ := h
  refine ⟨F, env, he, w, post_bind hp fun d v H1 F1 us1 e s1 g1 w1 r1 n1 f1 hp1 => ?_⟩
  have f1' : ∀ a ∈ us1, ¬ F1 a ∧ H a = none := fun a ha => ⟨(f1 a ha).1, (f1 a ha).2.elim (fun z => nomatch z) id⟩
  exact g F env d v H1 F1 us1 (he.same s1 g1.sub) s1 g1 w1 r1 n1 f1' (post_later hp1 s1 g1 fun a ha => .inr (f1' a ha).2)
/-- a second part, with what the first one gave, at u -/
theorem post_next {α β γ δ : Type} {K : Frag} {mg : Str → Option Value} {Rp : RpT β α} {Rp2 : RpT γ δ} {m : Env → R α} {k : α → R δ} {σ : L2.St} {H : Hp} {F : Fz} {u : List Addr} {env : Env} {Q : γ → Hp → Prop} {Q1 : β → Hp → Prop}
    (he : EnvT K H F σ env) (w : Wf F H) (hu : ∀ a ∈ u, ¬ F a ∧ H a ≠ none) (h : Post K mg Rp2 H F u ((m env).bind k) Q (wX W σ))
    (g : ∀ d v H1 F1 us1, EnvT K H1 F1 σ env → Same H H1 → (∀ a, F a → F1 a) → Wf F1 H1 → Rp H1 F1 v d us1 → us1.Nodup → (∀ a ∈ us1, ¬ F1 a ∧ H a = none ∧ a ∉ u) → (∀ a ∈ u, ¬ F1 a) → Post K mg Rp2 H1 F1 (u ++ us1) (k d) Q (wX W σ) → Q1 v H1) : tT K mg W Rp m σ H Q1 := by
  refine ⟨F, env, he, w, ?_⟩
  have h0 : Post K mg Rp2 H F u ((m env).bind k) Q (wX W σ) := h
  cases q : m env with
  | ok d =>
    rw [q] at h0
    intro v H' F' us' s g' w' r n f
    have hF : ∀ a ∈ u, ¬ F' a := fun a ha z => by
      rcases g'.new a z with z | z | z
      · exact (hu a ha).1 z
      · cases z
      · exact (hu a ha).2 z
    have f1 : ∀ a ∈ us', ¬ F' a ∧ H a = none := fun a ha => ⟨(f a ha).1, (f a ha).2.elim (fun z => nomatch z) id⟩
    refine g d v H' F' us' (he.same s g'.sub) s g'.sub w' r n (fun a ha => ⟨(f1 a ha).1, (f1 a ha).2, fun z => (hu a z).2 (f1 a ha).2⟩) hF (post_later h0 s ⟨g'.sub, fun a z => (g'.new a z).imp id (Or.imp (fun q => nomatch q) id)⟩ fun a ha => ?_)
    rcases List.mem_append.mp ha with ha | ha
    · exact .inl ha
    · exact .inr (f1 a ha).2
  | exc c d =>
    rw [q] at h0
    obtain ⟨E', e, h0⟩ := h0
    exact ⟨E', e, fun C dx v H' F' m s g w x r => h0 C dx v H' F' m s ⟨g.sub, fun a z => (g.new a z).imp id (Or.imp (fun q => nomatch q) id)⟩ w x r⟩
  | bad =>
    rw [q] at h0
    exact h0.elim
theorem ve_look (i : Nat) {x : Str} (hN : X.N[i]? = some x := by rfl) (hv : Vis X.env.scope x := by first | exact Or.inl rfl | exact Or.inr (Or.inl rfl) | exact Or.inr (Or.inr rfl)) (hd : (x == ("__debug__" : Str)) = false := by decide)
    (hcd : (x == ("__classdict__" : Str)) = false := by decide) : VE X W (.Name x pos) (look i) := by
  refine PE.to (pe_var hN hv hd hcd) fun σ H Q ⟨F, env, he, w, hp⟩ => ?_
  unfold look at hp
  split at hp
  · rename_i d e
    obtain ⟨v, e1, r⟩ := he.2 i d e
    exact ⟨v, e1, post_flat hp w r⟩
  · exact hp.elim
theorem ve_int {i : Int} {j} : VE X W (.Constant (.int i) j pos) (fun _ => .ok (.int i)) := PE.to pe_int fun σ H Q ⟨F, env, he, w, hp⟩ => post_flat hp w (.int i)
theorem ve_bl {i : Bool} {j} : VE X W (.Constant (.bool i) j pos) (fun _ => .ok (.bl i)) := PE.to pe_bl fun σ H Q ⟨F, env, he, w, hp⟩ => post_flat hp w (.bl i)
theorem ve_non {j} : VE X W (.Constant .none j pos) (fun _ => .ok .non) := PE.to pe_non fun σ H Q ⟨F, env, he, w, hp⟩ => post_flat hp w .non
theorem ve_str {x : Str} {j} (h : SOk x := by exact ⟨by decide +kernel, by decide +kernel⟩) : VE X W (.Constant (.str x) j pos) (fun _ => .ok (.str x)) := PE.to pe_str fun σ H Q ⟨F, env, he, w, hp⟩ => post_flat hp w (.str x h)

theorem va_nil : VA X W [] (fun _ => .ok []) := PA.to pa_nil fun σ H Q ⟨F, env, he, w, hp⟩ => post_flat hp w (show RepL X.K H F [] [] [] from .nil)
theorem va_cons (ha : VE X W e ma) (hs : VA X W es ms) (hq : starEach (e :: es) X.env = (false, eval e X.env) :: starEach es X.env := by rfl) : VA X W (e :: es) (fun env => (ma env).bind fun d => (ms env).bind fun ds => .ok (d :: ds)) := by
  refine PA.to (pa_cons ha hs hq) fun σ H Q h => ?_
  refine tT_first h fun F env d v H1 F1 us1 he s1 g1 w1 r1 n1 f1 hp1 => ?_
  refine post_next he w1 (fun a ha => ⟨(f1 a ha).1, fun z => by obtain ⟨o, q, _⟩ := r1.there a ha; rw [z] at q; cases q⟩) hp1 fun ds vs H2 F2 us2 he2 s2 g2 w2 r2 n2 f2 q2 hp2 => ?_
  refine post_here hp2 w2 (us1 := us1 ++ us2) (RepL.cons (r1.same s2 g2) r2) (List.nodup_append.mpr ⟨n1, n2, fun a ha b hb e => (f2 b hb).2.2 (e ▸ ha)⟩) fun a ha => ⟨?_, ha⟩
  rcases List.mem_append.mp ha with ha | ha
  · exact q2 a ha
  · exact (f2 a ha).1
def tupD (ds : List D) : R D := if ds.length ≤ 1000 then .ok (.tup ds) else .bad
def lstD (ds : List D) : R D := if ds.length ≤ 1000 then .ok (.lst true ds) else .bad
theorem le_line {n : Nat} (h : n ≤ 1000) : n ≤ sizeLine := Nat.le_of_lt (small1000 h)
theorem ve_tup {x1} (h : VA X W es ms) : VE X W (.Tuple es x1 pos) (fun env => (ms env).bind tupD) := by
  refine PE.to (pe_tup h) fun σ H Q h => ?_
  refine tT_first h fun F env d v H1 F1 us1 he s1 g1 w1 r1 n1 f1 hp1 => ?_
  unfold tupD at hp1
  split at hp1
  · rename_i hl
    exact ⟨by rw [r1.length]; exact le_line hl, fun p hp => post_newT hp1 w1 r1 n1 (fun a ha => ⟨(f1 a ha).1, ha⟩) hp⟩
  · exact hp1.elim
theorem ve_lst (h : VA X W es ms) : VE X W (.List es pos) (fun env => (ms env).bind lstD) := by
  refine PE.to (pe_lst h) fun σ H Q h => ?_
  refine tT_first h fun F env d v H1 F1 us1 he s1 g1 w1 r1 n1 f1 hp1 => ?_
  unfold lstD at hp1
  split at hp1
  · rename_i hl
    exact ⟨by rw [r1.length]; exact le_line hl, fun p hp => post_newL hp1 w1 r1 n1 (fun a ha => ⟨(f1 a ha).1, ha⟩) hp⟩
  · exact hp1.elim

def OpV (K : Frag) (mg : Str → Option Value) (r : R2) (op : D → D → R D) : Prop :=
  ∀ (H : Hp) (F : Fz) (us u1 u2 : List Addr) (da db : D) (v w : V) (Q : VK) (E : Option XK), Wf F H → Rep K H F v da u1 → Rep K H F w db u2 → us = u1 ++ u2 → us.Nodup → (∀ a ∈ us, ¬ F a) → Post K mg (RpV K) H F us (op da db) Q E → r v w H Q
def UnV (K : Frag) (mg : Str → Option Value) (r : V → Hp → VK → Prop) (op : D → R D) : Prop :=
  ∀ (H : Hp) (F : Fz) (us : List Addr) (da : D) (v : V) (Q : VK) (E : Option XK), Wf F H → Rep K H F v da us → us.Nodup → (∀ a ∈ us, ¬ F a) → Post K mg (RpV K) H F us (op da) Q E → r v H Q
theorem tOp_of {r : R2} {op : D → D → R D} {ta tb : T} {σ : L2.St} {H : Hp} {Q : VK} (hv : OpV X.K X.mg r op) (h : tT X.K X.mg W (RpV X.K) (fun env => (ta env).bind fun x => (tb env).bind fun y => op x y) σ H Q) :
    tOp r (tT X.K X.mg W (RpV X.K) ta) (tT X.K X.mg W (RpV X.K) tb) σ H Q := by
  refine tT_first h fun F env d v H1 F1 us1 he s1 g1 w1 r1 n1 f1 hp1 => ?_
  refine post_next he w1 (fun a ha => ⟨(f1 a ha).1, fun z => by obtain ⟨o, q, _⟩ := r1.there a ha; rw [z] at q; cases q⟩) hp1 fun d2 v2 H2 F2 us2 he2 s2 g2 w2 r2 n2 f2 q2 hp2 => ?_
  refine hv H2 F2 _ us1 us2 d d2 v v2 Q _ w2 (r1.same s2 g2) r2 rfl (List.nodup_append.mpr ⟨n1, n2, fun a ha b hb e => (f2 b hb).2.2 (e ▸ ha)⟩) (fun a ha => ?_) hp2
  rcases List.mem_append.mp ha with ha | ha
  · exact q2 a ha
  · exact (f2 a ha).1
theorem ve_op {o : Operator} {r : R2} {op : D → D → R D} (ho : OpR X (binaryOp o) r) (hv : OpV X.K X.mg r op) (ha : VE X W a ma) (hb : VE X W b mb) :
    VE X W (.BinOp a o b pos) (fun env => (ma env).bind fun x => (mb env).bind fun y => op x y) := PE.to (pe_op ho ha hb) fun σ H Q h => tOp_of hv h
theorem ve_cmp {o : CmpOp} {r : R2} {op : D → D → R D} (ho : OpR X (compareOp o) r) (hv : OpV X.K X.mg r op) (ha : VE X W a ma) (hb : VE X W b mb) (hm : behindInMarks o b = false := by first | rfl | exact nomark _) :
    VE X W (.Compare a [o] [b] pos) (fun env => (ma env).bind fun x => (mb env).bind fun y => op x y) := PE.to (pe_cmpR ho ha hb hm) fun σ H Q h => tOp_of hv h
theorem ve_ix {r : R2} {op : D → D → R D} (ho : IxR X r) (hv : OpV X.K X.mg r op) (ha : VE X W a ma) (hb : VE X W b mb) (hs : PlainIx b := by exact fun _ _ => rfl) :
    VE X W (.Subscript a b pos) (fun env => (ma env).bind fun x => (mb env).bind fun y => op x y) := PE.to (pe_ix ho ha hb hs) fun σ H Q h => tOp_of hv h
theorem ve_un {o : UnaryOp} {r : V → Hp → VK → Prop} {op : D → R D} (ho : UnR X (unaryOp o) r) (hv : UnV X.K X.mg r op) (ha : VE X W a ma) : VE X W (.UnaryOp o a pos) (fun env => (ma env).bind op) := by
  refine PE.to (pe_un ho ha) fun σ H Q h => ?_
  refine tT_first h fun F env d v H1 F1 us1 he s1 g1 w1 r1 n1 f1 hp1 => ?_
  exact hv H1 F1 us1 d v Q _ w1 r1 n1 (fun a ha => (f1 a ha).1) hp1
end
end VL
end

section
set_option Elab.async false
set_option linter.all false
set_option maxRecDepth 100000
set_option maxHeartbeats 2000000
namespace VL
open PySem PySem.W PySem.Spec PyProof.Rows L2

/-- less of the addresses -/
structure Less (u' us : List Addr) : Prop where
  nod : us.Nodup → u'.Nodup
  sub : ∀ a ∈ u', a ∈ us
theorem Less.refl {us : List Addr} : Less us us := ⟨id, fun _ h => h⟩
theorem Less.nil {us : List Addr} : Less [] us := ⟨fun _ => by simp, fun _ h => nomatch h⟩
theorem Less.of {u' us : List Addr} (h : u'.Sublist us) : Less u' us := ⟨fun n => h.nodup n, fun _ q => h.subset q⟩
theorem Less.trans {a b c : List Addr} (h : Less a b) (g : Less b c) : Less a c := ⟨fun n => h.nod (g.nod n), fun x q => g.sub x (h.sub x q)⟩
theorem Less.app {a b c d : List Addr} (h : Less a b) (g : Less c d) : Less (a ++ c) (b ++ d) := ⟨fun n => by
  obtain ⟨n1, n2, n3⟩ := List.nodup_append.mp n
  exact List.nodup_append.mpr ⟨h.nod n1, g.nod n2, fun x hx y hy => n3 x (h.sub x hx) y (g.sub y hy)⟩, fun x q => by
  rcases List.mem_append.mp q with q | q
  · exact List.mem_append_left _ (h.sub x q)
  · exact List.mem_append_right _ (g.sub x q)⟩
theorem Less.perm {a b : List Addr} (h : a.Perm b) : Less a b := ⟨fun n => h.nodup_iff.mpr n, fun _ q => h.subset q⟩

section
variable {K : Frag} {mg : Str → Option Value} {H H' : Hp} {F F' : Fz} {v : V} {vs ws : List V} {d : D} {ds es : List D} {us u2 : List Addr}
theorem Rep.lst_inv {o : Bool} (r : Rep K H F v (.lst o ds) us) : ∃ a vs u', v = .ref a ∧ SqL K H a vs ∧ RepL K H F vs ds u' ∧ Less u' us := by
  cases r with
  | lstO h l => exact ⟨_, _, _, rfl, SqL.of h, l, .of (List.sublist_cons_self _ _)⟩
  | lstF h l => exact ⟨_, _, _, rfl, h.sq, l, .refl⟩
theorem Rep.tup_inv (r : Rep K H F v (.tup ds) us) : ∃ a vs, v = .ref a ∧ SqT K H a vs ∧ RepL K H F vs ds us := by
  cases r with
  | tup h l => exact ⟨_, _, rfl, h, l⟩
theorem Rep.dct_inv {o : Bool} {kds : List (Key × D)} (r : Rep K H F v (.dct o kds) us) : ∃ a kvs u', v = .ref a ∧ Rd H a (.dK kvs) ∧ RepK K H F kvs kds u' ∧ Less u' us := by
  cases r with
  | dctO h l => exact ⟨_, _, _, rfl, .inl h, l, .of (List.sublist_cons_self _ _)⟩
  | dctF h l => exact ⟨_, _, _, rfl, h.rd, l, .refl⟩
theorem RepL.append {us us2 : List Addr} : ∀ {vs : List V} {ds : List D} {us : List Addr}, RepL K H F vs ds us → RepL K H F ws es us2 → RepL K H F (vs ++ ws) (ds ++ es) (us ++ us2)
  | _, _, _, .nil, s => s
  | _, _, _, .cons r t, s => by rw [List.append_assoc]; exact .cons r (t.append (us := us) s)
theorem RepL.get : ∀ {vs : List V} {ds : List D} {us : List Addr} {j : Nat} {d : D}, RepL K H F vs ds us → ds[j]? = some d → ∃ v u, vs[j]? = some v ∧ Rep K H F v d u ∧ Less u us
  | _, _, _, j, d, .nil, e => by simp at e
  | _, _, _, 0, d, .cons r t, e => by
    simp at e; subst e
    exact ⟨_, _, rfl, r, .of (List.sublist_append_left _ _)⟩
  | _, _, _, j + 1, d, .cons r t, e => by
    obtain ⟨v, u, h1, h2, h3⟩ := t.get (j := j) (d := d) (by simpa using e)
    exact ⟨v, u, by simpa using h1, h2, h3.trans (.of (List.sublist_append_right _ _))⟩
theorem RepL.drop : ∀ {vs : List V} {ds : List D} {us : List Addr} (n : Nat), RepL K H F vs ds us → ∃ u, RepL K H F (vs.drop n) (ds.drop n) u ∧ Less u us
  | _, _, _, 0, r => ⟨_, r, .refl⟩
  | _, _, _, _ + 1, .nil => ⟨_, .nil, .refl⟩
  | _, _, _, n + 1, .cons r t => by
    obtain ⟨u, h, l⟩ := t.drop n
    exact ⟨u, h, l.trans (.of (List.sublist_append_right _ _))⟩
theorem RepL.take : ∀ {vs : List V} {ds : List D} {us : List Addr} (n : Nat), RepL K H F vs ds us → ∃ u, RepL K H F (vs.take n) (ds.take n) u ∧ Less u us
  | _, _, _, 0, r => ⟨_, .nil, .nil⟩
  | _, _, _, _ + 1, .nil => ⟨_, .nil, .refl⟩
  | _, _, _, n + 1, .cons r t => by
    obtain ⟨u, h, l⟩ := t.take n
    exact ⟨_, .cons r h, .app .refl l⟩
theorem RepL.reverse : ∀ {vs : List V} {ds : List D} {us : List Addr}, RepL K H F vs ds us → ∃ u, RepL K H F vs.reverse ds.reverse u ∧ Less u us
  | _, _, _, .nil => ⟨_, .nil, .refl⟩
  | _, _, _, .cons (u := u0) r t => by
    obtain ⟨u, h, l⟩ := t.reverse
    rw [List.reverse_cons, List.reverse_cons]
    exact ⟨_, h.append (us := []) (.cons r .nil), (Less.app l (Less.refl (us := u0 ++ []))).trans (.perm (by simpa using List.perm_append_comm))⟩
theorem RepL.eraseIdx : ∀ {vs : List V} {ds : List D} {us : List Addr} (n : Nat), RepL K H F vs ds us → ∃ u, RepL K H F (vs.eraseIdx n) (ds.eraseIdx n) u ∧ Less u us
  | _, _, _, _, .nil => ⟨_, .nil, .refl⟩
  | _, _, _, 0, .cons r t => ⟨_, t, .of (List.sublist_append_right _ _)⟩
  | _, _, _, n + 1, .cons r t => by
    obtain ⟨u, h, l⟩ := t.eraseIdx n
    exact ⟨_, .cons r h, .app .refl l⟩
theorem RepL.flat_nil (h : ∀ d ∈ ds, ∀ v u, Rep K H F v d u → u = []) : ∀ {vs : List V} {us : List Addr}, RepL K H F vs ds us → us = [] := by
  induction ds with
  | nil => intro vs us r; cases r; rfl
  | cons d ds ih =>
    intro vs us r
    cases r with
    | cons a b => rw [h d List.mem_cons_self _ _ a, ih (fun x hx => h x (List.mem_cons_of_mem _ hx)) b]; rfl
end

section
variable {X : Cx}
def rCatS (K : Frag) : R2 := fun x y H Q => ∃ l b xs zs, x = .ref l ∧ y = .ref b ∧ SqL K H l xs ∧ SqL K H b zs ∧ xs.length + zs.length ≤ sizeLine ∧ ∀ p, H p = none → Q (.ref p) (upd H p (.lst (xs ++ zs)))
theorem op_catS : OpR X (binaryOp .Add) (rCatS X.K) := by
  intro pins s σ H x y v u Q I rx ry h
  obtain ⟨l, b, xs, zs, rfl, rfl, hH, hB, hz, q⟩ := h
  cases rx
  cases ry
  obtain ⟨i1, r1, p1, z1⟩ := I.list hH
  obtain ⟨i2, r2, p2, z2⟩ := I.list hB
  have l1 := r1.length
  have l2 := r2.length
  obtain ⟨⟨c1, d1, t1, s1⟩, g1, e1, n1, m1⟩ := id p1.isList
  obtain ⟨⟨c2, d2, t2, s2⟩, g2, e2, n2, m2⟩ := id p2.isList
  simp only at e1 m1 e2 m2
  subst e1 m1 e2 m2
  have ea : i1.toArray ++ i2.toArray = (i1 ++ i2).toArray := by simp
  have hs : i1.toArray.size + i2.toArray.size ≤ sizeLine := by rw [List.size_toArray, List.size_toArray]; omega
  refine concat_meets ⟨_, g1, rfl⟩ ⟨_, g2, rfl⟩ noFill_list_add seq_list_add PySem.F.slot_list_add PySem.F.entry_list_add (PySem.F.args_list_add_2 _ _)
    (list_addW l b i1.toArray i2.toArray n1 n2 d1 d2 s1 s2 hs) ⟨g1, g2, ?_⟩
  rw [ea]
  exact ⟨.ref _, _, I.lnew (t' := s.toks) (r1.append r2) (by rw [List.length_append]; omega), rfl, q _ I.fresh⟩
end
abbrev LIM : Nat := 100000
theorem lim_line {n : Nat} (h : n ≤ LIM) : n ≤ sizeLine := by rw [sizeLine_eq]; exact Nat.le_trans h (by decide)

def addD : D → D → R D
  | .int i, .int j => .ok (.int (i + j))
  | .str x, .str y => if x.length + y.length ≤ LIM then .ok (.str (x ++ y)) else .bad
  | .lst _ xs, .lst _ ys => if xs.length + ys.length ≤ LIM then .ok (.lst true (xs ++ ys)) else .bad
  | .tup xs, .tup ys => if xs.length + ys.length ≤ LIM then .ok (.tup (xs ++ ys)) else .bad
  | _, _ => .bad
def rAddA (K : Frag) : R2 := fun x y H Q => (rI0 fun i j => .int (i + j)) x y H Q ∨ (∃ i j, x = .str i ∧ y = .str j ∧ i.length + j.length ≤ sizeLine ∧ Q (.str (i ++ j)) H) ∨ rCatS K x y H Q ∨ rCatA K x y H Q
theorem op_addA {X : Cx} : OpR X (binaryOp .Add) (rAddA X.K) := op_add.or (op_add_str.or (op_catS.or op_catA))
theorem SOk.app {x y : Str} (a : SOk x) (b : SOk y) (h : x.length + y.length ≤ sizeLine) : SOk (x ++ y) := by
  refine ⟨?_, ?_⟩
  · show (x.cps ++ y.cps).size ≤ _
    rw [Array.size_append]; exact h
  · show (x.cps ++ y.cps).all _ = true
    rw [Array.all_append, Bool.and_eq_true]; exact ⟨a.2, b.2⟩
theorem fr {us : List Addr} {F : Fz} (f : ∀ a ∈ us, ¬ F a) {u : List Addr} (l : Less u us) : ∀ a ∈ u, ¬ F a ∧ a ∈ us := fun a ha => ⟨f a (l.sub a ha), l.sub a ha⟩
theorem add_v {K : Frag} {mg : Str → Option Value} : OpV K mg (rAddA K) addD := by
  intro H F us u1 u2 da db v w Q E wf ra rb hus n f hp
  subst hus
  unfold addD at hp
  split at hp
  · cases ra; cases rb
    exact .inl ⟨_, _, rfl, rfl, post_flat hp wf (.int _)⟩
  · cases ra with
    | str x hx =>
      cases rb with
      | str y hy =>
        split at hp
        · rename_i hl
          exact .inr (.inl ⟨_, _, rfl, rfl, lim_line hl, post_flat hp wf (.str _ (hx.app hy (lim_line hl)))⟩)
        · exact hp.elim
  · obtain ⟨a, xs, v1, rfl, h1, r1, l1⟩ := ra.lst_inv
    obtain ⟨b, ys, v2, rfl, h2, r2, l2⟩ := rb.lst_inv
    split at hp
    · rename_i hl
      have l := l1.app l2
      exact .inr (.inr (.inl ⟨_, _, _, _, rfl, rfl, h1, h2, by rw [r1.length, r2.length]; exact lim_line hl, fun p hn => post_newL hp wf (r1.append (us := []) r2) (l.nod n) (fr f l) hn⟩))
    · exact hp.elim
  · obtain ⟨a, xs, rfl, h1, r1⟩ := ra.tup_inv
    obtain ⟨b, ys, rfl, h2, r2⟩ := rb.tup_inv
    split at hp
    · rename_i hl
      refine .inr (.inr (.inr ⟨_, _, _, _, rfl, rfl, h1, h2, by rw [r1.length, r2.length]; exact lim_line hl, fun z => ?_, fun _ z => ?_, fun _ z p hn => post_newT hp wf (r1.append (us := []) r2) n (fr f .refl) hn⟩))
      · subst z; cases r1
        exact post_here (us1 := u2) (v := V.ref b) (by simpa using hp) wf (Rep.tup h2 r2) (by simpa using n) fun a ha => ⟨f a (by simpa using ha), by simpa using ha⟩
      · subst z; cases r2
        rw [List.append_nil] at hp n f
        exact post_here (us1 := u1) (v := V.ref a) (by simpa using hp) wf (Rep.tup h1 r1) (by simpa using n) fun a ha => ⟨f a (by simpa using ha), ha⟩
    · exact hp.elim
  · exact hp.elim
def subD : D → D → R D
  | .int i, .int j => .ok (.int (i - j))
  | _, _ => .bad
theorem sub_v {K : Frag} {mg : Str → Option Value} : OpV K mg (rI0 fun i j => .int (i - j)) subD := by
  intro H F us u1 u2 da db v w Q E wf ra rb hus n f hp
  unfold subD at hp
  split at hp
  · cases ra; cases rb
    exact ⟨_, _, rfl, rfl, post_flat hp wf (.int _)⟩
  · exact hp.elim

section
variable {X : Cx}
def repS (x : Str) (n : Nat) : Str := ⟨(List.replicate n x.cps.toList).flatten.toArray⟩
def rRepS : R2 := fun x y H Q => ∃ z k, x = .str z ∧ y = .int k ∧ 0 ≤ k ∧ k ≤ 1000 ∧ z.length ≤ 1000 ∧ Q (.str (repS z k.toNat)) H
theorem foldl_repA (c : Array Nat) : ∀ (k : Nat) (acc : Array Nat), (List.replicate k c).foldl (· ++ ·) acc = acc ++ (List.replicate k c.toList).flatten.toArray
  | 0, acc => by simp
  | k + 1, acc => by
    rw [List.replicate_succ, List.foldl_cons, foldl_repA c k, List.replicate_succ, List.flatten_cons]
    apply Array.ext'
    simp
theorem op_repS : OpR X (binaryOp .Mult) rRepS := by
  intro pins s σ H x y v u Q I rx ry h
  obtain ⟨z, k, rfl, rfl, h0, h1, hz, q⟩ := h
  obtain ⟨t, rfl⟩ := rx
  obtain ⟨t', rfl⟩ := ry
  have hln : z.length * k.toNat ≤ 1000000 := by
    have : k.toNat ≤ 1000 := by omega
    calc z.length * k.toNat ≤ 1000 * 1000 := Nat.mul_le_mul hz this
      _ = 1000000 := rfl
  refine PySem.P.mul_str ?_ (fun h2 _ => ?_) (fun _ _ => ?_) ?_
  · have a : ¬ k < -(2 ^ 63 : Int) := by omega
    have b : ¬ k ≥ 2 ^ 63 := by omega
    rw [decide_eq_false a, decide_eq_false b]; rfl
  · have h3 : (1 : Int) ≤ k := by omega
    have h4 : (1000 : Int) ≤ (2 ^ 63 - 1) / k := by
      refine (Int.le_ediv_iff_mul_le (by omega)).mpr ?_
      omega
    omega
  · exact decide_eq_false (by
      have : sizeLine = 16777216 := sizeLine_eq
      omega)
  · have e0 : repS z k.toNat = ⟨(List.replicate k.toNat z.cps).foldl (· ++ ·) #[]⟩ := by
      unfold repS
      rw [foldl_repA]
      congr 1
      simp
    split
    · rename_i hk
      have k0 : k.toNat = 0 := by omega
      have e1 : repS z k.toNat = Str.empty := by rw [k0]; rfl
      exact ⟨by first | decide | trivial, ⟨.str (repS z k.toNat), H, I.tok _, ⟨_, by rw [e1]⟩, q⟩⟩
    · split
      · rename_i hk hone
        have e1 : repS z k.toNat = z := by
          rcases Bool.or_eq_true_iff.mp hone with h2 | h2
          · have : k = 1 := by simpa using h2
            subst this
            unfold repS
            simp
          · have hz0 : z.cps.size = 0 := by simpa [Str.length] using h2
            have hz1 : z.cps = #[] := Array.eq_empty_of_size_eq_zero hz0
            unfold repS
            rw [hz1]
            cases z with
            | mk c =>
              simp only at hz1
              subst hz1
              simp
        exact ⟨.str (repS z k.toNat), H, I, ⟨_, by rw [e1]⟩, q⟩
      · exact ⟨by
          rw [← e0]
          have : (repS z k.toNat).length = k.toNat * z.length := by
            unfold repS Str.length
            simp [List.length_flatten]
          rw [this, Nat.mul_comm, sizeLine_eq]
          omega, ⟨.str (repS z k.toNat), H, I.tok _, ⟨_, by rw [e0]⟩, q⟩⟩
end
end VL
end

section
set_option Elab.async false
set_option linter.all false
set_option maxRecDepth 100000
set_option maxHeartbeats 1000000
namespace VL
open PySem PySem.SeqAt
open AutoSeq1 (wpAny_loadPart')
open MeetsSeq
def IsDictO (h : Heap) (l : Addr) : Prop := ∃ o, h.get? l = some o ∧ o.cls = .type "dict" ∧ ∃ es n, o.data = .dict es n

theorem dict_no_none (l : Addr) (es : Array DictEntry) (n : Nat) (dd : Option Addr) (sl : Array (Option Value)) :
    Meets (Builtin.«dict.__eq__» ⟨[.ref l, .none], []⟩) (fun _ R s => s.heap.get? l = some { cls := .type "dict", dict := dd, data := .dict es n, slots := sl } ∧ R (.ok (.ret .notImplemented)) s) :=
  .of_wp fun prog w A R s h => by
    obtain ⟨hp, g, d, tk, os⟩ := s
    obtain ⟨hl, h⟩ := h
    have f1 := F.sub_NoneType_dict
    wp_walk using wpAny_loadPart' hl
    exact ⟨_, rfl, h⟩

theorem dict_no_bool (l : Addr) (es : Array DictEntry) (n : Nat) (dd : Option Addr) (sl : Array (Option Value)) (b : Bool) :
    Meets (Builtin.«dict.__eq__» ⟨[.ref l, .bool b], []⟩) (fun _ R s => s.heap.get? l = some { cls := .type "dict", dict := dd, data := .dict es n, slots := sl } ∧ R (.ok (.ret .notImplemented)) s) :=
  .of_wp fun prog w A R s h => by
    obtain ⟨hp, g, d, tk, os⟩ := s
    obtain ⟨hl, h⟩ := h
    have f1 := F.sub_bool_dict
    wp_walk using wpAny_loadPart' hl
    exact ⟨_, rfl, h⟩

theorem bool_no_dict (b : Bool) (l : Addr) (es : Array DictEntry) (n : Nat) (dd : Option Addr) (sl : Array (Option Value)) :
    Meets (Builtin.«int.__eq__» ⟨[.bool b, .ref l], []⟩) (fun _ R s => s.heap.get? l = some { cls := .type "dict", dict := dd, data := .dict es n, slots := sl } ∧ R (.ok (.ret .notImplemented)) s) :=
  .of_wp fun prog w A R s h => by
    obtain ⟨hp, g, d, tk, os⟩ := s
    obtain ⟨hl, h⟩ := h
    wp_walk using wpAny_loadPart' hl, wpAny_load hl
    exact ⟨_, rfl, h⟩

theorem dict_no_int (l : Addr) (es : Array DictEntry) (n : Nat) (dd : Option Addr) (sl : Array (Option Value)) (b : Int) (u : Tok) :
    Meets (Builtin.«dict.__eq__» ⟨[.ref l, .int b u], []⟩) (fun _ R s => s.heap.get? l = some { cls := .type "dict", dict := dd, data := .dict es n, slots := sl } ∧ R (.ok (.ret .notImplemented)) s) :=
  .of_wp fun prog w A R s h => by
    obtain ⟨hp, g, d, tk, os⟩ := s
    obtain ⟨hl, h⟩ := h
    have f1 := F.sub_int_dict
    wp_walk using wpAny_loadPart' hl
    exact ⟨_, rfl, h⟩

theorem int_no_dict (b : Int) (u : Tok) (l : Addr) (es : Array DictEntry) (n : Nat) (dd : Option Addr) (sl : Array (Option Value)) :
    Meets (Builtin.«int.__eq__» ⟨[.int b u, .ref l], []⟩) (fun _ R s => s.heap.get? l = some { cls := .type "dict", dict := dd, data := .dict es n, slots := sl } ∧ R (.ok (.ret .notImplemented)) s) :=
  .of_wp fun prog w A R s h => by
    obtain ⟨hp, g, d, tk, os⟩ := s
    obtain ⟨hl, h⟩ := h
    wp_walk using wpAny_loadPart' hl, wpAny_load hl
    exact ⟨_, rfl, h⟩

theorem dict_no_str (l : Addr) (es : Array DictEntry) (n : Nat) (dd : Option Addr) (sl : Array (Option Value)) (b : Str) (u : Tok) :
    Meets (Builtin.«dict.__eq__» ⟨[.ref l, .str b u], []⟩) (fun _ R s => s.heap.get? l = some { cls := .type "dict", dict := dd, data := .dict es n, slots := sl } ∧ R (.ok (.ret .notImplemented)) s) :=
  .of_wp fun prog w A R s h => by
    obtain ⟨hp, g, d, tk, os⟩ := s
    obtain ⟨hl, h⟩ := h
    have f1 := F.sub_str_dict
    wp_walk using wpAny_loadPart' hl
    exact ⟨_, rfl, h⟩

theorem str_no_dict (b : Str) (u : Tok) (l : Addr) (es : Array DictEntry) (n : Nat) (dd : Option Addr) (sl : Array (Option Value)) :
    Meets (Builtin.«str.__eq__» ⟨[.str b u, .ref l], []⟩) (fun _ R s => s.heap.get? l = some { cls := .type "dict", dict := dd, data := .dict es n, slots := sl } ∧ R (.ok (.ret .notImplemented)) s) :=
  .of_wp fun prog w A R s h => by
    obtain ⟨hp, g, d, tk, os⟩ := s
    obtain ⟨hl, h⟩ := h
    wp_walk using wpAny_loadPart' hl, wpAny_load hl
    exact ⟨_, rfl, h⟩

theorem list_no_dict (l b : Addr) (items : Array Value) (es : Array DictEntry) (n n2 : Nat) (dd dd2 : Option Addr) (sl sl2 : Array (Option Value)) :
    Meets (Builtin.«list.__eq__» ⟨[.ref l, .ref b], []⟩) (fun _ R s => s.heap.get? l = some { cls := .type "list", dict := dd, data := .seq items n, slots := sl } ∧ s.heap.get? b = some { cls := .type "dict", dict := dd2, data := .dict es n2, slots := sl2 } ∧ R (.ok (.ret .notImplemented)) s) :=
  .of_wp fun prog w A R s h => by obtain ⟨hp, g, d, tk, os⟩ := s; obtain ⟨hl, hb, h⟩ := h; have f1 := F.sub_dict_list; wp_walk using wpAny_loadPart' hl, wpAny_loadPart' hb; exact ⟨_, rfl, h⟩
theorem dict_no_list (l b : Addr) (items : Array Value) (es : Array DictEntry) (n n2 : Nat) (dd dd2 : Option Addr) (sl sl2 : Array (Option Value)) :
    Meets (Builtin.«dict.__eq__» ⟨[.ref b, .ref l], []⟩) (fun _ R s => s.heap.get? l = some { cls := .type "list", dict := dd, data := .seq items n, slots := sl } ∧ s.heap.get? b = some { cls := .type "dict", dict := dd2, data := .dict es n2, slots := sl2 } ∧ R (.ok (.ret .notImplemented)) s) :=
  .of_wp fun prog w A R s h => by obtain ⟨hp, g, d, tk, os⟩ := s; obtain ⟨hl, hb, h⟩ := h; have f1 := F.sub_list_dict; wp_walk using wpAny_loadPart' hl, wpAny_loadPart' hb; exact ⟨_, rfl, h⟩

theorem tuple_no_dict (l b : Addr) (items : Array Value) (es : Array DictEntry) (n n2 : Nat) (dd dd2 : Option Addr) (sl sl2 : Array (Option Value)) :
    Meets (Builtin.«tuple.__eq__» ⟨[.ref l, .ref b], []⟩) (fun _ R s => s.heap.get? l = some { cls := .type "tuple", dict := dd, data := .seq items n, slots := sl } ∧ s.heap.get? b = some { cls := .type "dict", dict := dd2, data := .dict es n2, slots := sl2 } ∧ R (.ok (.ret .notImplemented)) s) :=
  .of_wp fun prog w A R s h => by obtain ⟨hp, g, d, tk, os⟩ := s; obtain ⟨hl, hb, h⟩ := h; have f1 := F.sub_dict_tuple; wp_walk using wpAny_loadPart' hl, wpAny_loadPart' hb; exact ⟨_, rfl, h⟩
theorem dict_no_tuple (l b : Addr) (items : Array Value) (es : Array DictEntry) (n n2 : Nat) (dd dd2 : Option Addr) (sl sl2 : Array (Option Value)) :
    Meets (Builtin.«dict.__eq__» ⟨[.ref b, .ref l], []⟩) (fun _ R s => s.heap.get? l = some { cls := .type "tuple", dict := dd, data := .seq items n, slots := sl } ∧ s.heap.get? b = some { cls := .type "dict", dict := dd2, data := .dict es n2, slots := sl2 } ∧ R (.ok (.ret .notImplemented)) s) :=
  .of_wp fun prog w A R s h => by obtain ⟨hp, g, d, tk, os⟩ := s; obtain ⟨hl, hb, h⟩ := h; have f1 := F.sub_tuple_dict; wp_walk using wpAny_loadPart' hl, wpAny_loadPart' hb; exact ⟨_, rfl, h⟩

section
variable {A : Around} {s : Shared} {l b : Addr}

theorem rc_none_dict (hl : IsDictO s.heap l) (hu : A.units < cLine) : RcAt A s (.none) (.ref l) false := fun prog w E Q h => by
  obtain ⟨⟨cls, dd, data, sl⟩, ho, hc, es, n, hd⟩ := id hl
  simp only at hc hd
  subst hc hd
  exact rc_eq_decline_or (k := false) rfl ⟨_, ho, rfl⟩ (by decide) F.sub_dict_NoneType F.slot_NoneType_eq F.slot_dict_eq_refl
    (fun _ hq => call_gives F.slot_NoneType_eq rfl F.entry_NoneType_eq (F.args_NoneType_eq_2 _ _) (NoneType___eq___none_ref_0 l) hq)
    (fun _ hq => call_meets F.slot_dict_eq_refl ⟨_, ho, rfl⟩ F.entry_dict_eq (F.args_dict_eq_2 _ _) (dict_no_none l es n dd sl) ⟨ho, hq⟩)
    (fun _ hq => wpAny_of_eq (rfl : isSame (.none) (.ref l) = pure false) hq) (.inr hu) h
theorem eq_none_dict (hl : IsDictO s.heap l) (hu : A.units < cLine) : EqAt A s (.none) (.ref l) false := fun prog w E Q h => by
  unfold eqBool
  refine wpAny_holding ?_
  refine wpAny_ite_split (fun hab => absurd (eq_of_beq hab) nofun) (fun _ => ?_)
  exact wpAny_bind (rc_none_dict hl hu prog w E _ (wpAny_truthy_bool h))
theorem rc_dict_none (hl : IsDictO s.heap l) (hu : A.units < cLine) : RcAt A s (.ref l) (.none) false := fun prog w E Q h => by
  obtain ⟨⟨cls, dd, data, sl⟩, ho, hc, es, n, hd⟩ := id hl
  simp only at hc hd
  subst hc hd
  exact rc_eq_decline_or (k := false) ⟨_, ho, rfl⟩ rfl (by decide) F.sub_NoneType_dict F.slot_dict_eq F.slot_NoneType_eq_refl
    (fun _ hq => call_meets F.slot_dict_eq ⟨_, ho, rfl⟩ F.entry_dict_eq (F.args_dict_eq_2 _ _) (dict_no_none l es n dd sl) ⟨ho, hq⟩)
    (fun _ hq => call_gives F.slot_NoneType_eq_refl rfl F.entry_NoneType_eq (F.args_NoneType_eq_2 _ _) (NoneType___eq___none_ref_0 l) hq)
    (fun _ hq => wpAny_of_eq (rfl : isSame (.ref l) (.none) = pure false) hq) (.inr hu) h
theorem eq_dict_none (hl : IsDictO s.heap l) (hu : A.units < cLine) : EqAt A s (.ref l) (.none) false := fun prog w E Q h => by
  unfold eqBool
  refine wpAny_holding ?_
  refine wpAny_ite_split (fun hab => absurd (eq_of_beq hab) nofun) (fun _ => ?_)
  exact wpAny_bind (rc_dict_none hl hu prog w E _ (wpAny_truthy_bool h))

theorem rc_bool_dict (b : Bool) (hl : IsDictO s.heap l) (hu : A.units < cLine) : RcAt A s (.bool b) (.ref l) false := fun prog w E Q h => by
  obtain ⟨⟨cls, dd, data, sl⟩, ho, hc, es, n, hd⟩ := id hl
  simp only at hc hd
  subst hc hd
  exact rc_eq_decline_or (k := false) rfl ⟨_, ho, rfl⟩ (by decide) F.sub_dict_bool F.slot_bool_eq F.slot_dict_eq_refl
    (fun _ hq => call_meets F.slot_bool_eq rfl F.entry_int_eq (F.args_int_eq_2 _ _) (bool_no_dict b l es n dd sl) ⟨ho, hq⟩)
    (fun _ hq => call_meets F.slot_dict_eq_refl ⟨_, ho, rfl⟩ F.entry_dict_eq (F.args_dict_eq_2 _ _) (dict_no_bool l es n dd sl b) ⟨ho, hq⟩)
    (fun _ hq => wpAny_of_eq (rfl : isSame (.bool b) (.ref l) = pure false) hq) (.inr hu) h
theorem eq_bool_dict (b : Bool) (hl : IsDictO s.heap l) (hu : A.units < cLine) : EqAt A s (.bool b) (.ref l) false := fun prog w E Q h => by
  unfold eqBool
  refine wpAny_holding ?_
  refine wpAny_ite_split (fun hab => absurd (eq_of_beq hab) nofun) (fun _ => ?_)
  exact wpAny_bind (rc_bool_dict b hl hu prog w E _ (wpAny_truthy_bool h))
theorem rc_dict_bool (b : Bool) (hl : IsDictO s.heap l) (hu : A.units < cLine) : RcAt A s (.ref l) (.bool b) false := fun prog w E Q h => by
  obtain ⟨⟨cls, dd, data, sl⟩, ho, hc, es, n, hd⟩ := id hl
  simp only at hc hd
  subst hc hd
  exact rc_eq_decline_or (k := false) ⟨_, ho, rfl⟩ rfl (by decide) F.sub_bool_dict F.slot_dict_eq F.slot_bool_eq_refl
    (fun _ hq => call_meets F.slot_dict_eq ⟨_, ho, rfl⟩ F.entry_dict_eq (F.args_dict_eq_2 _ _) (dict_no_bool l es n dd sl b) ⟨ho, hq⟩)
    (fun _ hq => call_meets F.slot_bool_eq_refl rfl F.entry_int_eq (F.args_int_eq_2 _ _) (bool_no_dict b l es n dd sl) ⟨ho, hq⟩)
    (fun _ hq => wpAny_of_eq (rfl : isSame (.ref l) (.bool b) = pure false) hq) (.inr hu) h
theorem eq_dict_bool (b : Bool) (hl : IsDictO s.heap l) (hu : A.units < cLine) : EqAt A s (.ref l) (.bool b) false := fun prog w E Q h => by
  unfold eqBool
  refine wpAny_holding ?_
  refine wpAny_ite_split (fun hab => absurd (eq_of_beq hab) nofun) (fun _ => ?_)
  exact wpAny_bind (rc_dict_bool b hl hu prog w E _ (wpAny_truthy_bool h))

theorem rc_int_dict (b : Int) (u : Tok) (hl : IsDictO s.heap l) (hu : A.units < cLine) : RcAt A s (.int b u) (.ref l) false := fun prog w E Q h => by
  obtain ⟨⟨cls, dd, data, sl⟩, ho, hc, es, n, hd⟩ := id hl
  simp only at hc hd
  subst hc hd
  exact rc_eq_decline_or (k := false) (typeIs_int s b u) ⟨_, ho, rfl⟩ (by decide) F.sub_dict_int F.slot_int_eq F.slot_dict_eq_refl
    (fun _ hq => call_meets F.slot_int_eq (typeIs_int s b u) F.entry_int_eq (F.args_int_eq_2 _ _) (int_no_dict b u l es n dd sl) ⟨ho, hq⟩)
    (fun _ hq => call_meets F.slot_dict_eq_refl ⟨_, ho, rfl⟩ F.entry_dict_eq (F.args_dict_eq_2 _ _) (dict_no_int l es n dd sl b u) ⟨ho, hq⟩)
    (fun _ hq => wpAny_of_eq (rfl : isSame (.int b u) (.ref l) = pure false) hq) (.inr hu) h
theorem eq_int_dict (b : Int) (u : Tok) (hl : IsDictO s.heap l) (hu : A.units < cLine) : EqAt A s (.int b u) (.ref l) false := fun prog w E Q h => by
  unfold eqBool
  refine wpAny_holding ?_
  refine wpAny_ite_split (fun hab => absurd (eq_of_beq hab) nofun) (fun _ => ?_)
  exact wpAny_bind (rc_int_dict b u hl hu prog w E _ (wpAny_truthy_bool h))
theorem rc_dict_int (b : Int) (u : Tok) (hl : IsDictO s.heap l) (hu : A.units < cLine) : RcAt A s (.ref l) (.int b u) false := fun prog w E Q h => by
  obtain ⟨⟨cls, dd, data, sl⟩, ho, hc, es, n, hd⟩ := id hl
  simp only at hc hd
  subst hc hd
  exact rc_eq_decline_or (k := false) ⟨_, ho, rfl⟩ (typeIs_int s b u) (by decide) F.sub_int_dict F.slot_dict_eq F.slot_int_eq_refl
    (fun _ hq => call_meets F.slot_dict_eq ⟨_, ho, rfl⟩ F.entry_dict_eq (F.args_dict_eq_2 _ _) (dict_no_int l es n dd sl b u) ⟨ho, hq⟩)
    (fun _ hq => call_meets F.slot_int_eq_refl (typeIs_int s b u) F.entry_int_eq (F.args_int_eq_2 _ _) (int_no_dict b u l es n dd sl) ⟨ho, hq⟩)
    (fun _ hq => wpAny_of_eq (rfl : isSame (.ref l) (.int b u) = pure false) hq) (.inr hu) h
theorem eq_dict_int (b : Int) (u : Tok) (hl : IsDictO s.heap l) (hu : A.units < cLine) : EqAt A s (.ref l) (.int b u) false := fun prog w E Q h => by
  unfold eqBool
  refine wpAny_holding ?_
  refine wpAny_ite_split (fun hab => absurd (eq_of_beq hab) nofun) (fun _ => ?_)
  exact wpAny_bind (rc_dict_int b u hl hu prog w E _ (wpAny_truthy_bool h))

theorem rc_str_dict (b : Str) (u : Tok) (hl : IsDictO s.heap l) (hu : A.units < cLine) : RcAt A s (.str b u) (.ref l) false := fun prog w E Q h => by
  obtain ⟨⟨cls, dd, data, sl⟩, ho, hc, es, n, hd⟩ := id hl
  simp only at hc hd
  subst hc hd
  exact rc_eq_decline_or (k := false) (typeIs_str s b u) ⟨_, ho, rfl⟩ (by decide) F.sub_dict_str F.slot_str_eq F.slot_dict_eq_refl
    (fun _ hq => call_meets F.slot_str_eq (typeIs_str s b u) F.entry_str_eq (F.args_str_eq_2 _ _) (str_no_dict b u l es n dd sl) ⟨ho, hq⟩)
    (fun _ hq => call_meets F.slot_dict_eq_refl ⟨_, ho, rfl⟩ F.entry_dict_eq (F.args_dict_eq_2 _ _) (dict_no_str l es n dd sl b u) ⟨ho, hq⟩)
    (fun _ hq => wpAny_of_eq (rfl : isSame (.str b u) (.ref l) = pure false) hq) (.inr hu) h
theorem eq_str_dict (b : Str) (u : Tok) (hl : IsDictO s.heap l) (hu : A.units < cLine) : EqAt A s (.str b u) (.ref l) false := fun prog w E Q h => by
  unfold eqBool
  refine wpAny_holding ?_
  refine wpAny_ite_split (fun hab => absurd (eq_of_beq hab) nofun) (fun _ => ?_)
  exact wpAny_bind (rc_str_dict b u hl hu prog w E _ (wpAny_truthy_bool h))
theorem rc_dict_str (b : Str) (u : Tok) (hl : IsDictO s.heap l) (hu : A.units < cLine) : RcAt A s (.ref l) (.str b u) false := fun prog w E Q h => by
  obtain ⟨⟨cls, dd, data, sl⟩, ho, hc, es, n, hd⟩ := id hl
  simp only at hc hd
  subst hc hd
  exact rc_eq_decline_or (k := false) ⟨_, ho, rfl⟩ (typeIs_str s b u) (by decide) F.sub_str_dict F.slot_dict_eq F.slot_str_eq_refl
    (fun _ hq => call_meets F.slot_dict_eq ⟨_, ho, rfl⟩ F.entry_dict_eq (F.args_dict_eq_2 _ _) (dict_no_str l es n dd sl b u) ⟨ho, hq⟩)
    (fun _ hq => call_meets F.slot_str_eq_refl (typeIs_str s b u) F.entry_str_eq (F.args_str_eq_2 _ _) (str_no_dict b u l es n dd sl) ⟨ho, hq⟩)
    (fun _ hq => wpAny_of_eq (rfl : isSame (.ref l) (.str b u) = pure false) hq) (.inr hu) h
theorem eq_dict_str (b : Str) (u : Tok) (hl : IsDictO s.heap l) (hu : A.units < cLine) : EqAt A s (.ref l) (.str b u) false := fun prog w E Q h => by
  unfold eqBool
  refine wpAny_holding ?_
  refine wpAny_ite_split (fun hab => absurd (eq_of_beq hab) nofun) (fun _ => ?_)
  exact wpAny_bind (rc_dict_str b u hl hu prog w E _ (wpAny_truthy_bool h))

theorem ne_of_list_dict {items : Array Value} (hl : s.heap.IsList l items) (hb : IsDictO s.heap b) : l ≠ b := fun e => by
  subst e
  obtain ⟨o, ho, hc, _⟩ := hl
  obtain ⟨o2, ho2, hc2, _⟩ := hb
  rw [ho] at ho2
  cases ho2
  rw [hc] at hc2
  exact absurd hc2 (by simp)
theorem rc_list_dict {items : Array Value} (hl : s.heap.IsList l items) (hb : IsDictO s.heap b) (hu : A.units < cLine) : RcAt A s (.ref l) (.ref b) false := fun prog w E Q h => by
  have hne := ne_of_list_dict hl hb
  obtain ⟨⟨cls, dd, data, sl⟩, ho, hc, n, hd⟩ := id hl
  obtain ⟨⟨cls2, dd2, data2, sl2⟩, ho2, hc2, es, n2, hd2⟩ := id hb
  simp only at hc hd hc2 hd2
  subst hc hd hc2 hd2
  exact (rc_eq_decline_or (k := false) ⟨_, ho, rfl⟩ ⟨_, ho2, rfl⟩ (by decide) F.sub_dict_list F.slot_list_eq F.slot_dict_eq_refl
    (fun _ hq => call_meets F.slot_list_eq ⟨_, ho, rfl⟩ F.entry_list_eq (F.args_list_eq_2 _ _) (list_no_dict l b items es n n2 dd dd2 sl sl2) ⟨ho, ho2, hq⟩)
    (fun _ hq => call_meets F.slot_dict_eq_refl ⟨_, ho2, rfl⟩ F.entry_dict_eq (F.args_dict_eq_2 _ _) (dict_no_list l b items es n n2 dd dd2 sl sl2) ⟨ho, ho2, hq⟩)
    (fun _ hq => wpAny_isSame_ref_other' hne ho ho2 (by simp) hq) (.inr hu) h)
theorem eq_list_dict {items : Array Value} (hl : s.heap.IsList l items) (hb : IsDictO s.heap b) (hu : A.units < cLine) : EqAt A s (.ref l) (.ref b) false := .of_refs (ne_of_list_dict hl hb) (rc_list_dict hl hb hu)
theorem rc_dict_list {items : Array Value} (hl : s.heap.IsList l items) (hb : IsDictO s.heap b) (hu : A.units < cLine) : RcAt A s (.ref b) (.ref l) false := fun prog w E Q h => by
  have hne := ne_of_list_dict hl hb
  obtain ⟨⟨cls, dd, data, sl⟩, ho, hc, n, hd⟩ := id hl
  obtain ⟨⟨cls2, dd2, data2, sl2⟩, ho2, hc2, es, n2, hd2⟩ := id hb
  simp only at hc hd hc2 hd2
  subst hc hd hc2 hd2
  exact (rc_eq_decline_or (k := false) ⟨_, ho2, rfl⟩ ⟨_, ho, rfl⟩ (by decide) F.sub_list_dict F.slot_dict_eq F.slot_list_eq_refl
    (fun _ hq => call_meets F.slot_dict_eq ⟨_, ho2, rfl⟩ F.entry_dict_eq (F.args_dict_eq_2 _ _) (dict_no_list l b items es n n2 dd dd2 sl sl2) ⟨ho, ho2, hq⟩)
    (fun _ hq => call_meets F.slot_list_eq_refl ⟨_, ho, rfl⟩ F.entry_list_eq (F.args_list_eq_2 _ _) (list_no_dict l b items es n n2 dd dd2 sl sl2) ⟨ho, ho2, hq⟩)
    (fun _ hq => wpAny_isSame_ref_other' hne.symm ho2 ho (by simp) hq) (.inr hu) h)
theorem eq_dict_list {items : Array Value} (hl : s.heap.IsList l items) (hb : IsDictO s.heap b) (hu : A.units < cLine) : EqAt A s (.ref b) (.ref l) false := .of_refs (ne_of_list_dict hl hb).symm (rc_dict_list hl hb hu)

theorem ne_of_tuple_dict {items : Array Value} (hl : s.heap.IsTuple l items) (hb : IsDictO s.heap b) : l ≠ b := fun e => by
  subst e
  obtain ⟨o, ho, hc, _⟩ := hl
  obtain ⟨o2, ho2, hc2, _⟩ := hb
  rw [ho] at ho2
  cases ho2
  rw [hc] at hc2
  exact absurd hc2 (by simp)
theorem rc_tuple_dict {items : Array Value} (hl : s.heap.IsTuple l items) (hb : IsDictO s.heap b) (hu : A.units < cLine) : RcAt A s (.ref l) (.ref b) false := fun prog w E Q h => by
  have hne := ne_of_tuple_dict hl hb
  obtain ⟨⟨cls, dd, data, sl⟩, ho, hc, n, hd⟩ := id hl
  obtain ⟨⟨cls2, dd2, data2, sl2⟩, ho2, hc2, es, n2, hd2⟩ := id hb
  simp only at hc hd hc2 hd2
  subst hc hd hc2 hd2
  exact (rc_eq_decline_or (k := false) ⟨_, ho, rfl⟩ ⟨_, ho2, rfl⟩ (by decide) F.sub_dict_tuple F.slot_tuple_eq F.slot_dict_eq_refl
    (fun _ hq => call_meets F.slot_tuple_eq ⟨_, ho, rfl⟩ F.entry_tuple_eq (F.args_tuple_eq_2 _ _) (tuple_no_dict l b items es n n2 dd dd2 sl sl2) ⟨ho, ho2, hq⟩)
    (fun _ hq => call_meets F.slot_dict_eq_refl ⟨_, ho2, rfl⟩ F.entry_dict_eq (F.args_dict_eq_2 _ _) (dict_no_tuple l b items es n n2 dd dd2 sl sl2) ⟨ho, ho2, hq⟩)
    (fun _ hq => wpAny_isSame_ref_other' hne ho ho2 (by simp) hq) (.inr hu) h)
theorem eq_tuple_dict {items : Array Value} (hl : s.heap.IsTuple l items) (hb : IsDictO s.heap b) (hu : A.units < cLine) : EqAt A s (.ref l) (.ref b) false := .of_refs (ne_of_tuple_dict hl hb) (rc_tuple_dict hl hb hu)
theorem rc_dict_tuple {items : Array Value} (hl : s.heap.IsTuple l items) (hb : IsDictO s.heap b) (hu : A.units < cLine) : RcAt A s (.ref b) (.ref l) false := fun prog w E Q h => by
  have hne := ne_of_tuple_dict hl hb
  obtain ⟨⟨cls, dd, data, sl⟩, ho, hc, n, hd⟩ := id hl
  obtain ⟨⟨cls2, dd2, data2, sl2⟩, ho2, hc2, es, n2, hd2⟩ := id hb
  simp only at hc hd hc2 hd2
  subst hc hd hc2 hd2
  exact (rc_eq_decline_or (k := false) ⟨_, ho2, rfl⟩ ⟨_, ho, rfl⟩ (by decide) F.sub_tuple_dict F.slot_dict_eq F.slot_tuple_eq_refl
    (fun _ hq => call_meets F.slot_dict_eq ⟨_, ho2, rfl⟩ F.entry_dict_eq (F.args_dict_eq_2 _ _) (dict_no_tuple l b items es n n2 dd dd2 sl sl2) ⟨ho, ho2, hq⟩)
    (fun _ hq => call_meets F.slot_tuple_eq_refl ⟨_, ho, rfl⟩ F.entry_tuple_eq (F.args_tuple_eq_2 _ _) (tuple_no_dict l b items es n n2 dd dd2 sl sl2) ⟨ho, ho2, hq⟩)
    (fun _ hq => wpAny_isSame_ref_other hne.symm ho2 ho (by simp) hq) (.inr hu) h)
theorem eq_dict_tuple {items : Array Value} (hl : s.heap.IsTuple l items) (hb : IsDictO s.heap b) (hu : A.units < cLine) : EqAt A s (.ref b) (.ref l) false := .of_refs (ne_of_tuple_dict hl hb).symm (rc_dict_tuple hl hb hu)

end

theorem dict_no_none_n (l : Addr) (es : Array DictEntry) (n : Nat) (dd : Option Addr) (sl : Array (Option Value)) :
    Meets (Builtin.«dict.__ne__» ⟨[.ref l, .none], []⟩) (fun _ R s => s.heap.get? l = some { cls := .type "dict", dict := dd, data := .dict es n, slots := sl } ∧ R (.ok (.ret .notImplemented)) s) :=
  .of_wp fun prog w A R s h => by
    obtain ⟨hp, g, d, tk, os⟩ := s
    obtain ⟨hl, h⟩ := h
    have f1 := F.sub_NoneType_dict
    wp_walk using wpAny_loadPart' hl
    exact ⟨_, rfl, h⟩

theorem dict_no_bool_n (l : Addr) (es : Array DictEntry) (n : Nat) (dd : Option Addr) (sl : Array (Option Value)) (b : Bool) :
    Meets (Builtin.«dict.__ne__» ⟨[.ref l, .bool b], []⟩) (fun _ R s => s.heap.get? l = some { cls := .type "dict", dict := dd, data := .dict es n, slots := sl } ∧ R (.ok (.ret .notImplemented)) s) :=
  .of_wp fun prog w A R s h => by
    obtain ⟨hp, g, d, tk, os⟩ := s
    obtain ⟨hl, h⟩ := h
    have f1 := F.sub_bool_dict
    wp_walk using wpAny_loadPart' hl
    exact ⟨_, rfl, h⟩

theorem bool_no_dict_n (b : Bool) (l : Addr) (es : Array DictEntry) (n : Nat) (dd : Option Addr) (sl : Array (Option Value)) :
    Meets (Builtin.«int.__ne__» ⟨[.bool b, .ref l], []⟩) (fun _ R s => s.heap.get? l = some { cls := .type "dict", dict := dd, data := .dict es n, slots := sl } ∧ R (.ok (.ret .notImplemented)) s) :=
  .of_wp fun prog w A R s h => by
    obtain ⟨hp, g, d, tk, os⟩ := s
    obtain ⟨hl, h⟩ := h
    wp_walk using wpAny_loadPart' hl, wpAny_load hl
    exact ⟨_, rfl, h⟩

theorem dict_no_int_n (l : Addr) (es : Array DictEntry) (n : Nat) (dd : Option Addr) (sl : Array (Option Value)) (b : Int) (u : Tok) :
    Meets (Builtin.«dict.__ne__» ⟨[.ref l, .int b u], []⟩) (fun _ R s => s.heap.get? l = some { cls := .type "dict", dict := dd, data := .dict es n, slots := sl } ∧ R (.ok (.ret .notImplemented)) s) :=
  .of_wp fun prog w A R s h => by
    obtain ⟨hp, g, d, tk, os⟩ := s
    obtain ⟨hl, h⟩ := h
    have f1 := F.sub_int_dict
    wp_walk using wpAny_loadPart' hl
    exact ⟨_, rfl, h⟩

theorem int_no_dict_n (b : Int) (u : Tok) (l : Addr) (es : Array DictEntry) (n : Nat) (dd : Option Addr) (sl : Array (Option Value)) :
    Meets (Builtin.«int.__ne__» ⟨[.int b u, .ref l], []⟩) (fun _ R s => s.heap.get? l = some { cls := .type "dict", dict := dd, data := .dict es n, slots := sl } ∧ R (.ok (.ret .notImplemented)) s) :=
  .of_wp fun prog w A R s h => by
    obtain ⟨hp, g, d, tk, os⟩ := s
    obtain ⟨hl, h⟩ := h
    wp_walk using wpAny_loadPart' hl, wpAny_load hl
    exact ⟨_, rfl, h⟩

theorem dict_no_str_n (l : Addr) (es : Array DictEntry) (n : Nat) (dd : Option Addr) (sl : Array (Option Value)) (b : Str) (u : Tok) :
    Meets (Builtin.«dict.__ne__» ⟨[.ref l, .str b u], []⟩) (fun _ R s => s.heap.get? l = some { cls := .type "dict", dict := dd, data := .dict es n, slots := sl } ∧ R (.ok (.ret .notImplemented)) s) :=
  .of_wp fun prog w A R s h => by
    obtain ⟨hp, g, d, tk, os⟩ := s
    obtain ⟨hl, h⟩ := h
    have f1 := F.sub_str_dict
    wp_walk using wpAny_loadPart' hl
    exact ⟨_, rfl, h⟩

theorem str_no_dict_n (b : Str) (u : Tok) (l : Addr) (es : Array DictEntry) (n : Nat) (dd : Option Addr) (sl : Array (Option Value)) :
    Meets (Builtin.«str.__ne__» ⟨[.str b u, .ref l], []⟩) (fun _ R s => s.heap.get? l = some { cls := .type "dict", dict := dd, data := .dict es n, slots := sl } ∧ R (.ok (.ret .notImplemented)) s) :=
  .of_wp fun prog w A R s h => by
    obtain ⟨hp, g, d, tk, os⟩ := s
    obtain ⟨hl, h⟩ := h
    wp_walk using wpAny_loadPart' hl, wpAny_load hl
    exact ⟨_, rfl, h⟩

theorem list_no_dict_n (l b : Addr) (items : Array Value) (es : Array DictEntry) (n n2 : Nat) (dd dd2 : Option Addr) (sl sl2 : Array (Option Value)) :
    Meets (Builtin.«list.__ne__» ⟨[.ref l, .ref b], []⟩) (fun _ R s => s.heap.get? l = some { cls := .type "list", dict := dd, data := .seq items n, slots := sl } ∧ s.heap.get? b = some { cls := .type "dict", dict := dd2, data := .dict es n2, slots := sl2 } ∧ R (.ok (.ret .notImplemented)) s) :=
  .of_wp fun prog w A R s h => by obtain ⟨hp, g, d, tk, os⟩ := s; obtain ⟨hl, hb, h⟩ := h; have f1 := F.sub_dict_list; wp_walk using wpAny_loadPart' hl, wpAny_loadPart' hb; exact ⟨_, rfl, h⟩
theorem dict_no_list_n (l b : Addr) (items : Array Value) (es : Array DictEntry) (n n2 : Nat) (dd dd2 : Option Addr) (sl sl2 : Array (Option Value)) :
    Meets (Builtin.«dict.__ne__» ⟨[.ref b, .ref l], []⟩) (fun _ R s => s.heap.get? l = some { cls := .type "list", dict := dd, data := .seq items n, slots := sl } ∧ s.heap.get? b = some { cls := .type "dict", dict := dd2, data := .dict es n2, slots := sl2 } ∧ R (.ok (.ret .notImplemented)) s) :=
  .of_wp fun prog w A R s h => by obtain ⟨hp, g, d, tk, os⟩ := s; obtain ⟨hl, hb, h⟩ := h; have f1 := F.sub_list_dict; wp_walk using wpAny_loadPart' hl, wpAny_loadPart' hb; exact ⟨_, rfl, h⟩

theorem tuple_no_dict_n (l b : Addr) (items : Array Value) (es : Array DictEntry) (n n2 : Nat) (dd dd2 : Option Addr) (sl sl2 : Array (Option Value)) :
    Meets (Builtin.«tuple.__ne__» ⟨[.ref l, .ref b], []⟩) (fun _ R s => s.heap.get? l = some { cls := .type "tuple", dict := dd, data := .seq items n, slots := sl } ∧ s.heap.get? b = some { cls := .type "dict", dict := dd2, data := .dict es n2, slots := sl2 } ∧ R (.ok (.ret .notImplemented)) s) :=
  .of_wp fun prog w A R s h => by obtain ⟨hp, g, d, tk, os⟩ := s; obtain ⟨hl, hb, h⟩ := h; have f1 := F.sub_dict_tuple; wp_walk using wpAny_loadPart' hl, wpAny_loadPart' hb; exact ⟨_, rfl, h⟩
theorem dict_no_tuple_n (l b : Addr) (items : Array Value) (es : Array DictEntry) (n n2 : Nat) (dd dd2 : Option Addr) (sl sl2 : Array (Option Value)) :
    Meets (Builtin.«dict.__ne__» ⟨[.ref b, .ref l], []⟩) (fun _ R s => s.heap.get? l = some { cls := .type "tuple", dict := dd, data := .seq items n, slots := sl } ∧ s.heap.get? b = some { cls := .type "dict", dict := dd2, data := .dict es n2, slots := sl2 } ∧ R (.ok (.ret .notImplemented)) s) :=
  .of_wp fun prog w A R s h => by obtain ⟨hp, g, d, tk, os⟩ := s; obtain ⟨hl, hb, h⟩ := h; have f1 := F.sub_tuple_dict; wp_walk using wpAny_loadPart' hl, wpAny_loadPart' hb; exact ⟨_, rfl, h⟩

section
variable {A : Around} {s : Shared} {l b : Addr}

theorem rn_none_dict (hl : IsDictO s.heap l) (hu : A.units < cLine) : RcNeAt A s (.none) (.ref l) true := fun prog w E Q h => by
  obtain ⟨⟨cls, dd, data, sl⟩, ho, hc, es, n, hd⟩ := id hl
  simp only at hc hd
  subst hc hd
  exact rc_ne_decline_or (k := false) rfl ⟨_, ho, rfl⟩ (by decide) F.sub_dict_NoneType F.slot_NoneType_ne F.slot_dict_ne_refl
    (fun _ hq => call_gives F.slot_NoneType_ne rfl F.entry_NoneType_ne (F.args_NoneType_ne_2 _ _) (NoneType___ne___none_ref_0 l) hq)
    (fun _ hq => call_meets F.slot_dict_ne_refl ⟨_, ho, rfl⟩ F.entry_dict_ne (F.args_dict_ne_2 _ _) (dict_no_none_n l es n dd sl) ⟨ho, hq⟩)
    (fun _ hq => wpAny_of_eq (rfl : isSame (.none) (.ref l) = pure false) hq) (.inr hu) h
theorem rn_dict_none (hl : IsDictO s.heap l) (hu : A.units < cLine) : RcNeAt A s (.ref l) (.none) true := fun prog w E Q h => by
  obtain ⟨⟨cls, dd, data, sl⟩, ho, hc, es, n, hd⟩ := id hl
  simp only at hc hd
  subst hc hd
  exact rc_ne_decline_or (k := false) ⟨_, ho, rfl⟩ rfl (by decide) F.sub_NoneType_dict F.slot_dict_ne F.slot_NoneType_ne_refl
    (fun _ hq => call_meets F.slot_dict_ne ⟨_, ho, rfl⟩ F.entry_dict_ne (F.args_dict_ne_2 _ _) (dict_no_none_n l es n dd sl) ⟨ho, hq⟩)
    (fun _ hq => call_gives F.slot_NoneType_ne_refl rfl F.entry_NoneType_ne (F.args_NoneType_ne_2 _ _) (NoneType___ne___none_ref_0 l) hq)
    (fun _ hq => wpAny_of_eq (rfl : isSame (.ref l) (.none) = pure false) hq) (.inr hu) h
theorem rn_bool_dict (b : Bool) (hl : IsDictO s.heap l) (hu : A.units < cLine) : RcNeAt A s (.bool b) (.ref l) true := fun prog w E Q h => by
  obtain ⟨⟨cls, dd, data, sl⟩, ho, hc, es, n, hd⟩ := id hl
  simp only at hc hd
  subst hc hd
  exact rc_ne_decline_or (k := false) rfl ⟨_, ho, rfl⟩ (by decide) F.sub_dict_bool F.slot_bool_ne F.slot_dict_ne_refl
    (fun _ hq => call_meets F.slot_bool_ne rfl F.entry_int_ne (F.args_int_ne_2 _ _) (bool_no_dict_n b l es n dd sl) ⟨ho, hq⟩)
    (fun _ hq => call_meets F.slot_dict_ne_refl ⟨_, ho, rfl⟩ F.entry_dict_ne (F.args_dict_ne_2 _ _) (dict_no_bool_n l es n dd sl b) ⟨ho, hq⟩)
    (fun _ hq => wpAny_of_eq (rfl : isSame (.bool b) (.ref l) = pure false) hq) (.inr hu) h
theorem rn_dict_bool (b : Bool) (hl : IsDictO s.heap l) (hu : A.units < cLine) : RcNeAt A s (.ref l) (.bool b) true := fun prog w E Q h => by
  obtain ⟨⟨cls, dd, data, sl⟩, ho, hc, es, n, hd⟩ := id hl
  simp only at hc hd
  subst hc hd
  exact rc_ne_decline_or (k := false) ⟨_, ho, rfl⟩ rfl (by decide) F.sub_bool_dict F.slot_dict_ne F.slot_bool_ne_refl
    (fun _ hq => call_meets F.slot_dict_ne ⟨_, ho, rfl⟩ F.entry_dict_ne (F.args_dict_ne_2 _ _) (dict_no_bool_n l es n dd sl b) ⟨ho, hq⟩)
    (fun _ hq => call_meets F.slot_bool_ne_refl rfl F.entry_int_ne (F.args_int_ne_2 _ _) (bool_no_dict_n b l es n dd sl) ⟨ho, hq⟩)
    (fun _ hq => wpAny_of_eq (rfl : isSame (.ref l) (.bool b) = pure false) hq) (.inr hu) h
theorem rn_int_dict (b : Int) (u : Tok) (hl : IsDictO s.heap l) (hu : A.units < cLine) : RcNeAt A s (.int b u) (.ref l) true := fun prog w E Q h => by
  obtain ⟨⟨cls, dd, data, sl⟩, ho, hc, es, n, hd⟩ := id hl
  simp only at hc hd
  subst hc hd
  exact rc_ne_decline_or (k := false) (typeIs_int s b u) ⟨_, ho, rfl⟩ (by decide) F.sub_dict_int F.slot_int_ne F.slot_dict_ne_refl
    (fun _ hq => call_meets F.slot_int_ne (typeIs_int s b u) F.entry_int_ne (F.args_int_ne_2 _ _) (int_no_dict_n b u l es n dd sl) ⟨ho, hq⟩)
    (fun _ hq => call_meets F.slot_dict_ne_refl ⟨_, ho, rfl⟩ F.entry_dict_ne (F.args_dict_ne_2 _ _) (dict_no_int_n l es n dd sl b u) ⟨ho, hq⟩)
    (fun _ hq => wpAny_of_eq (rfl : isSame (.int b u) (.ref l) = pure false) hq) (.inr hu) h
theorem rn_dict_int (b : Int) (u : Tok) (hl : IsDictO s.heap l) (hu : A.units < cLine) : RcNeAt A s (.ref l) (.int b u) true := fun prog w E Q h => by
  obtain ⟨⟨cls, dd, data, sl⟩, ho, hc, es, n, hd⟩ := id hl
  simp only at hc hd
  subst hc hd
  exact rc_ne_decline_or (k := false) ⟨_, ho, rfl⟩ (typeIs_int s b u) (by decide) F.sub_int_dict F.slot_dict_ne F.slot_int_ne_refl
    (fun _ hq => call_meets F.slot_dict_ne ⟨_, ho, rfl⟩ F.entry_dict_ne (F.args_dict_ne_2 _ _) (dict_no_int_n l es n dd sl b u) ⟨ho, hq⟩)
    (fun _ hq => call_meets F.slot_int_ne_refl (typeIs_int s b u) F.entry_int_ne (F.args_int_ne_2 _ _) (int_no_dict_n b u l es n dd sl) ⟨ho, hq⟩)
    (fun _ hq => wpAny_of_eq (rfl : isSame (.ref l) (.int b u) = pure false) hq) (.inr hu) h
theorem rn_str_dict (b : Str) (u : Tok) (hl : IsDictO s.heap l) (hu : A.units < cLine) : RcNeAt A s (.str b u) (.ref l) true := fun prog w E Q h => by
  obtain ⟨⟨cls, dd, data, sl⟩, ho, hc, es, n, hd⟩ := id hl
  simp only at hc hd
  subst hc hd
  exact rc_ne_decline_or (k := false) (typeIs_str s b u) ⟨_, ho, rfl⟩ (by decide) F.sub_dict_str F.slot_str_ne F.slot_dict_ne_refl
    (fun _ hq => call_meets F.slot_str_ne (typeIs_str s b u) F.entry_str_ne (F.args_str_ne_2 _ _) (str_no_dict_n b u l es n dd sl) ⟨ho, hq⟩)
    (fun _ hq => call_meets F.slot_dict_ne_refl ⟨_, ho, rfl⟩ F.entry_dict_ne (F.args_dict_ne_2 _ _) (dict_no_str_n l es n dd sl b u) ⟨ho, hq⟩)
    (fun _ hq => wpAny_of_eq (rfl : isSame (.str b u) (.ref l) = pure false) hq) (.inr hu) h
theorem rn_dict_str (b : Str) (u : Tok) (hl : IsDictO s.heap l) (hu : A.units < cLine) : RcNeAt A s (.ref l) (.str b u) true := fun prog w E Q h => by
  obtain ⟨⟨cls, dd, data, sl⟩, ho, hc, es, n, hd⟩ := id hl
  simp only at hc hd
  subst hc hd
  exact rc_ne_decline_or (k := false) ⟨_, ho, rfl⟩ (typeIs_str s b u) (by decide) F.sub_str_dict F.slot_dict_ne F.slot_str_ne_refl
    (fun _ hq => call_meets F.slot_dict_ne ⟨_, ho, rfl⟩ F.entry_dict_ne (F.args_dict_ne_2 _ _) (dict_no_str_n l es n dd sl b u) ⟨ho, hq⟩)
    (fun _ hq => call_meets F.slot_str_ne_refl (typeIs_str s b u) F.entry_str_ne (F.args_str_ne_2 _ _) (str_no_dict_n b u l es n dd sl) ⟨ho, hq⟩)
    (fun _ hq => wpAny_of_eq (rfl : isSame (.ref l) (.str b u) = pure false) hq) (.inr hu) h
theorem rn_list_dict {items : Array Value} (hl : s.heap.IsList l items) (hb : IsDictO s.heap b) (hu : A.units < cLine) : RcNeAt A s (.ref l) (.ref b) true := fun prog w E Q h => by
  have hne := ne_of_list_dict hl hb
  obtain ⟨⟨cls, dd, data, sl⟩, ho, hc, n, hd⟩ := id hl
  obtain ⟨⟨cls2, dd2, data2, sl2⟩, ho2, hc2, es, n2, hd2⟩ := id hb
  simp only at hc hd hc2 hd2
  subst hc hd hc2 hd2
  exact (rc_ne_decline_or (k := false) ⟨_, ho, rfl⟩ ⟨_, ho2, rfl⟩ (by decide) F.sub_dict_list F.slot_list_ne F.slot_dict_ne_refl
    (fun _ hq => call_meets F.slot_list_ne ⟨_, ho, rfl⟩ F.entry_list_ne (F.args_list_ne_2 _ _) (list_no_dict_n l b items es n n2 dd dd2 sl sl2) ⟨ho, ho2, hq⟩)
    (fun _ hq => call_meets F.slot_dict_ne_refl ⟨_, ho2, rfl⟩ F.entry_dict_ne (F.args_dict_ne_2 _ _) (dict_no_list_n l b items es n n2 dd dd2 sl sl2) ⟨ho, ho2, hq⟩)
    (fun _ hq => wpAny_isSame_ref_other' hne ho ho2 (by simp) hq) (.inr hu) h)
theorem rn_dict_list {items : Array Value} (hl : s.heap.IsList l items) (hb : IsDictO s.heap b) (hu : A.units < cLine) : RcNeAt A s (.ref b) (.ref l) true := fun prog w E Q h => by
  have hne := ne_of_list_dict hl hb
  obtain ⟨⟨cls, dd, data, sl⟩, ho, hc, n, hd⟩ := id hl
  obtain ⟨⟨cls2, dd2, data2, sl2⟩, ho2, hc2, es, n2, hd2⟩ := id hb
  simp only at hc hd hc2 hd2
  subst hc hd hc2 hd2
  exact (rc_ne_decline_or (k := false) ⟨_, ho2, rfl⟩ ⟨_, ho, rfl⟩ (by decide) F.sub_list_dict F.slot_dict_ne F.slot_list_ne_refl
    (fun _ hq => call_meets F.slot_dict_ne ⟨_, ho2, rfl⟩ F.entry_dict_ne (F.args_dict_ne_2 _ _) (dict_no_list_n l b items es n n2 dd dd2 sl sl2) ⟨ho, ho2, hq⟩)
    (fun _ hq => call_meets F.slot_list_ne_refl ⟨_, ho, rfl⟩ F.entry_list_ne (F.args_list_ne_2 _ _) (list_no_dict_n l b items es n n2 dd dd2 sl sl2) ⟨ho, ho2, hq⟩)
    (fun _ hq => wpAny_isSame_ref_other' hne.symm ho2 ho (by simp) hq) (.inr hu) h)
theorem rn_tuple_dict {items : Array Value} (hl : s.heap.IsTuple l items) (hb : IsDictO s.heap b) (hu : A.units < cLine) : RcNeAt A s (.ref l) (.ref b) true := fun prog w E Q h => by
  have hne := ne_of_tuple_dict hl hb
  obtain ⟨⟨cls, dd, data, sl⟩, ho, hc, n, hd⟩ := id hl
  obtain ⟨⟨cls2, dd2, data2, sl2⟩, ho2, hc2, es, n2, hd2⟩ := id hb
  simp only at hc hd hc2 hd2
  subst hc hd hc2 hd2
  exact (rc_ne_decline_or (k := false) ⟨_, ho, rfl⟩ ⟨_, ho2, rfl⟩ (by decide) F.sub_dict_tuple F.slot_tuple_ne F.slot_dict_ne_refl
    (fun _ hq => call_meets F.slot_tuple_ne ⟨_, ho, rfl⟩ F.entry_tuple_ne (F.args_tuple_ne_2 _ _) (tuple_no_dict_n l b items es n n2 dd dd2 sl sl2) ⟨ho, ho2, hq⟩)
    (fun _ hq => call_meets F.slot_dict_ne_refl ⟨_, ho2, rfl⟩ F.entry_dict_ne (F.args_dict_ne_2 _ _) (dict_no_tuple_n l b items es n n2 dd dd2 sl sl2) ⟨ho, ho2, hq⟩)
    (fun _ hq => wpAny_isSame_ref_other' hne ho ho2 (by simp) hq) (.inr hu) h)
theorem rn_dict_tuple {items : Array Value} (hl : s.heap.IsTuple l items) (hb : IsDictO s.heap b) (hu : A.units < cLine) : RcNeAt A s (.ref b) (.ref l) true := fun prog w E Q h => by
  have hne := ne_of_tuple_dict hl hb
  obtain ⟨⟨cls, dd, data, sl⟩, ho, hc, n, hd⟩ := id hl
  obtain ⟨⟨cls2, dd2, data2, sl2⟩, ho2, hc2, es, n2, hd2⟩ := id hb
  simp only at hc hd hc2 hd2
  subst hc hd hc2 hd2
  exact (rc_ne_decline_or (k := false) ⟨_, ho2, rfl⟩ ⟨_, ho, rfl⟩ (by decide) F.sub_tuple_dict F.slot_dict_ne F.slot_tuple_ne_refl
    (fun _ hq => call_meets F.slot_dict_ne ⟨_, ho2, rfl⟩ F.entry_dict_ne (F.args_dict_ne_2 _ _) (dict_no_tuple_n l b items es n n2 dd dd2 sl sl2) ⟨ho, ho2, hq⟩)
    (fun _ hq => call_meets F.slot_tuple_ne_refl ⟨_, ho, rfl⟩ F.entry_tuple_ne (F.args_tuple_ne_2 _ _) (tuple_no_dict_n l b items es n n2 dd dd2 sl sl2) ⟨ho, ho2, hq⟩)
    (fun _ hq => wpAny_isSame_ref_other hne.symm ho2 ho (by simp) hq) (.inr hu) h)
end

end VL
end

section
set_option Elab.async false
set_option linter.all false
set_option maxRecDepth 100000
set_option maxHeartbeats 1000000
namespace VL
open PySem PySem.W PySem.Spec PySem.SeqAt PyProof.Rows L2
/-- a thing to be compared (dict true: an empty one; dict false: another one) -/
inductive PD where
  | none | bool (b : Bool) | int (i : Int) | str (s : Str) | list (xs : List PD) | tuple (xs : List PD) | dict (e : Bool)
namespace PD
mutual
def eqv : PD → PD → Bool
  | .none, .none => true
  | .bool a, .bool b => a == b
  | .bool a, .int j => (if a then 1 else 0) == j
  | .int i, .bool b => i == (if b then 1 else 0)
  | .int i, .int j => i == j
  | .str x, .str y => x == y
  | .list xs, .list ys => eqvAll xs ys
  | .tuple xs, .tuple ys => eqvAll xs ys
  | .dict a, .dict b => a && b
  | .none, .bool _ | .none, .int _ | .none, .str _ | .none, .list _ | .none, .tuple _ | .none, .dict _ => false
  | .bool _, .none | .bool _, .str _ | .bool _, .list _ | .bool _, .tuple _ | .bool _, .dict _ => false
  | .int _, .none | .int _, .str _ | .int _, .list _ | .int _, .tuple _ | .int _, .dict _ => false
  | .str _, .none | .str _, .bool _ | .str _, .int _ | .str _, .list _ | .str _, .tuple _ | .str _, .dict _ => false
  | .list _, .none | .list _, .bool _ | .list _, .int _ | .list _, .str _ | .list _, .tuple _ | .list _, .dict _ => false
  | .tuple _, .none | .tuple _, .bool _ | .tuple _, .int _ | .tuple _, .str _ | .tuple _, .list _ | .tuple _, .dict _ => false
  | .dict _, .none | .dict _, .bool _ | .dict _, .int _ | .dict _, .str _ | .dict _, .list _ | .dict _, .tuple _ => false
def eqvAll : List PD → List PD → Bool
  | [], [] => true
  | x :: xs, y :: ys => eqv x y && eqvAll xs ys
  | [], _ :: _ => false
  | _ :: _, [] => false
end
mutual
def depth : PD → Nat
  | .list xs => depthAll xs + 1 | .tuple xs => depthAll xs + 1 | .none => 0 | .bool _ => 0 | .int _ => 0 | .str _ => 0 | .dict _ => 0
def depthAll : List PD → Nat
  | [] => 0
  | x :: xs => max (depth x) (depthAll xs)
end
mutual
/-- no dict but empty ones -/
def noN : PD → Bool
  | .list xs => noNs xs | .tuple xs => noNs xs | .dict e => e | .none => true | .bool _ => true | .int _ => true | .str _ => true
def noNs : List PD → Bool
  | [] => true
  | x :: xs => noN x && noNs xs
end
mutual
/-- no dict -/
def noA : PD → Bool
  | .list xs => noAs xs | .tuple xs => noAs xs | .dict _ => false | .none => true | .bool _ => true | .int _ => true | .str _ => true
def noAs : List PD → Bool
  | [] => true
  | x :: xs => noA x && noAs xs
end
def okP (d e : PD) : Bool := (noN d && noN e) || noA d || noA e
def okPs (d e : List PD) : Bool := (noNs d && noNs e) || noAs d || noAs e
theorem okPs_cons {x y : PD} {xs ys : List PD} (h : okPs (x :: xs) (y :: ys) = true) : okP x y = true ∧ okPs xs ys = true := by
  simp only [okPs, noNs, noAs, Bool.or_eq_true, Bool.and_eq_true] at h
  simp only [okP, okPs, Bool.or_eq_true, Bool.and_eq_true]
  rcases h with (⟨⟨a, b⟩, c, d⟩ | ⟨a, b⟩) | ⟨a, b⟩
  · exact ⟨.inl (.inl ⟨a, c⟩), .inl (.inl ⟨b, d⟩)⟩
  · exact ⟨.inl (.inr a), .inl (.inr b)⟩
  · exact ⟨.inr a, .inr b⟩
mutual
theorem noN_of : ∀ d : PD, noA d = true → noN d = true
  | .none, _ => rfl
  | .bool b, _ => rfl
  | .int b, _ => rfl
  | .str b, _ => rfl
  | .list xs, h => by simp only [noA] at h; simp only [noN]; exact noNs_of xs h
  | .tuple xs, h => by simp only [noA] at h; simp only [noN]; exact noNs_of xs h
  | .dict _, h => by simp [noA] at h
theorem noNs_of : ∀ d : List PD, noAs d = true → noNs d = true
  | [], _ => rfl
  | x :: xs, h => by
    simp only [noAs, Bool.and_eq_true] at h
    simp only [noNs, noN_of x h.1, noNs_of xs h.2]; rfl
end
mutual
theorem eqv_refl : ∀ d : PD, noN d = true → eqv d d = true
  | .none, _ => rfl
  | .bool b, _ => by simp [eqv]
  | .int b, _ => by simp [eqv]
  | .str b, _ => by simp [eqv]
  | .list xs, h => by rw [eqv]; exact eqvAll_refl xs (by simpa only [noN] using h)
  | .tuple xs, h => by rw [eqv]; exact eqvAll_refl xs (by simpa only [noN] using h)
  | .dict e, h => by simp only [noN] at h; simp [eqv, h]
theorem eqvAll_refl : ∀ xs : List PD, noNs xs = true → eqvAll xs xs = true
  | [], _ => rfl
  | x :: xs, h => by
    simp only [noNs, Bool.and_eq_true] at h
    rw [eqvAll, eqv_refl x h.1, eqvAll_refl xs h.2]; rfl
end
theorem okPs_same {xs : List PD} (h : okPs xs xs = true) : noNs xs = true := by
  simp only [okPs, Bool.or_eq_true, Bool.and_eq_true] at h
  rcases h with (h | h) | h
  · exact h.1
  · exact noNs_of _ h
  · exact noNs_of _ h
def pairE (xs ys : List PD) (j : Nat) : Bool := match xs[j]?, ys[j]? with
  | some x, some y => eqv x y
  | _, _ => false
theorem all_range_succ (e : Nat → Bool) (n : Nat) : (List.range (n + 1)).all e = (e 0 && (List.range n).all fun j => e (j + 1)) := by
  rw [List.range_succ_eq_map, List.all_cons, List.all_map]; rfl
theorem eqvAll_all : ∀ xs ys : List PD, eqvAll xs ys = ((List.range (min xs.length ys.length)).all (pairE xs ys) && xs.length == ys.length)
  | [], [] => rfl
  | [], y :: ys => by simp [eqvAll]
  | x :: xs, [] => by simp [eqvAll]
  | x :: xs, y :: ys => by
    have h : min (x :: xs).length (y :: ys).length = min xs.length ys.length + 1 := by simp only [List.length_cons]; omega
    rw [eqvAll, eqvAll_all xs ys, h, all_range_succ]
    have h2 : (fun j => pairE (x :: xs) (y :: ys) (j + 1)) = pairE xs ys := by funext j; simp [pairE]
    rw [h2]
    have h3 : pairE (x :: xs) (y :: ys) 0 = eqv x y := by simp [pairE]
    rw [h3]
    simp [Bool.and_assoc]
end PD

mutual
inductive RdQ (h : Heap) : Value → PD → Prop
  | none : RdQ h .none .none
  | bool (b) : RdQ h (.bool b) (.bool b)
  | int (i t) : RdQ h (.int i t) (.int i)
  | str (x t) : RdQ h (.str x t) (.str x)
  | list {l its xs} : h.IsList l its → RdQs h its.toList xs → RdQ h (.ref l) (.list xs)
  | tuple {l its xs} : h.IsTuple l its → RdQs h its.toList xs → RdQ h (.ref l) (.tuple xs)
  | dict {l o ep} : (l == sysModules) = false → h.get? l = some o → o.ExactDict → o.data = .dict #[] ep → RdQ h (.ref l) (.dict true)
  | dictN {l o es ep} : h.get? l = some o → o.cls = .type "dict" → o.data = .dict es ep → es.size ≠ 0 → RdQ h (.ref l) (.dict false)
inductive RdQs (h : Heap) : List Value → List PD → Prop
  | nil : RdQs h [] []
  | cons {v vs d ds} : RdQ h v d → RdQs h vs ds → RdQs h (v :: vs) (d :: ds)
end
theorem RdQs.length {h : Heap} : ∀ {vs : List Value} {ds : List PD}, RdQs h vs ds → vs.length = ds.length
  | _, _, .nil => rfl
  | _, _, .cons _ r => by simp [RdQs.length r]
theorem IsList_unique {h : Heap} {l : Addr} {a b : Array Value} (x : h.IsList l a) (y : h.IsList l b) : a = b := by
  obtain ⟨o, h1, h2, n, h3⟩ := x
  obtain ⟨o', k1, k2, n', k3⟩ := y
  rw [h1] at k1; cases k1
  rw [h3] at k3; cases k3; rfl
theorem IsTuple_unique {h : Heap} {l : Addr} {a b : Array Value} (x : h.IsTuple l a) (y : h.IsTuple l b) : a = b := by
  obtain ⟨o, h1, h2, n, h3⟩ := x
  obtain ⟨o', k1, k2, n', k3⟩ := y
  rw [h1] at k1; cases k1
  rw [h3] at k3; cases k3; rfl
theorem IsDict_of {h : Heap} {l : Addr} {o : Obj} {ep : Nat} (h1 : h.get? l = some o) (h2 : o.ExactDict) (h3 : o.data = .dict #[] ep) : IsDictO h l := ⟨o, h1, h2.1, _, _, h3⟩
mutual
theorem RdQ.uniq {h : Heap} : ∀ {v : Value} {d d' : PD}, RdQ h v d → RdQ h v d' → d = d'
  | _, _, _, .none, r => by cases r; rfl
  | _, _, _, .bool _, r => by cases r; rfl
  | _, _, _, .int _ _, r => by cases r; rfl
  | _, _, _, .str _ _, r => by cases r; rfl
  | _, _, _, .list a b, r => by
    cases r with
    | list k1 k2 => cases IsList_unique a k1; rw [RdQs.uniq b k2]
    | tuple k1 k2 =>
      obtain ⟨o, h1, h2, n, h3⟩ := a
      obtain ⟨o', k1, k2, n', k3⟩ := k1
      rw [h1] at k1; cases k1; rw [h2] at k2; exact absurd k2 (by simp)
    | dict k1 k2 k3 k4 =>
      obtain ⟨o, h1, h2, n, h3⟩ := a
      rw [h1] at k2; cases k2; rw [h3] at k4; cases k4
    | dictN k1 k2 k3 k4 =>
      obtain ⟨o, h1, h2, n, h3⟩ := a
      rw [h1] at k1; cases k1; rw [h3] at k3; cases k3
  | _, _, _, .tuple a b, r => by
    cases r with
    | tuple k1 k2 => cases IsTuple_unique a k1; rw [RdQs.uniq b k2]
    | list k1 k2 =>
      obtain ⟨o, h1, h2, n, h3⟩ := a
      obtain ⟨o', k1, k2, n', k3⟩ := k1
      rw [h1] at k1; cases k1; rw [h2] at k2; exact absurd k2 (by simp)
    | dict k1 k2 k3 k4 =>
      obtain ⟨o, h1, h2, n, h3⟩ := a
      rw [h1] at k2; cases k2; rw [h3] at k4; cases k4
    | dictN k1 k2 k3 k4 =>
      obtain ⟨o, h1, h2, n, h3⟩ := a
      rw [h1] at k1; cases k1; rw [h3] at k3; cases k3
  | _, _, _, .dict a b c e, r => by
    cases r with
    | list k1 k2 =>
      obtain ⟨o, h1, h2, n, h3⟩ := k1
      rw [h1] at b; cases b; rw [h3] at e; cases e
    | tuple k1 k2 =>
      obtain ⟨o, h1, h2, n, h3⟩ := k1
      rw [h1] at b; cases b; rw [h3] at e; cases e
    | dict k1 k2 k3 k4 => rfl
    | dictN k1 k2 k3 k4 => rw [k1] at b; cases b; rw [k3] at e; cases e; exact absurd rfl k4
  | _, _, _, .dictN b c e f, r => by
    cases r with
    | list k1 k2 =>
      obtain ⟨o, h1, h2, n, h3⟩ := k1
      rw [h1] at b; cases b; rw [h3] at e; cases e
    | tuple k1 k2 =>
      obtain ⟨o, h1, h2, n, h3⟩ := k1
      rw [h1] at b; cases b; rw [h3] at e; cases e
    | dict k1 k2 k3 k4 => rw [k2] at b; cases b; rw [k4] at e; cases e; exact absurd rfl f
    | dictN k1 k2 k3 k4 => rfl
theorem RdQs.uniq {h : Heap} : ∀ {v : List Value} {d d' : List PD}, RdQs h v d → RdQs h v d' → d = d'
  | _, _, _, .nil, r => by cases r; rfl
  | _, _, _, .cons a b, r => by
    cases r with
    | cons k1 k2 => rw [RdQ.uniq a k1, RdQs.uniq b k2]
end
theorem IsDict_ofN {h : Heap} {l : Addr} {o : Obj} {es : Array DictEntry} {ep : Nat} (h1 : h.get? l = some o) (h2 : o.cls = .type "dict") (h3 : o.data = .dict es ep) : IsDictO h l := ⟨o, h1, h2, _, _, h3⟩
theorem okP_dicts {d e : Bool} (h : PD.okP (.dict d) (.dict e) = true) : d = true ∧ e = true := by
  simpa [PD.okP, PD.noN, PD.noA] using h
theorem dictOf_nil {P : Program} {w : World} {h : Heap} {a : Addr} {o : Obj} {ep : Nat} (h1 : h.get? a = some o) (h2 : o.ExactDict) (h3 : o.data = .dict #[] ep) : h.DictOf (mixKind P w) a [] :=
  ⟨o, #[], ep, h1, h2, h3, by first | exact KeysOf.empty | (intro e he; simp at he) | simp [KeysOf], .nil, by simp⟩
theorem rc_dicts {A : Around} {s : Shared} {a b : Addr} {o o' : Obj} {ep ep' : Nat} (ha : (a == sysModules) = false) (h1 : s.heap.get? a = some o) (h2 : o.ExactDict) (h3 : o.data = .dict #[] ep)
    (hb : (b == sysModules) = false) (k1 : s.heap.get? b = some o') (k2 : o'.ExactDict) (k3 : o'.data = .dict #[] ep') (hu : A.units < cLine) : RcAt A s (.ref a) (.ref b) true := fun prog w E Q h =>
  keq_eq (knd := mixKind prog w) (r := true) ha hb (dictOf_nil h1 h2 h3) (dictOf_nil k1 k2 k3) hu (fun _ => .nil) h

theorem rn_dicts {A : Around} {s : Shared} {a b : Addr} {o o' : Obj} {ep ep' : Nat} (ha : (a == sysModules) = false) (h1 : s.heap.get? a = some o) (h2 : o.ExactDict) (h3 : o.data = .dict #[] ep)
    (hb : (b == sysModules) = false) (k1 : s.heap.get? b = some o') (k2 : o'.ExactDict) (k3 : o'.data = .dict #[] ep') (hu : A.units < cLine) : RcNeAt A s (.ref a) (.ref b) false := fun prog w E Q h =>
  keq_ne (knd := mixKind prog w) (r := true) ha hb (dictOf_nil h1 h2 h3) (dictOf_nil k1 k2 k3) hu (fun _ => .nil) h

theorem rcQ_list (xs ys : List PD) (A : Around) (s : Shared) (l l' : Addr) (its its' : Array Value) (h1 : s.heap.IsList l its) (k1 : s.heap.IsList l' its') (h2 : RdQs s.heap its.toList xs) (k2 : RdQs s.heap its'.toList ys)
    (hu : A.units + min (PD.depth (.list xs)) (PD.depth (.list ys)) < cLine) (he : ∀ j (h1 : j < its.toList.length) (h2 : j < its'.toList.length), EqAt A.in1 s its.toList[j] its'.toList[j] (PD.pairE xs ys j)) : RcAt A s (.ref l) (.ref l') (PD.eqvAll xs ys) := by
  have n1 : its.size = xs.length := by simpa using RdQs.length h2
  have n2 : its'.size = ys.length := by simpa using RdQs.length k2
  rw [PD.eqvAll_all]
  by_cases hsz : its.size = its'.size
  · have := RcAt.lists h1 k1 hsz (room_here hu) (e := PD.pairE xs ys) fun j j1 j2 => by
      have := he j (by simpa using j1) (by simpa using j2)
      simpa using this
    have e : min xs.length ys.length = its.size := by omega
    have e2 : (xs.length == ys.length) = true := by simp; omega
    rw [e, e2, Bool.and_true]; exact this
  · have e2 : (xs.length == ys.length) = false := by simp; omega
    rw [e2, Bool.and_false]
    exact RcAt.lists_lengths h1 k1 (by simpa using hsz) (room_here hu)
theorem rcQ_tuple (xs ys : List PD) (A : Around) (s : Shared) (l l' : Addr) (its its' : Array Value) (h1 : s.heap.IsTuple l its) (k1 : s.heap.IsTuple l' its') (h2 : RdQs s.heap its.toList xs) (k2 : RdQs s.heap its'.toList ys)
    (hu : A.units + min (PD.depth (.tuple xs)) (PD.depth (.tuple ys)) < cLine) (he : ∀ j (h1 : j < its.toList.length) (h2 : j < its'.toList.length), EqAt A.in1 s its.toList[j] its'.toList[j] (PD.pairE xs ys j)) : RcAt A s (.ref l) (.ref l') (PD.eqvAll xs ys) := by
  have n1 : its.size = xs.length := by simpa using RdQs.length h2
  have n2 : its'.size = ys.length := by simpa using RdQs.length k2
  rw [PD.eqvAll_all, ← n1, ← n2]
  exact RcAt.tuples h1 k1 (room_here hu) fun j j1 j2 => by
    have := he j (by simpa using j1) (by simpa using j2)
    simpa using this
theorem neQ_list (xs ys : List PD) (A : Around) (s : Shared) (l l' : Addr) (its its' : Array Value) (h1 : s.heap.IsList l its) (k1 : s.heap.IsList l' its') (h2 : RdQs s.heap its.toList xs) (k2 : RdQs s.heap its'.toList ys)
    (hu : A.units + min (PD.depth (.list xs)) (PD.depth (.list ys)) < cLine) (he : ∀ j (h1 : j < its.toList.length) (h2 : j < its'.toList.length), EqAt A.in1 s its.toList[j] its'.toList[j] (PD.pairE xs ys j)) : RcNeAt A s (.ref l) (.ref l') (!PD.eqvAll xs ys) := by
  have n1 : its.size = xs.length := by simpa using RdQs.length h2
  have n2 : its'.size = ys.length := by simpa using RdQs.length k2
  rw [PD.eqvAll_all]
  by_cases hsz : its.size = its'.size
  · have := RcNeAt.lists h1 k1 hsz (room_here hu) (e := PD.pairE xs ys) fun j j1 j2 => by
      have := he j (by simpa using j1) (by simpa using j2)
      simpa using this
    have e : min xs.length ys.length = its.size := by omega
    have e2 : (xs.length == ys.length) = true := by simp; omega
    rw [e, e2, Bool.and_true]; exact this
  · have e2 : (xs.length == ys.length) = false := by simp; omega
    rw [e2, Bool.and_false]
    exact RcNeAt.lists_lengths h1 k1 (by simpa using hsz) (room_here hu)
theorem neQ_tuple (xs ys : List PD) (A : Around) (s : Shared) (l l' : Addr) (its its' : Array Value) (h1 : s.heap.IsTuple l its) (k1 : s.heap.IsTuple l' its') (h2 : RdQs s.heap its.toList xs) (k2 : RdQs s.heap its'.toList ys)
    (hu : A.units + min (PD.depth (.tuple xs)) (PD.depth (.tuple ys)) < cLine) (he : ∀ j (h1 : j < its.toList.length) (h2 : j < its'.toList.length), EqAt A.in1 s its.toList[j] its'.toList[j] (PD.pairE xs ys j)) : RcNeAt A s (.ref l) (.ref l') (!PD.eqvAll xs ys) := by
  have n1 : its.size = xs.length := by simpa using RdQs.length h2
  have n2 : its'.size = ys.length := by simpa using RdQs.length k2
  rw [PD.eqvAll_all, ← n1, ← n2]
  exact RcNeAt.tuples h1 k1 (room_here hu) fun j j1 j2 => by
    have := he j (by simpa using j1) (by simpa using j2)
    simpa using this

mutual
theorem eqQ : ∀ (d e : PD) (A : Around) (s : Shared) (a b : Value), RdQ s.heap a d → RdQ s.heap b e → A.units + min d.depth e.depth < cLine → PD.okP d e = true → EqAt A s a b (PD.eqv d e)
  | .none, e, A, s, _, b, ra, rb, hu, hok => by
    cases ra with
    | none =>
    cases rb with
    | none => exact EqAt.same _
    | bool y => exact EqAt.none_bool y
    | int y u => exact EqAt.none_int y u
    | str y u => exact EqAt.none_str y u
    | list k1 k2 => exact EqAt.none_list k1 (room_here hu)
    | tuple k1 k2 => exact EqAt.none_tuple k1 (room_here hu)
    | dict k0 k1 k2 k3 => exact eq_none_dict (IsDict_of k1 k2 k3) (room_here hu)
    | dictN k1 k2 k3 k4 => exact eq_none_dict (IsDict_ofN k1 k2 k3) (room_here hu)
  | .bool x, e, A, s, _, b, ra, rb, hu, hok => by
    cases ra with
    | bool =>
    cases rb with
    | none => exact EqAt.bool_none x
    | bool y => exact EqAt.bool_bool x y
    | int y u => exact EqAt.bool_int x y u
    | str y u => exact EqAt.bool_str x y u
    | list k1 k2 => exact EqAt.bool_list x k1 (room_here hu)
    | tuple k1 k2 => exact EqAt.bool_tuple x k1 (room_here hu)
    | dict k0 k1 k2 k3 => exact eq_bool_dict x (IsDict_of k1 k2 k3) (room_here hu)
    | dictN k1 k2 k3 k4 => exact eq_bool_dict x (IsDict_ofN k1 k2 k3) (room_here hu)
  | .int x, e, A, s, _, b, ra, rb, hu, hok => by
    cases ra with
    | int _ t =>
    cases rb with
    | none => exact EqAt.int_none x t
    | bool y => exact EqAt.int_bool x t y
    | int y u => exact EqAt.int_int x t y u
    | str y u => exact EqAt.int_str x t y u
    | list k1 k2 => exact EqAt.int_list x t k1 (room_here hu)
    | tuple k1 k2 => exact EqAt.int_tuple x t k1 (room_here hu)
    | dict k0 k1 k2 k3 => exact eq_int_dict x t (IsDict_of k1 k2 k3) (room_here hu)
    | dictN k1 k2 k3 k4 => exact eq_int_dict x t (IsDict_ofN k1 k2 k3) (room_here hu)
  | .str x, e, A, s, _, b, ra, rb, hu, hok => by
    cases ra with
    | str _ t =>
    cases rb with
    | none => exact EqAt.str_none x t
    | bool y => exact EqAt.str_bool x t y
    | int y u => exact EqAt.str_int x t y u
    | str y u => exact EqAt.str_str x t y u
    | list k1 k2 => exact EqAt.str_list x t k1 (room_here hu)
    | tuple k1 k2 => exact EqAt.str_tuple x t k1 (room_here hu)
    | dict k0 k1 k2 k3 => exact eq_str_dict x t (IsDict_of k1 k2 k3) (room_here hu)
    | dictN k1 k2 k3 k4 => exact eq_str_dict x t (IsDict_ofN k1 k2 k3) (room_here hu)
  | .list xs, e, A, s, _, b, ra, rb, hu, hok => by
    cases ra with
    | @list l its _ h1 h2 =>
    cases rb with
    | none => exact EqAt.list_none h1 (room_here hu)
    | bool y => exact EqAt.list_bool y h1 (room_here hu)
    | int y u => exact EqAt.list_int y u h1 (room_here hu)
    | str y u => exact EqAt.list_str y u h1 (room_here hu)
    | tuple k1 k2 => exact EqAt.list_tuple h1 k1 (room_here hu)
    | dict k0 k1 k2 k3 => exact eq_list_dict h1 (IsDict_of k1 k2 k3) (room_here hu)
    | dictN k1 k2 k3 k4 => exact eq_list_dict h1 (IsDict_ofN k1 k2 k3) (room_here hu)
    | @list l' its' ys k1 k2 =>
      show EqAt A s (.ref l) (.ref l') (PD.eqvAll xs ys)
      by_cases hll : l = l'
      · subst hll
        cases IsList_unique h1 k1
        cases RdQs.uniq h2 k2
        rw [PD.eqvAll_refl xs (PD.okPs_same hok)]
        exact EqAt.same _
      · exact EqAt.of_refs hll (rcQ_list xs ys A s l l' its its' h1 k1 h2 k2 hu (fun j j1 j2 => eqQs xs ys A.in1 s its.toList its'.toList h2 k2 (room_in hu) hok j j1 j2))
  | .tuple xs, e, A, s, _, b, ra, rb, hu, hok => by
    cases ra with
    | @tuple l its _ h1 h2 =>
    cases rb with
    | none => exact EqAt.tuple_none h1 (room_here hu)
    | bool y => exact EqAt.tuple_bool y h1 (room_here hu)
    | int y u => exact EqAt.tuple_int y u h1 (room_here hu)
    | str y u => exact EqAt.tuple_str y u h1 (room_here hu)
    | list k1 k2 => exact EqAt.tuple_list h1 k1 (room_here hu)
    | dict k0 k1 k2 k3 => exact eq_tuple_dict h1 (IsDict_of k1 k2 k3) (room_here hu)
    | dictN k1 k2 k3 k4 => exact eq_tuple_dict h1 (IsDict_ofN k1 k2 k3) (room_here hu)
    | @tuple l' its' ys k1 k2 =>
      show EqAt A s (.ref l) (.ref l') (PD.eqvAll xs ys)
      by_cases hll : l = l'
      · subst hll
        cases IsTuple_unique h1 k1
        cases RdQs.uniq h2 k2
        rw [PD.eqvAll_refl xs (PD.okPs_same hok)]
        exact EqAt.same _
      · exact EqAt.of_refs hll (rcQ_tuple xs ys A s l l' its its' h1 k1 h2 k2 hu (fun j j1 j2 => eqQs xs ys A.in1 s its.toList its'.toList h2 k2 (room_in hu) hok j j1 j2))
  | .dict q, e, A, s, _, b, ra, rb, hu, hok => by
    cases ra with
    | @dict l _ _ a0 a1 a2 a3 =>
      cases rb with
      | none => exact eq_dict_none (IsDict_of a1 a2 a3) (room_here hu)
      | bool y => exact eq_dict_bool y (IsDict_of a1 a2 a3) (room_here hu)
      | int y u => exact eq_dict_int y u (IsDict_of a1 a2 a3) (room_here hu)
      | str y u => exact eq_dict_str y u (IsDict_of a1 a2 a3) (room_here hu)
      | list k1 k2 => exact eq_dict_list k1 (IsDict_of a1 a2 a3) (room_here hu)
      | tuple k1 k2 => exact eq_dict_tuple k1 (IsDict_of a1 a2 a3) (room_here hu)
      | @dict l' _ _ k0 k1 k2 k3 =>
        by_cases hll : l = l'
        · subst hll; exact EqAt.same _
        · exact EqAt.of_refs hll (rc_dicts a0 a1 a2 a3 k0 k1 k2 k3 (room_here hu))
      | dictN k1 k2 k3 k4 => exact absurd (okP_dicts hok).2 (by simp)
    | dictN a1 a2 a3 a4 =>
      cases rb with
      | none => exact eq_dict_none (IsDict_ofN a1 a2 a3) (room_here hu)
      | bool y => exact eq_dict_bool y (IsDict_ofN a1 a2 a3) (room_here hu)
      | int y u => exact eq_dict_int y u (IsDict_ofN a1 a2 a3) (room_here hu)
      | str y u => exact eq_dict_str y u (IsDict_ofN a1 a2 a3) (room_here hu)
      | list k1 k2 => exact eq_dict_list k1 (IsDict_ofN a1 a2 a3) (room_here hu)
      | tuple k1 k2 => exact eq_dict_tuple k1 (IsDict_ofN a1 a2 a3) (room_here hu)
      | dict k0 k1 k2 k3 => exact absurd (okP_dicts hok).1 (by simp)
      | dictN k1 k2 k3 k4 => exact absurd (okP_dicts hok).1 (by simp)
theorem eqQs : ∀ (xs ys : List PD) (A : Around) (s : Shared) (vs ws : List Value), RdQs s.heap vs xs → RdQs s.heap ws ys →
    A.units + min (PD.depthAll xs) (PD.depthAll ys) < cLine → PD.okPs xs ys = true → ∀ j (h1 : j < vs.length) (h2 : j < ws.length), EqAt A s vs[j] ws[j] (PD.pairE xs ys j)
  | [], _, _, _, _, _, ra, _, _, _, j, h1, _ => by cases ra; exact absurd h1 (Nat.not_lt_zero _)
  | _ :: _, [], _, _, _, _, _, rb, _, _, j, _, h2 => by cases rb; exact absurd h2 (Nat.not_lt_zero _)
  | x :: xs, y :: ys, A, s, _, _, ra, rb, hu, hok, j, h1, h2 => by
    obtain ⟨ok1, ok2⟩ := PD.okPs_cons hok
    cases ra with
    | cons r rs =>
      cases rb with
      | cons r' rs' =>
        cases j with
        | zero => exact eqQ x y A s _ _ r r' (room_head hu) ok1
        | succ j =>
          have := eqQs xs ys A s _ _ rs rs' (room_tail hu) ok2 j (Nat.lt_of_succ_lt_succ h1) (Nat.lt_of_succ_lt_succ h2)
          simpa [PD.pairE] using this
end
theorem rcQ : ∀ (d e : PD) (A : Around) (s : Shared) (a b : Value), RdQ s.heap a d → RdQ s.heap b e → A.units + min d.depth e.depth < cLine → PD.okP d e = true → RcAt A s a b (PD.eqv d e)
  | .none, e, A, s, _, b, ra, rb, hu, hok => by
    cases ra with
    | none =>
    cases rb with
    | none => exact RcAt.none_none
    | bool y => exact RcAt.none_bool y
    | int y u => exact RcAt.none_int y u
    | str y u => exact RcAt.none_str y u
    | list k1 k2 => exact RcAt.none_list k1 (room_here hu)
    | tuple k1 k2 => exact RcAt.none_tuple k1 (room_here hu)
    | dict k0 k1 k2 k3 => exact rc_none_dict (IsDict_of k1 k2 k3) (room_here hu)
    | dictN k1 k2 k3 k4 => exact rc_none_dict (IsDict_ofN k1 k2 k3) (room_here hu)
  | .bool x, e, A, s, _, b, ra, rb, hu, hok => by
    cases ra with
    | bool =>
    cases rb with
    | none => exact RcAt.bool_none x
    | bool y => exact RcAt.bool_bool x y
    | int y u => exact RcAt.bool_int x y u
    | str y u => exact RcAt.bool_str x y u
    | list k1 k2 => exact RcAt.bool_list x k1 (room_here hu)
    | tuple k1 k2 => exact RcAt.bool_tuple x k1 (room_here hu)
    | dict k0 k1 k2 k3 => exact rc_bool_dict x (IsDict_of k1 k2 k3) (room_here hu)
    | dictN k1 k2 k3 k4 => exact rc_bool_dict x (IsDict_ofN k1 k2 k3) (room_here hu)
  | .int x, e, A, s, _, b, ra, rb, hu, hok => by
    cases ra with
    | int _ t =>
    cases rb with
    | none => exact RcAt.int_none x t
    | bool y => exact RcAt.int_bool x t y
    | int y u => exact RcAt.int_int x t y u
    | str y u => exact RcAt.int_str x t y u
    | list k1 k2 => exact RcAt.int_list x t k1 (room_here hu)
    | tuple k1 k2 => exact RcAt.int_tuple x t k1 (room_here hu)
    | dict k0 k1 k2 k3 => exact rc_int_dict x t (IsDict_of k1 k2 k3) (room_here hu)
    | dictN k1 k2 k3 k4 => exact rc_int_dict x t (IsDict_ofN k1 k2 k3) (room_here hu)
  | .str x, e, A, s, _, b, ra, rb, hu, hok => by
    cases ra with
    | str _ t =>
    cases rb with
    | none => exact RcAt.str_none x t
    | bool y => exact RcAt.str_bool x t y
    | int y u => exact RcAt.str_int x t y u
    | str y u => exact RcAt.str_str x t y u
    | list k1 k2 => exact RcAt.str_list x t k1 (room_here hu)
    | tuple k1 k2 => exact RcAt.str_tuple x t k1 (room_here hu)
    | dict k0 k1 k2 k3 => exact rc_str_dict x t (IsDict_of k1 k2 k3) (room_here hu)
    | dictN k1 k2 k3 k4 => exact rc_str_dict x t (IsDict_ofN k1 k2 k3) (room_here hu)
  | .list xs, e, A, s, _, b, ra, rb, hu, hok => by
    cases ra with
    | @list l its _ h1 h2 =>
    cases rb with
    | none => exact RcAt.list_none h1 (room_here hu)
    | bool y => exact RcAt.list_bool y h1 (room_here hu)
    | int y u => exact RcAt.list_int y u h1 (room_here hu)
    | str y u => exact RcAt.list_str y u h1 (room_here hu)
    | tuple k1 k2 => exact RcAt.list_tuple h1 k1 (room_here hu)
    | dict k0 k1 k2 k3 => exact rc_list_dict h1 (IsDict_of k1 k2 k3) (room_here hu)
    | dictN k1 k2 k3 k4 => exact rc_list_dict h1 (IsDict_ofN k1 k2 k3) (room_here hu)
    | @list l' its' ys k1 k2 => exact rcQ_list xs ys A s l l' its its' h1 k1 h2 k2 hu (fun j j1 j2 => eqQs xs ys A.in1 s its.toList its'.toList h2 k2 (room_in hu) hok j j1 j2)
  | .tuple xs, e, A, s, _, b, ra, rb, hu, hok => by
    cases ra with
    | @tuple l its _ h1 h2 =>
    cases rb with
    | none => exact RcAt.tuple_none h1 (room_here hu)
    | bool y => exact RcAt.tuple_bool y h1 (room_here hu)
    | int y u => exact RcAt.tuple_int y u h1 (room_here hu)
    | str y u => exact RcAt.tuple_str y u h1 (room_here hu)
    | list k1 k2 => exact RcAt.tuple_list h1 k1 (room_here hu)
    | dict k0 k1 k2 k3 => exact rc_tuple_dict h1 (IsDict_of k1 k2 k3) (room_here hu)
    | dictN k1 k2 k3 k4 => exact rc_tuple_dict h1 (IsDict_ofN k1 k2 k3) (room_here hu)
    | @tuple l' its' ys k1 k2 => exact rcQ_tuple xs ys A s l l' its its' h1 k1 h2 k2 hu (fun j j1 j2 => eqQs xs ys A.in1 s its.toList its'.toList h2 k2 (room_in hu) hok j j1 j2)
  | .dict q, e, A, s, _, b, ra, rb, hu, hok => by
    cases ra with
    | dict a0 a1 a2 a3 =>
      cases rb with
      | none => exact rc_dict_none (IsDict_of a1 a2 a3) (room_here hu)
      | bool y => exact rc_dict_bool y (IsDict_of a1 a2 a3) (room_here hu)
      | int y u => exact rc_dict_int y u (IsDict_of a1 a2 a3) (room_here hu)
      | str y u => exact rc_dict_str y u (IsDict_of a1 a2 a3) (room_here hu)
      | list k1 k2 => exact rc_dict_list k1 (IsDict_of a1 a2 a3) (room_here hu)
      | tuple k1 k2 => exact rc_dict_tuple k1 (IsDict_of a1 a2 a3) (room_here hu)
      | dict k0 k1 k2 k3 => exact rc_dicts a0 a1 a2 a3 k0 k1 k2 k3 (room_here hu)
      | dictN k1 k2 k3 k4 => exact absurd (okP_dicts hok).2 (by simp)
    | dictN a1 a2 a3 a4 =>
      cases rb with
      | none => exact rc_dict_none (IsDict_ofN a1 a2 a3) (room_here hu)
      | bool y => exact rc_dict_bool y (IsDict_ofN a1 a2 a3) (room_here hu)
      | int y u => exact rc_dict_int y u (IsDict_ofN a1 a2 a3) (room_here hu)
      | str y u => exact rc_dict_str y u (IsDict_ofN a1 a2 a3) (room_here hu)
      | list k1 k2 => exact rc_dict_list k1 (IsDict_ofN a1 a2 a3) (room_here hu)
      | tuple k1 k2 => exact rc_dict_tuple k1 (IsDict_ofN a1 a2 a3) (room_here hu)
      | dict k0 k1 k2 k3 => exact absurd (okP_dicts hok).1 (by simp)
      | dictN k1 k2 k3 k4 => exact absurd (okP_dicts hok).1 (by simp)
theorem neQ : ∀ (d e : PD) (A : Around) (s : Shared) (a b : Value), RdQ s.heap a d → RdQ s.heap b e → A.units + min d.depth e.depth < cLine → PD.okP d e = true → RcNeAt A s a b (!PD.eqv d e)
  | .none, e, A, s, _, b, ra, rb, hu, hok => by
    cases ra with
    | none =>
    cases rb with
    | none => exact RcNeAt.none_none
    | bool y => exact RcNeAt.none_bool y
    | int y u => exact RcNeAt.none_int y u
    | str y u => exact RcNeAt.none_str y u
    | list k1 k2 => exact RcNeAt.none_list k1 (room_here hu)
    | tuple k1 k2 => exact RcNeAt.none_tuple k1 (room_here hu)
    | dict k0 k1 k2 k3 => exact rn_none_dict (IsDict_of k1 k2 k3) (room_here hu)
    | dictN k1 k2 k3 k4 => exact rn_none_dict (IsDict_ofN k1 k2 k3) (room_here hu)
  | .bool x, e, A, s, _, b, ra, rb, hu, hok => by
    cases ra with
    | bool =>
    cases rb with
    | none => exact RcNeAt.bool_none x
    | bool y => exact RcNeAt.bool_bool x y
    | int y u => exact RcNeAt.bool_int x y u
    | str y u => exact RcNeAt.bool_str x y u
    | list k1 k2 => exact RcNeAt.bool_list x k1 (room_here hu)
    | tuple k1 k2 => exact RcNeAt.bool_tuple x k1 (room_here hu)
    | dict k0 k1 k2 k3 => exact rn_bool_dict x (IsDict_of k1 k2 k3) (room_here hu)
    | dictN k1 k2 k3 k4 => exact rn_bool_dict x (IsDict_ofN k1 k2 k3) (room_here hu)
  | .int x, e, A, s, _, b, ra, rb, hu, hok => by
    cases ra with
    | int _ t =>
    cases rb with
    | none => exact RcNeAt.int_none x t
    | bool y => exact RcNeAt.int_bool x t y
    | int y u => exact RcNeAt.int_int x t y u
    | str y u => exact RcNeAt.int_str x t y u
    | list k1 k2 => exact RcNeAt.int_list x t k1 (room_here hu)
    | tuple k1 k2 => exact RcNeAt.int_tuple x t k1 (room_here hu)
    | dict k0 k1 k2 k3 => exact rn_int_dict x t (IsDict_of k1 k2 k3) (room_here hu)
    | dictN k1 k2 k3 k4 => exact rn_int_dict x t (IsDict_ofN k1 k2 k3) (room_here hu)
  | .str x, e, A, s, _, b, ra, rb, hu, hok => by
    cases ra with
    | str _ t =>
    cases rb with
    | none => exact RcNeAt.str_none x t
    | bool y => exact RcNeAt.str_bool x t y
    | int y u => exact RcNeAt.str_int x t y u
    | str y u => exact RcNeAt.str_str x t y u
    | list k1 k2 => exact RcNeAt.str_list x t k1 (room_here hu)
    | tuple k1 k2 => exact RcNeAt.str_tuple x t k1 (room_here hu)
    | dict k0 k1 k2 k3 => exact rn_str_dict x t (IsDict_of k1 k2 k3) (room_here hu)
    | dictN k1 k2 k3 k4 => exact rn_str_dict x t (IsDict_ofN k1 k2 k3) (room_here hu)
  | .list xs, e, A, s, _, b, ra, rb, hu, hok => by
    cases ra with
    | @list l its _ h1 h2 =>
    cases rb with
    | none => exact RcNeAt.list_none h1 (room_here hu)
    | bool y => exact RcNeAt.list_bool y h1 (room_here hu)
    | int y u => exact RcNeAt.list_int y u h1 (room_here hu)
    | str y u => exact RcNeAt.list_str y u h1 (room_here hu)
    | tuple k1 k2 => exact RcNeAt.list_tuple h1 k1 (room_here hu)
    | dict k0 k1 k2 k3 => exact rn_list_dict h1 (IsDict_of k1 k2 k3) (room_here hu)
    | dictN k1 k2 k3 k4 => exact rn_list_dict h1 (IsDict_ofN k1 k2 k3) (room_here hu)
    | @list l' its' ys k1 k2 => exact neQ_list xs ys A s l l' its its' h1 k1 h2 k2 hu (fun j j1 j2 => eqQs xs ys A.in1 s its.toList its'.toList h2 k2 (room_in hu) hok j j1 j2)
  | .tuple xs, e, A, s, _, b, ra, rb, hu, hok => by
    cases ra with
    | @tuple l its _ h1 h2 =>
    cases rb with
    | none => exact RcNeAt.tuple_none h1 (room_here hu)
    | bool y => exact RcNeAt.tuple_bool y h1 (room_here hu)
    | int y u => exact RcNeAt.tuple_int y u h1 (room_here hu)
    | str y u => exact RcNeAt.tuple_str y u h1 (room_here hu)
    | list k1 k2 => exact RcNeAt.tuple_list h1 k1 (room_here hu)
    | dict k0 k1 k2 k3 => exact rn_tuple_dict h1 (IsDict_of k1 k2 k3) (room_here hu)
    | dictN k1 k2 k3 k4 => exact rn_tuple_dict h1 (IsDict_ofN k1 k2 k3) (room_here hu)
    | @tuple l' its' ys k1 k2 => exact neQ_tuple xs ys A s l l' its its' h1 k1 h2 k2 hu (fun j j1 j2 => eqQs xs ys A.in1 s its.toList its'.toList h2 k2 (room_in hu) hok j j1 j2)
  | .dict q, e, A, s, _, b, ra, rb, hu, hok => by
    cases ra with
    | dict a0 a1 a2 a3 =>
      cases rb with
      | none => exact rn_dict_none (IsDict_of a1 a2 a3) (room_here hu)
      | bool y => exact rn_dict_bool y (IsDict_of a1 a2 a3) (room_here hu)
      | int y u => exact rn_dict_int y u (IsDict_of a1 a2 a3) (room_here hu)
      | str y u => exact rn_dict_str y u (IsDict_of a1 a2 a3) (room_here hu)
      | list k1 k2 => exact rn_dict_list k1 (IsDict_of a1 a2 a3) (room_here hu)
      | tuple k1 k2 => exact rn_dict_tuple k1 (IsDict_of a1 a2 a3) (room_here hu)
      | dict k0 k1 k2 k3 => exact rn_dicts a0 a1 a2 a3 k0 k1 k2 k3 (room_here hu)
      | dictN k1 k2 k3 k4 => exact absurd (okP_dicts hok).2 (by simp)
    | dictN a1 a2 a3 a4 =>
      cases rb with
      | none => exact rn_dict_none (IsDict_ofN a1 a2 a3) (room_here hu)
      | bool y => exact rn_dict_bool y (IsDict_ofN a1 a2 a3) (room_here hu)
      | int y u => exact rn_dict_int y u (IsDict_ofN a1 a2 a3) (room_here hu)
      | str y u => exact rn_dict_str y u (IsDict_ofN a1 a2 a3) (room_here hu)
      | list k1 k2 => exact rn_dict_list k1 (IsDict_ofN a1 a2 a3) (room_here hu)
      | tuple k1 k2 => exact rn_dict_tuple k1 (IsDict_ofN a1 a2 a3) (room_here hu)
      | dict k0 k1 k2 k3 => exact absurd (okP_dicts hok).1 (by simp)
      | dictN k1 k2 k3 k4 => exact absurd (okP_dicts hok).1 (by simp)
mutual
inductive Dq (K : Frag) (H : Hp) : V → PD → Prop
  | non : Dq K H .non .none
  | bl (b : Bool) : Dq K H (.bl b) (.bool b)
  | int (i : Int) : Dq K H (.int i) (.int i)
  | str (x : Str) : Dq K H (.str x) (.str x)
  | lst {a : Addr} {xs : List V} {ds : List PD} : SqL K H a xs → Dqs K H xs ds → Dq K H (.ref a) (.list ds)
  | tup {a : Addr} {xs : List V} {ds : List PD} : SqT K H a xs → Dqs K H xs ds → Dq K H (.ref a) (.tuple ds)
  | dct {a : Addr} {kvs : List (Key × V)} : Rd H a (.dK kvs) → Dq K H (.ref a) (.dict kvs.isEmpty)
inductive Dqs (K : Frag) (H : Hp) : List V → List PD → Prop
  | nil : Dqs K H [] []
  | cons {v : V} {vs : List V} {d : PD} {ds : List PD} : Dq K H v d → Dqs K H vs ds → Dqs K H (v :: vs) (d :: ds)
end
section
variable {X : Cx} {pins : List (Addr × Obj)} {σ : L2.St} {H : Hp} {s : Shared}
theorem dct_reads {a : Addr} {kvs : List (Key × V)} (I : Inv X pins σ H s) (h : Rd H a (.dK kvs)) : RdQ s.heap (.ref a) (.dict kvs.isEmpty) := by
  have h1 : ObjOk X.prog X.w H s.heap a (.dK kvs) := by
    rcases h with h | ⟨o, h⟩
    · exact I.hok a _ h
    · exact (show ObjOk X.prog X.w H s.heap a (.frz o (.dK kvs)) from I.hok a _ h).2
  obtain ⟨_, ya, vs, kv, o, es, ep, e1, e2, e3, _, e5, _⟩ := h1
  have hl : es.size = kvs.length := by
    have := e5.length
    rw [kv.length]
    simpa using this
  cases kvs with
  | nil =>
    have : es = #[] := Array.eq_empty_of_size_eq_zero (by simpa using hl)
    subst this
    exact .dict ya e1 e2 e3
  | cons x xs => exact .dictN e1 e2.1 e3 (by rw [hl]; simp)
mutual
theorem Dq.reads (I : Inv X pins σ H s) : ∀ (d : PD) (v : V) (u : Value), Dq X.K H v d → RelV v u → RdQ s.heap u d
  | .none, _, _, h, r => by cases h; cases r; exact .none
  | .bool b, _, _, h, r => by cases h; cases r; exact .bool b
  | .int i, _, _, h, r => by cases h; obtain ⟨t, rfl⟩ := r; exact .int i t
  | .str x, _, _, h, r => by cases h; obtain ⟨t, rfl⟩ := r; exact .str x t
  | .list ds, _, _, h, r => by
    cases h with
    | lst hs ha =>
      cases r
      obtain ⟨its, rv, ⟨o, n, ho, hc, _, hd⟩, _⟩ := I.list hs
      exact .list ⟨o, ho, hc, _, hd⟩ (Dqs.reads I ds _ its ha rv)
  | .tuple ds, _, _, h, r => by
    cases h with
    | tup hs ha =>
      cases r
      obtain ⟨its, rv, ⟨o, ho, hc, n, hd⟩, _⟩ := I.tuple hs
      exact .tuple ⟨o, ho, hc, _, hd⟩ (Dqs.reads I ds _ its ha rv)
  | .dict _, _, _, h, r => by
    cases h with
    | dct hr => cases r; exact dct_reads I hr
theorem Dqs.reads (I : Inv X pins σ H s) : ∀ (ds : List PD) (vs : List V) (us : List Value), Dqs X.K H vs ds → Vals vs us → RdQs s.heap us ds
  | [], _, _, h, r => by cases h; cases r; exact .nil
  | d :: ds, _, _, h, r => by
    cases h with
    | cons h1 h2 =>
      cases r with
      | cons r1 r2 => exact .cons (Dq.reads I d _ _ h1 r1) (Dqs.reads I ds _ _ h2 r2)
end
end
section
variable {X : Cx}
def rEqQ (K : Frag) : R2 := fun x y H Q => ∃ d e, Dq K H x d ∧ Dq K H y e ∧ d.depth ≤ 62 ∧ PD.okP d e = true ∧ Q (.bl (PD.eqv d e)) H
def rNeQ (K : Frag) : R2 := fun x y H Q => ∃ d e, Dq K H x d ∧ Dq K H y e ∧ d.depth ≤ 62 ∧ PD.okP d e = true ∧ Q (.bl (!PD.eqv d e)) H
def rInQ (K : Frag) (neg : Bool) : R2 := fun x y H Q => ∃ d ds, Dq K H x d ∧ (Dq K H y (.list ds) ∨ Dq K H y (.tuple ds)) ∧ d.depth ≤ 62 ∧ (∀ z ∈ ds, PD.okP z d = true) ∧ Q (.bl (if neg then !ds.any fun z => PD.eqv z d else ds.any fun z => PD.eqv z d)) H
theorem op_eqQ (hu : X.A.units + 64 < cLine) : OpR X (compareOp .Eq) (rEqQ X.K) := by
  intro pins s σ H x y v u Q I rx ry h
  obtain ⟨d, e, hd, he, hl, hok, q⟩ := h
  exact rcQ d e X.A s v u (Dq.reads I d x v hd rx) (Dq.reads I e y u he ry) (by omega) hok _ _ _ _ ⟨.bl _, H, I, rfl, q⟩
theorem op_neQ (hu : X.A.units + 64 < cLine) : OpR X (compareOp .NotEq) (rNeQ X.K) := by
  intro pins s σ H x y v u Q I rx ry h
  obtain ⟨d, e, hd, he, hl, hok, q⟩ := h
  exact neQ d e X.A s v u (Dq.reads I d x v hd rx) (Dq.reads I e y u he ry) (by omega) hok _ _ _ _ ⟨.bl _, H, I, rfl, q⟩
open Classical in
noncomputable def rdOf (h : Heap) (v : Value) : PD := if x : ∃ d, RdQ h v d then x.choose else .none
theorem rdOf_eq {h : Heap} {v : Value} {d : PD} (r : RdQ h v d) : rdOf h v = d := by
  unfold rdOf
  rw [dif_pos ⟨d, r⟩]
  exact (show RdQ h v (Exists.choose (⟨d, r⟩ : ∃ d, RdQ h v d)) from Exists.choose_spec _).uniq r
theorem rdOf_map {h : Heap} : ∀ {vs : List Value} {ds : List PD}, RdQs h vs ds → vs.map (rdOf h) = ds
  | _, _, .nil => rfl
  | _, _, .cons a b => by rw [List.map_cons, rdOf_eq a, rdOf_map b]
theorem RdQs.mem {h : Heap} : ∀ {vs : List Value} {ds : List PD}, RdQs h vs ds → ∀ y ∈ vs, ∃ d ∈ ds, RdQ h y d
  | _, _, .nil, y, hy => by cases hy
  | _, _, .cons a b, y, hy => by
    rcases List.mem_cons.mp hy with rfl | hy
    · exact ⟨_, List.mem_cons_self, a⟩
    · obtain ⟨d, hd, r⟩ := RdQs.mem b y hy
      exact ⟨d, List.mem_cons_of_mem _ hd, r⟩
theorem items_Q {A : Around} {s : Shared} {vs : Array Value} {ds : List PD} {x : Value} {d : PD} (rs : RdQs s.heap vs.toList ds) (rx : RdQ s.heap x d) (hl : d.depth ≤ 62) (hok : ∀ z ∈ ds, PD.okP z d = true) (hu : A.units + 64 < cLine) : ∀ y, y ∈ vs → EqAt A.in1 s y x (PD.eqv (rdOf s.heap y) d) := fun y hy => by
  obtain ⟨e, hed, re⟩ := rs.mem y (by simpa using hy)
  rw [rdOf_eq re]
  refine eqQ e d A.in1 s y x re rx ?_ (hok e hed)
  show A.units + 1 + min e.depth d.depth < cLine
  omega
theorem any_Q {h : Heap} {vs : Array Value} {ds : List PD} {d : PD} (rs : RdQs h vs.toList ds) : vs.any (fun y => PD.eqv (rdOf h y) d) = ds.any fun z => PD.eqv z d := by
  rw [← rdOf_map rs, List.any_map, ← Array.any_toList]; rfl
theorem op_inQ (hu : X.A.units + 64 < cLine) : OpR X (compareOp .In) (rInQ X.K false) := by
  intro pins s σ H x y v u Q I rx ry h
  obtain ⟨d, ds, hd, he, hl, hok, q⟩ := h
  have rx' := Dq.reads I d x v hd rx
  rcases he with he | he
  · cases Dq.reads I _ y u he ry with
    | list k1 k2 => exact in_listAt _ k1 (items_Q k2 rx' hl hok hu) (by rw [any_Q k2]; exact ⟨.bl _, H, I, rfl, q⟩)
  · cases Dq.reads I _ y u he ry with
    | tuple k1 k2 => exact in_tupleAt _ k1 (items_Q k2 rx' hl hok hu) (by rw [any_Q k2]; exact ⟨.bl _, H, I, rfl, q⟩)
theorem op_notInQ (hu : X.A.units + 64 < cLine) : OpR X (compareOp .NotIn) (rInQ X.K true) := by
  intro pins s σ H x y v u Q I rx ry h
  obtain ⟨d, ds, hd, he, hl, hok, q⟩ := h
  have rx' := Dq.reads I d x v hd rx
  rcases he with he | he
  · cases Dq.reads I _ y u he ry with
    | list k1 k2 => exact notIn_listAt _ k1 (items_Q k2 rx' hl hok hu) (by rw [any_Q k2]; exact ⟨.bl _, H, I, rfl, q⟩)
  · cases Dq.reads I _ y u he ry with
    | tuple k1 k2 => exact notIn_tupleAt _ k1 (items_Q k2 rx' hl hok hu) (by rw [any_Q k2]; exact ⟨.bl _, H, I, rfl, q⟩)
end
end VL
end

section
set_option Elab.async false
set_option linter.all false
set_option maxRecDepth 100000
set_option maxHeartbeats 2000000
namespace VL
open PySem PySem.W PySem.Spec PyProof.Rows L2
section
variable {K : Frag} {mg : Str → Option Value} {X : Cx}

def mulOk (i j : Int) : Bool := (decide (-(2 ^ 64) < i) && decide (i < 2 ^ 64)) || (decide (-(2 ^ 64) < j) && decide (j < 2 ^ 64)) || decide (i.natAbs.log2 + j.natAbs.log2 < 1000000)
noncomputable def mulD : D → D → R D
  | .int i, .int j => @ite _ (mulOk i j = true) (Classical.propDecidable _) (.ok (.int (i * j))) .bad
  | .str x, .int k => if 0 ≤ k ∧ k ≤ 1000 ∧ x.length ≤ 1000 then .ok (.str (repS x k.toNat)) else .bad
  | .lst true xs, .int k => if 0 ≤ k ∧ k ≤ 1000 ∧ xs.length ≤ 100 ∧ xs.all (fun d => match d with | .lst _ _ => false | .dct _ _ => false | .tup _ => false | .exn _ _ => false | _ => true) then .ok (.lst true (List.replicate k.toNat xs).flatten) else .bad
  | _, _ => .bad
def rMulA : R2 := fun x y H Q => rI CMul (fun i j => .int (i * j)) x y H Q ∨ rI CMulW (fun i j => .int (i * j)) x y H Q ∨ rRepS x y H Q ∨ rRep x y H Q
theorem op_mulA : OpR X (binaryOp .Mult) rMulA := op_mul.or (op_mulW.or (op_repS.or op_rep))
theorem SOk.rep {x : Str} {n : Nat} (h : SOk x) (hn : n ≤ 1000) (hx : x.length ≤ 1000) : SOk (repS x n) := by
  refine ⟨?_, ?_⟩
  · have : (repS x n).length = n * x.length := by
      unfold repS Str.length
      simp [List.length_flatten]
    rw [this, sizeLine_eq]
    calc n * x.length ≤ 1000 * 1000 := Nat.mul_le_mul hn hx
      _ ≤ 16777216 := by decide
  · have h2 := h.2
    unfold PyData.strOk at h2 ⊢
    unfold repS
    rw [Array.all_eq_true_iff_forall_mem] at h2 ⊢
    intro c hc
    simp only [List.mem_toArray, List.mem_flatten, List.mem_replicate] at hc
    obtain ⟨l, ⟨_, rfl⟩, hc⟩ := hc
    exact h2 c (by simpa using hc)
theorem RepL.flats {H : Hp} {F : Fz} {vs : List V} {ds : List D} {us : List Addr} (h : ds.all (fun d => match d with | .lst _ _ => false | .dct _ _ => false | .tup _ => false | .exn _ _ => false | _ => true) = true) (r : RepL K H F vs ds us) : us = [] := by
  refine r.flat_nil fun d hd v u rd => ?_
  have := List.all_eq_true.mp h d hd
  cases rd <;> first | rfl | (simp at this)
theorem RepL.rep {H : Hp} {F : Fz} {vs : List V} {ds : List D} (r : RepL K H F vs ds []) : ∀ n : Nat, RepL K H F (List.replicate n vs).flatten (List.replicate n ds).flatten []
  | 0 => .nil
  | n + 1 => by
    rw [List.replicate_succ, List.replicate_succ, List.flatten_cons, List.flatten_cons]
    exact r.append (us := []) (RepL.rep r n)
theorem mul_v : OpV K mg rMulA mulD := by
  intro H F us u1 u2 da db v w Q E wf ra rb hus n f hp
  subst hus
  unfold mulD at hp
  split at hp
  · split at hp
    · rename_i i j hm
      cases ra; cases rb
      unfold mulOk at hm
      rcases Bool.or_eq_true_iff.mp hm with hm | hm
      · refine .inl ⟨_, _, rfl, rfl, ?_, post_flat hp wf (.int _)⟩
        rcases Bool.or_eq_true_iff.mp hm with hm | hm
        · obtain ⟨a, b⟩ := Bool.and_eq_true_iff.mp hm
          exact .inl ⟨of_decide_eq_true a, of_decide_eq_true b⟩
        · obtain ⟨a, b⟩ := Bool.and_eq_true_iff.mp hm
          exact .inr ⟨of_decide_eq_true a, of_decide_eq_true b⟩
      · exact .inr (.inl ⟨_, _, rfl, rfl, show i.natAbs.log2 + j.natAbs.log2 < 1000000 from of_decide_eq_true hm, post_flat hp wf (.int _)⟩)
    · exact hp.elim
  · split at hp
    · rename_i x k hk
      cases ra with
      | str x hx =>
        cases rb
        exact .inr (.inr (.inl ⟨_, _, rfl, rfl, hk.1, hk.2.1, hk.2.2, post_flat hp wf (.str _ (hx.rep (by omega) hk.2.2))⟩))
    · exact hp.elim
  · split at hp
    · rename_i xs k hk
      have hk' := hk
      obtain ⟨h0, h1, h2, h4⟩ := hk'
      cases rb
      cases ra with
      | lstO h l =>
        have e := RepL.flats h4 l
        subst e
        refine .inr (.inr (.inr ⟨_, _, _, rfl, rfl, h, by omega, by omega, ?_, fun p hn => post_newL hp wf (l.rep _) (by simp) (fun _ z => nomatch z) hn⟩))
        rw [l.length, sizeLine_eq]
        calc xs.length * k.toNat ≤ 100 * 1000 := Nat.mul_le_mul h2 (by omega)
          _ ≤ 16777216 := by decide
    · exact hp.elim
  · exact hp.elim

def fdivD : D → D → R D
  | .int i, .int j => if j ≠ 0 ∧ j.natAbs < 1073741824 then .ok (.int (i.fdiv j)) else .bad
  | _, _ => .bad
theorem fdiv_v : OpV K mg (rI CDivN fun i j => .int (i.fdiv j)) fdivD := by
  intro H F us u1 u2 da db v w Q E wf ra rb hus n f hp
  unfold fdivD at hp
  split at hp
  · split at hp
    · rename_i h
      cases ra; cases rb
      exact ⟨_, _, rfl, rfl, h, post_flat hp wf (.int _)⟩
    · exact hp.elim
  · exact hp.elim
def modD : D → D → R D
  | .int i, .int j => if j ≠ 0 then .ok (.int (i.fmod j)) else .bad
  | _, _ => .bad
theorem mod_v : OpV K mg (rI (fun _ j => j ≠ 0) fun i j => .int (i.fmod j)) modD := by
  intro H F us u1 u2 da db v w Q E wf ra rb hus n f hp
  unfold modD at hp
  split at hp
  · split at hp
    · rename_i h
      cases ra; cases rb
      exact ⟨_, _, rfl, rfl, h, post_flat hp wf (.int _)⟩
    · exact hp.elim
  · exact hp.elim
noncomputable def powD : D → D → R D
  | .int i, .int j => @ite _ (0 ≤ j ∧ j ≤ 1000 ∧ i.natAbs < 2 ^ 200) (Classical.propDecidable _) (.ok (.int (i ^ j.toNat))) .bad
  | _, _ => .bad
def CPowL (i j : Int) : Prop := 0 ≤ j ∧ j ≤ 1000 ∧ i.natAbs < 2 ^ 200
theorem op_powL {X : Cx} : OpR X (binaryOp .Pow) (rI CPowL fun i j => .int (i ^ j.toNat)) := opI fun _ _ _ _ _ _ _ hc q => pow_int hc.1 (by
  have hb := intBits_le hc.2.2
  have h1 : (Builtin.Int.intBits _ : Int) * _ ≤ 200 * _ := Int.mul_le_mul_of_nonneg_right (Int.ofNat_le.mpr hb) hc.1
  have := hc.2.1
  omega) q
theorem pow_v : OpV K mg (rI CPowL fun i j => .int (i ^ j.toNat)) powD := by
  intro H F us u1 u2 da db v w Q E wf ra rb hus n f hp
  unfold powD at hp
  split at hp
  · split at hp
    · rename_i h
      cases ra; cases rb
      exact ⟨_, _, rfl, rfl, h, post_flat hp wf (.int _)⟩
    · exact hp.elim
  · exact hp.elim
def shlD : D → D → R D
  | .int i, .int j => if 0 ≤ j ∧ j ≤ 1000 ∧ i.natAbs < 2 ^ 64 then .ok (.int (i * 2 ^ j.toNat)) else .bad
  | _, _ => .bad
theorem shl_v : OpV K mg (rI CPow fun i j => .int (i * 2 ^ j.toNat)) shlD := by
  intro H F us u1 u2 da db v w Q E wf ra rb hus n f hp
  unfold shlD at hp
  split at hp
  · split at hp
    · rename_i h
      cases ra; cases rb
      exact ⟨_, _, rfl, rfl, ⟨h.1, by omega, h.2.2⟩, post_flat hp wf (.int _)⟩
    · exact hp.elim
  · exact hp.elim
def andD : D → D → R D
  | .int i, .int j => .ok (.int (Builtin.bitAnd i j))
  | _, _ => .bad
theorem and_v : OpV K mg (rI0 fun i j => .int (Builtin.bitAnd i j)) andD := by
  intro H F us u1 u2 da db v w Q E wf ra rb hus n f hp
  unfold andD at hp
  split at hp
  · cases ra; cases rb
    exact ⟨_, _, rfl, rfl, post_flat hp wf (.int _)⟩
  · exact hp.elim
def negD : D → R D
  | .int i => .ok (.int (-i))
  | _ => .bad
theorem neg_v : UnV K mg (rU fun i => .int (-i)) negD := by
  intro H F us da v Q E wf ra n f hp
  unfold negD at hp
  split at hp
  · cases ra
    exact ⟨_, rfl, post_flat hp wf (.int _)⟩
  · exact hp.elim

def ordD (p : Int → Int → Bool) (q : List Nat → List Nat → Bool) : D → D → R D
  | .int i, .int j => .ok (.bl (p i j))
  | .str x, .str y => .ok (.bl (q x.cps.toList y.cps.toList))
  | _, _ => .bad
def rOrd (p : Int → Int → Bool) (q : List Nat → List Nat → Bool) : R2 := fun x y H Q => rI0 (fun i j => .bl (p i j)) x y H Q ∨ ∃ i j, x = .str i ∧ y = .str j ∧ Q (.bl (q i.cps.toList j.cps.toList)) H
theorem ord_v {p : Int → Int → Bool} {q : List Nat → List Nat → Bool} : OpV K mg (rOrd p q) (ordD p q) := by
  intro H F us u1 u2 da db v w Q E wf ra rb hus n f hp
  unfold ordD at hp
  split at hp
  · cases ra; cases rb
    exact .inl ⟨_, _, rfl, rfl, post_flat hp wf (.bl _)⟩
  · cases ra; cases rb
    exact .inr ⟨_, _, rfl, rfl, post_flat hp wf (.bl _)⟩
  · exact hp.elim
abbrev ltD := ordD (fun i j => decide (i < j)) (fun x y => decide (x < y))
abbrev leD := ordD (fun i j => decide (i ≤ j)) (fun x y => !decide (y < x))
abbrev gtD := ordD (fun i j => decide (j < i)) (fun x y => decide (y < x))
abbrev geD := ordD (fun i j => decide (j ≤ i)) (fun x y => !decide (x < y))
theorem op_ltA : OpR X (compareOp .Lt) (rOrd (fun i j => decide (i < j)) (fun x y => decide (x < y))) := op_lt.or op_lt_str
theorem op_leA : OpR X (compareOp .LtE) (rOrd (fun i j => decide (i ≤ j)) (fun x y => !decide (y < x))) := op_le.or op_le_str
theorem op_gtA : OpR X (compareOp .Gt) (rOrd (fun i j => decide (j < i)) (fun x y => decide (y < x))) := op_gt.or op_gt_str
theorem op_geA : OpR X (compareOp .GtE) (rOrd (fun i j => decide (j ≤ i)) (fun x y => !decide (x < y))) := op_ge.or op_ge_str

mutual
def py : D → PD
  | .non => .none | .bl b => .bool b | .int i => .int i | .str s => .str s
  | .lst _ ds => .list (pyL ds) | .tup ds => .tuple (pyL ds) | .dct _ kvs => .dict kvs.isEmpty | .exn _ _ => .dict false
def pyL : List D → List PD
  | [] => []
  | d :: ds => py d :: pyL ds
end
theorem pyL_map : ∀ ds : List D, pyL ds = ds.map py
  | [] => rfl
  | d :: ds => by rw [pyL, pyL_map ds]; rfl
mutual
def pyP : D → PyData
  | .non => .none | .bl b => .bool b | .int i => .int i | .str s => .str s
  | .lst _ ds => .list (pyPL ds) | .tup ds => .tuple (pyPL ds) | .dct _ _ => .dict [] | .exn _ _ => .dict []
def pyPL : List D → List PyData
  | [] => []
  | d :: ds => pyP d :: pyPL ds
end
theorem pyPL_map : ∀ ds : List D, pyPL ds = ds.map pyP
  | [] => rfl
  | d :: ds => by rw [pyPL, pyPL_map ds]; rfl
mutual
def noDct : D → Bool
  | .lst _ ds => noDctL ds | .tup ds => noDctL ds | .dct _ kvs => kvs.isEmpty | .exn _ _ => false | .non => true | .bl _ => true | .int _ => true | .str _ => true
def noDctL : List D → Bool
  | [] => true
  | d :: ds => noDct d && noDctL ds
end
mutual
def noDcP : D → Bool
  | .lst _ ds => noDcPL ds | .tup ds => noDcPL ds | .dct _ _ => false | .exn _ _ => false | .non => true | .bl _ => true | .int _ => true | .str _ => true
def noDcPL : List D → Bool
  | [] => true
  | d :: ds => noDcP d && noDcPL ds
end
mutual
def depD : D → Nat
  | .lst _ ds => depL ds + 1 | .tup ds => depL ds + 1 | .dct _ _ => 1 | .exn _ _ => 1 | _ => 0
def depL : List D → Nat
  | [] => 0
  | d :: ds => max (depD d) (depL ds)
end
/-- what == takes -/
def cmpD (d : D) : Bool := noDct d && decide (depD d ≤ 60)
def cmpP (d : D) : Bool := noDcP d && decide (depD d ≤ 60)
mutual
def noExn : D → Bool
  | .lst _ ds => noExnL ds | .tup ds => noExnL ds | .dct _ _ => true | .exn _ _ => false | .non => true | .bl _ => true | .int _ => true | .str _ => true
def noExnL : List D → Bool
  | [] => true
  | d :: ds => noExn d && noExnL ds
end
/-- any dicts within -/
def cmpW (d : D) : Bool := noExn d && decide (depD d ≤ 60)
mutual
theorem noExn_of : ∀ d : D, noDct d = true → noExn d = true
  | .lst _ ds, h => by simp only [noDct] at h; simp only [noExn]; exact noExnL_of ds h
  | .tup ds, h => by simp only [noDct] at h; simp only [noExn]; exact noExnL_of ds h
  | .dct _ _, _ => rfl
  | .exn _ _, h => by simp [noDct] at h
  | .non, _ => rfl | .bl _, _ => rfl | .int _, _ => rfl | .str _, _ => rfl
theorem noExnL_of : ∀ ds : List D, noDctL ds = true → noExnL ds = true
  | [], _ => rfl
  | d :: ds, h => by
    simp only [noDctL, Bool.and_eq_true] at h
    simp only [noExnL, noExn_of d h.1, noExnL_of ds h.2]; rfl
end
mutual
theorem noN_py : ∀ d : D, noDct d = true → PD.noN (py d) = true
  | .lst _ ds, h => by simp only [noDct] at h; simp only [py, PD.noN]; exact noNs_py ds h
  | .tup ds, h => by simp only [noDct] at h; simp only [py, PD.noN]; exact noNs_py ds h
  | .dct _ kvs, h => by simp only [noDct] at h; simpa only [py, PD.noN] using h
  | .exn _ _, h => by simp [noDct] at h
  | .non, _ => rfl | .bl _, _ => rfl | .int _, _ => rfl | .str _, _ => rfl
theorem noNs_py : ∀ ds : List D, noDctL ds = true → PD.noNs (pyL ds) = true
  | [], _ => rfl
  | d :: ds, h => by
    simp only [noDctL, Bool.and_eq_true] at h
    simp only [pyL, PD.noNs, noN_py d h.1, noNs_py ds h.2]; rfl
end
mutual
theorem noA_py : ∀ d : D, noDcP d = true → PD.noA (py d) = true
  | .lst _ ds, h => by simp only [noDcP] at h; simp only [py, PD.noA]; exact noAs_py ds h
  | .tup ds, h => by simp only [noDcP] at h; simp only [py, PD.noA]; exact noAs_py ds h
  | .dct _ kvs, h => by simp [noDcP] at h
  | .exn _ _, h => by simp [noDcP] at h
  | .non, _ => rfl | .bl _, _ => rfl | .int _, _ => rfl | .str _, _ => rfl
theorem noAs_py : ∀ ds : List D, noDcPL ds = true → PD.noAs (pyL ds) = true
  | [], _ => rfl
  | d :: ds, h => by
    simp only [noDcPL, Bool.and_eq_true] at h
    simp only [pyL, PD.noAs, noA_py d h.1, noAs_py ds h.2]; rfl
end
mutual
theorem noDct_ofP : ∀ d : D, noDcP d = true → noDct d = true
  | .lst _ ds, h => by simp only [noDcP] at h; simp only [noDct]; exact noDctL_ofP ds h
  | .tup ds, h => by simp only [noDcP] at h; simp only [noDct]; exact noDctL_ofP ds h
  | .dct _ _, h => by simp [noDcP] at h
  | .exn _ _, h => by simp [noDcP] at h
  | .non, _ => rfl | .bl _, _ => rfl | .int _, _ => rfl | .str _, _ => rfl
theorem noDctL_ofP : ∀ ds : List D, noDcPL ds = true → noDctL ds = true
  | [], _ => rfl
  | d :: ds, h => by
    simp only [noDcPL, Bool.and_eq_true] at h
    simp only [noDctL, noDct_ofP d h.1, noDctL_ofP ds h.2]; rfl
end
/-- two things that == takes -/
def okC (a b : D) : Prop := (cmpD a = true ∧ cmpD b = true) ∨ (cmpP a = true ∧ cmpW b = true) ∨ (cmpW a = true ∧ cmpP b = true)
instance (a b : D) : Decidable (okC a b) := inferInstanceAs (Decidable (_ ∨ _))
theorem okC_okP {a b : D} (h : okC a b) : PD.okP (py a) (py b) = true := by
  unfold okC cmpD cmpP cmpW at h
  simp only [Bool.and_eq_true] at h
  simp only [PD.okP, Bool.or_eq_true, Bool.and_eq_true]
  rcases h with h | h | h
  · exact .inl (.inl ⟨noN_py a h.1.1, noN_py b h.2.1⟩)
  · exact .inl (.inr (noA_py a h.1.1))
  · exact .inr (noA_py b h.2.1)
theorem okC_W {a b : D} (h : okC a b) : cmpW a = true ∧ cmpW b = true := by
  unfold okC cmpD cmpP cmpW at h
  unfold cmpW
  simp only [Bool.and_eq_true] at h ⊢
  rcases h with h | h | h
  · exact ⟨⟨noExn_of a h.1.1, h.1.2⟩, noExn_of b h.2.1, h.2.2⟩
  · exact ⟨⟨noExn_of a (noDct_ofP a h.1.1), h.1.2⟩, h.2⟩
  · exact ⟨h.1, noExn_of b (noDct_ofP b h.2.1), h.2.2⟩
mutual
theorem dep_py : ∀ d : D, (py d).depth ≤ depD d
  | .lst _ ds => by simp only [py, PD.depth, depD]; exact Nat.succ_le_succ (depL_py ds)
  | .tup ds => by simp only [py, PD.depth, depD]; exact Nat.succ_le_succ (depL_py ds)
  | .dct _ _ => by simp [py, PD.depth, depD]
  | .exn _ _ => by simp [py, PD.depth, depD]
  | .non => by simp [py, PD.depth] | .bl _ => by simp [py, PD.depth] | .int _ => by simp [py, PD.depth] | .str _ => by simp [py, PD.depth]
theorem depL_py : ∀ ds : List D, PD.depthAll (pyL ds) ≤ depL ds
  | [] => by simp [pyL, PD.depthAll]
  | d :: ds => by
    simp only [pyL, PD.depthAll, depL]
    have a := dep_py d
    have b := depL_py ds
    omega
end
mutual
theorem dep_pyP : ∀ d : D, (pyP d).depth ≤ depD d
  | .lst _ ds => by simp only [pyP, PyData.depth, depD]; exact Nat.succ_le_succ (depL_pyP ds)
  | .tup ds => by simp only [pyP, PyData.depth, depD]; exact Nat.succ_le_succ (depL_pyP ds)
  | .dct _ _ => by simp [pyP, PyData.depth, PyData.depthKv, depD]
  | .exn _ _ => by simp [pyP, PyData.depth, PyData.depthKv, depD]
  | .non => by simp [pyP, PyData.depth] | .bl _ => by simp [pyP, PyData.depth] | .int _ => by simp [pyP, PyData.depth] | .str _ => by simp [pyP, PyData.depth]
theorem depL_pyP : ∀ ds : List D, PyData.depthAll (pyPL ds) ≤ depL ds
  | [] => by simp [pyPL, PyData.depthAll]
  | d :: ds => by
    simp only [pyPL, PyData.depthAll, depL]
    have a := dep_pyP d
    have b := depL_pyP ds
    omega
end
mutual
theorem eqv_pyP : ∀ d e : D, noDcP d = true → noDcP e = true → PyData.eqv (pyP d) (pyP e) = PD.eqv (py d) (py e)
  | .lst _ ds, e, h, g => by
    cases e with
    | lst _ es => simp only [py, pyP, PD.eqv, PyData.eqv]; exact eqv_pyPL ds es (by simpa [noDcP] using h) (by simpa [noDcP] using g)
    | dct _ _ => simp [noDcP] at g
    | exn _ _ => simp [noDcP] at g
    | _ => simp [py, pyP, PD.eqv, PyData.eqv]
  | .tup ds, e, h, g => by
    cases e with
    | tup es => simp only [py, pyP, PD.eqv, PyData.eqv]; exact eqv_pyPL ds es (by simpa [noDcP] using h) (by simpa [noDcP] using g)
    | dct _ _ => simp [noDcP] at g
    | exn _ _ => simp [noDcP] at g
    | _ => simp [py, pyP, PD.eqv, PyData.eqv]
  | .dct _ _, _, h, _ => by simp [noDcP] at h
  | .exn _ _, _, h, _ => by simp [noDcP] at h
  | .non, e, h, g => by cases e <;> first | (simp [noDcP] at g; done) | simp [py, pyP, PD.eqv, PyData.eqv]
  | .bl _, e, h, g => by cases e <;> first | (simp [noDcP] at g; done) | simp [py, pyP, PD.eqv, PyData.eqv]
  | .int _, e, h, g => by cases e <;> first | (simp [noDcP] at g; done) | simp [py, pyP, PD.eqv, PyData.eqv]
  | .str _, e, h, g => by cases e <;> first | (simp [noDcP] at g; done) | simp [py, pyP, PD.eqv, PyData.eqv]
theorem eqv_pyPL : ∀ ds es : List D, noDcPL ds = true → noDcPL es = true → PyData.eqvAll (pyPL ds) (pyPL es) = PD.eqvAll (pyL ds) (pyL es)
  | [], [], _, _ => by simp [pyL, pyPL, PD.eqvAll, PyData.eqvAll]
  | [], _ :: _, _, _ => by simp [pyL, pyPL, PD.eqvAll, PyData.eqvAll]
  | _ :: _, [], _, _ => by simp [pyL, pyPL, PD.eqvAll, PyData.eqvAll]
  | d :: ds, e :: es, h, g => by
    have h := Bool.and_eq_true_iff.mp (by simpa only [noDcPL] using h)
    have g := Bool.and_eq_true_iff.mp (by simpa only [noDcPL] using g)
    simp only [pyL, pyPL, PD.eqvAll, PyData.eqvAll]
    rw [eqv_pyP d e h.1 g.1, eqv_pyPL ds es h.2 g.2]
end
section
variable {H : Hp} {F : Fz}
mutual
theorem Rep.dp {v : V} {d : D} {us : List Addr} (r : Rep K H F v d us) (h : noDcP d = true) : Dp K H v (pyP d) ∧ (pyP d).canLay0 = true := by
  cases r with
  | non => exact ⟨.non, rfl⟩
  | bl b => exact ⟨.bl b, rfl⟩
  | int i => exact ⟨.int i, rfl⟩
  | str s hs => exact ⟨.str s, hs.2⟩
  | lstO e l =>
    obtain ⟨a, b⟩ := l.dp (by simpa [noDcP] using h)
    exact ⟨.lst (SqL.of e) a, by simpa [pyP, PyData.canLay0] using b⟩
  | lstF e l =>
    obtain ⟨a, b⟩ := l.dp (by simpa [noDcP] using h)
    exact ⟨.lst e.sq a, by simpa [pyP, PyData.canLay0] using b⟩
  | tup e l =>
    obtain ⟨a, b⟩ := l.dp (by simpa [noDcP] using h)
    exact ⟨.tup e a, by simpa [pyP, PyData.canLay0] using b⟩
  | dctO e l => simp [noDcP] at h
  | dctF e l => simp [noDcP] at h
  | exn e l => simp [noDcP] at h
theorem RepL.dp {v : List V} {d : List D} {us : List Addr} (r : RepL K H F v d us) (h : noDcPL d = true) : DpAll K H v (pyPL d) ∧ PyData.canLayAll0 (pyPL d) = true := by
  cases r with
  | nil => exact ⟨.nil, rfl⟩
  | cons a l =>
    obtain ⟨h1, h2⟩ := Bool.and_eq_true_iff.mp (by simpa only [noDcPL] using h)
    obtain ⟨p1, p2⟩ := a.dp h1
    obtain ⟨q1, q2⟩ := l.dp h2
    exact ⟨.cons p1 q1, by simp only [pyPL, PyData.canLayAll0, p2, q2]; rfl⟩
end
theorem Rep.shaped {v : V} {d : D} {us : List Addr} (r : Rep K H F v d us) (h : cmpP d = true) : Dp K H v (pyP d) ∧ SeqAt.shaped (pyP d) = true := by
  obtain ⟨h1, h2⟩ := Bool.and_eq_true_iff.mp h
  obtain ⟨a, b⟩ := r.dp h1
  refine ⟨a, ?_⟩
  unfold SeqAt.shaped
  rw [b, Bool.true_and]
  have := dep_pyP d
  have := of_decide_eq_true h2
  exact decide_eq_true (by omega)
mutual
theorem Rep.dq {v : V} {d : D} {us : List Addr} (r : Rep K H F v d us) (h : noExn d = true) : Dq K H v (py d) := by
  cases r with
  | non => exact .non
  | bl b => exact .bl b
  | int i => exact .int i
  | str s hs => exact .str s
  | lstO e l => exact .lst (SqL.of e) (l.dq (by simpa [noExn] using h))
  | lstF e l => exact .lst e.sq (l.dq (by simpa [noExn] using h))
  | tup e l => exact .tup e (l.dq (by simpa [noExn] using h))
  | @dctO a kvs ds us e l =>
    have hl := l.length
    have hz : kvs.isEmpty = ds.isEmpty := by cases kvs <;> cases ds <;> first | rfl | simp at hl
    show Dq K H _ (.dict ds.isEmpty)
    rw [← hz]
    exact .dct (.inl e)
  | @dctF a kvs ds e l =>
    have hl := l.length
    have hz : kvs.isEmpty = ds.isEmpty := by cases kvs <;> cases ds <;> first | rfl | simp at hl
    show Dq K H _ (.dict ds.isEmpty)
    rw [← hz]
    exact .dct e.rd
  | exn e l => simp [noExn] at h
theorem RepL.dq {v : List V} {d : List D} {us : List Addr} (r : RepL K H F v d us) (h : noExnL d = true) : Dqs K H v (pyL d) := by
  cases r with
  | nil => exact .nil
  | cons a l =>
    obtain ⟨h1, h2⟩ := Bool.and_eq_true_iff.mp (by simpa only [noExnL] using h)
    exact .cons (a.dq h1) (l.dq h2)
end
theorem Rep.cmp {v : V} {d : D} {us : List Addr} (r : Rep K H F v d us) (h : cmpW d = true) : Dq K H v (py d) ∧ (py d).depth ≤ 62 := by
  obtain ⟨h1, h2⟩ := Bool.and_eq_true_iff.mp h
  have := dep_py d
  have := of_decide_eq_true h2
  exact ⟨r.dq h1, by omega⟩
end
def eqvD (a b : D) : Bool := PD.eqv (py a) (py b)
def eqD (a b : D) : R D := if okC a b then .ok (.bl (eqvD a b)) else .bad
def neD (a b : D) : R D := if okC a b then .ok (.bl (!eqvD a b)) else .bad
theorem eq_v : OpV K mg (rEqQ K) eqD := by
  intro H F us u1 u2 da db v w Q E wf ra rb hus n f hp
  unfold eqD at hp
  split at hp
  · rename_i h
    obtain ⟨a, b⟩ := ra.cmp (okC_W h).1
    obtain ⟨c, d⟩ := rb.cmp (okC_W h).2
    exact ⟨_, _, a, c, b, okC_okP h, post_flat hp wf (.bl _)⟩
  · exact hp.elim
theorem ne_v : OpV K mg (rNeQ K) neD := by
  intro H F us u1 u2 da db v w Q E wf ra rb hus n f hp
  unfold neD at hp
  split at hp
  · rename_i h
    obtain ⟨a, b⟩ := ra.cmp (okC_W h).1
    obtain ⟨c, d⟩ := rb.cmp (okC_W h).2
    exact ⟨_, _, a, c, b, okC_okP h, post_flat hp wf (.bl _)⟩
  · exact hp.elim

def keyOf : D → Option Key
  | .int i => some (.inl i) | .str s => some (.inr s) | _ => none
def getK (kvs : List (Key × D)) (k : Key) : Option D := (kvs.find? fun kv => decide (kv.1 = k)).map (·.2)
def isFlat : D → Bool
  | .non => true | .bl _ => true | .int _ => true | .str _ => true | _ => false
def inB : D → D → Option Bool
  | x, .lst _ ds => if okC x (.lst true ds) then some (ds.any fun z => eqvD z x) else none
  | x, .tup ds => if okC x (.tup ds) then some (ds.any fun z => eqvD z x) else none
  | .int i, .dct _ kvs => some (getK kvs (.inl i)).isSome
  | .str s, .dct _ kvs => some (getK kvs (.inr s)).isSome
  | .str ⟨c⟩, .str y => match c.toList with
    | [c] => some (decide (c ∈ y.cps.toList))
    | _ => none
  | _, _ => none
def inD (a b : D) : R D := match inB a b with
  | some k => .ok (.bl k)
  | none => .bad
def notinD (a b : D) : R D := match inB a b with
  | some k => .ok (.bl (!k))
  | none => .bad
def rInDict (neg : Bool) : R2 := fun x y H Q => ∃ a o, y = .ref a ∧ DGet H a x o ∧ Q (.bl (if neg then !o.isSome else o.isSome)) H
theorem op_inDict (hu : X.A.units + 1 < cLine) : OpR X (compareOp .In) (rInDict false) := by
  intro pins s σ H x y v u Q I rx ry h
  obtain ⟨a, o, rfl, g, q⟩ := h
  cases rx' : (show RelV (V.ref a) u from ry)
  exact d_in hu I g rx fun s' I' => ⟨.bl _, H, I', rfl, q⟩
theorem op_notInDict (hu : X.A.units + 1 < cLine) : OpR X (compareOp .NotIn) (rInDict true) := by
  intro pins s σ H x y v u Q I rx ry h
  obtain ⟨a, o, rfl, g, q⟩ := h
  cases rx' : (show RelV (V.ref a) u from ry)
  exact d_notIn hu I g rx fun s' I' => ⟨.bl _, H, I', rfl, q⟩
def rInA (K : Frag) : R2 := fun x y H Q => rInQ K false x y H Q ∨ rInDict false x y H Q ∨ ∃ (c : Nat) (z : Str), x = .str ⟨#[c]⟩ ∧ y = .str z ∧ Q (.bl (decide (c ∈ z.cps.toList))) H
def rNotInA (K : Frag) : R2 := fun x y H Q => rInQ K true x y H Q ∨ rInDict true x y H Q ∨ ∃ (c : Nat) (z : Str), x = .str ⟨#[c]⟩ ∧ y = .str z ∧ Q (.bl (!decide (c ∈ z.cps.toList))) H
theorem op_inA (hu : X.A.units + 65 < cLine) : OpR X (compareOp .In) (rInA X.K) := (op_inQ (by omega)).or ((op_inDict (by omega)).or op_in_sign)
theorem op_notInA (hu : X.A.units + 65 < cLine) : OpR X (compareOp .NotIn) (rNotInA X.K) := (op_notInQ (by omega)).or ((op_notInDict (by omega)).or op_notIn_sign)
section
variable {H : Hp} {F : Fz} {v w : V} {d e : D} {us : List Addr}
theorem Rep.flat (r : Rep K H F v d us) (h : isFlat d = true) : flatV v = true := by
  cases r <;> first | rfl | (simp [isFlat] at h)
theorem Rep.eqvF {us2 : List Addr} (r : Rep K H F v d us) (r2 : Rep K H F w e us2) (h : isFlat d = true) (h2 : isFlat e = true) : eqV v w = eqvD d e := by
  cases r <;> cases r2 <;> first | rfl | (simp [isFlat] at h) | (simp [isFlat] at h2)
theorem RepL.flats' {vs : List V} {ds : List D} {us2 : List Addr} (hx : isFlat d = true) (rx : Rep K H F v d us) (r : RepL K H F vs ds us2) (h : ds.all isFlat = true) : vs.all flatV = true ∧ (vs.any fun y => eqV y v) = ds.any fun z => eqvD z d := by
  induction ds generalizing vs us2 with
  | nil => cases r; exact ⟨rfl, rfl⟩
  | cons x ds ih =>
    cases r with
    | cons a l =>
      have h' := Bool.and_eq_true_iff.mp (by simpa only [List.all_cons] using h)
      obtain ⟨p, q⟩ := ih l h'.2
      exact ⟨by rw [List.all_cons, a.flat h'.1, p]; rfl, by rw [List.any_cons, List.any_cons, q, a.eqvF rx h'.1 hx]⟩
theorem RepK.get {kvs : List (Key × V)} {ds : List (Key × D)} (r : RepK K H F kvs ds us) (k : Key) : (valV kvs k).isSome = (getK ds k).isSome ∧ ∀ d, getK ds k = some d → ∃ v u, valV kvs k = some v ∧ Rep K H F v d u ∧ Less u us := by
  induction ds generalizing kvs us with
  | nil => cases r; exact ⟨rfl, fun d h => by simp [getK] at h⟩
  | cons x ds ih =>
    cases r with
    | @cons k' v0 vs d0 _ u0 u1 a l =>
      obtain ⟨p, q⟩ := ih l
      by_cases hk : k' = k
      · refine ⟨by simp [valV, getK, hk], fun d h => ⟨v0, u0, by simp [valV, hk], ?_, .of (List.sublist_append_left _ _)⟩⟩
        simp [getK, hk] at h
        subst h
        exact a
      · refine ⟨by simpa [valV, getK, hk] using p, fun d h => ?_⟩
        obtain ⟨v, u, h1, h2, h3⟩ := q d (by simpa [getK, hk] using h)
        exact ⟨v, u, by simpa [valV, hk] using h1, h2, h3.trans (.of (List.sublist_append_right _ _))⟩
end
theorem okP_mem {x : PD} : ∀ {ds : List PD}, (PD.noN x = true ∧ PD.noNs ds = true) ∨ PD.noA x = true ∨ PD.noAs ds = true → ∀ z ∈ ds, PD.okP z x = true
  | [], _, z, hz => by cases hz
  | d :: ds, h, z, hz => by
    have h2 : ((PD.noN x = true ∧ PD.noN d = true) ∨ PD.noA x = true ∨ PD.noA d = true) ∧ ((PD.noN x = true ∧ PD.noNs ds = true) ∨ PD.noA x = true ∨ PD.noAs ds = true) := by
      simp only [PD.noNs, PD.noAs, Bool.and_eq_true] at h
      rcases h with ⟨a, b, c⟩ | a | ⟨a, b⟩
      · exact ⟨.inl ⟨a, b⟩, .inl ⟨a, c⟩⟩
      · exact ⟨.inr (.inl a), .inr (.inl a)⟩
      · exact ⟨.inr (.inr a), .inr (.inr b)⟩
    rcases List.mem_cons.mp hz with rfl | hz
    · simp only [PD.okP, Bool.or_eq_true, Bool.and_eq_true]
      rcases h2.1 with ⟨a, b⟩ | a | a
      · exact .inl (.inl ⟨b, a⟩)
      · exact .inr a
      · exact .inl (.inr a)
    · exact okP_mem h2.2 z hz
theorem okC_mem {x : D} {ds : List D} {c : PD} (h : PD.okP (py x) c = true) (hc : c = .list (pyL ds) ∨ c = .tuple (pyL ds)) : ∀ z ∈ pyL ds, PD.okP z (py x) = true := by
  refine okP_mem ?_
  simp only [PD.okP, Bool.or_eq_true, Bool.and_eq_true] at h
  rcases hc with rfl | rfl
  · simp only [PD.noN, PD.noA] at h
    rcases h with (h | h) | h
    · exact .inl h
    · exact .inr (.inl h)
    · exact .inr (.inr h)
  · simp only [PD.noN, PD.noA] at h
    rcases h with (h | h) | h
    · exact .inl h
    · exact .inr (.inl h)
    · exact .inr (.inr h)
theorem inB_ok {H : Hp} {F : Fz} {us u1 u2 : List Addr} {da db : D} {v w : V} {k : Bool} (ra : Rep K H F v da u1) (rb : Rep K H F w db u2) (h : inB da db = some k) (neg : Bool) :
    ∀ Q : VK, Q (.bl (if neg then !k else k)) H → (if neg then rNotInA K v w H Q else rInA K v w H Q) := by
  intro Q q
  unfold inB at h
  split at h
  · rename_i o ds
    split at h
    · rename_i hc
      cases h
      obtain ⟨a, b⟩ := ra.cmp (okC_W hc).1
      obtain ⟨c, d⟩ := rb.cmp (by simpa [cmpW, noExn, depD] using (okC_W hc).2)
      have e : ((pyL ds).any fun z => PD.eqv z (py da)) = ds.any fun z => eqvD z da := by
        rw [pyL_map, List.any_map]; rfl
      have ok := okC_mem (ds := ds) (okC_okP hc) (.inl rfl)
      cases neg
      · exact .inl ⟨_, _, a, .inl c, b, ok, by rw [e]; exact q⟩
      · exact .inl ⟨_, _, a, .inl c, b, ok, by rw [e]; exact q⟩
    · cases h
  · rename_i ds
    split at h
    · rename_i hc
      cases h
      obtain ⟨a, b⟩ := ra.cmp (okC_W hc).1
      obtain ⟨c, d⟩ := rb.cmp (okC_W hc).2
      have e : ((pyL ds).any fun z => PD.eqv z (py da)) = ds.any fun z => eqvD z da := by
        rw [pyL_map, List.any_map]; rfl
      have ok := okC_mem (ds := ds) (okC_okP hc) (.inr rfl)
      cases neg
      · exact .inl ⟨_, _, a, .inr c, b, ok, by rw [e]; exact q⟩
      · exact .inl ⟨_, _, a, .inr c, b, ok, by rw [e]; exact q⟩
    · cases h
  · cases h
    obtain ⟨a, kvs, u', rfl, h1, r1, l1⟩ := rb.dct_inv
    cases ra
    rename_i i _ _
    have g : DGet H a (.int i) (valV kvs (.inl i)) := .inl ⟨kvs, .inl i, h1, rfl, rfl⟩
    cases neg
    · exact .inr (.inl ⟨_, _, rfl, g, by rw [(r1.get _).1]; exact q⟩)
    · exact .inr (.inl ⟨_, _, rfl, g, by rw [(r1.get _).1]; exact q⟩)
  · cases h
    obtain ⟨a, kvs, u', rfl, h1, r1, l1⟩ := rb.dct_inv
    cases ra
    rename_i s _ _ _
    have g : DGet H a (.str s) (valV kvs (.inr s)) := .inl ⟨kvs, .inr s, h1, rfl, rfl⟩
    cases neg
    · exact .inr (.inl ⟨_, _, rfl, g, by rw [(r1.get _).1]; exact q⟩)
    · exact .inr (.inl ⟨_, _, rfl, g, by rw [(r1.get _).1]; exact q⟩)
  · rename_i c y
    split at h
    · rename_i c' hc
      cases h
      cases ra; cases rb
      have e : c = #[c'] := by
        apply Array.ext'
        rw [hc]
      subst e
      cases neg
      · exact .inr (.inr ⟨c', y, rfl, rfl, q⟩)
      · exact .inr (.inr ⟨c', y, rfl, rfl, q⟩)
    · cases h
  · cases h
theorem in_v : OpV K mg (rInA K) inD := by
  intro H F us u1 u2 da db v w Q E wf ra rb hus n f hp
  unfold inD at hp
  split at hp
  · rename_i k h
    exact inB_ok (us := us) ra rb h false Q (post_flat hp wf (.bl _))
  · exact hp.elim
theorem notin_v : OpV K mg (rNotInA K) notinD := by
  intro H F us u1 u2 da db v w Q E wf ra rb hus n f hp
  unfold notinD at hp
  split at hp
  · rename_i k h
    exact inB_ok (us := us) ra rb h true Q (post_flat hp wf (.bl _))
  · exact hp.elim

def isB : D → D → Option Bool
  | .non, .non => some true
  | .bl a, .bl b => some (decide (a = b))
  | _, .non => some false
  | _, _ => none
def isD (a b : D) : R D := match isB a b with
  | some k => .ok (.bl k)
  | none => .bad
def notisD (a b : D) : R D := match isB a b with
  | some k => .ok (.bl (!k))
  | none => .bad
end
end VL
end

section
set_option Elab.async false
set_option linter.all false
set_option maxRecDepth 100000
set_option maxHeartbeats 2000000
namespace VL
open PySem PySem.W PySem.Spec PyProof.Rows L2
section
variable {K : Frag} {mg : Str → Option Value} {X : Cx} {W : Option WX} {a b c e : Expr} {ma mb mc : T} {pos : Pos}

def rIsA : R2 := fun x y H Q => (y = .non ∧ Q (.bl (decide (x = .non))) H) ∨ rIsB x y H Q
def rNotIsA : R2 := fun x y H Q => (y = .non ∧ Q (.bl (!decide (x = .non))) H) ∨ rNotB x y H Q
theorem op_isA : OpR X (compareOp .Is) rIsA := op_isN.or op_isBl
theorem op_notIsA : OpR X (compareOp .IsNot) rNotIsA := op_notN.or op_notBl
theorem isB_ok {H : Hp} {F : Fz} {u1 u2 : List Addr} {da db : D} {v w : V} {k : Bool} (ra : Rep K H F v da u1) (rb : Rep K H F w db u2) (h : isB da db = some k) :
    (w = .non ∧ decide (v = .non) = k) ∨ ∃ x y : Bool, v = .bl x ∧ w = .bl y ∧ decide (x = y) = k := by
  unfold isB at h
  split at h
  · cases ra; cases rb; cases h; exact .inl ⟨rfl, rfl⟩
  · cases ra; cases rb; cases h; exact .inr ⟨_, _, rfl, rfl, rfl⟩
  · rename_i d hd
    cases rb; cases h
    refine .inl ⟨rfl, decide_eq_false ?_⟩
    cases ra <;> first | (intro z; cases z; done) | exact absurd rfl hd
  · cases h
theorem is_v : OpV K mg rIsA isD := by
  intro H F us u1 u2 da db v w Q E wf ra rb hus n f hp
  unfold isD at hp
  split at hp
  · rename_i k h
    rcases isB_ok ra rb h with ⟨p, q⟩ | ⟨x, y, p, q, r⟩
    · exact .inl ⟨p, by rw [q]; exact post_flat hp wf (.bl _)⟩
    · exact .inr ⟨x, y, p, q, by rw [r]; exact post_flat hp wf (.bl _)⟩
  · exact hp.elim
theorem notis_v : OpV K mg rNotIsA notisD := by
  intro H F us u1 u2 da db v w Q E wf ra rb hus n f hp
  unfold notisD at hp
  split at hp
  · rename_i k h
    rcases isB_ok ra rb h with ⟨p, q⟩ | ⟨x, y, p, q, r⟩
    · exact .inl ⟨p, by rw [q]; exact post_flat hp wf (.bl _)⟩
    · exact .inr ⟨x, y, p, q, by rw [r]; exact post_flat hp wf (.bl _)⟩
  · exact hp.elim

def ixD : D → D → R D
  | .lst _ ds, .int i => match atI ds i with
    | some d => .ok d
    | none => .bad
  | .tup ds, .int i => match atI ds i with
    | some d => .ok d
    | none => .bad
  | .str z, .int i => match atI z.cps.toList i with
    | some c => .ok (.str ⟨#[c]⟩)
    | none => .bad
  | .dct _ kvs, .int i => match getK kvs (.inl i) with
    | some d => .ok d
    | none => .bad
  | .dct _ kvs, .str s => match getK kvs (.inr s) with
    | some d => .ok d
    | none => .bad
  | _, _ => .bad
def rIxD : R2 := fun x y H Q => ∃ a v, x = .ref a ∧ DGet H a y (some v) ∧ Q v H
theorem ix_dict (hu : X.A.units + 1 < cLine) : IxR X rIxD := by
  intro value slice pins s σ H x y v u Q I rx ry h hs
  obtain ⟨a, v', rfl, g, q⟩ := h
  cases (show v = Value.ref a from rx)
  exact tail_any (dict_typeIs I g) PySem.F.slot_dict_getitem.lookup (d_getItem hu I g ry fun w' s3 I3 rw' => ⟨v', H, I3, rw', q⟩) hs
def rIxA (K : Frag) : R2 := fun x y H Q => rIx K x y H Q ∨ rIxD x y H Q
theorem ix_all (hu : X.A.units + 1 < cLine) : IxR X (rIxA X.K) := ix_seq.or (ix_dict hu)
theorem atI_rep {H : Hp} {F : Fz} {vs : List V} {ds : List D} {us : List Addr} {i : Int} {d : D} (r : RepL K H F vs ds us) (h : atI ds i = some d) : ∃ v u, atI vs i = some v ∧ Rep K H F v d u ∧ Less u us := by
  unfold atI at h ⊢
  rw [r.length]
  cases q : ixN ds.length i with
  | none => rw [q] at h; cases h
  | some j =>
    rw [q] at h
    exact r.get h
theorem SOk.one {z : Str} {i : Int} {c : Nat} (h : SOk z) (e : atI z.cps.toList i = some c) : SOk ⟨#[c]⟩ := by
  refine ⟨by show 1 ≤ sizeLine; decide, ?_⟩
  have h2 := h.2
  unfold PyData.strOk at h2 ⊢
  rw [Array.all_eq_true_iff_forall_mem] at h2 ⊢
  intro c' hc
  obtain rfl : c' = c := by simpa using hc
  unfold atI at e
  cases q : ixN z.cps.toList.length i with
  | none => rw [q] at e; cases e
  | some j =>
    rw [q] at e
    have := List.mem_of_getElem? e
    exact h2 _ (by simpa using this)
theorem ix_v : OpV K mg (rIxA K) ixD := by
  intro H F us u1 u2 da db v w Q E wf ra rb hus n f hp
  subst hus
  have la : Less u1 (u1 ++ u2) := .of (List.sublist_append_left _ _)
  unfold ixD at hp
  split at hp
  · split at hp
    · rename_i d e
      obtain ⟨a, vs, u', rfl, h1, r1, l1⟩ := ra.lst_inv
      obtain ⟨x, u, p, q, l⟩ := atI_rep r1 e
      cases rb
      have l3 := (l.trans l1).trans la
      exact .inl (.inl ⟨a, vs, _, x, rfl, rfl, h1, p, post_here hp wf q (l3.nod n) (fr f l3)⟩)
    · exact hp.elim
  · split at hp
    · rename_i d e
      obtain ⟨a, vs, rfl, h1, r1⟩ := ra.tup_inv
      obtain ⟨x, u, p, q, l⟩ := atI_rep r1 e
      cases rb
      have l3 := l.trans la
      exact .inl (.inr (.inl ⟨a, vs, _, x, rfl, rfl, h1, p, post_here hp wf q (l3.nod n) (fr f l3)⟩))
    · exact hp.elim
  · split at hp
    · rename_i c e
      cases rb
      cases ra with
      | str _ hz => exact .inl (.inr (.inr ⟨_, _, c, rfl, rfl, hz.1, e, post_flat hp wf (.str _ (hz.one e))⟩))
    · exact hp.elim
  · split at hp
    · rename_i d e
      obtain ⟨a, vs, u', rfl, h1, r1, l1⟩ := ra.dct_inv
      obtain ⟨x, u, p, q, l⟩ := (r1.get _).2 d e
      cases rb
      have l3 := (l.trans l1).trans la
      exact .inr ⟨a, x, rfl, .inl ⟨vs, .inl _, h1, rfl, p.symm⟩, post_here hp wf q (l3.nod n) (fr f l3)⟩
    · exact hp.elim
  · split at hp
    · rename_i d e
      obtain ⟨a, vs, u', rfl, h1, r1, l1⟩ := ra.dct_inv
      obtain ⟨x, u, p, q, l⟩ := (r1.get _).2 d e
      cases rb
      have l3 := (l.trans l1).trans la
      exact .inr ⟨a, x, rfl, .inl ⟨vs, .inr _, h1, rfl, p.symm⟩, post_here hp wf q (l3.nod n) (fr f l3)⟩
    · exact hp.elim
  · exact hp.elim

abbrev VO (X : Cx) (W : Option WX) (e : Option Expr) (m : Env → R (Option Int)) : Prop := PO X e (tT X.K X.mg W RpO m)
theorem PO.to {e : Option Expr} {t t' : TO} (h : PO X e t) (i : ∀ σ H Q, t' σ H Q → t σ H Q) : PO X e t' := ⟨fun pins s σ H Q I q => h.run pins s σ H Q I (i σ H Q q)⟩
theorem vo_none : VO X W none (fun _ => .ok none) := PO.to po_none fun σ H Q ⟨F, env, he, w, hp⟩ => post_flat hp w ⟨rfl, rfl⟩
def asInt : D → R (Option Int)
  | .int i => .ok (some i)
  | _ => .bad
theorem vo_some (h : VE X W e ma) : VO X W (some e) (fun env => (ma env).bind asInt) := by
  refine PO.to (po_some h) fun σ H Q h => ?_
  refine tT_first h fun F env d v H1 F1 us1 he s1 g1 w1 r1 n1 f1 hp1 => ?_
  unfold asInt at hp1
  split at hp1
  · cases r1
    exact ⟨_, rfl, post_flat hp1 w1 ⟨rfl, rfl⟩⟩
  · exact hp1.elim
def cutD (ds : List D) (lo hi : Option Int) : List D := (ds.drop (HT.sIx ds.length 0 lo)).take (HT.sIx ds.length ds.length hi - HT.sIx ds.length 0 lo)
def sliceD (x : D) (lo hi : Option Int) : R D := match x with
  | .lst _ ds => .ok (.lst true (cutD ds lo hi))
  | .tup ds => .ok (.tup (cutD ds lo hi))
  | .str z => .ok (.str (cutS z lo hi))
  | _ => .bad
def rSlA (K : Frag) : V → Option Int → Option Int → Hp → VK → Prop := fun x lo hi H Q => rSlL K x lo hi H Q ∨ L2.rSlA K x lo hi H Q ∨ rSlS x lo hi H Q
theorem sl_all : SlR X (rSlA X.K) := sl_list.or (sl_tupA.or sl_str)
theorem RepL.cut {H : Hp} {F : Fz} {vs : List V} {ds : List D} {us : List Addr} (r : RepL K H F vs ds us) (lo hi : Option Int) : ∃ u, RepL K H F (cutV vs lo hi) (cutD ds lo hi) u ∧ Less u us := by
  unfold cutV cutD
  rw [r.length]
  obtain ⟨u, r1, l1⟩ := r.drop (HT.sIx ds.length 0 lo)
  obtain ⟨u2, r2, l2⟩ := r1.take (HT.sIx ds.length ds.length hi - HT.sIx ds.length 0 lo)
  exact ⟨u2, r2, l2.trans l1⟩
theorem SOk.cut {z : Str} (h : SOk z) (lo hi : Option Int) : SOk (cutS z lo hi) := by
  refine ⟨?_, ?_⟩
  · have := h.1
    have hl : (cutS z lo hi).length ≤ z.length := by
      unfold cutS Str.length
      rw [List.size_toArray, List.length_take, List.length_drop, Array.length_toList]
      omega
    omega
  · have h2 := h.2
    unfold PyData.strOk at h2 ⊢
    unfold cutS
    rw [Array.all_eq_true_iff_forall_mem] at h2 ⊢
    intro c hc
    have q : c ∈ z.cps.toList := List.mem_of_mem_drop (List.mem_of_mem_take (by simpa using hc))
    exact h2 c (by simpa using q)
theorem slice_v {H : Hp} {F : Fz} {us : List Addr} {d : D} {v : V} {lo hi : Option Int} {Q : VK} {E : Option XK} (wf : Wf F H) (ra : Rep K H F v d us) (n : us.Nodup) (f : ∀ a ∈ us, ¬ F a)
    (hp : Post K mg (RpV K) H F us (sliceD d lo hi) Q E) : rSlA K v lo hi H Q := by
  unfold sliceD at hp
  split at hp
  · obtain ⟨a, vs, u', rfl, h1, r1, l1⟩ := ra.lst_inv
    obtain ⟨u, r2, l2⟩ := r1.cut lo hi
    have l := l2.trans l1
    exact .inl ⟨a, vs, rfl, h1, fun p hn => post_newL hp wf r2 (l.nod n) (fr f l) hn⟩
  · obtain ⟨a, vs, rfl, h1, r1⟩ := ra.tup_inv
    obtain ⟨u, r2, l2⟩ := r1.cut lo hi
    refine .inr (.inl ⟨a, vs, rfl, h1, fun hw => ?_, fun _ p hn => post_newT hp wf r2 (l2.nod n) (fr f l2) hn⟩)
    rw [r1.length] at hw
    rename_i ds
    have e : cutD ds lo hi = ds := by unfold cutD; rw [hw.1, hw.2]; simp
    rw [e] at hp
    exact post_here hp wf (Rep.tup h1 r1) n fun a ha => ⟨f a ha, ha⟩
  · cases ra with
    | str _ hz => exact .inr (.inr ⟨_, rfl, hz.1, post_flat hp wf (.str _ (hz.cut lo hi))⟩)
  · exact hp.elim
theorem ve_slice {lo hi : Option Expr} {ml mh : Env → R (Option Int)} {p2 : Pos} (he : VE X W e ma) (hl : VO X W lo ml) (hu : VO X W hi mh) :
    VE X W (.Subscript e (.Slice lo hi none p2) pos) (fun env => (ma env).bind fun d => (ml env).bind fun l => (mh env).bind fun h => sliceD d l h) := by
  refine PE.to (pe_slice sl_all he hl hu) fun σ H Q h => ?_
  refine tT_first h fun F env d v H1 F1 us1 he s1 g1 w1 r1 n1 f1 hp1 => ?_
  have nn : ∀ {H : Hp} {F : Fz}, Rep X.K H F v d us1 → ∀ a ∈ us1, H a ≠ none := fun r a ha z => by obtain ⟨o, q, _⟩ := r.there a ha; rw [z] at q; cases q
  refine post_next he w1 (fun a ha => ⟨(f1 a ha).1, nn r1 a ha⟩) hp1 fun l v2 H2 F2 us2 he2 s2 g2 w2 r2 n2 f2 q2 hp2 => ?_
  obtain ⟨rfl, rfl⟩ := r2
  rw [List.append_nil] at hp2
  have r1' := r1.same s2 g2
  refine post_next he2 w2 (fun a ha => ⟨q2 a ha, nn r1' a ha⟩) hp2 fun h v3 H3 F3 us3 he3 s3 g3 w3 r3 n3 f3 q3 hp3 => ?_
  obtain ⟨rfl, rfl⟩ := r3
  rw [List.append_nil] at hp3
  exact slice_v w3 (r1'.same s3 g3) n1 q3 hp3

def truD : D → Option Bool
  | .non => some false | .bl b => some b | .int i => some (i != 0) | .str s => some ((s.length : Int) != 0)
  | .lst _ ds => some (!ds.isEmpty) | .tup ds => some (!ds.isEmpty) | .dct true ds => some (!ds.isEmpty) | .dct false _ => none | .exn _ _ => none
def truB (d : D) : R Bool := match truD d with
  | some b => .ok b
  | none => .bad
theorem isEmpty_len {α β : Type} {xs : List α} {ys : List β} (h : xs.length = ys.length) : xs.isEmpty = ys.isEmpty := by
  cases xs <;> cases ys <;> simp_all
theorem tru_v {H : Hp} {F : Fz} {us : List Addr} {d : D} {v : V} {k : Bool} (ra : Rep K H F v d us) (h : truD d = some k) : TruV K v H k := by
  cases ra with
  | non => cases h; rfl
  | bl b => cases h; rfl
  | int i => cases h; rfl
  | str s hs => cases h; exact ⟨hs.1, rfl⟩
  | lstO e l => cases h; exact .inl ⟨_, SqL.of e, by rw [isEmpty_len l.length]⟩
  | lstF e l => cases h; exact .inl ⟨_, e.sq, by rw [isEmpty_len l.length]⟩
  | tup e l => cases h; exact .inr (.inl ⟨_, e, by rw [isEmpty_len l.length]⟩)
  | dctO e l => cases h; exact .inr (.inr ⟨_, e, by rw [isEmpty_len l.length]⟩)
  | dctF e l => cases h
  | exn e l => cases h
def asB : D → R Bool
  | .bl b => .ok b
  | _ => .bad
theorem post_asB {H : Hp} {F : Fz} {us : List Addr} {r : R D} {Q : Bool → Hp → Prop} {E : Option XK} (h : Post K mg RpB H F us (r.bind asB) Q E) : Post K mg (RpV K) H F us r (fun x H' => ∃ k, x = .bl k ∧ Q k H') E := by
  refine post_bind h fun d v H1 F1 us1 e s1 g1 w1 r1 n1 f1 hp1 => ?_
  unfold asB at hp1
  split at hp1
  · cases r1
    exact ⟨_, rfl, hp1 _ H1 F1 [] s1 g1 w1 ⟨rfl, rfl⟩ (by simp) (fun _ z => nomatch z)⟩
  · exact hp1.elim
theorem tT_asB {m : T} {σ : L2.St} {H : Hp} {Q : Bool → Hp → Prop} (h : tT K mg W RpB (fun env => (m env).bind asB) σ H Q) : tT K mg W (RpV K) m σ H (fun x H' => ∃ k, x = .bl k ∧ Q k H') := by
  obtain ⟨F, env, he, w, hp⟩ := h
  exact ⟨F, env, he, w, post_asB hp⟩
theorem vt_truth (ha : VE X W a ma) (he : ∀ whole, isTrue a X.env whole = (do let v ← whole; standAt a.pos; holding [v] (truthy v)) := by intro _; rfl) : VT X W a (fun env => (ma env).bind truB) := by
  refine PT.to (pt_truth ha he) fun σ H Q h => ?_
  refine tT_first h fun F env d v H1 F1 us1 he s1 g1 w1 r1 n1 f1 hp1 => ?_
  unfold truB at hp1
  split at hp1
  · rename_i k hk
    exact ⟨k, tru_v r1 hk, post_flat hp1 w1 ⟨rfl, rfl⟩⟩
  · exact hp1.elim
theorem vt_cmp {o : CmpOp} {r : R2} {op : D → D → R D} (ho : OpR X (compareOp o) r) (hv : OpV X.K X.mg r op) (ha : VE X W a ma) (hb : VE X W b mb) (hm : behindInMarks o b = false := by first | rfl | exact nomark _) :
    VT X W (.Compare a [o] [b] pos) (fun env => ((ma env).bind fun x => (mb env).bind fun y => op x y).bind asB) :=
  PT.to (pt_cmpR ho ha hb hm) fun σ H Q h => tOp_of hv (tT_asB h)
theorem Rep.flat_nil {H : Hp} {F : Fz} {v : V} {d : D} {us : List Addr} (r : Rep K H F v d us) (h : isFlat d = true) : us = [] := by
  cases r <;> first | rfl | (simp [isFlat] at h)
def chain2 (op' : D → D → R D) (mc : R D) (b k : D) : R D := match k with
  | .bl true => mc.bind fun c => op' b c
  | .bl false => .ok (.bl false)
  | _ => .bad
def chainD (op op' : D → D → R D) (mc : R D) (a b : D) : R D := if isFlat b then (op a b).bind (chain2 op' mc b) else .bad
theorem tChain_of {r r' : R2} {op op' : D → D → R D} {σ : L2.St} {H : Hp} {Q : VK} (hv : OpV X.K X.mg r op) (hv' : OpV X.K X.mg r' op')
    (h : tT X.K X.mg W (RpV X.K) (fun env => (ma env).bind fun x => (mb env).bind fun y => chainD op op' (mc env) x y) σ H Q) :
    tChain r r' (tT X.K X.mg W (RpV X.K) ma) (tT X.K X.mg W (RpV X.K) mb) (tT X.K X.mg W (RpV X.K) mc) σ H Q := by
  refine tT_first h fun F env d v H1 F1 us1 he s1 g1 w1 r1 n1 f1 hp1 => ?_
  have nn : ∀ a ∈ us1, H1 a ≠ none := fun a ha z => by obtain ⟨o, q, _⟩ := r1.there a ha; rw [z] at q; cases q
  refine post_next he w1 (fun a ha => ⟨(f1 a ha).1, nn a ha⟩) hp1 fun d2 v2 H2 F2 us2 he2 s2 g2 w2 r2 n2 f2 q2 hp2 => ?_
  unfold chainD at hp2
  split at hp2
  · rename_i hf
    have e2 := r2.flat_nil hf
    subst e2
    rw [List.append_nil] at hp2
    refine hv H2 F2 us1 us1 [] d d2 v v2 _ (wX W σ) w2 (r1.same s2 g2) r2 (by simp) n1 q2 (post_bind hp2 fun k v3 H3 F3 us3 e3 s3 g3 w3 r3 n3 f3 hp3 => ?_)
    unfold chain2 at hp3
    split at hp3
    · cases r3
      refine ⟨true, rfl, ?_⟩
      rw [if_pos rfl]
      have hp3' := post_later (us1 := []) hp3 s3 ⟨g3.sub, g3.new⟩ (fun _ z => nomatch z)
      refine post_next (u := []) (he2.same s3 g3.sub) w3 (fun _ z => nomatch z) hp3' fun d4 v4 H4 F4 us4 he4 s4 g4 w4 r4 n4 f4 q4 hp4 => ?_
      exact hv' H4 F4 us4 [] us4 d2 d4 v2 v4 Q _ w4 ((r2.same s3 g3.sub).same s4 g4) r4 rfl n4 (fun a ha => (f4 a ha).1) hp4
    · cases r3
      refine ⟨false, rfl, ?_⟩
      rw [if_neg Bool.false_ne_true]
      exact hp3 _ H3 F3 [] s3 g3 w3 (.bl false) (by simp) (fun _ z => nomatch z)
    · exact hp3.elim
  · exact hp2.elim
theorem ve_chain {o o' : CmpOp} {r r' : R2} {op op' : D → D → R D} (ho : OpR X (compareOp o) r) (hv : OpV X.K X.mg r op) (ho' : OpR X (compareOp o') r') (hv' : OpV X.K X.mg r' op') (ha : VE X W a ma) (hb : VE X W b mb) (hc : VE X W c mc)
    (hm : lastMarks [o, o'] [b, c] = false := by with_unfolding_all rfl) : VE X W (.Compare a [o, o'] [b, c] pos) (fun env => (ma env).bind fun x => (mb env).bind fun y => chainD op op' (mc env) x y) :=
  PE.to (pe_chain ho ho' ha hb hc hm) fun σ H Q h => tChain_of hv hv' h
theorem vt_chain {o o' : CmpOp} {r r' : R2} {op op' : D → D → R D} (ho : OpR X (compareOp o) r) (hv : OpV X.K X.mg r op) (ho' : OpR X (compareOp o') r') (hv' : OpV X.K X.mg r' op') (ha : VE X W a ma) (hb : VE X W b mb) (hc : VE X W c mc)
    (hm : lastMarks [o, o'] [b, c] = false := by with_unfolding_all rfl) : VT X W (.Compare a [o, o'] [b, c] pos) (fun env => ((ma env).bind fun x => (mb env).bind fun y => chainD op op' (mc env) x y).bind asB) :=
  PT.to (pt_chain ho ho' ha hb hc hm) fun σ H Q h => tChain_of hv hv' (tT_asB h)

variable {ta tb : Env → R Bool} {rest : List Expr}
theorem vw_and1 (h : VT X W a ta) : VW X W (.BoolOp .And [a] pos) ta := pw_and1 h
theorem vw_or1 (h : VT X W a ta) : VW X W (.BoolOp .Or [a] pos) ta := pw_or1 h
theorem vw_and (ha : VT X W a ta) (hb : VW X W (.BoolOp .And (b :: rest) pos) tb) : VW X W (.BoolOp .And (a :: b :: rest) pos) (fun env => (ta env).bind fun c => if c = true then tb env else .ok false) := by
  refine PW.to (pw_and ha hb) fun σ H Q h => ?_
  refine tT_first h fun F env d v H1 F1 us1 he s1 g1 w1 r1 n1 f1 hp1 => ?_
  obtain ⟨rfl, rfl⟩ := r1
  cases v with
  | true =>
    rw [if_pos rfl] at hp1 ⊢
    exact ⟨F1, env, he, w1, hp1⟩
  | false =>
    rw [if_neg Bool.false_ne_true] at hp1 ⊢
    exact post_flat hp1 w1 ⟨rfl, rfl⟩
theorem vw_or (ha : VT X W a ta) (hb : VW X W (.BoolOp .Or (b :: rest) pos) tb) : VW X W (.BoolOp .Or (a :: b :: rest) pos) (fun env => (ta env).bind fun c => if c = true then .ok true else tb env) := by
  refine PW.to (pw_or ha hb) fun σ H Q h => ?_
  refine tT_first h fun F env d v H1 F1 us1 he s1 g1 w1 r1 n1 f1 hp1 => ?_
  obtain ⟨rfl, rfl⟩ := r1
  cases v with
  | true =>
    rw [if_pos rfl] at hp1 ⊢
    exact post_flat hp1 w1 ⟨rfl, rfl⟩
  | false =>
    rw [if_neg Bool.false_ne_true] at hp1 ⊢
    exact ⟨F1, env, he, w1, hp1⟩
theorem VW.vt {m : Env → R Bool} (h : VW X W e m) : VT X W e m := PW.pt h
theorem vt_not (ha : VT X W a ta) : VT X W (.UnaryOp .Not a pos) (fun env => (ta env).bind fun c => .ok (!c)) := by
  refine PT.to (pt_not ha) fun σ H Q h => ?_
  refine tT_first h fun F env d v H1 F1 us1 he s1 g1 w1 r1 n1 f1 hp1 => ?_
  obtain ⟨rfl, rfl⟩ := r1
  exact post_flat hp1 w1 ⟨rfl, rfl⟩
theorem ve_one {o} (h : VE X W a ma) : VE X W (.BoolOp o [a] pos) ma := pe_one h
theorem ve_and (ha : VE X W a ma) (hb : VE X W (.BoolOp .And (b :: rest) pos) mb) : VE X W (.BoolOp .And (a :: b :: rest) pos) (fun env => (ma env).bind fun x => (truB x).bind fun k => if k = true then mb env else .ok x) := by
  refine PE.to (pe_andT ha hb) fun σ H Q h => ?_
  refine tT_first h fun F env d v H1 F1 us1 he s1 g1 w1 r1 n1 f1 hp1 => ?_
  unfold truB at hp1
  split at hp1
  · rename_i k hk
    refine ⟨k, tru_v r1 hk, ?_⟩
    cases k with
    | true =>
      rw [R.bind_ok, if_pos rfl] at hp1
      rw [if_pos rfl]
      exact ⟨F1, env, he, w1, post_later hp1 (Same.refl _) Grow.refl (fun _ z => nomatch z)⟩
    | false =>
      rw [R.bind_ok, if_neg Bool.false_ne_true] at hp1
      rw [if_neg Bool.false_ne_true]
      exact post_here hp1 w1 r1 n1 fun a ha => ⟨(f1 a ha).1, ha⟩
  · exact hp1.elim
theorem ve_or (ha : VE X W a ma) (hb : VE X W (.BoolOp .Or (b :: rest) pos) mb) : VE X W (.BoolOp .Or (a :: b :: rest) pos) (fun env => (ma env).bind fun x => (truB x).bind fun k => if k = true then .ok x else mb env) := by
  refine PE.to (pe_orT ha hb) fun σ H Q h => ?_
  refine tT_first h fun F env d v H1 F1 us1 he s1 g1 w1 r1 n1 f1 hp1 => ?_
  unfold truB at hp1
  split at hp1
  · rename_i k hk
    refine ⟨k, tru_v r1 hk, ?_⟩
    cases k with
    | false =>
      rw [R.bind_ok, if_neg Bool.false_ne_true] at hp1
      rw [if_neg Bool.false_ne_true]
      exact ⟨F1, env, he, w1, post_later hp1 (Same.refl _) Grow.refl (fun _ z => nomatch z)⟩
    | true =>
      rw [R.bind_ok, if_pos rfl] at hp1
      rw [if_pos rfl]
      exact post_here hp1 w1 r1 n1 fun a ha => ⟨(f1 a ha).1, ha⟩
  · exact hp1.elim
theorem ve_not (ha : VE X W a ma) : VE X W (.UnaryOp .Not a pos) (fun env => (ma env).bind fun x => (truB x).bind fun k => .ok (.bl (!k))) := by
  refine PE.to (pe_notT ha) fun σ H Q h => ?_
  refine tT_first h fun F env d v H1 F1 us1 he s1 g1 w1 r1 n1 f1 hp1 => ?_
  unfold truB at hp1
  split at hp1
  · rename_i k hk
    exact ⟨k, tru_v r1 hk, post_flat hp1 w1 (.bl _)⟩
  · exact hp1.elim
theorem ve_ifExp (hc : VT X W c ta) (ha : VE X W a ma) (hb : VE X W b mb) : VE X W (.IfExp c a b pos) (fun env => (ta env).bind fun k => if k = true then ma env else mb env) := by
  refine PE.to (pe_ifExp hc ha hb) fun σ H Q h => ?_
  refine tT_first h fun F env d v H1 F1 us1 he s1 g1 w1 r1 n1 f1 hp1 => ?_
  obtain ⟨rfl, rfl⟩ := r1
  cases v with
  | true =>
    rw [if_pos rfl] at hp1 ⊢
    exact ⟨F1, env, he, w1, hp1⟩
  | false =>
    rw [if_neg Bool.false_ne_true] at hp1 ⊢
    exact ⟨F1, env, he, w1, hp1⟩

inductive Ty where | int | bool | str | list | tuple | dict
def Ty.name : Ty → String
  | .int => "int" | .bool => "bool" | .str => "str" | .list => "list" | .tuple => "tuple" | .dict => "dict"
def isD' : Ty → D → Bool
  | .int, .int _ => true | .int, .bl _ => true | .bool, .bl _ => true | .str, .str _ => true | .list, .lst _ _ => true | .tuple, .tup _ => true | .dict, .dct _ _ => true
  | _, _ => false
inductive Kd where | non | bl | int | str | lst | tup | dct | exn
def D.kd : D → Kd
  | .non => .non | .bl _ => .bl | .int _ => .int | .str _ => .str | .lst _ _ => .lst | .tup _ => .tup | .dct _ _ => .dct | .exn _ _ => .exn
def Kd.name : Kd → String
  | .non => "NoneType" | .bl => "bool" | .int => "int" | .str => "str" | .lst => "list" | .tup => "tuple" | .dct => "dict" | .exn => "NoneType"
def isK : Ty → Kd → Bool
  | .int, .int => true | .int, .bl => true | .bool, .bl => true | .str, .str => true | .list, .lst => true | .tuple, .tup => true | .dict, .dct => true
  | _, _ => false
abbrev tyD (d : D) : String := d.kd.name
theorem kit_K (t : Ty) (k : Kd) : kitB k.name t.name = some (isK t k) := by
  cases t <;> cases k <;> decide +kernel
theorem isD_K (t : Ty) (d : D) : isK t d.kd = isD' t d := by
  cases t <;> cases d <;> rfl
theorem kit_D (t : Ty) (d : D) : kitB (tyD d) t.name = some (isD' t d) := by rw [← isD_K]; exact kit_K t d.kd
def isExn : D → Bool
  | .exn _ _ => true
  | _ => false
theorem Rep.ty {H : Hp} {F : Fz} {v : V} {d : D} {us : List Addr} (r : Rep K H F v d us) (ne : isExn d = false) : TyX K H v (.type (tyD d)) := by
  cases r with
  | exn e l => cases ne
  | non => exact .base .non
  | bl b => exact .base (.bl b)
  | int i => exact .base (.int i)
  | str s hs => exact .base (.str s)
  | lstO e l => exact .base (.lst e)
  | lstF e l =>
    rcases e with ⟨_, e⟩ | ⟨o, e⟩ | ⟨o, _, _, e, c, _⟩
    · exact .base (.lst e)
    · exact .base (.frz e)
    · exact .kList e c
  | tup e l =>
    rcases e with (e | ⟨o, e⟩) | ⟨o, its, n, e, c, _⟩
    · exact .base (.tup e)
    · exact .fTuple e
    · exact .kTuple e c
  | dctO e l => exact .base (.dK e)
  | dctF e l =>
    rcases e with ⟨_, e⟩ | ⟨o, e⟩
    · exact .base (.dK e)
    · exact .fDict e
theorem ve_isinst (t : Ty) {y : Str} {p1 p2 : Pos} (hg : Gl X "isinstance" := by rfl) (hm : X.mg "isinstance" = none) (hg2 : Gl X y := by rfl) (hm2 : X.mg y = none) (hb : bootBuiltins y = some (.type t.name) := by decide +kernel) (ha : VE X W a ma)
    (hy : y ≠ "__name__" := by decide) (hy2 : (y == ("__debug__" : Str)) = false := by decide)
    (hs : starEach [a, .Name y p2] X.env = (false, eval a X.env) :: starEach [.Name y p2] X.env := by rfl) (hs2 : starEach [.Name y p2] X.env = (false, eval (.Name y p2) X.env) :: starEach [] X.env := by rfl) (hpl : (backTo pos (starEach [.Name y p2] X.env)).any (·.1) = false := by rfl) :
    VE X W (.Call (.Name "isinstance" p1) [a, .Name y p2] [] pos) (fun env => (ma env).bind fun d => if isExn d = true then .bad else .ok (.bl (isD' t d))) := by
  refine PE.to (pe_callB call_isi hg hm (by decide +kernel) (pa_cons ha (pa_cons (pe_bltn hg2 hm2 hb (show L2.RelV (.ty t.name) (.type t.name) from rfl) hy hy2) pa_nil hs2) hs) (by decide) (by decide) hs hpl) fun σ H Q h => ?_
  refine tT_first h fun F env d v H1 F1 us1 he s1 g1 w1 r1 n1 f1 hp1 => ?_
  split at hp1
  · exact hp1.elim
  · rename_i ne
    exact ⟨v, .ty t.name, _, _, _, rfl, .ty _, r1.ty (by simpa using ne), kit_ty (kit_D t d), post_flat hp1 w1 (.bl _)⟩

def CallV (K : Frag) (mg : Str → Option Value) (r : List V → Hp → VK → Prop) (op : List D → R D) : Prop :=
  ∀ (H : Hp) (F : Fz) (us : List Addr) (ds : List D) (vs : List V) (Q : VK) (E : Option XK), Wf F H → RepL K H F vs ds us → us.Nodup → (∀ a ∈ us, ¬ F a) → Post K mg (RpV K) H F us (op ds) Q E → r vs H Q
theorem ve_callB {r : List V → Hp → VK → Prop} {op : List D → R D} {x : Str} {id : String} {es : List Expr} {ms : Env → R (List D)} {p : Pos} (hc : CallR X (.builtin id) r) (hv : CallV X.K X.mg r op) (hm : X.mg x = none) (hb : bootBuiltins x = some (.builtin id)) (ha : VA X W (e :: es) ms)
    (hg : Gl X x := by rfl) (hn : x ≠ "__name__" := by decide) (hdb : (x == ("__debug__" : Str)) = false := by decide)
    (he : starEach (e :: es) X.env = (false, eval e X.env) :: starEach es X.env := by rfl) (hpl : (backTo pos (starEach es X.env)).any (·.1) = false := by rfl) : VE X W (.Call (.Name x p) (e :: es) [] pos) (fun env => (ms env).bind op) := by
  refine PE.to (pe_callB hc hg hm hb ha hn hdb he hpl) fun σ H Q h => ?_
  refine tT_first h fun F env d v H1 F1 us1 he s1 g1 w1 r1 n1 f1 hp1 => ?_
  exact hv H1 F1 us1 d v Q _ w1 r1 n1 (fun a ha => (f1 a ha).1) hp1
theorem ve_callTy {r : List V → Hp → VK → Prop} {op : List D → R D} {x : Str} {id : String} {es : List Expr} {ms : Env → R (List D)} {p : Pos} (hc : CallR X (.type id) r) (hv : CallV X.K X.mg r op) (hm : X.mg x = none) (hb : bootBuiltins x = some (.type id)) (ha : VA X W (e :: es) ms)
    (hg : Gl X x := by rfl) (hn : x ≠ "__name__" := by decide) (hdb : (x == ("__debug__" : Str)) = false := by decide)
    (he : starEach (e :: es) X.env = (false, eval e X.env) :: starEach es X.env := by rfl) (hpl : (backTo pos (starEach es X.env)).any (·.1) = false := by rfl) : VE X W (.Call (.Name x p) (e :: es) [] pos) (fun env => (ms env).bind op) := by
  refine PE.to (pe_callTy hc hg hm hb ha hn hdb he hpl) fun σ H Q h => ?_
  refine tT_first h fun F env d v H1 F1 us1 he s1 g1 w1 r1 n1 f1 hp1 => ?_
  exact hv H1 F1 us1 d v Q _ w1 r1 n1 (fun a ha => (f1 a ha).1) hp1
/-- one argument -/
theorem RepL.one {H : Hp} {F : Fz} {vs : List V} {d : D} {us : List Addr} (r : RepL K H F vs [d] us) : ∃ v, vs = [v] ∧ Rep K H F v d us := by
  cases r with
  | cons a l => cases l; exact ⟨_, rfl, by simpa using a⟩
theorem RepL.two {H : Hp} {F : Fz} {vs : List V} {d e : D} {us : List Addr} (r : RepL K H F vs [d, e] us) : ∃ v w u1 u2, vs = [v, w] ∧ us = u1 ++ u2 ∧ Rep K H F v d u1 ∧ Rep K H F w e u2 := by
  cases r with
  | cons a l => obtain ⟨w, rfl, r2⟩ := l.one; exact ⟨_, _, _, _, rfl, rfl, a, r2⟩

def lenD : List D → R D
  | [.lst _ ds] => .ok (.int ds.length) | [.tup ds] => .ok (.int ds.length) | [.str s] => .ok (.int s.length) | [.dct _ ds] => .ok (.int ds.length)
  | _ => .bad
def rLenA (K : Frag) : List V → Hp → VK → Prop := fun xs H Q => (∃ x n, xs = [x] ∧ LenV K x H n ∧ Q (.int n) H) ∨ ∃ a kvs, xs = [.ref a] ∧ Rd H a (.dK kvs) ∧ Q (.int kvs.length) H
theorem call_lenDict : CallR X (.builtin "len") (fun xs H Q => ∃ a kvs, xs = [.ref a] ∧ Rd H a (.dK kvs) ∧ Q (.int kvs.length) H) := by
  intro pins s σ H xs us Q I r h
  obtain ⟨a, kvs, rfl, g, q⟩ := h
  obtain ⟨u, rfl, ru⟩ := vals1 r
  cases (show u = Value.ref a from ru)
  exact d_len I g fun t s' I' => ⟨.int _, H, I', ⟨_, rfl⟩, q⟩
theorem call_lenA : CallR X (.builtin "len") (rLenA X.K) := call_len.or call_lenDict
theorem len_v : CallV K mg (rLenA K) lenD := by
  intro H F us ds vs Q E wf r n f hp
  unfold lenD at hp
  split at hp
  · obtain ⟨v, rfl, r'⟩ := r.one
    obtain ⟨a, xs, u', rfl, h1, r1, l1⟩ := r'.lst_inv
    exact .inl ⟨_, _, rfl, .inl ⟨xs, h1, r1.length.symm⟩, post_flat hp wf (.int _)⟩
  · obtain ⟨v, rfl, r'⟩ := r.one
    obtain ⟨a, xs, rfl, h1, r1⟩ := r'.tup_inv
    exact .inl ⟨_, _, rfl, .inr ⟨xs, h1, r1.length.symm⟩, post_flat hp wf (.int _)⟩
  · obtain ⟨v, rfl, r'⟩ := r.one
    cases r' with
    | str s hs => exact .inl ⟨_, _, rfl, ⟨hs.1, rfl⟩, post_flat hp wf (.int _)⟩
  · obtain ⟨v, rfl, r'⟩ := r.one
    obtain ⟨a, xs, u', rfl, h1, r1, l1⟩ := r'.dct_inv
    rw [← r1.length] at hp
    exact .inr ⟨_, _, rfl, h1, post_flat hp wf (.int _)⟩
  · exact hp.elim
def listD : List D → R D
  | [.lst _ ds] => .ok (.lst true ds) | [.tup ds] => .ok (.lst true ds)
  | _ => .bad
theorem list_v : CallV K mg (fun xs H Q => ∃ p ys, xs = [.ref p] ∧ (SqL K H p ys ∨ SqT K H p ys) ∧ ∀ l, H l = none → Q (.ref l) (upd H l (.lst ys))) listD := by
  intro H F us ds vs Q E wf r n f hp
  unfold listD at hp
  split at hp
  · obtain ⟨v, rfl, r'⟩ := r.one
    obtain ⟨a, xs, u', rfl, h1, r1, l1⟩ := r'.lst_inv
    exact ⟨_, _, rfl, .inl h1, fun p hn => post_newL hp wf r1 (l1.nod n) (fr f l1) hn⟩
  · obtain ⟨v, rfl, r'⟩ := r.one
    obtain ⟨a, xs, rfl, h1, r1⟩ := r'.tup_inv
    exact ⟨_, _, rfl, .inr h1, fun p hn => post_newL hp wf r1 n (fr f .refl) hn⟩
  · exact hp.elim
def tupleD : List D → R D
  | [.lst _ ds] => .ok (.tup ds) | [.tup ds] => .ok (.tup ds)
  | _ => .bad
theorem tuple_v : CallV K mg (fun xs H Q => ∃ p ys, xs = [.ref p] ∧ ((SqL K H p ys ∧ ∀ l, H l = none → Q (.ref l) (upd H l (.tup ys))) ∨ (SqT K H p ys ∧ Q (.ref p) H))) tupleD := by
  intro H F us ds vs Q E wf r n f hp
  unfold tupleD at hp
  split at hp
  · obtain ⟨v, rfl, r'⟩ := r.one
    obtain ⟨a, xs, u', rfl, h1, r1, l1⟩ := r'.lst_inv
    exact ⟨_, _, rfl, .inl ⟨h1, fun p hn => post_newT hp wf r1 (l1.nod n) (fr f l1) hn⟩⟩
  · obtain ⟨v, rfl, r'⟩ := r.one
    obtain ⟨a, xs, rfl, h1, r1⟩ := id r'.tup_inv
    exact ⟨_, _, rfl, .inr ⟨h1, post_here hp wf r' n (fr f .refl)⟩⟩
  · exact hp.elim
/-- the truths of a list -/
def blsOf : List D → Option (List Bool)
  | [] => some []
  | .bl b :: ds => (blsOf ds).map (b :: ·)
  | _ :: _ => none
def anyD : List D → R D
  | [.lst _ ds] => match blsOf ds with
    | some bs => .ok (.bl (bs.any id))
    | none => .bad
  | _ => .bad
def allD : List D → R D
  | [.lst _ ds] => match blsOf ds with
    | some bs => .ok (.bl (bs.all id))
    | none => .bad
  | _ => .bad
theorem RepL.bls {H : Hp} {F : Fz} : ∀ {ds : List D} {vs : List V} {us : List Addr} {bs : List Bool}, RepL K H F vs ds us → blsOf ds = some bs → vs = bs.map V.bl
  | [], _, _, _, r, h => by cases r; cases h; rfl
  | .bl b :: ds, _, _, _, .cons a l, h => by
    unfold blsOf at h
    obtain ⟨bs', h1, rfl⟩ := Option.map_eq_some_iff.mp h
    cases a
    rw [l.bls h1]; rfl
  | .non :: _, _, _, _, _, h => by simp [blsOf] at h
  | .int _ :: _, _, _, _, _, h => by simp [blsOf] at h
  | .str _ :: _, _, _, _, _, h => by simp [blsOf] at h
  | .lst _ _ :: _, _, _, _, _, h => by simp [blsOf] at h
  | .tup _ :: _, _, _, _, _, h => by simp [blsOf] at h
  | .dct _ _ :: _, _, _, _, _, h => by simp [blsOf] at h
theorem any_v : CallV K mg (rAny K) anyD := by
  intro H F us ds vs Q E wf r n f hp
  unfold anyD at hp
  split at hp
  · split at hp
    · rename_i bs hb
      obtain ⟨v, rfl, r'⟩ := r.one
      obtain ⟨a, xs, u', rfl, h1, r1, l1⟩ := r'.lst_inv
      exact ⟨_, bs, rfl, r1.bls hb ▸ h1, post_flat hp wf (.bl _)⟩
    · exact hp.elim
  · exact hp.elim
theorem all_v : CallV K mg (rAll K) allD := by
  intro H F us ds vs Q E wf r n f hp
  unfold allD at hp
  split at hp
  · split at hp
    · rename_i bs hb
      obtain ⟨v, rfl, r'⟩ := r.one
      obtain ⟨a, xs, u', rfl, h1, r1, l1⟩ := r'.lst_inv
      exact ⟨_, bs, rfl, r1.bls hb ▸ h1, post_flat hp wf (.bl _)⟩
    · exact hp.elim
  · exact hp.elim
def minD : List D → R D
  | [.int i, .int j] => .ok (.int (if j < i then j else i))
  | _ => .bad
def maxD : List D → R D
  | [.int i, .int j] => .ok (.int (if j > i then j else i))
  | _ => .bad
def absD : List D → R D
  | [.int i] => .ok (.int (if i < 0 then -i else i))
  | _ => .bad
theorem min_v : CallV K mg (fun xs H Q => ∃ i j, xs = [.int i, .int j] ∧ Q (.int (if j < i then j else i)) H) minD := by
  intro H F us ds vs Q E wf r n f hp
  unfold minD at hp
  split at hp
  · obtain ⟨v, w, u1, u2, rfl, rfl, a, b⟩ := r.two
    cases a; cases b
    exact ⟨_, _, rfl, post_flat hp wf (.int _)⟩
  · exact hp.elim
theorem max_v : CallV K mg (fun xs H Q => ∃ i j, xs = [.int i, .int j] ∧ Q (.int (if j > i then j else i)) H) maxD := by
  intro H F us ds vs Q E wf r n f hp
  unfold maxD at hp
  split at hp
  · obtain ⟨v, w, u1, u2, rfl, rfl, a, b⟩ := r.two
    cases a; cases b
    exact ⟨_, _, rfl, post_flat hp wf (.int _)⟩
  · exact hp.elim
theorem abs_v : CallV K mg (fun xs H Q => ∃ i, xs = [.int i] ∧ Q (.int (if i < 0 then -i else i)) H) absD := by
  intro H F us ds vs Q E wf r n f hp
  unfold absD at hp
  split at hp
  · obtain ⟨v, rfl, a⟩ := r.one
    cases a
    exact ⟨_, rfl, post_flat hp wf (.int _)⟩
  · exact hp.elim
end
end VL
end

section
set_option Elab.async false
set_option linter.all false
set_option maxRecDepth 100000
set_option maxHeartbeats 2000000
namespace VL
open PySem PySem.W PySem.Spec PyProof.Rows L2
open AutoSeq1 (wpAny_loadPart')
theorem meets_enumerate_newT (l : Addr) (items : Array Value) (o : Obj) :
    Meets (Builtin.«enumerate.__new__» ⟨[.type "enumerate", .ref l], []⟩) (fun _ R s => s.heap.get? l = some o ∧ s.heap.IsTuple l items ∧
      R (.ok (.ret (.ref (s.heap.push { cls := .type "tuple_iterator", data := .fields #[.ref l, .int 0 0] }).objs.size)))
        { s with heap := (s.heap.push { cls := .type "tuple_iterator", data := .fields #[.ref l, .int 0 0] }).push { cls := .type "enumerate", data := .fields #[.none, .bool false, .ref s.heap.objs.size, rawInt 0, .none, .none] } }) :=
  .of_wp fun prog w A R s h => by
    obtain ⟨hp, g, d, tk, os⟩ := s; obtain ⟨hl, hT, h⟩ := h
    have hsub := sub_enumerate
    have hL : Heap.IsTuple (Shared.heap ⟨hp, g, d, tk, os⟩) l items := hT
    wp_walk using wpAny_loadPart' hl
    refine wpAny_stack_any fun st => wpAny_pure ?_
    split
    · rename_i c _ _ _ _ _
      cases (c == Value.type "enumerate")
      · wp_walk using wpAny_loadPart' hl, wpAny_pyIter_tuple hL
        exact ⟨_, rfl, h⟩
      · wp_walk using wpAny_loadPart' hl, wpAny_pyIter_tuple hL
        exact ⟨_, rfl, h⟩
    · wp_walk using wpAny_loadPart' hl, wpAny_pyIter_tuple hL
      exact ⟨_, rfl, h⟩
section
variable {prog : Program} {w : World} {A : Around} {E : Value → Shared → Prop} {s : Shared}
theorem call_enumerate_tuple {l : Addr} {items : Array Value} {Q : Value → Shared → Prop} (hL : s.heap.IsTuple l items)
    (h : ∀ h', IsEnum h' (s.heap.objs.size + 1) s.heap.objs.size 0 .none → h'.IsTupleIter s.heap.objs.size l 0 → h'.objs.size = s.heap.objs.size + 2 →
      (∀ b o, s.heap.get? b = some o → h'.get? b = some o) → Q (.ref (s.heap.objs.size + 1)) { s with heap := h' }) :
    wpAny (model prog w) A (call (.type "enumerate") [.ref l]) Q E s := by
  obtain ⟨o, hl, hr⟩ := id hL
  refine callType_new F.called_enumerate (by decide) (F.typeCall_enumerate_1 _) (F.newCall_enumerate_1 _) (fun obj => F.args_object_init_2 obj _) F.entry_enumerate_new
    (meets_enumerate_newT l items o) ⟨hl, hL, ?_⟩
  have hz : (s.heap.push { cls := .type "tuple_iterator", data := .fields #[.ref l, .int 0 0] }).objs.size = s.heap.objs.size + 1 := Heap.size_push ..
  show _ ∧ _
  rw [hz]
  have he : IsEnum ((s.heap.push { cls := .type "tuple_iterator", data := .fields #[.ref l, .int 0 0] }).push
      { cls := .type "enumerate", data := .fields #[.none, .bool false, .ref s.heap.objs.size, rawInt 0, .none, .none] }) (s.heap.objs.size + 1) s.heap.objs.size 0 .none := by
    have := Heap.get?_push_size (s.heap.push { cls := .type "tuple_iterator", data := .fields #[.ref l, .int 0 0] })
      (o := { cls := .type "enumerate", data := .fields #[.none, .bool false, .ref s.heap.objs.size, rawInt 0, .none, .none] }) rfl
    rw [hz] at this; exact this
  refine ⟨⟨_, he, rfl⟩, h _ he ⟨_, Heap.get?_push_of_some _ (Heap.get?_push_size _ rfl), rfl, rfl⟩ (by rw [Heap.size_push, hz]) fun b o x => Heap.get?_push_of_some _ (Heap.get?_push_of_some _ x)⟩
/-- a tuple's iterator, as one that draws -/
theorem draws_tuple (hh : A.handled = none) (it t : Addr) (hne : t ≠ it) (items : Array Value) : Draws prog w A it [it, t] items.size (fun i v => items[i]? = some v) (fun i h => h.IsTupleIter it t i ∧ h.IsTuple t items) where
  live := fun i h st => by obtain ⟨⟨o, ho, _⟩, _⟩ := st; exact ⟨o, ho⟩
  frame := fun i h h' st k => by
    obtain ⟨⟨o, ho, r⟩, ⟨o2, ho2, r2⟩⟩ := st
    exact ⟨⟨o, k it (by simp) o ho, r⟩, ⟨o2, k t (by simp) o2 ho2, r2⟩⟩
  item := fun i s Q E hi st hQ => by
    obtain ⟨h1, h2⟩ := st
    refine RZ.nextOf_tuple_item h1 h2 (Array.getElem?_eq_getElem hi) fun h' a b => ?_
    refine hQ _ h' s.toks (Array.getElem?_eq_getElem hi) ⟨a, ?_⟩ b
    obtain ⟨o2, ho2, r2⟩ := h2
    exact ⟨o2, (b.2 t hne).trans ho2, r2⟩
  done := fun s Q E st hE => RZ.nextOf_tuple_end hh st.1 st.2 (by simp) hE
end
/-- the tuple at a as it stands at each turn, each item in a new pair -/
def IteT (K : PySem.W.Frag) (a : Addr) : It :=
  ⟨fun i H => ∃ (xs : List V) (x : V), SqT K H a xs ∧ xs[i]? = some x, fun i H v H' => ∃ T x, v = .ref T ∧ H T = none ∧ H' = upd H T (.tup [.int (i : Nat), x]) ∧ ∀ xs, SqT K H a xs → xs[i]? = some x, fun i H => ∃ xs : List V, SqT K H a xs ∧ xs.length ≤ i⟩
theorem turn_enumT {P : Program} {w : World} {K : PySem.W.Frag} {elts : List Expr} {kk : Nat} {tpos : Pos} (a e it : Addr) (hai : a ≠ it) (hae : a ≠ e) :
    Turn P w K (.Tuple elts kk tpos) (IteT K a) [e, it] e (fun i h => (∃ old, IsEnum h e it ((i : Nat) : Int) old) ∧ h.IsTupleIter it a i ∧ e ≠ it) where
  mem := by simp
  obj := fun i h st b hb => by
    obtain ⟨⟨old, he⟩, ⟨o, ho, hc, hd⟩, _⟩ := st
    have e' : b = e ∨ b = it := by simpa using hb
    rcases e' with z | z
    · rw [z]; exact ⟨_, he, fun v q => nomatch q⟩
    · rw [z]; exact ⟨o, ho, fun v q => by rw [hd] at q; cases q⟩
  keep := fun i h h' st k => let ⟨⟨old, he⟩, hi, hne⟩ := st; ⟨⟨old, k e (by simp) _ he⟩, hi.at fun o q => k it (by simp) o q, hne⟩
  item := by
    intro X hP hw hK hc i pins s σ H E I hf st hg
    subst hP hw hK
    obtain ⟨⟨old, he⟩, hit, hne⟩ := st
    obtain ⟨xs, x, hq, hx⟩ := hg
    obtain ⟨its, rv, p, hz⟩ := I.tuple hq
    obtain ⟨u, hu, ru⟩ := L2.Vals.get rv hx
    have hel : e < s.heap.objs.size := Heap.lt_size he
    have hil : it < s.heap.objs.size := by obtain ⟨_, q, _⟩ := hit; exact Heap.lt_size q
    have hlt : i < its.toArray.size := by
      have := (List.getElem?_eq_some_iff.mp hu).1
      simpa using this
    refine wpAny_pyNext_enum_itemD (draws_tuple (prog := X.prog) (w := X.w) (A := X.A.in1) (show X.A.in1.handled = none from I.ok.hd hc) it a hai its.toArray) he ⟨hit, show s.heap.IsTuple a its.toArray from p⟩ hlt hne (by simp; exact ⟨hne, fun z => hae z.symm⟩) fun x' h' tk hx' ho hst hT hsz hk => ?_
    have hxu : x' = u := by
      have h1 : its.toArray[i]? = some u := by simpa using hu
      rw [h1] at hx'; exact (Option.some.inj hx').symm
    subst hxu
    refine ⟨_, rfl, wpAny_letOwnedTupleGo_enum (s := { s with heap := h', toks := tk + 1 }) ho fun h'' he' sb => ?_⟩
    have hT2 : h''.get? s.heap.objs.size = some { cls := .type "tuple", data := .seq #[.int i tk, x'] } := (sb.2 _ (Nat.ne_of_gt hel)).trans hT
    have new : ObjOk X.prog X.w (upd H s.heap.objs.size (.tup [.int (i : Nat), x])) h'' s.heap.objs.size (.tup [.int (i : Nat), x]) :=
      ⟨by show 2 ≤ sizeLine; decide, [.int i tk, x'], .cons ⟨_, rfl⟩ (.cons ru .nil), ⟨_, hT2, rfl, _, rfl⟩⟩
    have I1 : Inv X pins σ (upd H s.heap.objs.size (.tup [.int (i : Nat), x])) { s with heap := h'', toks := tk + 1 } :=
      I.turnedNew (ch := [e, it]) (fun b ob hb q => (sb.2 b (fun z => hb (by simp [z]))).trans (hk b ob (fun z => hb (by simp [z])) (fun z => hb (by simp [z])) q)) hf (Nat.le_refl _) new
    refine ⟨.ref s.heap.objs.size, _, I1, rfl, ⟨_, x, rfl, I.hok.fresh (Nat.le_refl _), rfl, fun ys hy => by rw [I.tuple_inj hy hq]; exact hx⟩, ⟨⟨x', ?_⟩, hst.1.at fun o q => (sb.2 it (Ne.symm hne)).trans q, hne⟩, fun b hb => ?_⟩
    · have e1 : ((i + 1 : Nat) : Int) = (i : Int) + 1 := by omega
      rw [e1]; exact he'
    · have hb' : b < s.heap.objs.size := by
        have e' : b = e ∨ b = it := by simpa using hb
        rcases e' with z | z
        · rw [z]; exact hel
        · rw [z]; exact hil
      rw [upd_ne (Nat.ne_of_lt hb')]
      exact (hf b hb).1
  done := by
    intro X hP hw hK hc i pins s σ H E I hf st hg
    subst hP hw hK
    obtain ⟨⟨old, he⟩, hit, hne⟩ := st
    obtain ⟨xs, hq, hx⟩ := hg
    obtain ⟨its, rv, p, hz⟩ := I.tuple hq
    obtain ⟨f0, f1, f2, f3, f4, f5⟩ := hf it (by simp)
    have hl := rv.length
    have hT : s.TypeIs (.ref e) "enumerate" := ⟨_, he, rfl⟩
    unfold pyNext
    refine wpAny_bind (wpAny_attempt (wpAny_callSpecial?_slot (name := Str.ofString "__next__") hT F.slot_enumerate_next
      (wpAny_call_entry F.slot_enumerate_next hT F.entry_enumerate_next ?_ (F.args_enumerate_next_1 _))))
    show wpAny _ _ (field (.ref e) 2 >>= _) _ _ _
    refine wpAny_bind (wpAny_field he rfl (x := .ref it) rfl ?_)
    refine wpAny_bind (RZ.nextOf_tuple_end (I.ok.hd hc) hit (show s.heap.IsTuple a its.toArray from p) (by simp; omega) fun h' x eb hx' => ?_)
    obtain ⟨o, ho, hcl⟩ := hx'
    refine wpAny_bind (wpAny_isInstance (T := "StopIteration") (b := true) ⟨o, ho, hcl⟩ isSubtype_stop ?_)
    exact wpAny_pure ⟨rfl, I.turned (t' := s.toks) (fun b o hb q => eb b o hb q) f0 f1 f3 f4 f5⟩
  self := fun A i s Q E st h => let ⟨⟨_, he⟩, _⟩ := st; wpAny_pyIter_enum he h
def iEnumA (K : PySem.W.Frag) (ta : TA) : TI := fun σ H R => ta σ H fun vs H1 => ∃ a xs, vs = [.ref a] ∧ ((SqL K H1 a xs ∧ R (Ite K a) H1) ∨ (SqT K H1 a xs ∧ R (IteT K a) H1))
theorem pi_enumA {X : Cx} {e : Expr} {ta : TA} {p pos tpos : Pos} {elts : List Expr} {kk : Nat} (hg : Gl X "enumerate") (hm : X.mg "enumerate" = none) (ha : PA X [e] ta) (hs : starEach [e] X.env = [(false, eval e X.env)] := by rfl) :
    PI X (.Tuple elts kk tpos) (.Call (.Name "enumerate" p) [e] [] pos) (iEnumA X.K ta) := by
  refine ⟨fun pins s σ H R I h => ?_⟩
  refine Call_ (ld_blt I hg hm boot_enumerate (PyProof.Rows.callWith_type1 (thn (ha.run pos pins s σ H _ I h) fun us s1 ⟨vs, H1, I1, r1, q1⟩ => ?_) hs rfl))
  obtain ⟨a, xs, ex, q1⟩ := q1
  subst ex
  cases r1 with
  | cons r rr =>
    cases rr
    cases r
    have frsh : ∀ b ∈ [s1.heap.objs.size + 1, s1.heap.objs.size], FpOk X pins H1 b := fun b hb => by
      have e' : b = s1.heap.objs.size + 1 ∨ b = s1.heap.objs.size := by simpa using hb
      have hle : s1.heap.objs.size ≤ b := by
        rcases e' with z | z
        · rw [z]; exact Nat.le_add_right _ _
        · rw [z]; exact Nat.le_refl _
      exact I1.fpOk hle (I1.hok.fresh hle)
    rcases q1 with ⟨hq, q⟩ | ⟨hq, q⟩
    · obtain ⟨its, rv, p', hz⟩ := I1.list hq
      refine call_enumerate_list p'.isList fun h' he hit hsz hk => wpAny_pyIter_enum he ?_
      have I2 : Inv X pins σ H1 { s1 with heap := h' } := I1.kept (t' := s1.toks) hk
      exact ⟨s1.heap.objs.size + 1, [s1.heap.objs.size + 1, s1.heap.objs.size], _, _, H1, rfl, I2, turn_enum a (s1.heap.objs.size + 1) s1.heap.objs.size, ⟨⟨.none, he⟩, hit, Nat.succ_ne_self _⟩, frsh, q⟩
    · obtain ⟨its, rv, p', hz⟩ := I1.tuple hq
      obtain ⟨o1, ho1, _⟩ := id p'
      have hal := Heap.lt_size ho1
      refine call_enumerate_tuple (show s1.heap.IsTuple a its.toArray from p') fun h' he hit hsz hk => wpAny_pyIter_enum he ?_
      have I2 : Inv X pins σ H1 { s1 with heap := h' } := I1.kept (t' := s1.toks) hk
      exact ⟨s1.heap.objs.size + 1, [s1.heap.objs.size + 1, s1.heap.objs.size], _, _, H1, rfl, I2, turn_enumT a (s1.heap.objs.size + 1) s1.heap.objs.size (Nat.ne_of_lt hal) (Nat.ne_of_lt (Nat.lt_succ_of_lt hal)), ⟨⟨.none, he⟩, hit, Nat.succ_ne_self _⟩, frsh, q⟩
end VL
end

section
set_option Elab.async false
set_option linter.all false
set_option maxRecDepth 100000
set_option maxHeartbeats 2000000
namespace VL
open PySem PySem.W PySem.Spec PyProof.Rows L2

def SqB (K : Frag) : Bool → Hp → Addr → List V → Prop
  | false => SqL K
  | true => SqT K
def IsB : Bool → Heap → Addr → Array Value → Prop
  | false => fun h a its => h.IsList a its
  | true => fun h a its => h.IsTuple a its
def ItB : Bool → Heap → Addr → Addr → Nat → Prop
  | false => fun h it l i => h.IsListIter it l i
  | true => fun h it l i => h.IsTupleIter it l i
def mkB : Bool → Addr → Obj
  | false => fun l => { cls := .type "list_iterator", data := .fields #[.ref l, .int 0 0] }
  | true => fun l => { cls := .type "tuple_iterator", data := .fields #[.ref l, .int 0 0] }
section
variable {X : Cx} {pins : List (Addr × Obj)} {σ : L2.St} {H : Hp} {s : Shared} {a : Addr} {xs ys : List V} {h h' : Heap} {it l : Addr} {i : Nat} {its : Array Value}
theorem srcGet (k : Bool) (I : Inv X pins σ H s) (q : SqB X.K k H a xs) : ∃ its : List Value, Vals xs its ∧ IsB k s.heap a its.toArray := by
  cases k with
  | false => obtain ⟨its, r, p, _⟩ := I.list q; exact ⟨its, r, p.isList⟩
  | true => obtain ⟨its, r, p, _⟩ := I.tuple q; exact ⟨its, r, p⟩
theorem srcInj (k : Bool) (I : Inv X pins σ H s) (q : SqB X.K k H a xs) (q2 : SqB X.K k H a ys) : xs = ys := by
  cases k with
  | false => exact I.list_inj q q2
  | true => exact I.tuple_inj q q2
theorem srcLt (k : Bool) (q : IsB k h a its) : a < h.objs.size := by
  cases k with
  | false => obtain ⟨o, e, _⟩ := q; exact Heap.lt_size e
  | true => obtain ⟨o, e, _⟩ := q; exact Heap.lt_size e
theorem srcObj (k : Bool) (q : ItB k h it l i) : ∃ o, h.get? it = some o ∧ ∀ v, o.data ≠ .cell v := by
  cases k with
  | false => obtain ⟨o, e, _, d⟩ := q; exact ⟨o, e, fun v z => by rw [d] at z; cases z⟩
  | true => obtain ⟨o, e, _, d⟩ := q; exact ⟨o, e, fun v z => by rw [d] at z; cases z⟩
theorem srcAt (k : Bool) (q : ItB k h it l i) (f : ∀ o, h.get? it = some o → h'.get? it = some o) : ItB k h' it l i := by
  cases k with
  | false => exact Heap.IsListIter.at q f
  | true => exact Heap.IsTupleIter.at q f
theorem srcStart (k : Bool) (e : h.get? it = some (mkB k l)) : ItB k h it l 0 := by
  cases k with
  | false => exact ⟨_, e, rfl, rfl⟩
  | true => exact ⟨_, e, rfl, rfl⟩
theorem srcDraws {P : Program} {w : World} {A : Around} (k : Bool) (hh : A.handled = none) (it l : Addr) (hne : l ≠ it) (its : Array Value) : Draws P w A it [it, l] its.size (fun i v => its[i]? = some v) (fun i h => ItB k h it l i ∧ IsB k h l its) := by
  cases k with
  | false => exact Draws.list hh it l hne its
  | true => exact Draws.tuple hh it l hne its
theorem srcBegins (k : Bool) (l : Addr) (its : Array Value) : Begins (.ref l) (mkB k l) fun h => IsB k h l its := by
  cases k with
  | false => exact begins_list l its
  | true => exact begins_tuple l its
end
/-- what stands at a and b at each turn, the items in new pairs -/
def ItzB (K : Frag) (k1 k2 : Bool) (a b : Addr) : It where
  go := fun i H => ∃ (xs ys : List V) (x y : V), SqB K k1 H a xs ∧ SqB K k2 H b ys ∧ xs[i]? = some x ∧ ys[i]? = some y
  yld := fun i H v H' => ∃ (T : Addr) (x y : V), v = .ref T ∧ H T = none ∧ H' = upd H T (.tup [x, y]) ∧ (∀ xs, SqB K k1 H a xs → xs[i]? = some x) ∧ (∀ ys, SqB K k2 H b ys → ys[i]? = some y)
  stop := fun i H => ∃ xs ys : List V, SqB K k1 H a xs ∧ SqB K k2 H b ys ∧ i = min xs.length ys.length
theorem sep_of {z TI TO i1 i2 a b : Addr} (D : ZipApart z TI TO i1 i2 a b) : ZipSep2 z TI TO i1 i2 [i1, a] [i2, b] where
  TIz := D.TIz
  TOz := D.TOz
  TITO := D.TITO
  TIi1 := D.TIi1
  mem1 := by simp
  zf1 := fun h => by
    rcases List.mem_cons.mp h with e | h
    · exact D.i1z e.symm
    · exact D.l1z (List.mem_singleton.mp h).symm
  Tf1 := fun h => by
    rcases List.mem_cons.mp h with e | h
    · exact D.TOi1 e
    · exact D.l1TO (List.mem_singleton.mp h).symm
  TIi2 := D.TIi2
  mem2 := by simp
  zf2 := fun h => by
    rcases List.mem_cons.mp h with e | h
    · exact D.i2z e.symm
    · exact D.l2z (List.mem_singleton.mp h).symm
  Tf2 := fun h => by
    rcases List.mem_cons.mp h with e | h
    · exact D.TOi2 e
    · exact D.l2TO (List.mem_singleton.mp h).symm
  sep1_2 := fun h => by
    rcases List.mem_cons.mp h with e | h
    · exact D.i12 e
    · exact D.l2i1 (List.mem_singleton.mp h).symm
  sep2_1 := fun h => by
    rcases List.mem_cons.mp h with e | h
    · exact D.i12 e.symm
    · exact D.l1i2 (List.mem_singleton.mp h).symm
theorem mem_skip {α : Type} {z t c : α} {l : List α} (h : c ∈ z :: l) : c ∈ z :: t :: l := (List.mem_cons.mp h).elim (fun e => List.mem_cons.mpr (.inl e)) fun h => List.mem_cons_of_mem _ (List.mem_cons_of_mem _ h)
theorem turn_zipB {P : Program} {w : World} {K : PySem.W.Frag} {k1 k2 : Bool} {elts : List Expr} {kk : Nat} {tpos : Pos} {a b z TI TO i1 i2 : Addr} (D : ZipApart z TI TO i1 i2 a b) :
    Turn P w K (.Tuple elts kk tpos) (ItzB K k1 k2 a b) [z, TI, TO, i1, i2] z (fun i h => IsZip h z TI TO .none ∧ IsPair h TI (.ref i1) (.ref i2) ∧ (∃ x y, IsPair h TO x y) ∧ ItB k1 h i1 a i ∧ ItB k2 h i2 b i) where
  mem := List.mem_cons_self
  obj := fun i h ⟨hz, hTI, ⟨x, y, hTO⟩, q1, q2⟩ c hc => by
    simp only [List.mem_cons, List.not_mem_nil, or_false] at hc
    rcases hc with rfl | rfl | rfl | rfl | rfl
    · exact ⟨_, hz, fun v z => nomatch z⟩
    · exact ⟨_, hTI, fun v z => nomatch z⟩
    · exact ⟨_, hTO, fun v z => nomatch z⟩
    · exact srcObj k1 q1
    · exact srcObj k2 q2
  keep := fun i h h' ⟨hz, hTI, ⟨x, y, hTO⟩, q1, q2⟩ k => ⟨k z (by simp) _ hz, k TI (by simp) _ hTI, ⟨x, y, k TO (by simp) _ hTO⟩, srcAt k1 q1 (k i1 (by simp)), srcAt k2 q2 (k i2 (by simp))⟩
  item := by
    rintro X rfl rfl rfl hc i pins s σ H E I hf ⟨hz, hTI, hTO, q1, q2⟩ ⟨xs, ys, x, y, hqx, hqy, hx, hy⟩
    obtain ⟨l1, r1, p1⟩ := srcGet k1 I hqx
    obtain ⟨l2, r2, p2⟩ := srcGet k2 I hqy
    obtain ⟨u, hu, ru⟩ := r1.get hx
    obtain ⟨u2, hu2, ru2⟩ := r2.get hy
    have hh : X.A.in1.handled = none := I.ok.hd hc
    have W := GoesN.zip2 (elts := elts) (x1 := kk) (pos := tpos) (sep_of D) (srcDraws (P := X.prog) (w := X.w) k1 hh i1 a D.l1i1 l1.toArray) (srcDraws (P := X.prog) (w := X.w) k2 hh i2 b D.l2i2 l2.toArray)
    have b1 : i < l1.length := (List.getElem?_eq_some_iff.mp hu).1
    have b2 : i < l2.length := (List.getElem?_eq_some_iff.mp hu2).1
    refine W.goes i s _ E (by simp; omega) ⟨hz, hTI, hTO, ⟨q1, p1⟩, ⟨q2, p2⟩⟩ fun v h' tk hY hS hk ht => ?_
    obtain ⟨T, v1, v2, rfl, hT, e1, e2, hN⟩ := hY
    have e1 : v1 = u := by simp only [List.getElem?_toArray] at e1; rw [hu] at e1; exact (Option.some.inj e1).symm
    have e2 : v2 = u2 := by simp only [List.getElem?_toArray] at e2; rw [hu2] at e2; exact (Option.some.inj e2).symm
    subst e1 e2
    have new : ObjOk X.prog X.w (upd H T (.tup [x, y])) h' T (.tup [x, y]) := ⟨show 2 ≤ sizeLine by decide, [v1, v2], .cons ru (.cons ru2 .nil), hN⟩
    have I1 : Inv X pins σ (upd H T (.tup [x, y])) { s with heap := h', toks := tk } := I.turnedNew (t' := tk) (ch := [z, TI, TO, i1, i2]) (fun c o hb q => hk c o (fun q' => hb (mem_skip q')) q) hf hT new
    obtain ⟨hz', hTI', hTO', ⟨q1', _⟩, ⟨q2', _⟩⟩ := hS
    refine ⟨.ref T, _, I1, rfl, ⟨T, x, y, rfl, I.hok.fresh hT, rfl, fun l hl => ?_, fun l hl => ?_⟩, ⟨hz', hTI', hTO', q1', q2'⟩, fun c hcm => ?_⟩
    · rw [srcInj k1 I hl hqx]; exact hx
    · rw [srcInj k2 I hl hqy]; exact hy
    · obtain ⟨x0, y0, hTO0⟩ := hTO
      have hlt : c < s.heap.objs.size := by
        simp only [List.mem_cons, List.not_mem_nil, or_false] at hcm
        rcases hcm with rfl | rfl | rfl | rfl | rfl
        · exact Heap.lt_size hz
        · exact Heap.lt_size hTI
        · exact Heap.lt_size hTO0
        · obtain ⟨o, e, _⟩ := srcObj k1 q1; exact Heap.lt_size e
        · obtain ⟨o, e, _⟩ := srcObj k2 q2; exact Heap.lt_size e
      rw [upd_ne (Nat.ne_of_lt (Nat.lt_of_lt_of_le hlt hT))]
      exact (hf c hcm).1
  done := by
    rintro X rfl rfl rfl hc i pins s σ H E I hf ⟨hz, hTI, hTO, q1, q2⟩ ⟨xs, ys, hqx, hqy, hi⟩
    obtain ⟨l1, r1, p1⟩ := srcGet k1 I hqx
    obtain ⟨l2, r2, p2⟩ := srcGet k2 I hqy
    have hh : X.A.in1.handled = none := I.ok.hd hc
    have W := GoesN.zip2 (elts := elts) (x1 := kk) (pos := tpos) (sep_of D) (srcDraws (P := X.prog) (w := X.w) k1 hh i1 a D.l1i1 l1.toArray) (srcDraws (P := X.prog) (w := X.w) k2 hh i2 b D.l2i2 l2.toArray)
    have en : min l1.toArray.size l2.toArray.size = i := by
      have e1 := r1.length
      have e2 := r2.length
      simp only [List.size_toArray]; omega
    rw [en] at W
    refine (W.stops s (fun s1 => Inv X pins σ H s1) E ⟨hz, hTI, hTO, ⟨q1, p1⟩, ⟨q2, p2⟩⟩ fun h' tk hk ht => ?_)
    exact I.turnedL (t' := tk) (ch := [z, TI, TO, i1, i2]) (fun c o hb q => hk c o (fun q' => hb (mem_skip q')) q) hf
  self := fun A i s Q E st h => wpAny_pyIter_zip st.1 h
def iZipB (K : PySem.W.Frag) (ta : TA) : TI := fun σ H R => ta σ H fun vs H1 => ∃ (k1 k2 : Bool) (a b : Addr) (xs ys : List V), vs = [.ref a, .ref b] ∧ SqB K k1 H1 a xs ∧ SqB K k2 H1 b ys ∧ R (ItzB K k1 k2 a b) H1
theorem pi_zipB {X : Cx} {e e2 : Expr} {ta : TA} {p pos tpos : Pos} {elts : List Expr} {kk : Nat} (hg : Gl X "zip") (hm : X.mg "zip" = none) (ha : PA X [e, e2] ta)
    (hs : starEach [e, e2] X.env = (false, eval e X.env) :: starEach [e2] X.env := by rfl) (hpl : (backTo pos (starEach [e2] X.env)).any (·.1) = false := by rfl) :
    PI X (.Tuple elts kk tpos) (.Call (.Name "zip" p) [e, e2] [] pos) (iZipB X.K ta) := by
  constructor
  intro pins s σ H R I h
  refine Call_ (ld_blt I hg hm PyProof.Rows.boot_zip (PyProof.Rows.callWith_type1 (thn (ha.run pos pins s σ H _ I h) ?_) hs hpl))
  rintro us s1 ⟨vs, H1, I1, r1, k1, k2, a, b, xs, ys, rfl, hqx, hqy, q⟩
  obtain ⟨u, us', rfl, ru, r1⟩ : ∃ u us', us = u :: us' ∧ RelV (.ref a) u ∧ Vals [.ref b] us' := by cases r1 with | cons r rr => exact ⟨_, _, rfl, r, rr⟩
  obtain ⟨u2, rfl, ru2⟩ : ∃ u2, us' = [u2] ∧ RelV (.ref b) u2 := by
    cases r1 with
    | cons r rr => cases rr; exact ⟨_, rfl, r⟩
  cases ru
  cases ru2
  obtain ⟨l1, _, p1⟩ := srcGet k1 I1 hqx
  obtain ⟨l2, _, p2⟩ := srcGet k2 I1 hqy
  refine zip_begins2 (srcBegins k1 a l1.toArray) (srcBegins k2 b l2.toArray) p1 p2 fun h' hz hTI hTO g1 g2 hsz hk => ?_
  refine wpAny_pyIter_zip hz ?_
  have I2 : Inv X pins σ H1 { s1 with heap := h' } := I1.kept (t' := s1.toks) hk
  refine ⟨s1.heap.objs.size + 4, [s1.heap.objs.size + 4, s1.heap.objs.size + 2, s1.heap.objs.size + 3, s1.heap.objs.size, s1.heap.objs.size + 1], _, _, H1, rfl, I2, turn_zipB (PySem.W.ktu_apart s1.heap.objs.size a b (srcLt k1 p1) (srcLt k2 p2)), ⟨hz, hTI, ⟨_, _, hTO⟩, srcStart k1 g1, srcStart k2 g2⟩, fun c hcm => ?_, q⟩
  have hle : s1.heap.objs.size ≤ c := by
    simp only [List.mem_cons, List.not_mem_nil, or_false] at hcm
    rcases hcm with rfl | rfl | rfl | rfl | rfl
    · exact Nat.le_add_right _ _
    · exact Nat.le_add_right _ _
    · exact Nat.le_add_right _ _
    · exact Nat.le_refl _
    · exact Nat.le_add_right _ _
  exact I1.fpOk hle (I1.hok.fresh hle)
end VL
end

section
set_option Elab.async false
set_option linter.all false
set_option maxRecDepth 100000
set_option maxHeartbeats 2000000
namespace VL
open PySem PySem.W PySem.Spec PyProof.Rows L2

/-- an iterator that walks these items, in whatever heap keeps what stands now -/
structure JRep (K : Frag) (J : It) (H : Hp) (F : Fz) (ds : List D) : Prop where
  go : ∀ H' i, Keep F [] H H' → i < ds.length → J.go i H'
  stop : ∀ H', Keep F [] H H' → J.stop ds.length H'
  fz : ∀ d ∈ ds, frz d = d
  yld : ∀ H' F' i x H2, Keep F [] H H' → (∀ a, F a → F' a) → Wf F' H' → J.yld i H' x H2 → ∀ d, ds[i]? = some d → Same H' H2 ∧ Rep K H2 F' x d []
abbrev RpI (K : Frag) : RpT It (List D) := fun H F J ds us => JRep K J H F ds ∧ us = []

section
variable {K : Frag} {mg : Str → Option Value} {X : Cx} {W : Option WX} {tg e a b : Expr} {ma mb : T} {pos : Pos}
theorem PI.to {t t' : TI} (h : PI X tg e t) (i : ∀ σ H Q, t' σ H Q → t σ H Q) : PI X tg e t' := ⟨fun pins s σ H Q I q => h.run pins s σ H Q I (i σ H Q q)⟩
theorem PI.or {t t' : TI} (h : PI X tg e t) (h' : PI X tg e t') : PI X tg e (fun σ H Q => t σ H Q ∨ t' σ H Q) := ⟨fun pins s σ H Q I q => by
  rcases q with q | q
  · exact h.run pins s σ H Q I q
  · exact h'.run pins s σ H Q I q⟩
abbrev VI (X : Cx) (W : Option WX) (tg e : Expr) (m : Env → R (List D)) : Prop := PI X tg e (tT X.K X.mg W (RpI X.K) m)

def seqD : D → R (List D)
  | .lst _ ds => .ok (frzL ds)
  | .tup ds => .ok (frzL ds)
  | .str s => .ok (s.cps.toList.map fun c => .str ⟨#[c]⟩)
  | _ => .bad
theorem frzL_get {ds : List D} {i : Nat} {d : D} (h : (frzL ds)[i]? = some d) : ∃ d0, ds[i]? = some d0 ∧ d = frz d0 := by
  rw [frzL_map, List.getElem?_map] at h
  obtain ⟨d0, h1, h2⟩ := Option.map_eq_some_iff.mp h
  exact ⟨d0, h1, h2.symm⟩
theorem frzL_len (ds : List D) : (frzL ds).length = ds.length := by rw [frzL_map, List.length_map]
theorem frzL_fz (ds : List D) : ∀ d ∈ frzL ds, frz d = d := fun d h => by
  rw [frzL_map] at h
  obtain ⟨e, _, rfl⟩ := List.mem_map.mp h
  exact frz_frz e
theorem keep_l {H H' : Hp} {F : Fz} {a : Addr} {vs : List V} (s : StL K F H a vs) (k : Keep F [] H H') : SqL K H' a vs := (s.keep (F' := F) k fun _ h => h).sq
theorem keepF {H H' : Hp} {F F' : Fz} (k : Keep F [] H H') : Keep F [] H H' := k
theorem j_list {H : Hp} {F : Fz} {a : Addr} {vs : List V} {ds : List D} (s : StL K F H a vs) (r : RepL K H F vs ds []) (hf : ∀ d ∈ ds, frz d = d) : JRep K (Itl K a) H F ds where
  go := fun H' i k h => ⟨vs, vs[i]'(by rw [r.length]; exact h), keep_l s k, List.getElem?_eq_getElem _⟩
  stop := fun H' k => ⟨vs, keep_l s k, by rw [r.length]; exact Nat.le_refl _⟩
  fz := hf
  yld := fun H' F' i x H2 k f w y d hd => by
    obtain ⟨rfl, y⟩ := y
    obtain ⟨v, u, h1, h2, h3⟩ := r.get hd
    have e := y vs (keep_l s k)
    rw [h1] at e
    cases e
    have e2 : u = [] := List.eq_nil_iff_forall_not_mem.mpr fun a ha => nomatch h3.sub a ha
    subst e2
    exact ⟨Same.refl _, h2.keep k f⟩
theorem j_tup {H : Hp} {F : Fz} {a : Addr} {vs : List V} {ds : List D} (s : SqT K H a vs) (r : RepL K H F vs ds []) (hf : ∀ d ∈ ds, frz d = d) : JRep K (Itt K a) H F ds where
  go := fun H' i k h => ⟨vs, vs[i]'(by rw [r.length]; exact h), SqT.keep s k, List.getElem?_eq_getElem _⟩
  stop := fun H' k => ⟨vs, SqT.keep s k, by rw [r.length]; exact Nat.le_refl _⟩
  fz := hf
  yld := fun H' F' i x H2 k f w y d hd => by
    obtain ⟨rfl, y⟩ := y
    obtain ⟨v, u, h1, h2, h3⟩ := r.get hd
    have e := y vs (SqT.keep s k)
    rw [h1] at e
    cases e
    have e2 : u = [] := List.eq_nil_iff_forall_not_mem.mpr fun a ha => nomatch h3.sub a ha
    subst e2
    exact ⟨Same.refl _, h2.keep k f⟩
theorem SOk.sign {z : Str} (h : SOk z) {c : Nat} (hc : c ∈ z.cps.toList) : SOk ⟨#[c]⟩ := by
  refine ⟨by show 1 ≤ sizeLine; decide, ?_⟩
  have h2 := h.2
  unfold PyData.strOk at h2 ⊢
  rw [Array.all_eq_true_iff_forall_mem] at h2 ⊢
  intro c' hc'
  obtain rfl : c' = c := by simpa using hc'
  exact h2 _ (by simpa using hc)
theorem j_str {H : Hp} {F : Fz} {z : Str} (h : SOk z) : JRep K (Its z) H F (z.cps.toList.map fun c => .str ⟨#[c]⟩) where
  go := fun H' i k h => by simpa [Its] using h
  stop := fun H' k => by simp [Its]
  fz := fun d h => by
    obtain ⟨c, _, rfl⟩ := List.mem_map.mp h
    rfl
  yld := fun H' F' i x H2 k f w y d hd => by
    obtain ⟨rfl, c, hc, rfl⟩ := y
    rw [List.getElem?_map] at hd
    obtain ⟨c', h1, h2⟩ := Option.map_eq_some_iff.mp hd
    have e : c' = c := by
      rw [Array.getElem?_toList, hc] at h1
      exact (Option.some.inj h1).symm
    subst e h2
    exact ⟨Same.refl _, .str _ (h.sign (List.mem_of_getElem? h1))⟩
def rngD (lo : Int) (n : Nat) : List D := (List.range n).map fun (i : Nat) => D.int (lo + (i : Int))
theorem j_rng {H : Hp} {F : Fz} {lo : Int} {n : Nat} : JRep K (Itr lo n) H F (rngD lo n) where
  go := fun H' i k h => by simpa [Itr, rngD] using h
  stop := fun H' k => by simp [Itr, rngD]
  fz := fun d h => by
    obtain ⟨c, _, rfl⟩ := List.mem_map.mp h
    rfl
  yld := fun H' F' i x H2 k f w y d hd => by
    obtain ⟨rfl, rfl⟩ := y
    unfold rngD at hd
    rw [List.getElem?_map] at hd
    obtain ⟨j, h1, rfl⟩ := Option.map_eq_some_iff.mp hd
    obtain rfl : j = i := by
      obtain ⟨p, q⟩ := List.getElem?_eq_some_iff.mp h1
      simpa using q.symm
    exact ⟨Same.refl _, .int _⟩
def enumD (ds : List D) : List D := ds.mapIdx fun i d => .tup [.int (i : Nat), d]
theorem j_enum {H : Hp} {F : Fz} {a : Addr} {vs : List V} {ds : List D} (s : StL K F H a vs) (r : RepL K H F vs ds []) (hf : ∀ d ∈ ds, frz d = d) : JRep K (Ite K a) H F (enumD ds) where
  go := fun H' i k h => ⟨vs, vs[i]'(by rw [r.length]; simpa [enumD] using h), keep_l s k, List.getElem?_eq_getElem _⟩
  stop := fun H' k => ⟨vs, keep_l s k, by rw [r.length]; simp [enumD]⟩
  fz := fun d h => by
    obtain ⟨i, hi, rfl⟩ := List.mem_mapIdx.mp h
    simp only [frz, frzL, hf _ (List.getElem_mem hi)]
  yld := fun H' F' i x H2 k f w y d hd => by
    obtain ⟨T, x', rfl, hn, rfl, y⟩ := y
    unfold enumD at hd
    rw [List.getElem?_mapIdx] at hd
    obtain ⟨d0, h0, rfl⟩ := Option.map_eq_some_iff.mp hd
    obtain ⟨v, u, h1, h2, h3⟩ := r.get h0
    have e := y vs (keep_l s k)
    rw [h1] at e
    cases e
    have e2 : u = [] := List.eq_nil_iff_forall_not_mem.mpr fun a ha => nomatch h3.sub a ha
    subst e2
    have sm := same_new (o := HO.tup [.int (i : Nat), x']) hn
    exact ⟨sm, .tup (SqT.of upd_same) (.cons (u := []) (us := []) (.int _) (.cons (u := []) (us := []) ((h2.keep k f).same sm fun _ h => h) .nil))⟩
theorem j_enumT {H : Hp} {F : Fz} {a : Addr} {vs : List V} {ds : List D} (s : SqT K H a vs) (r : RepL K H F vs ds []) (hf : ∀ d ∈ ds, frz d = d) : JRep K (IteT K a) H F (enumD ds) where
  go := fun H' i k h => ⟨vs, vs[i]'(by rw [r.length]; simpa [enumD] using h), SqT.keep s k, List.getElem?_eq_getElem _⟩
  stop := fun H' k => ⟨vs, SqT.keep s k, by rw [r.length]; simp [enumD]⟩
  fz := fun d h => by
    obtain ⟨i, hi, rfl⟩ := List.mem_mapIdx.mp h
    simp only [frz, frzL, hf _ (List.getElem_mem hi)]
  yld := fun H' F' i x H2 k f w y d hd => by
    obtain ⟨T, x', rfl, hn, rfl, y⟩ := y
    unfold enumD at hd
    rw [List.getElem?_mapIdx] at hd
    obtain ⟨d0, h0, rfl⟩ := Option.map_eq_some_iff.mp hd
    obtain ⟨v, u, h1, h2, h3⟩ := r.get h0
    have e := y vs (SqT.keep s k)
    rw [h1] at e
    cases e
    have e2 : u = [] := List.eq_nil_iff_forall_not_mem.mpr fun a ha => nomatch h3.sub a ha
    subst e2
    have sm := same_new (o := HO.tup [.int (i : Nat), x']) hn
    exact ⟨sm, .tup (SqT.of upd_same) (.cons (u := []) (us := []) (.int _) (.cons (u := []) (us := []) ((h2.keep k f).same sm fun _ h => h) .nil))⟩
def zipD (ds es : List D) : List D := (ds.zip es).map fun p => .tup [p.1, p.2]
theorem j_rev {H : Hp} {F : Fz} {a : Addr} {vs : List V} {ds : List D} (s : StL K F H a vs) (r : RepL K H F vs ds []) (hf : ∀ d ∈ ds, frz d = d) : JRep K (Itv K a vs.length) H F ds.reverse where
  go := fun H' i k h => by
    rw [List.length_reverse, ← r.length] at h
    exact ⟨h, vs, vs[vs.length - 1 - i]'(by omega), keep_l s k, List.getElem?_eq_getElem _⟩
  stop := fun H' k => by
    rw [List.length_reverse, ← r.length]
    exact Nat.le_refl _
  fz := fun d h => hf d (by simpa using h)
  yld := fun H' F' i x H2 k f w y d hd => by
    obtain ⟨rfl, y⟩ := y
    have hi : i < ds.length := by
      have := (List.getElem?_eq_some_iff.mp hd).1
      simpa using this
    rw [List.getElem?_reverse hi, ← r.length] at hd
    obtain ⟨v, u, h1, h2, h3⟩ := r.get hd
    have e := y vs (keep_l s k)
    rw [h1] at e
    cases e
    have e2 : u = [] := List.eq_nil_iff_forall_not_mem.mpr fun a ha => nomatch h3.sub a ha
    subst e2
    exact ⟨Same.refl _, h2.keep k f⟩

theorem post_itr {H : Hp} {F : Fz} {us : List Addr} {J : It} {ds : List D} {Q : It → Hp → Prop} {E : Option XK} (h : Post K mg (RpI K) H F us (.ok ds) Q E) (w : Wf F H) (hu : ∀ a ∈ us, H a ≠ none) (j : JRep K J H (fun a => F a ∨ a ∈ us) ds) : Q J H :=
  h J H (fun a => F a ∨ a ∈ us) [] (Same.refl _) ⟨fun a q => .inl q, fun a q => q.imp id .inl⟩ (fun a q => q.elim (w a) (hu a)) ⟨j, rfl⟩ (by simp) (fun _ z => nomatch z)
theorem nn {H : Hp} {F : Fz} {v : V} {d : D} {us : List Addr} (r : Rep K H F v d us) : ∀ a ∈ us, H a ≠ none := fun a ha z => by obtain ⟨o, q, _⟩ := r.there a ha; rw [z] at q; cases q
theorem nnL {H : Hp} {F : Fz} {v : List V} {d : List D} {us : List Addr} (r : RepL K H F v d us) : ∀ a ∈ us, H a ≠ none := fun a ha z => by obtain ⟨o, q, _⟩ := r.there a ha; rw [z] at q; cases q
/-- all frozen -/
theorem rep_all {H : Hp} {F : Fz} {v : V} {d : D} {us : List Addr} (r : Rep K H F v d us) : Rep K H (fun a => F a ∨ a ∈ us) v (frz d) [] := r.frz (fun _ h => .inl h) fun _ h => .inr h
theorem repL_all {H : Hp} {F : Fz} {v : List V} {d : List D} {us : List Addr} (r : RepL K H F v d us) : RepL K H (fun a => F a ∨ a ∈ us) v (frzL d) [] := r.frz (fun _ h => .inl h) fun _ h => .inr h
theorem rep_lst_frz {H : Hp} {F : Fz} {v : V} {o : Bool} {ds : List D} (r : Rep K H F v (frz (.lst o ds)) []) : ∃ a vs, v = .ref a ∧ StL K F H a vs ∧ RepL K H F vs (frzL ds) [] := by
  simp only [frz] at r
  cases r with
  | lstF h l => exact ⟨_, _, rfl, h, l⟩
theorem vi_seq (h : VE X W e ma) : VI X W tg e (fun env => (ma env).bind seqD) := by
  refine PI.to (PI.or (pi_list h) (PI.or (pi_tup h) (pi_str h))) fun σ H Q hh => ?_
  obtain ⟨F, env, he, w, hp⟩ := hh
  replace hp : Post X.K X.mg (RpI X.K) H F [] ((ma env).bind seqD) Q (wX W σ) := hp
  cases q : ma env with
  | bad => rw [q] at hp; exact hp.elim
  | exc c d =>
    rw [q] at hp
    exact .inl ⟨F, env, he, w, by rw [q]; exact hp⟩
  | ok d =>
    rw [q] at hp
    cases d with
    | lst o ds =>
      refine .inl ⟨F, env, he, w, ?_⟩
      rw [q]
      intro v H' F' us' s g w' r n f
      obtain ⟨a, vs, rfl, h1, r1⟩ := (rep_lst_frz (rep_all r))
      refine ⟨a, rfl, ⟨vs, h1.sq⟩, post_itr (us := us') (post_later hp s g fun a ha => .inr ((f a ha).2.elim (fun z => nomatch z) id)) w' (nn r) (j_list h1 r1 (frzL_fz _))⟩
    | tup ds =>
      refine .inr (.inl ⟨F, env, he, w, ?_⟩)
      rw [q]
      intro v H' F' us' s g w' r n f
      have ra := rep_all r
      simp only [frz] at ra
      obtain ⟨a, vs, rfl, h1, r1⟩ := ra.tup_inv
      refine ⟨a, rfl, ⟨vs, h1⟩, post_itr (us := us') (post_later hp s g fun a ha => .inr ((f a ha).2.elim (fun z => nomatch z) id)) w' (nn r) (j_tup h1 r1 (frzL_fz _))⟩
    | str z =>
      refine .inr (.inr ⟨F, env, he, w, ?_⟩)
      rw [q]
      intro v H' F' us' s g w' r n f
      cases r with
      | str _ hz => exact ⟨z, rfl, post_itr (us := []) (post_later hp s g fun a ha => nomatch ha) w' (fun _ z => nomatch z) (j_str hz)⟩
    | non => exact hp.elim
    | bl _ => exact hp.elim
    | int _ => exact hp.elim
    | dct _ _ => exact hp.elim
    | exn _ _ => exact hp.elim
/-- range -/
def rng1D : List D → R (List D)
  | [.int j] => if -1000000 ≤ j ∧ j ≤ 1000000 then .ok (rngD 0 j.toNat) else .bad
  | _ => .bad
def rng2D : List D → R (List D)
  | [.int i, .int j] => if -1000000 ≤ i ∧ i ≤ 1000000 ∧ -1000000 ≤ j ∧ j ≤ 1000000 then .ok (rngD i (j - i).toNat) else .bad
  | _ => .bad
def enum1D : List D → R (List D)
  | [.lst _ ds] => .ok (enumD (frzL ds))
  | [.tup ds] => .ok (enumD (frzL ds))
  | _ => .bad
def rev1D : List D → R (List D)
  | [.lst _ ds] => .ok (frzL ds).reverse
  | _ => .bad
def StB (K : Frag) (F : Fz) : Bool → Hp → Addr → List V → Prop
  | false => StL K F
  | true => SqT K
theorem keepB {k : Bool} {H H' : Hp} {F : Fz} {a : Addr} {vs : List V} (s : StB K F k H a vs) (q : Keep F [] H H') : SqB K k H' a vs := by
  cases k with
  | false => exact keep_l s q
  | true => exact SqT.keep s q
theorem stB_sq {k : Bool} {H : Hp} {F : Fz} {a : Addr} {vs : List V} (s : StB K F k H a vs) : SqB K k H a vs := by
  cases k with
  | false => exact StL.sq s
  | true => exact s
def sqD : D → Option (List D)
  | .lst _ ds => some ds
  | .tup ds => some ds
  | _ => none
theorem rep_sqD {H : Hp} {F : Fz} {v : V} {d : D} {ds : List D} (hd : sqD d = some ds) (r : Rep K H F v (frz d) []) : ∃ k a vs, v = .ref a ∧ StB K F k H a vs ∧ RepL K H F vs (frzL ds) [] := by
  cases d with
  | lst o l =>
    cases hd
    obtain ⟨a, vs, e, h1, k1⟩ := rep_lst_frz r
    exact ⟨false, a, vs, e, h1, k1⟩
  | tup l =>
    cases hd
    simp only [VL.frz] at r
    cases r with
    | tup h1 k1 => exact ⟨true, _, _, rfl, h1, k1⟩
  | non => cases hd
  | bl _ => cases hd
  | int _ => cases hd
  | str _ => cases hd
  | dct _ _ => cases hd
  | exn _ _ => cases hd
theorem j_zipB {H : Hp} {F : Fz} {k1 k2 : Bool} {a b : Addr} {vs ws : List V} {ds es : List D} (s : StB K F k1 H a vs) (r : RepL K H F vs ds []) (s2 : StB K F k2 H b ws) (r2 : RepL K H F ws es []) (hf : ∀ d ∈ ds, frz d = d) (hf2 : ∀ d ∈ es, frz d = d) : JRep K (ItzB K k1 k2 a b) H F (zipD ds es) where
  go := fun H' i k h => by
    have h : i < ds.length ∧ i < es.length := by
      unfold zipD at h
      rw [List.length_map, List.length_zip] at h
      omega
    exact ⟨vs, ws, vs[i]'(by rw [r.length]; exact h.1), ws[i]'(by rw [r2.length]; exact h.2), keepB s k, keepB s2 k, List.getElem?_eq_getElem _, List.getElem?_eq_getElem _⟩
  stop := fun H' k => ⟨vs, ws, keepB s k, keepB s2 k, by
    unfold zipD
    rw [List.length_map, List.length_zip, r.length, r2.length]⟩
  fz := fun d h => by
    obtain ⟨⟨a, b⟩, hp, rfl⟩ := List.mem_map.mp h
    obtain ⟨p1, p2⟩ := List.of_mem_zip hp
    simp only [frz, frzL, hf _ p1, hf2 _ p2]
  yld := fun H' F' i x H2 k f w y d hd => by
    obtain ⟨T, x', y', rfl, hn, rfl, y, z⟩ := y
    unfold zipD at hd
    rw [List.getElem?_map] at hd
    obtain ⟨p, h0, rfl⟩ := Option.map_eq_some_iff.mp hd
    obtain ⟨p1, p2⟩ := p
    obtain ⟨q1, q2⟩ := List.getElem?_zip_eq_some.mp h0
    obtain ⟨v, u, h1, h2, h3⟩ := r.get q1
    obtain ⟨v', u', h1', h2', h3'⟩ := r2.get q2
    have e := y vs (keepB s k)
    rw [h1] at e
    cases e
    have e := z ws (keepB s2 k)
    rw [h1'] at e
    cases e
    have e2 : u = [] := List.eq_nil_iff_forall_not_mem.mpr fun a ha => nomatch h3.sub a ha
    have e3 : u' = [] := List.eq_nil_iff_forall_not_mem.mpr fun a ha => nomatch h3'.sub a ha
    subst e2 e3
    have sm := same_new (o := HO.tup [x', y']) hn
    exact ⟨sm, .tup (SqT.of upd_same) (.cons (u := []) (us := []) ((h2.keep k f).same sm fun _ h => h) (.cons (u := []) (us := []) ((h2'.keep k f).same sm fun _ h => h) .nil))⟩
def zip2D : List D → R (List D)
  | [.lst _ ds, .lst _ es] => .ok (zipD (frzL ds) (frzL es))
  | [.tup ds, .tup es] => .ok (zipD (frzL ds) (frzL es))
  | [.lst _ ds, .tup es] => .ok (zipD (frzL ds) (frzL es))
  | [.tup ds, .lst _ es] => .ok (zipD (frzL ds) (frzL es))
  | _ => .bad
theorem zip2_sq {as : List D} {zs : List D} (h : zip2D as = .ok zs) : ∃ x y ds es, as = [x, y] ∧ sqD x = some ds ∧ sqD y = some es ∧ zs = zipD (frzL ds) (frzL es) := by
  unfold zip2D at h
  split at h <;> first | (cases h; exact ⟨_, _, _, _, rfl, rfl, rfl, rfl⟩) | cases h
theorem zip2_no (as : List D) : (∃ zs, zip2D as = .ok zs) ∨ zip2D as = .bad := by
  unfold zip2D
  split <;> first | exact .inl ⟨_, rfl⟩ | exact .inr rfl
variable {es : List Expr} {ms : Env → R (List D)} {p : Pos} {elts : List Expr} {kk : Nat} {tpos : Pos}
theorem vi_range1 (hm : X.mg "range" = none) (ha : VA X W [a] ms) (hg : Gl X "range" := by rfl) (hs : starEach [a] X.env = [(false, eval a X.env)] := by rfl) : VI X W tg (.Call (.Name "range" p) [a] [] pos) (fun env => (ms env).bind rng1D) := by
  refine PI.to (pi_range1 hg hm ha hs) fun σ H Q h => ?_
  refine tT_first h fun F env d v H1 F1 us1 he s1 g1 w1 r1 n1 f1 hp1 => ?_
  unfold rng1D at hp1
  split at hp1
  · split at hp1
    · obtain ⟨x, rfl, r⟩ := RepL.one r1
      cases r
      exact ⟨_, rfl, by omega, by omega, post_itr (us := []) hp1 w1 (fun _ z => nomatch z) j_rng⟩
    · exact hp1.elim
  · exact hp1.elim
theorem vi_range2 (hm : X.mg "range" = none) (ha : VA X W [a, b] ms) (hg : Gl X "range" := by rfl) (hs : starEach [a, b] X.env = [(false, eval a X.env), (false, eval b X.env)] := by rfl) (hs2 : starEach [b] X.env = [(false, eval b X.env)] := by rfl) :
    VI X W tg (.Call (.Name "range" p) [a, b] [] pos) (fun env => (ms env).bind rng2D) := by
  refine PI.to (pi_range2 hg hm ha hs hs2) fun σ H Q h => ?_
  refine tT_first h fun F env d v H1 F1 us1 he s1 g1 w1 r1 n1 f1 hp1 => ?_
  unfold rng2D at hp1
  split at hp1
  · split at hp1
    · obtain ⟨x, y, u1, u2, rfl, rfl, r, r'⟩ := RepL.two r1
      cases r; cases r'
      exact ⟨_, _, rfl, ⟨by omega, by omega, by omega, by omega⟩, post_itr (us := []) hp1 w1 (fun _ z => nomatch z) j_rng⟩
    · exact hp1.elim
  · exact hp1.elim
theorem vi_enum (hm : X.mg "enumerate" = none) (ha : VA X W [e] ms) (hg : Gl X "enumerate" := by rfl) (hs : starEach [e] X.env = [(false, eval e X.env)] := by rfl) : VI X W (.Tuple elts kk tpos) (.Call (.Name "enumerate" p) [e] [] pos) (fun env => (ms env).bind enum1D) := by
  refine PI.to (pi_enumA hg hm ha hs) fun σ H Q h => ?_
  refine tT_first h fun F env d v H1 F1 us1 he s1 g1 w1 r1 n1 f1 hp1 => ?_
  unfold enum1D at hp1
  split at hp1
  · obtain ⟨x, rfl, r⟩ := RepL.one r1
    obtain ⟨a, vs, rfl, h1, r1⟩ := rep_lst_frz (rep_all r)
    exact ⟨a, vs, rfl, .inl ⟨h1.sq, post_itr hp1 w1 (nn r) (j_enum h1 r1 (frzL_fz _))⟩⟩
  · obtain ⟨x, rfl, r⟩ := RepL.one r1
    obtain ⟨a, vs, rfl, h1, r1⟩ := (rep_all r).tup_inv
    exact ⟨a, vs, rfl, .inr ⟨h1, post_itr hp1 w1 (nn r) (j_enumT h1 r1 (frzL_fz _))⟩⟩
  · exact hp1.elim
theorem vi_rev (hm : X.mg "reversed" = none) (ha : VA X W [e] ms) (hg : Gl X "reversed" := by rfl) (hs : starEach [e] X.env = [(false, eval e X.env)] := by rfl) : VI X W tg (.Call (.Name "reversed" p) [e] [] pos) (fun env => (ms env).bind rev1D) := by
  refine PI.to (pi_reversed hg hm ha hs) fun σ H Q h => ?_
  refine tT_first h fun F env d v H1 F1 us1 he s1 g1 w1 r1 n1 f1 hp1 => ?_
  unfold rev1D at hp1
  split at hp1
  · obtain ⟨x, rfl, r⟩ := RepL.one r1
    obtain ⟨a, vs, rfl, h1, r1⟩ := rep_lst_frz (rep_all r)
    exact ⟨a, vs, rfl, h1.sq, post_itr hp1 w1 (nn r) (j_rev h1 r1 (frzL_fz _))⟩
  · exact hp1.elim
theorem vi_zip (hm : X.mg "zip" = none) (ha : VA X W [a, b] ms) (hg : Gl X "zip" := by rfl) (hs : starEach [a, b] X.env = (false, eval a X.env) :: starEach [b] X.env := by rfl) (hpl : (backTo pos (starEach [b] X.env)).any (·.1) = false := by rfl) :
    VI X W (.Tuple elts kk tpos) (.Call (.Name "zip" p) [a, b] [] pos) (fun env => (ms env).bind zip2D) := by
  refine PI.to (pi_zipB hg hm ha hs hpl) fun σ H Q h => ?_
  refine tT_first h fun F env d v H1 F1 us1 he s1 g1 w1 r1 n1 f1 hp1 => ?_
  rcases zip2_no d with ⟨zs, hz⟩ | hz
  · rw [hz] at hp1
    obtain ⟨x, y, ds, es, rfl, h1, h2, rfl⟩ := zip2_sq hz
    obtain ⟨vx, vy, u1, u2, rfl, rfl, r, r'⟩ := RepL.two r1
    obtain ⟨k1, a, vs, rfl, q1, q2⟩ := rep_sqD h1 (r.frz (F' := fun a => F1 a ∨ a ∈ u1 ++ u2) (fun _ h => .inl h) fun _ h => .inr (List.mem_append_left _ h))
    obtain ⟨k2, b, ws, rfl, q3, q4⟩ := rep_sqD h2 (r'.frz (F' := fun a => F1 a ∨ a ∈ u1 ++ u2) (fun _ h => .inl h) fun _ h => .inr (List.mem_append_right _ h))
    exact ⟨k1, k2, a, b, vs, ws, rfl, stB_sq q1, stB_sq q3, post_itr hp1 w1 (fun a ha => (List.mem_append.mp ha).elim (nn r a) (nn r' a)) (j_zipB q1 q2 q3 q4 (frzL_fz _) (frzL_fz _))⟩
  · rw [hz] at hp1; exact hp1.elim

inductive Pat where | name (i : Nat) | tup (ps : List Pat)
mutual
def bindP : Pat → D → Env → R Env
  | .name i, d, env => if i < env.length then .ok (env.set i (some d)) else .bad
  | .tup ps, .tup ds, env => bindPs ps ds env
  | .tup _, _, _ => .bad
def bindPs : List Pat → List D → Env → R Env
  | [], [], env => .ok env
  | p :: ps, d :: ds, env => (bindP p d env).bind fun e => bindPs ps ds e
  | _, _, _ => .bad
end
mutual
def Pat.slots : Pat → List Nat
  | .name i => [i]
  | .tup ps => slotsL ps
def slotsL : List Pat → List Nat
  | [] => []
  | p :: ps => p.slots ++ slotsL ps
end
mutual
def gP (K : Frag) : Pat → TG
  | .name i => gName i
  | .tup ps => gTup K ps.length (gPs K ps)
def gPs (K : Frag) : List Pat → TGs
  | [] => gNil
  | p :: ps => gCons (gP K p) (gPs K ps)
end
abbrev VG (X : Cx) (tg : Expr) (p : Pat) : Prop := PG X tg (gP X.K p)
abbrev VGs (X : Cx) (tgs : List Expr) (ps : List Pat) : Prop := PGs X tgs (gPs X.K ps)
theorem vg_name (i : Nat) {x : Str} (hN : X.N.Nodup) (hi : X.N[i]? = some x := by rfl) (hx : Loc X.env.scope x := by first | exact Or.inl rfl | exact Or.inr rfl) (hf : X.fn x = true ∨ X.env.scope.names.lookup x = some .local := by first | exact .inl rfl | exact .inr rfl) : VG X (.Name x pos) (.name i) := pg_name hN hi hx hf
theorem vgs_nil : VGs X [] [] := pgs_nil
theorem vgs_cons {q : Pat} {qs : List Pat} (h1 : VG X e q) (h2 : VGs X es qs) (hs : (assignEach (e :: es) X.env).map (·.2) = assign e X.env :: (assignEach es X.env).map (·.2) := by rfl) : VGs X (e :: es) (q :: qs) := pgs_cons h1 h2 hs
theorem vg_tup {k : Nat} {qs : List Pat} (hc : X.calm = true) (h : VGs X es qs) (hn : (assignEach es X.env).length = qs.length := by rfl) (hst : (assignEach es X.env).findIdx? (·.1) = none := by rfl) : VG X (.Tuple es k pos) (.tup qs) := pg_tup hc h hn hst
theorem RepL.cons_inv {H : Hp} {F : Fz} {xs : List V} {d : D} {ds : List D} {us : List Addr} (r : RepL K H F xs (d :: ds) us) : ∃ v vs u1 u2, xs = v :: vs ∧ us = u1 ++ u2 ∧ Rep K H F v d u1 ∧ RepL K H F vs ds u2 := by
  cases r with
  | cons a l => exact ⟨_, _, _, _, rfl, rfl, a, l⟩
mutual
def Sto (K : Frag) (H : Hp) : Pat → V → L2.St → L2.St → Prop
  | .name i, v, σ, σ' => σ' = σ.set i (some v)
  | .tup ps, v, σ, σ' => ∃ a xs, v = .ref a ∧ SqT K H a xs ∧ xs.length = ps.length ∧ StoL K H ps xs σ σ'
def StoL (K : Frag) (H : Hp) : List Pat → List V → L2.St → L2.St → Prop
  | [], xs, σ, σ' => xs = [] ∧ σ' = σ
  | p :: ps, xs, σ, σ' => ∃ v r σ1, xs = v :: r ∧ Sto K H p v σ σ1 ∧ StoL K H ps r σ1 σ'
end
mutual
theorem gP_of {H : Hp} {Q : L2.St → Hp → Prop} : ∀ (p : Pat) (v : V) (σ σ' : L2.St), Sto K H p v σ σ' → Q σ' H → gP K p v σ H Q
  | .name i, v, σ, σ', h, q => by
    simp only [Sto] at h
    subst h
    exact q
  | .tup ps, v, σ, σ', h, q => by
    simp only [Sto] at h
    obtain ⟨a, xs, rfl, h1, h2, h3⟩ := h
    simp only [gP]
    exact ⟨a, xs, rfl, h1, h2, gPs_of ps xs σ σ' h3 q⟩
theorem gPs_of {H : Hp} {Q : L2.St → Hp → Prop} : ∀ (ps : List Pat) (xs : List V) (σ σ' : L2.St), StoL K H ps xs σ σ' → Q σ' H → gPs K ps xs σ H Q
  | [], xs, σ, σ', h, q => by
    simp only [StoL] at h
    obtain ⟨rfl, rfl⟩ := h
    exact ⟨rfl, q⟩
  | p :: ps, xs, σ, σ', h, q => by
    simp only [StoL] at h
    obtain ⟨v, r, σ1, rfl, h1, h2⟩ := h
    simp only [gPs]
    exact ⟨v, r, rfl, gP_of p v σ σ1 h1 (gPs_of ps r σ1 σ' h2 q)⟩
end
theorem EnvT.set {H : Hp} {F : Fz} {σ : L2.St} {env : Env} {i : Nat} {v : V} {d : D} (h : EnvT K H F σ env) (hi : i < env.length) (r : Rep K H F v (frz d) []) : EnvT K H F (σ.set i (some v)) (env.set i (some d)) := by
  refine ⟨by simpa using h.1, fun j d' e => ?_⟩
  by_cases hj : i = j
  · subst hj
    rw [List.getElem?_set_self hi] at e
    cases e
    exact ⟨v, List.getElem?_set_self (by have := h.1; omega), r⟩
  · rw [List.getElem?_set_ne hj] at e
    obtain ⟨v', e1, r1⟩ := h.2 j d' e
    exact ⟨v', by rw [List.getElem?_set_ne hj]; exact e1, r1⟩
theorem wipe_set {σ : L2.St} {i : Nat} {v : Option V} : ∀ vs : List Nat, i ∈ vs → wipe (σ.set i v) vs = wipe σ vs
  | [], h => nomatch h
  | j :: vs, h => by
    unfold wipe
    by_cases hj : i ∈ vs
    · rw [wipe_set vs hj]
    · have e : i = j := by simpa [hj] using h
      subst e
      clear h
      have : ∀ ws : List Nat, i ∉ ws → wipe (σ.set i v) ws = (wipe σ ws).set i v := by
        intro ws
        induction ws with
        | nil => intro _; rfl
        | cons k ws ih =>
          intro h
          unfold wipe
          rw [ih fun z => h (List.mem_cons_of_mem _ z), List.set_comm]
          exact fun z => h (z ▸ List.mem_cons_self)
      rw [this vs hj, List.set_set]
theorem wipe_get (σ : L2.St) (i : Nat) : ∀ vs : List Nat, (wipe σ vs)[i]? = if i ∈ vs then (σ[i]?).map (fun _ => none) else σ[i]?
  | [] => by simp [wipe]
  | v :: vs => by
    unfold wipe
    by_cases hv : v = i
    · subst hv
      rw [List.getElem?_set_self', wipe_get σ v vs]
      split <;> simp <;> rfl
    · rw [List.getElem?_set_ne hv, wipe_get σ i vs]
      have : i ∈ v :: vs ↔ i ∈ vs := by
        constructor
        · intro h
          rcases List.mem_cons.mp h with h | h
          · exact absurd h.symm hv
          · exact h
        · exact List.mem_cons_of_mem _
      simp only [this]
theorem wipe_wipe (σ : L2.St) (vs : List Nat) : wipe (wipe σ vs) vs = wipe σ vs := by
  apply List.ext_getElem?
  intro i
  rw [wipe_get, wipe_get]
  split
  · cases σ[i]? <;> rfl
  · rfl
mutual
theorem bindP_T {H : Hp} {F : Fz} : ∀ (p : Pat) (v : V) (d : D) (σ : L2.St) (env env' : Env), Rep K H F v d [] → frz d = d → EnvT K H F σ env → bindP p d env = .ok env' →
    ∃ σ', Sto K H p v σ σ' ∧ EnvT K H F σ' env' ∧ ∀ vs, (∀ i ∈ p.slots, i ∈ vs) → wipe σ' vs = wipe σ vs
  | .name i, v, d, σ, env, env', r, hf, he, h => by
    simp only [bindP] at h
    split at h
    · rename_i hi
      cases h
      exact ⟨σ.set i (some v), by simp only [Sto], he.set hi (by rw [hf]; exact r), fun vs hv => wipe_set vs (hv i (by simp [Pat.slots]))⟩
    · cases h
  | .tup ps, v, .tup ds, σ, env, env', r, hf, he, h => by
    simp only [bindP] at h
    obtain ⟨a, xs, rfl, h1, r1⟩ := r.tup_inv
    obtain ⟨σ', s1, s2, s3, s4⟩ := bindPs_T ps xs ds σ env env' r1 (by simpa [frz] using hf) he h
    exact ⟨σ', by simp only [Sto]; exact ⟨a, xs, rfl, h1, s4, s1⟩, s2, fun vs hv => s3 vs (by simpa [Pat.slots] using hv)⟩
  | .tup _, v, .non, σ, env, env', r, hf, he, h => by simp [bindP] at h
  | .tup _, v, .bl _, σ, env, env', r, hf, he, h => by simp [bindP] at h
  | .tup _, v, .int _, σ, env, env', r, hf, he, h => by simp [bindP] at h
  | .tup _, v, .str _, σ, env, env', r, hf, he, h => by simp [bindP] at h
  | .tup _, v, .lst _ _, σ, env, env', r, hf, he, h => by simp [bindP] at h
  | .tup _, v, .dct _ _, σ, env, env', r, hf, he, h => by simp [bindP] at h
theorem bindPs_T {H : Hp} {F : Fz} : ∀ (ps : List Pat) (xs : List V) (ds : List D) (σ : L2.St) (env env' : Env), RepL K H F xs ds [] → frzL ds = ds → EnvT K H F σ env → bindPs ps ds env = .ok env' →
    ∃ σ', StoL K H ps xs σ σ' ∧ EnvT K H F σ' env' ∧ (∀ vs, (∀ i ∈ slotsL ps, i ∈ vs) → wipe σ' vs = wipe σ vs) ∧ xs.length = ps.length
  | [], xs, [], σ, env, env', r, hf, he, h => by
    simp only [bindPs] at h
    cases h
    cases r
    exact ⟨σ, by simp [StoL], he, fun _ _ => rfl, rfl⟩
  | [], xs, _ :: _, σ, env, env', r, hf, he, h => by simp [bindPs] at h
  | _ :: _, xs, [], σ, env, env', r, hf, he, h => by simp [bindPs] at h
  | p :: ps, xs, d :: ds, σ, env, env', r, hf, he, h => by
    simp only [bindPs] at h
    have hf' : frz d = d ∧ frzL ds = ds := by simpa [frzL] using hf
    obtain ⟨v, vs, u1, u2, rfl, hu, ra, rl⟩ := r.cons_inv
    obtain ⟨rfl, rfl⟩ := List.append_eq_nil_iff.mp hu.symm
    cases q : bindP p d env with
    | ok e1 =>
      rw [q] at h
      obtain ⟨σ1, a1, a2, a3⟩ := bindP_T p v d σ env e1 ra hf'.1 he q
      obtain ⟨σ2, b1, b2, b3, b4⟩ := bindPs_T ps vs ds σ1 e1 env' rl hf'.2 a2 h
      refine ⟨σ2, by simp only [StoL]; exact ⟨v, vs, σ1, rfl, a1, b1⟩, b2, fun ws hw => ?_, by simp [b4]⟩
      rw [b3 ws fun i hi => hw i (by simp [slotsL, hi]), a3 ws fun i hi => hw i (by simp [slotsL, hi])]
    | exc c d => rw [q] at h; cases h
    | bad => rw [q] at h; cases h
end

def wipeD (env : Env) : List Nat → Env
  | [] => env
  | v :: vs => (wipeD env vs).set v none
theorem EnvT.wipe {H : Hp} {F : Fz} {σ : L2.St} {env : Env} (h : EnvT K H F σ env) : ∀ vs : List Nat, EnvT K H F (L2.wipe σ vs) (wipeD env vs)
  | [] => h
  | v :: vs => by
    have ih := EnvT.wipe h vs
    refine ⟨by simpa [L2.wipe, wipeD] using ih.1, fun i d e => ?_⟩
    unfold wipeD at e
    by_cases hi : v = i
    · subst hi
      rw [List.getElem?_set] at e
      split at e
      · split at e <;> cases e
      · rename_i h; exact absurd rfl h
    · rw [List.getElem?_set_ne hi] at e
      obtain ⟨x, e1, r⟩ := ih.2 i d e
      exact ⟨x, by unfold L2.wipe; rw [List.getElem?_set_ne hi]; exact e1, r⟩
def noexc {α : Type} : R α → R α
  | .ok a => .ok a
  | _ => .bad
def lcD (p : Pat) (vs : List Nat) (mt : Env → R Bool) (me : T) (env : Env) : List D → R (List D)
  | [] => .ok []
  | d :: ds => (noexc (bindP p d (wipeD env vs))).bind fun e1 => (noexc (mt e1)).bind fun b => if b = true then (noexc (me e1)).bind fun r => (lcD p vs mt me env ds).bind fun rs => .ok (r :: rs) else lcD p vs mt me env ds
def lcFin (rs : List D) : R D := if rs.length ≤ LIM then .ok (.lst true rs) else .bad
theorem noexc_bind {α β : Type} {r : R α} {k : α → R β} {Rp : RpT V D} {H : Hp} {F : Fz} {us : List Addr} {Q : VK} {E : Option XK} {f : β → R D} (h : Post K mg Rp H F us (((noexc r).bind k).bind f) Q E) : ∃ a, r = .ok a ∧ Post K mg Rp H F us ((k a).bind f) Q E := by
  cases r with
  | ok a => exact ⟨a, rfl, h⟩
  | exc c d => exact h.elim
  | bad => exact h.elim
theorem lcD_exc (p : Pat) (vs : List Nat) (mt : Env → R Bool) (me : T) (env : Env) (c : Str) (d : D) : ∀ ds : List D, lcD p vs mt me env ds ≠ .exc c d
  | [] => fun z => by cases z
  | x :: ds => fun z => by
    have ih := lcD_exc p vs mt me env c d ds
    simp only [lcD] at z
    cases h1 : bindP p x (wipeD env vs) with
    | bad => rw [h1] at z; cases z
    | exc _ _ => rw [h1] at z; cases z
    | ok e1 =>
      rw [h1] at z
      simp only [noexc, R.bind_ok] at z
      cases h2 : mt e1 with
      | bad => rw [h2] at z; cases z
      | exc _ _ => rw [h2] at z; cases z
      | ok b =>
        rw [h2] at z
        simp only [noexc, R.bind_ok] at z
        split at z
        · cases h3 : me e1 with
          | bad => rw [h3] at z; cases z
          | exc _ _ => rw [h3] at z; cases z
          | ok r =>
            rw [h3] at z
            simp only [noexc, R.bind_ok] at z
            cases h4 : lcD p vs mt me env ds with
            | bad => rw [h4] at z; cases z
            | exc _ _ => rw [h4] at z; cases z; exact ih h4
            | ok _ => rw [h4] at z; cases z
        · exact ih z
theorem lc_len {p : Pat} {vs : List Nat} {mt : Env → R Bool} {me : T} {env : Env} {ds da : List D} {H : Hp} {F : Fz} {us : List Addr} {Q : VK} {E : Option XK} (h : Post K mg (RpV K) H F us ((lcD p vs mt me env ds).bind fun rs => lcFin (da ++ rs)) Q E) : da.length ≤ LIM := by
  cases q : lcD p vs mt me env ds with
  | bad => rw [q] at h; exact h.elim
  | exc c d => exact (lcD_exc p vs mt me env c d ds q).elim
  | ok rs =>
    rw [q, R.bind_ok] at h
    unfold lcFin at h
    split at h
    · rename_i hl
      rw [List.length_append] at hl
      omega
    · exact h.elim
theorem lc_reads {p : Pat} {vs : List Nat} {mi : Env → R (List D)} {mt : Env → R Bool} {me : T} {σ : L2.St} {H : Hp} {Q : VK} (hp : ∀ i ∈ p.slots, i ∈ vs) (h : tT K mg W (RpV K) (fun env => (mi env).bind fun ds => (lcD p vs mt me env ds).bind lcFin) σ H Q) :
    tLc (tT K mg W (RpI K) mi) (gP K p) (tT K mg none RpB mt) (tT K mg none (RpV K) me) vs σ H Q := by
  refine tT_first h fun F env ds J H1 F1 us1 he1 s1 g1 w1 r1 n1 f1 hp1 => ?_
  obtain ⟨jr, rfl⟩ := r1
  intro D0 hD
  have hDF : ¬ F1 D0 := w1.not hD
  refine ⟨fun i m Hc => m = ds.length - i ∧ i ≤ ds.length ∧ ∃ acc da ua Fc, Hc D0 = some (.lst acc) ∧ Same H1 Hc ∧ Grow F1 Fc [] H1 ∧ Wf Fc Hc ∧ ¬ Fc D0 ∧ RepL K Hc Fc acc da ua ∧ ua.Nodup ∧ (∀ a ∈ ua, ¬ Fc a ∧ H1 a = none ∧ a ≠ D0) ∧
    Post K mg (RpV K) H1 F1 [] ((lcD p vs mt me env (ds.drop i)).bind fun rs => lcFin (da ++ rs)) Q (wX W σ), ⟨ds.length, by simp, Nat.zero_le _, [], [], [], F1, upd_same, same_new hD, Grow.refl, w1.same (same_new hD), hDF, .nil, by simp, (fun _ z => nomatch z), by simpa using hp1⟩, ?_⟩
  rintro i m Hc ⟨rfl, hil, acc, da, ua, Fc, hacc, sc, gc, wc, hDc, rl, nd, fa, hpc⟩
  have kp : Keep F1 [] H1 Hc := Keep.same sc
  by_cases hlt : i < ds.length
  · refine .inr ⟨jr.go Hc i kp hlt, fun H' => i + 1 ≤ ds.length ∧ ∃ acc da ua Fc, H' D0 = some (.lst acc) ∧ Same H1 H' ∧ Grow F1 Fc [] H1 ∧ Wf Fc H' ∧ ¬ Fc D0 ∧ RepL K H' Fc acc da ua ∧ ua.Nodup ∧ (∀ a ∈ ua, ¬ Fc a ∧ H1 a = none ∧ a ≠ D0) ∧
      Post K mg (RpV K) H1 F1 [] ((lcD p vs mt me env (ds.drop (i + 1))).bind fun rs => lcFin (da ++ rs)) Q (wX W σ), fun H' z => ⟨ds.length - (i + 1), by omega, rfl, z⟩, fun x H' y => ?_⟩
    have hd : ds[i]? = some ds[i] := List.getElem?_eq_getElem hlt
    obtain ⟨s2, rx⟩ := jr.yld Hc Fc i x H' kp gc.sub wc y _ hd
    rw [List.drop_eq_getElem_cons hlt] at hpc
    simp only [lcD] at hpc
    have hfz : frz ds[i] = ds[i] := jr.fz _ (List.getElem_mem hlt)
    obtain ⟨e1, q1, hpc⟩ := noexc_bind hpc
    have heC : EnvT K H' Fc σ env := he1.same (sc.trans s2) gc.sub
    obtain ⟨σ2, t1, t2, t3⟩ := bindP_T p x _ (wipe σ vs) (wipeD env vs) e1 rx hfz (EnvT.wipe heC vs) q1
    refine gP_of p x _ σ2 t1 ⟨(t3 vs hp).trans (wipe_wipe σ vs), ?_⟩
    obtain ⟨bb, q2, hpc⟩ := noexc_bind hpc
    refine ⟨Fc, e1, t2, wc.same s2, ?_⟩
    rw [q2]
    intro b3 H3 F3 u3 s3 g3 w3 r3 n3 f3
    obtain ⟨rfl, rfl⟩ := r3
    have g3' : Grow F1 F3 [] H1 := gc.trans (us1 := []) (sc.trans s2) (fun _ z => nomatch z) g3
    have rl3 := rl.same (s2.trans s3) g3.sub
    have fa3 : ∀ a ∈ ua, ¬ F3 a ∧ H1 a = none ∧ a ≠ D0 := fun a ha => ⟨fun z => by
      rcases g3.new a z with z | z | z
      · exact (fa a ha).1 z
      · cases z
      · exact nnL rl a ha (s2.free z), (fa a ha).2⟩
    have hD3 : ¬ F3 D0 := fun z => by
      rcases g3.new _ z with z | z | z
      · exact hDc z
      · cases z
      · have := s2.free z; rw [hacc] at this; cases this
    have acc3 : H3 D0 = some (.lst acc) := s3 _ _ (s2 _ _ hacc)
    cases b3 with
    | false =>
      rw [if_neg Bool.false_ne_true] at hpc ⊢
      exact ⟨hlt, acc, da, ua, F3, acc3, (sc.trans s2).trans s3, g3', w3, hD3, rl3, nd, fa3, hpc⟩
    | true =>
      rw [if_pos rfl] at hpc ⊢
      obtain ⟨rr, q3, hpc⟩ := noexc_bind hpc
      refine ⟨F3, e1, t2.same s3 g3.sub, w3, ?_⟩
      rw [q3]
      intro y4 H4 F4 u4 s4 g4 w4 r4 n4 f4
      have hpc' : Post K mg (RpV K) H1 F1 [] ((lcD p vs mt me env (ds.drop (i + 1))).bind fun rs => lcFin ((da ++ [rr]) ++ rs)) Q (wX W σ) := by
        have e : ((lcD p vs mt me env (ds.drop (i + 1))).bind fun rs => R.ok (rr :: rs)).bind (fun rs => lcFin (da ++ rs)) = (lcD p vs mt me env (ds.drop (i + 1))).bind fun rs => lcFin ((da ++ [rr]) ++ rs) := by
          cases lcD p vs mt me env (ds.drop (i + 1)) <;> simp
        rw [← e]
        exact hpc
      have hlen := lc_len hpc'
      rw [List.length_append] at hlen
      have f4' : ∀ a ∈ u4, ¬ F4 a ∧ H3 a = none := fun a ha => ⟨(f4 a ha).1, (f4 a ha).2.elim (fun z => nomatch z) id⟩
      have hD4 : ¬ F4 D0 := fun z => by
        rcases g4.new _ z with z | z | z
        · exact hD3 z
        · cases z
        · rw [acc3] at z; cases z
      have acc4 : H4 D0 = some (.lst acc) := s4 _ _ acc3
      have u4D : D0 ∉ u4 := fun z => by have := (f4' _ z).2; rw [acc3] at this; cases this
      have fa4 : ∀ a ∈ ua, ¬ F4 a := fun a ha z => by
        rcases g4.new a z with z | z | z
        · exact (fa3 a ha).1 z
        · cases z
        · exact nnL rl3 a ha z
      have kD : Keep F4 (ua ++ u4) H4 (upd H4 D0 (.lst (acc ++ [y4]))) := fun b o hb hk => by
        rw [upd_ne (fun z => ?_)]
        · exact hb
        · subst z
          rcases hk with hk | hk | hk
          · exact hD4 hk
          · rcases List.mem_append.mp hk with hk | hk
            · exact (fa _ hk).2.2 rfl
            · exact u4D hk
          · rw [acc4] at hb; cases hb; exact hk trivial
      have same1 : Same H1 (upd H4 D0 (.lst (acc ++ [y4]))) := fun b o hb => by
        rw [upd_ne (ne_of_none hb hD)]
        exact ((sc.trans s2).trans (s3.trans s4)) b o hb
      refine ⟨acc, acc4, ?_, hlt, acc ++ [y4], da ++ [rr], ua ++ (u4 ++ []), F4, upd_same, same1, g3'.trans (us1 := []) ((sc.trans s2).trans s3) (fun _ z => nomatch z) g4, ?_, hD4, ?_, ?_, ?_, hpc'⟩
      · rw [rl.length, sizeLine_eq]
        have := hlen
        simp only [List.length_cons, List.length_nil, LIM] at this
        omega
      · intro a hF
        by_cases ha : a = D0
        · subst ha; rw [upd_same]; exact fun z => by cases z
        · rw [upd_ne ha]; exact w4 a hF
      · refine RepL.append (us := ua) ((rl3.same s4 g4.sub).keep (us := ua) (F' := F4) (kD.mono fun a ha => List.mem_append_left _ ha) fun _ h => h) (.cons (us := []) (r4.keep (F' := F4) (kD.mono fun a ha => List.mem_append_right _ ha) fun _ h => h) .nil)
      · rw [List.append_nil]
        exact List.nodup_append.mpr ⟨nd, n4, fun a ha b hb e => nnL rl3 a ha (e ▸ (f4' b hb).2)⟩
      · intro a ha
        rw [List.append_nil] at ha
        rcases List.mem_append.mp ha with ha | ha
        · exact ⟨fa4 a ha, (fa a ha).2⟩
        · exact ⟨(f4' a ha).1, ((sc.trans s2).trans s3).free (f4' a ha).2, fun z => u4D (z ▸ ha)⟩
  · have e : i = ds.length := by omega
    subst e
    refine .inl ⟨jr.stop Hc kp, ?_⟩
    rw [List.drop_length] at hpc
    simp only [lcD, R.bind_ok, List.append_nil] at hpc
    unfold lcFin at hpc
    split at hpc
    · refine hpc (.ref D0) Hc Fc (D0 :: ua) sc gc wc (.lstO hacc rl) (List.nodup_cons.mpr ⟨fun z => (fa _ z).2.2 rfl, nd⟩) fun a ha => ?_
      rcases List.mem_cons.mp ha with rfl | ha
      · exact ⟨hDc, .inr hD⟩
      · exact ⟨(fa a ha).1, .inr (fa a ha).2.1⟩
    · exact hpc.elim

theorem ve_lc {elt tg iter : Expr} {ifs : List Expr} {scope : Scope} {own : List (Str × Nat)} {vs : List Nat} {pp : Pos} {p : Pat} {mi : Env → R (List D)} {mt : Env → R Bool} {me : T} (hc : X.calm = true) (hN : X.N.Nodup) (hi : VI X W tg iter mi) (ok : BlkOk X.N X.env.scope scope own)
    (hg : ∀ (s : Shared) (H : Hp) (C : Addr) (cl : List (Str × Addr)) (fp : List Addr), VG (X.blk s H scope (compEnvC scope cl C X.env) fp) tg p)
    (ht : ∀ (s : Shared) (H : Hp) (C : Addr) (cl : List (Str × Addr)) (fp : List Addr), PTs (X.blk s H scope (compEnvC scope cl C X.env) fp) ifs (tT X.K X.mg none RpB mt))
    (he : ∀ (s : Shared) (H : Hp) (C : Addr) (cl : List (Str × Addr)) (fp : List Addr), VE (X.blk s H scope (compEnvC scope cl C X.env) fp) none elt me)
    (hvs : own.map (·.2) = vs := by rfl) (hp : ∀ i ∈ p.slots, i ∈ vs := by decide) (hs : ∀ x, foldedSetIterable iter X.env x = pure x := by intro _; rfl) :
    VE X W (.ListComp elt [⟨tg, iter, ifs, 0⟩] scope pp) (fun env => (mi env).bind fun ds => (lcD p vs mt me env ds).bind lcFin) := by
  subst hvs
  exact PE.to (pe_lc (g := gP X.K p) (tt := tT X.K X.mg none RpB mt) (te := tT X.K X.mg none (RpV X.K) me) hc hN hi ok hg ht he hs) fun σ H Q h => lc_reads hp h

def spD (K : Frag) (mg : Str → Option Value) (n : Nat) (f : List D → R D) : Sp := fun vs H Q E => ∃ F ds, vs.length = n ∧ RepL K H F vs ds [] ∧ (∀ d ∈ ds, frz d = d) ∧ Wf F H ∧ Post K mg (RpV K) H F [] (f ds) Q (some E)
def TkW (X : Cx) : Option WX → Prop
  | none => True
  | some W => Takes X W
def eW : Option WX → L2.St → XK
  | none => fun _ _ _ _ => False
  | some W => WE W
theorem frz_post {H : Hp} {F : Fz} {us : List Addr} {r : R D} {Q : VK} {E : Option XK} (h : Post K mg (RpV K) H F us r Q E) (E' : XK) (he : ∀ x, E = some x → E' = x) : Post K mg (RpV K) H (fun a => F a ∨ a ∈ us) [] r Q (some E') := by
  have gr : ∀ {F'}, Grow (fun a => F a ∨ a ∈ us) F' [] H → Grow F F' us H := fun g => ⟨fun a q => g.sub a (.inl q), fun a q => by
    rcases g.new a q with (z | z) | z | z
    · exact .inl z
    · exact .inr (.inl z)
    · cases z
    · exact .inr (.inr z)⟩
  cases r with
  | ok d => exact fun v H' F' us' s g w r n f => h v H' F' us' s (gr g) w r n fun a ha => ⟨(f a ha).1, .inr ((f a ha).2.elim (fun z => nomatch z) id)⟩
  | exc c d =>
    obtain ⟨E1, e1, h⟩ := h
    refine ⟨E1, by rw [he E1 e1], fun C dx v H' F' m s g w x r => h C dx v H' F' m s (gr g) w x r⟩
  | bad => exact h
theorem ve_call {k : Nat} {f : Addr} {fd : FuncData} {ps : List Str} {x : Str} {n : Nat} {fn : List D → R D} (G : FnOk X.prog X.w X.K X.mg X.base (L2.CX X.prog X.w) k f fd ps (spD X.K X.mg n fn)) (hr : Room k X.A) (hm : X.mg x = some (.ref f)) (hk : PySem.W.keepIn X.K (.ref f) = true) (hb : Binds X.K fd ps [])
    (tk : TkW X W) (ha : VA X W (e :: es) ms) (hg : Gl X x := by rfl) (hdb : (x == ("__debug__" : Str)) = false := by decide) (he : starEach (e :: es) X.env = (false, eval e X.env) :: starEach es X.env := by rfl) (hpl : (backTo pos (starEach es X.env)).any (·.1) = false := by rfl) :
    VE X W (.Call (.Name x p) (e :: es) [] pos) (fun env => (ms env).bind fun ds => if ds.length = n then fn (frzL ds) else .bad) := by
  have hx : ∀ σ, PassesAt (L2.CX X.prog X.w) X σ (eW W σ) := by
    intro σ
    cases W with
    | none =>
      intro pins H s e s' I c
      obtain ⟨_, _, _, _, _, _, _, _, _, _, _, _, z⟩ := c
      exact z.elim
    | some W => exact passAt tk σ
  refine PE.to (pe_callS G hr hg hm hk hb hx ha hdb he hpl) fun σ H Q h => ?_
  refine tT_first h fun F env d v H1 F1 us1 he s1 g1 w1 r1 n1 f1 hp1 => ?_
  split at hp1
  · rename_i hl
    exact ⟨_, _, by rw [r1.length, hl], repL_all r1, frzL_fz _, fun a q => q.elim (w1 a) (nnL r1 a), frz_post hp1 _ fun y hy => by
      cases W with
      | none => cases hy
      | some W => cases hy; rfl⟩
  · exact hp1.elim
end
end VL
end

section
set_option Elab.async false
set_option linter.all false
set_option maxRecDepth 100000
set_option maxHeartbeats 2000000
namespace VL
open PySem PySem.W PySem.Spec PyProof.Rows L2

inductive Slots (K : Frag) (H : Hp) (F : Fz) : L2.St → Env → List Addr → Prop
  | nil : Slots K H F [] [] []
  | off {x : Option V} {σ : L2.St} {env : Env} {us : List Addr} : Slots K H F σ env us → Slots K H F (x :: σ) (none :: env) us
  | on {v : V} {d : D} {u : List Addr} {σ : L2.St} {env : Env} {us : List Addr} : Rep K H F v d u → Slots K H F σ env us → Slots K H F (some v :: σ) (some d :: env) (u ++ us)
section
variable {K : Frag} {H H' : Hp} {F F' : Fz}
theorem Slots.len : ∀ {σ : L2.St} {env : Env} {us : List Addr}, Slots K H F σ env us → env.length = σ.length
  | _, _, _, .nil => rfl
  | _, _, _, .off s => by simp [s.len]
  | _, _, _, .on _ s => by simp [s.len]
theorem Slots.keep : ∀ {σ : L2.St} {env : Env} {us : List Addr}, Slots K H F σ env us → Keep F us H H' → (∀ a, F a → F' a) → Slots K H' F' σ env us
  | _, _, _, .nil, _, _ => .nil
  | _, _, _, .off s, k, f => .off (s.keep k f)
  | _, _, _, .on r s, k, f => .on (r.keep (k.mono fun a q => List.mem_append_left _ q) f) (s.keep (k.mono fun a q => List.mem_append_right _ q) f)
theorem Slots.there : ∀ {σ : L2.St} {env : Env} {us : List Addr}, Slots K H F σ env us → ∀ a ∈ us, ∃ o, H a = some o ∧ Mut (some o)
  | _, _, _, .nil => fun _ h => nomatch h
  | _, _, _, .off s => s.there
  | _, _, _, .on r s => fun a ha => (List.mem_append.mp ha).elim (r.there a) (s.there a)
theorem Slots.get : ∀ {σ : L2.St} {env : Env} {us : List Addr} {i : Nat} {d : D}, Slots K H F σ env us → env[i]? = some (some d) → ∃ v u us', σ[i]? = some (some v) ∧ Rep K H F v d u ∧ Slots K H F σ (env.set i none) us' ∧ us.Perm (u ++ us')
  | _, _, _, i, d, .nil, e => by simp at e
  | _, _, _, 0, d, .off s, e => by simp at e
  | _, _, _, 0, d, .on (v := v) (u := u) (us := us) r s, e => by
    simp at e; subst e
    exact ⟨v, u, us, rfl, r, .off s, List.Perm.refl _⟩
  | _, _, _, i + 1, d, .off s, e => by
    obtain ⟨v, u, us', h1, h2, h3, h4⟩ := s.get (i := i) (d := d) (by simpa using e)
    exact ⟨v, u, us', by simpa using h1, h2, .off h3, h4⟩
  | _, _, _, i + 1, d, .on (u := u0) r s, e => by
    obtain ⟨v, u, us', h1, h2, h3, h4⟩ := s.get (i := i) (d := d) (by simpa using e)
    refine ⟨v, u, u0 ++ us', by simpa using h1, h2, .on r h3, ?_⟩
    refine (List.Perm.append_left u0 h4).trans ?_
    rw [← List.append_assoc, ← List.append_assoc]
    exact List.Perm.append_right us' List.perm_append_comm
/-- a slot is forgotten -/
theorem Slots.drop : ∀ {σ : L2.St} {env : Env} {us : List Addr} (i : Nat), Slots K H F σ env us → ∃ us', Slots K H F σ (env.set i none) us' ∧ Less us' us
  | _, _, _, _, .nil => ⟨_, .nil, .refl⟩
  | _, _, _, 0, .off s => ⟨_, .off s, .refl⟩
  | _, _, _, 0, .on r s => ⟨_, .off s, .of (List.sublist_append_right _ _)⟩
  | _, _, _, i + 1, .off s => by
    obtain ⟨u, h, l⟩ := s.drop i
    exact ⟨u, .off h, l⟩
  | _, _, _, i + 1, .on r s => by
    obtain ⟨u, h, l⟩ := s.drop i
    exact ⟨_, .on r h, .app .refl l⟩
/-- a slot that is off is filled -/
theorem Slots.fill : ∀ {σ : L2.St} {env : Env} {us : List Addr} {i : Nat} {v : V} {d : D} {u : List Addr}, Slots K H F σ env us → i < env.length → (env[i]? = some none) → Rep K H F v d u → ∃ us', Slots K H F (σ.set i (some v)) (env.set i (some d)) us' ∧ us'.Perm (u ++ us)
  | _, _, _, i, _, _, _, .nil, h, _, _ => by simp at h
  | _, _, _, 0, v, d, u, .off s, h, e, r => ⟨_, .on r s, List.Perm.refl _⟩
  | _, _, _, 0, v, d, u, .on _ s, h, e, r => by simp at e
  | _, _, _, i + 1, v, d, u, .off s, h, e, r => by
    obtain ⟨us', h1, h2⟩ := s.fill (i := i) (by simpa using h) (by simpa using e) r
    exact ⟨us', .off h1, h2⟩
  | _, _, _, i + 1, v, d, u, .on (u := u0) (us := us) r0 s, h, e, r => by
    obtain ⟨us', h1, h2⟩ := s.fill (i := i) (by simpa using h) (by simpa using e) r
    refine ⟨u0 ++ us', .on r0 h1, (List.Perm.append_left u0 h2).trans ?_⟩
    rw [← List.append_assoc, ← List.append_assoc]
    exact List.Perm.append_right us List.perm_append_comm
theorem Slots.set {σ : L2.St} {env : Env} {us : List Addr} {i : Nat} {v : V} {d : D} {u : List Addr} (s : Slots K H F σ env us) (h : i < env.length) (r : Rep K H F v d u) : ∃ us', Slots K H F (σ.set i (some v)) (env.set i (some d)) us' ∧ Less us' (u ++ us) := by
  obtain ⟨u1, s1, l1⟩ := s.drop i
  obtain ⟨u2, s2, p2⟩ := s1.fill (i := i) (by simpa using h) (by rw [List.getElem?_set_self h]) r
  rw [List.set_set] at s2
  exact ⟨u2, s2, (Less.perm p2).trans (.app .refl l1)⟩
def frzE (env : Env) : Env := env.map (Option.map frz)
theorem Slots.frz : ∀ {σ : L2.St} {env : Env} {us : List Addr}, Slots K H F σ env us → (∀ a, F a → F' a) → (∀ a ∈ us, F' a) → Slots K H F' σ (frzE env) []
  | _, _, _, .nil, _, _ => .nil
  | _, _, _, .off s, f, g => .off (s.frz f g)
  | _, _, _, .on r s, f, g => .on (u := []) (us := []) (r.frz f fun a ha => g a (List.mem_append_left _ ha)) (s.frz f fun a ha => g a (List.mem_append_right _ ha))
theorem Slots.envT {σ : L2.St} {env : Env} {us : List Addr} (s : Slots K H F σ env us) (f : ∀ a, F a → F' a) (g : ∀ a ∈ us, F' a) : EnvT K H F' σ env := by
  refine ⟨Nat.le_of_eq s.len, fun i d e => ?_⟩
  obtain ⟨v, u, us', h1, h2, h3, h4⟩ := s.get e
  exact ⟨v, h1, h2.frz f fun a ha => g a (h4.mem_iff.mpr (List.mem_append_left _ ha))⟩
/-- the slots of a mask; the others -/
def mask : List Bool → Env → Env
  | b :: bs, o :: env => (if b then o else none) :: mask bs env
  | _, env => env.map fun _ => none
def unmask : List Bool → Env → Env
  | b :: bs, o :: env => (if b then none else o) :: unmask bs env
  | _, env => env
def frzAt : List Bool → Env → Env
  | b :: bs, o :: env => (if b then o.map VL.frz else o) :: frzAt bs env
  | _, env => env
theorem Slots.none : ∀ {σ : L2.St} {env : Env} {us : List Addr}, Slots K H F σ env us → Slots K H F σ (env.map fun _ => none) []
  | _, _, _, .nil => .nil
  | _, _, _, .off s => .off s.none
  | _, _, _, .on _ s => .off s.none
/-- split by a mask -/
theorem Slots.split : ∀ {σ : L2.St} {env : Env} {us : List Addr} (bs : List Bool), Slots K H F σ env us → ∃ u1 u2, Slots K H F σ (VL.mask bs env) u1 ∧ (∀ {H' : Hp} {F' : Fz}, (∀ a, F a → F' a) → (∀ a ∈ u1, F' a) → Keep F us H H' → Slots K H' F' σ (VL.frzAt bs env) u2) ∧ us.Perm (u1 ++ u2)
  | _, _, us, [], s => ⟨[], us, by simpa [VL.mask] using s.none, fun f _ k => by simpa [VL.frzAt] using s.keep k f, List.Perm.refl _⟩
  | _, _, _, _ :: _, .nil => ⟨[], [], .nil, fun _ _ _ => .nil, List.Perm.refl _⟩
  | _, _, _, b :: bs, .off s => by
    obtain ⟨u1, u2, h1, h2, h3⟩ := s.split bs
    refine ⟨u1, u2, ?_, fun f g k => ?_, h3⟩
    · cases b <;> exact .off h1
    · cases b <;> exact .off (h2 f g k)
  | _, _, _, true :: bs, .on (u := u0) (us := us) r s => by
    obtain ⟨u1, u2, h1, h2, h3⟩ := s.split bs
    refine ⟨u0 ++ u1, u2, .on r h1, fun f g k => .on (u := []) (Rep.frz (r.keep (k.mono fun a q => List.mem_append_left _ q) f) (fun _ h => h) fun a ha => g a (List.mem_append_left _ ha)) (h2 f (fun a ha => g a (List.mem_append_right _ ha)) (k.mono fun a q => List.mem_append_right _ q)), ?_⟩
    rw [List.append_assoc]
    exact List.Perm.append_left u0 h3
  | _, _, _, false :: bs, .on (u := u0) (us := us) r s => by
    obtain ⟨u1, u2, h1, h2, h3⟩ := s.split bs
    refine ⟨u1, u0 ++ u2, .off h1, fun f g k => .on (r.keep (k.mono fun a q => List.mem_append_left _ q) f) (h2 f g (k.mono fun a q => List.mem_append_right _ q)), ?_⟩
    refine (List.Perm.append_left u0 h3).trans ?_
    rw [← List.append_assoc, ← List.append_assoc]
    exact List.Perm.append_right u2 List.perm_append_comm
end

/-- an entry: what is frozen there; the slots that keep their value to the end, with it -/
structure Ent where
  F : Fz
  ix : List (Nat × V)
instance : CoeFun Ent (fun _ => Addr → Prop) := ⟨Ent.F⟩
/-- what is told: the value; where slots keep theirs, a tuple of the value and of these -/
def RetRep (K : Frag) (H : Hp) (F : Fz) (ix : List (Nat × V)) (v : V) (d : D) (u : List Addr) : Prop := match ix with
  | [] => Rep K H F v d u
  | _ => ∃ ds, d = .tup ds ∧ RepL K H F (v :: ix.map (·.2)) ds u
/-- the state of a body, since the entry (H0, F0) -/
structure Good (K : Frag) (H0 : Hp) (F0 : Ent) (H : Hp) (F : Fz) (σ : L2.St) (env : Env) (us : List Addr) : Prop where
  same : Same H0 H
  sub : ∀ a, F0 a → F a
  new : ∀ a, F a → F0 a ∨ H0 a = none
  wf : Wf F H
  sl : Slots K H F σ env us
  nod : us.Nodup
  fresh : ∀ a ∈ us, ¬ F a ∧ H0 a = none
  pin : ∀ p ∈ F0.ix, σ[p.1]? = some (some p.2)
inductive Fl where
  | nx (e : Env) | rt (d : D) | bk (e : Env) | ct (e : Env) | exc (c : Str) (d : D) (e : Env) | bad

section
variable {K : Frag} {mg : Str → Option Value} {H0 H H' : Hp} {F0 : Ent} {F F1 : Fz} {σ : L2.St} {env : Env} {us : List Addr} {W : Option WX}
def PostS (K : Frag) (mg : Str → Option Value) (H0 : Hp) (F0 : Ent) (W : Option WX) (r : Fl) (Q : Ends) : Prop := match r with
  | .nx e => ∀ σ' H' F' us', Good K H0 F0 H' F' σ' e us' → Q.nx σ' H'
  | .rt d => ∀ v H' F' u, Same H0 H' → (∀ a, F0 a → F' a) → (∀ a, F' a → F0 a ∨ H0 a = none) → Wf F' H' → RetRep K H' F' F0.ix v d u → u.Nodup → (∀ a ∈ u, ¬ F' a ∧ H0 a = none) → Q.rt v H'
  | .bk e => ∀ σ' H' F' us', Good K H0 F0 H' F' σ' e us' → Q.bk σ' H'
  | .ct e => ∀ σ' H' F' us', Good K H0 F0 H' F' σ' e us' → Q.ct σ' H'
  | .exc c d e => ∃ W', W = some W' ∧ ∀ σ' H' F' us' C dx v, Good K H0 F0 H' F' σ' e us' → ClsAt K c C → H' dx = some (.xd [("at", v)]) → Rep K H' F' v d [] → W' (.ref C) (some dx) σ' H'
  | .bad => False
def tS (K : Frag) (mg : Str → Option Value) (H0 : Hp) (F0 : Ent) (W : Option WX) (m : Env → Fl) : TS := fun Q σ H => ∃ F env us, Good K H0 F0 H F σ env us ∧ PostS K mg H0 F0 W (m env) Q
abbrev VS (X : Cx) (H0 : Hp) (F0 : Ent) (W : Option WX) (st : Stmt) (m : Env → Fl) : Prop := PS X st (tS X.K X.mg H0 F0 W m)
abbrev VSs (X : Cx) (H0 : Hp) (F0 : Ent) (W : Option WX) (st : List Stmt) (m : Env → Fl) : Prop := PSs X st (tS X.K X.mg H0 F0 W m)
theorem PS.to {X : Cx} {st : Stmt} {t t' : TS} (h : PS X st t) (i : ∀ Q σ H, t' Q σ H → t Q σ H) : PS X st t' := ⟨fun pins s σ H Q I q => h.run pins s σ H Q I (i Q σ H q)⟩
theorem PSs.to {X : Cx} {st : List Stmt} {t t' : TS} (h : PSs X st t) (i : ∀ Q σ H, t' Q σ H → t Q σ H) : PSs X st t' := ⟨fun pins s σ H Q I q => h.run pins s σ H Q I (i Q σ H q)⟩
def Fl.seq (r : Fl) (m : Env → Fl) : Fl := match r with
  | .nx e => m e
  | o => o
@[simp] theorem Fl.seq_nx (e : Env) (m : Env → Fl) : (Fl.nx e).seq m = m e := rfl
@[simp] theorem Fl.seq_rt (e : D) (m : Env → Fl) : (Fl.rt e).seq m = .rt e := rfl
@[simp] theorem Fl.seq_bk (e : Env) (m : Env → Fl) : (Fl.bk e).seq m = .bk e := rfl
@[simp] theorem Fl.seq_ct (e : Env) (m : Env → Fl) : (Fl.ct e).seq m = .ct e := rfl
@[simp] theorem Fl.seq_exc (c : Str) (d : D) (e : Env) (m : Env → Fl) : (Fl.exc c d e).seq m = .exc c d e := rfl
@[simp] theorem Fl.seq_bad (m : Env → Fl) : Fl.bad.seq m = .bad := rfl
theorem Good.keep (g : Good K H0 F0 H F σ env us) (s : Same H H') : Good K H0 F0 H' F σ env us :=
  ⟨g.same.trans s, g.sub, g.new, g.wf.same s, g.sl.keep (Keep.same s) fun _ h => h, g.nod, g.fresh, g.pin⟩
theorem Good.nn (g : Good K H0 F0 H F σ env us) : ∀ a ∈ us, H a ≠ none := fun a ha z => by
  obtain ⟨o, e, _⟩ := g.sl.there a ha
  rw [z] at e; cases e
/-- all is frozen -/
theorem Good.frz (g : Good K H0 F0 H F σ env us) (s : Same H H') (f : ∀ a, F a ∨ a ∈ us → F1 a) (n : ∀ a, F1 a → (F a ∨ a ∈ us) ∨ H a = none) (w : Wf F1 H') : Good K H0 F0 H' F1 σ (frzE env) [] :=
  ⟨g.same.trans s, fun a q => f a (.inl (g.sub a q)), fun a q => by
    rcases n a q with (z | z) | z
    · exact g.new a z
    · exact .inr (g.fresh a z).2
    · exact .inr (g.same.free z), w, (g.sl.keep (F' := F) (Keep.same s) fun _ h => h).frz (fun a q => f a (.inl q)) fun a q => f a (.inr q), by simp, (fun _ z => nomatch z), g.pin⟩
/-- what is read within a body -/
theorem tblk {α β : Type} {Rp : RpT β α} {m : Env → R α} {Q : β → Hp → Prop} (g : Good K H0 F0 H F σ env us)
    (hok : ∀ x v H' F1 u1, m env = .ok x → Same H H' → (∀ a, F a ∨ a ∈ us → F1 a) → (∀ a, F1 a → (F a ∨ a ∈ us) ∨ H a = none) → Wf F1 H' → Rp H' F1 v x u1 → u1.Nodup → (∀ a ∈ u1, ¬ F1 a ∧ H a = none) → Q v H')
    (hexc : ∀ c d, m env = .exc c d → ∃ W', W = some W' ∧ ∀ C dx v H' F1, ClsAt K c C → Good K H0 F0 H' F1 σ (frzE env) [] → H' dx = some (.xd [("at", v)]) → Rep K H' F1 v d [] → W' (.ref C) (some dx) σ H') (hbad : m env ≠ .bad) : tT K mg W Rp m σ H Q := by
  have wf : Wf (fun a => F a ∨ a ∈ us) H := fun a q => q.elim (g.wf a) (g.nn a)
  refine ⟨fun a => F a ∨ a ∈ us, env, g.sl.envT (fun _ h => .inl h) (fun _ h => .inr h), wf, ?_⟩
  cases q : m env with
  | ok x => exact fun v H' F1 u1 s gr w r n f => hok x v H' F1 u1 q s gr.sub (fun a z => (gr.new a z).imp id (Or.rec (fun z => nomatch z) id)) w r n fun a ha => ⟨(f a ha).1, (f a ha).2.elim (fun z => nomatch z) id⟩
  | exc c d =>
    obtain ⟨W', e, h⟩ := hexc c d q
    subst e
    exact ⟨_, rfl, fun C dx v H' F1 m s gr w x r => h C dx v H' F1 m (g.frz s gr.sub (fun a z => (gr.new a z).imp id (Or.rec (fun z => nomatch z) id)) w) x r⟩
  | bad => exact absurd q hbad
/-- from the whole's wish to that of a reading -/
def Fl.ofR {α : Type} (r : R α) (env : Env) (k : α → Fl) : Fl := match r with
  | .ok a => k a
  | .exc c d => .exc c d (frzE env)
  | .bad => .bad
@[simp] theorem Fl.ofR_ok {α : Type} (a : α) (env : Env) (k : α → Fl) : Fl.ofR (.ok a) env k = k a := rfl
@[simp] theorem Fl.ofR_exc {α : Type} (c : Str) (d : D) (env : Env) (k : α → Fl) : Fl.ofR (.exc c d : R α) env k = .exc c d (frzE env) := rfl
@[simp] theorem Fl.ofR_bad {α : Type} (env : Env) (k : α → Fl) : Fl.ofR (.bad : R α) env k = .bad := rfl
theorem tblkS {α β : Type} {Rp : RpT β α} {m : Env → R α} {Q : β → Hp → Prop} {k : α → Fl} {D : Ends} (g : Good K H0 F0 H F σ env us) (hp : PostS K mg H0 F0 W (Fl.ofR (m env) env k) D)
    (hok : ∀ x v H' F1 u1, m env = .ok x → Same H H' → (∀ a, F a ∨ a ∈ us → F1 a) → (∀ a, F1 a → (F a ∨ a ∈ us) ∨ H a = none) → Wf F1 H' → Rp H' F1 v x u1 → u1.Nodup → (∀ a ∈ u1, ¬ F1 a ∧ H a = none) → PostS K mg H0 F0 W (k x) D → Q v H') : tT K mg W Rp m σ H Q := by
  refine tblk g (fun x v H' F1 u1 e s f n w r nd fr => hok x v H' F1 u1 e s f n w r nd fr ?_) (fun c d e => ?_) (fun e => ?_)
  · rw [e] at hp; exact hp
  · rw [e] at hp
    obtain ⟨W', e', h⟩ := hp
    exact ⟨W', e', fun C dx v H' F1 m g x r => h σ H' F1 [] C dx v g m x r⟩
  · rw [e] at hp; exact hp
end

section
variable {X : Cx} {H0 : Hp} {F0 : Ent} {W : Option WX} {st : Stmt} {rest sa sb : List Stmt} {m m1 m2 ma mb : Env → Fl} {c : Expr} {mc : Env → R Bool} {pos : Pos}
theorem vss_nil : VSs X H0 F0 W [] .nx := PSs.to pss_nil fun Q σ H ⟨F, env, us, g, hp⟩ => hp σ H F us g
theorem vss_cons (h1 : VS X H0 F0 W st m1) (h2 : VSs X H0 F0 W rest m2) : VSs X H0 F0 W (st :: rest) (fun env => (m1 env).seq m2) := by
  refine PSs.to (pss_cons h1 h2) fun Q σ H ⟨F, env, us, g, hp⟩ => ⟨F, env, us, g, ?_⟩
  replace hp : PostS X.K X.mg H0 F0 W ((m1 env).seq m2) Q := hp
  cases q : m1 env with
  | nx e => rw [q] at hp; exact fun σ' H' F' us' g' => ⟨F', e, us', g', hp⟩
  | rt d => rw [q] at hp; exact hp
  | bk d => rw [q] at hp; exact hp
  | ct d => rw [q] at hp; exact hp
  | exc c d e => rw [q] at hp; exact hp
  | bad => rw [q] at hp; exact hp
theorem vss_one (h1 : VS X H0 F0 W st m) : VSs X H0 F0 W [st] m := pss_one h1
theorem vs_pass : VS X H0 F0 W (.Pass pos) .nx := PS.to ps_pass fun Q σ H ⟨F, env, us, g, hp⟩ => hp σ H F us g
theorem vs_break : VS X H0 F0 W (.Break pos) .bk := PS.to ps_break fun Q σ H ⟨F, env, us, g, hp⟩ => hp σ H F us g
theorem vs_continue : VS X H0 F0 W (.Continue pos) .ct := PS.to ps_continue fun Q σ H ⟨F, env, us, g, hp⟩ => hp σ H F us g
theorem vs_if (hc : VT X W c mc) (ha : VSs X H0 F0 W sa ma) (hb : VSs X H0 F0 W sb mb) : VS X H0 F0 W (.If c sa sb pos) (fun env => Fl.ofR (mc env) env fun b => if b = true then ma env else mb env) := by
  refine PS.to (ps_if hc ha hb) fun Q σ H ⟨F, env, us, g, hp⟩ => ?_
  refine tblkS g hp fun x v H' F1 u1 e s f n w r nd fr hp1 => ?_
  obtain ⟨rfl, rfl⟩ := r
  cases v with
  | true =>
    rw [if_pos rfl] at hp1 ⊢
    exact ⟨F, env, us, g.keep s, hp1⟩
  | false =>
    rw [if_neg Bool.false_ne_true] at hp1 ⊢
    exact ⟨F, env, us, g.keep s, hp1⟩
end
end VL
end

section
set_option Elab.async false
set_option linter.all false
set_option maxRecDepth 100000
set_option maxHeartbeats 2000000
namespace VL
open PySem PySem.W PySem.Spec PyProof.Rows L2

inductive RK (α : Type) where
  | ok (a : α) (e : Env) | exc (c : Str) (d : D) (e : Env) | bad
def RK.bind {α β : Type} (r : RK α) (k : α → Env → RK β) : RK β := match r with
  | .ok a e => k a e
  | .exc c d e => .exc c d e
  | .bad => .bad
@[simp] theorem RK.bind_ok {α β : Type} (a : α) (e : Env) (k : α → Env → RK β) : (RK.ok a e).bind k = k a e := rfl
@[simp] theorem RK.bind_exc {α β : Type} (c : Str) (d : D) (e : Env) (k : α → Env → RK β) : (RK.exc c d e : RK α).bind k = .exc c d e := rfl
@[simp] theorem RK.bind_bad {α β : Type} (k : α → Env → RK β) : (RK.bad : RK α).bind k = .bad := rfl
def Fl.ofK {α : Type} (r : RK α) (k : α → Env → Fl) : Fl := match r with
  | .ok a e => k a e
  | .exc c d e => .exc c d e
  | .bad => .bad
@[simp] theorem Fl.ofK_ok {α : Type} (a : α) (e : Env) (k : α → Env → Fl) : Fl.ofK (.ok a e) k = k a e := rfl
@[simp] theorem Fl.ofK_exc {α : Type} (c : Str) (d : D) (e : Env) (k : α → Env → Fl) : Fl.ofK (.exc c d e : RK α) k = .exc c d e := rfl
@[simp] theorem Fl.ofK_bad {α : Type} (k : α → Env → Fl) : Fl.ofK (.bad : RK α) k = .bad := rfl

/-- set aside: what the parts ahead gave -/
structure Pend (H0 : Hp) (F : Fz) (H : Hp) (us pd : List Addr) : Prop where
  nod : (pd ++ us).Nodup
  fresh : ∀ a ∈ pd, ¬ F a ∧ H0 a = none ∧ H a ≠ none
theorem Pend.nil {H0 H : Hp} {F : Fz} {us : List Addr} (h : us.Nodup) : Pend H0 F H us [] := ⟨by simpa using h, fun _ z => nomatch z⟩
def PostK {α β : Type} (K : Frag) (mg : Str → Option Value) (H0 : Hp) (F0 : Ent) (W : Option WX) (Rp : RpT β α) (σ : L2.St) (H : Hp) (F : Fz) (pd : List Addr) (r : RK α) (Q : β → Hp → Prop) : Prop := match r with
  | .ok x e => ∀ v H' F' us' ux, Good K H0 F0 H' F' σ e us' → Rp H' F' v x ux → Pend H0 F' H' us' (pd ++ ux) → Keep F pd H H' → (∀ a, F a → F' a) → Q v H'
  | .exc c d e => ∃ W', W = some W' ∧ ∀ H' F' us' C dx v, Good K H0 F0 H' F' σ e us' → ClsAt K c C → H' dx = some (.xd [("at", v)]) → Rep K H' F' v d [] → W' (.ref C) (some dx) σ H'
  | .bad => False
def tK {α β : Type} (K : Frag) (mg : Str → Option Value) (H0 : Hp) (F0 : Ent) (W : Option WX) (Rp : RpT β α) (m : Env → RK α) : L2.St → Hp → (β → Hp → Prop) → Prop := fun σ H Q =>
  ∃ F env us pd, Good K H0 F0 H F σ env us ∧ Pend H0 F H us pd ∧ PostK K mg H0 F0 W Rp σ H F pd (m env) Q
abbrev KE (X : Cx) (H0 : Hp) (F0 : Ent) (W : Option WX) (e : Expr) (m : Env → RK D) : Prop := PE X e (tK X.K X.mg H0 F0 W (RpV X.K) m)
abbrev KEs (X : Cx) (H0 : Hp) (F0 : Ent) (W : Option WX) (es : List Expr) (m : Env → RK (List D)) : Prop := PA X es (tK X.K X.mg H0 F0 W (RpL X.K) m)

def kT (m : T) (env : Env) : RK D := match m env with
  | .ok d => if clean d = true then .ok d env else .bad
  | .exc c d => .exc c d (frzE env)
  | .bad => .bad
def kM (bs : List Bool) (m : T) (env : Env) : RK D := match m (mask bs env) with
  | .ok d => if clean d = true then .ok d env else .ok d (frzAt bs env)
  | .exc c d => .exc c d (frzE env)
  | .bad => .bad
def kMv (i : Nat) (env : Env) : RK D := match env[i]? with
  | some (some d) => .ok d (env.set i none)
  | _ => .bad
def kTs (m : Env → R (List D)) (env : Env) : RK (List D) := match m env with
  | .ok d => if cleanL d = true then .ok d env else .bad
  | .exc c d => .exc c d (frzE env)
  | .bad => .bad
def kMs (bs : List Bool) (m : Env → R (List D)) (env : Env) : RK (List D) := match m (mask bs env) with
  | .ok d => if cleanL d = true then .ok d env else .ok d (frzAt bs env)
  | .exc c d => .exc c d (frzE env)
  | .bad => .bad

section
variable {K : Frag} {mg : Str → Option Value} {H0 H H' : Hp} {F0 : Ent} {F F1 : Fz} {σ : L2.St} {env : Env} {us pd u1 : List Addr} {W : Option WX}
theorem Pend.keep (p : Pend H0 F H us pd) (s : Same H H') : Pend H0 F H' us pd := ⟨p.nod, fun a ha => ⟨(p.fresh a ha).1, (p.fresh a ha).2.1, fun z => (p.fresh a ha).2.2 (s.free z)⟩⟩
/-- something new besides -/
theorem Pend.more (g : Good K H0 F0 H F σ env us) (p : Pend H0 F H us pd) (s : Same H H') (n : u1.Nodup) (f : ∀ a ∈ u1, H a = none) (h : ∀ a ∈ u1, H' a ≠ none) : Pend H0 F H' us (pd ++ u1) := by
  refine ⟨?_, fun a ha => ?_⟩
  · rw [List.append_assoc]
    obtain ⟨n1, n2, n3⟩ := List.nodup_append.mp p.nod
    refine List.nodup_append.mpr ⟨n1, List.nodup_append.mpr ⟨n, n2, fun a ha b hb e => g.nn b hb (e ▸ f a ha)⟩, fun a ha b hb e => ?_⟩
    rcases List.mem_append.mp hb with hb | hb
    · exact (p.fresh a ha).2.2 (e ▸ f b hb)
    · exact n3 a ha b hb e
  · rcases List.mem_append.mp ha with ha | ha
    · exact (p.keep s).fresh a ha
    · exact ⟨fun z => g.wf a z (f a ha), g.same.free (f a ha), h a ha⟩
theorem kT_read {m : T} {Q : VK} (g : Good K H0 F0 H F σ env us) (p : Pend H0 F H us pd) (hp : PostK K mg H0 F0 W (RpV K) σ H F pd (kT m env) Q) : tT K mg W (RpV K) m σ H Q := by
  unfold kT at hp
  refine tblk g (fun x v H' F1 u1 e s f n w r nd fr => ?_) (fun c d e => ?_) (fun e => ?_)
  · rw [e] at hp
    simp only at hp
    split at hp
    · rename_i hc
      exact hp v H' F us u1 (g.keep s) (r.clean hc) (p.more g s nd (fun a ha => (fr a ha).2) (nn r)) (Keep.same s) fun _ h => h
    · exact hp.elim
  · rw [e] at hp
    obtain ⟨W', e', h⟩ := hp
    exact ⟨W', e', fun C dx v H' F1 m g x r => h H' F1 [] C dx v g m x r⟩
  · rw [e] at hp; exact hp
theorem kTs_read {m : Env → R (List D)} {Q : List V → Hp → Prop} (g : Good K H0 F0 H F σ env us) (p : Pend H0 F H us pd) (hp : PostK K mg H0 F0 W (RpL K) σ H F pd (kTs m env) Q) : tT K mg W (RpL K) m σ H Q := by
  unfold kTs at hp
  refine tblk g (fun x v H' F1 u1 e s f n w r nd fr => ?_) (fun c d e => ?_) (fun e => ?_)
  · rw [e] at hp
    simp only at hp
    split at hp
    · rename_i hc
      exact hp v H' F us u1 (g.keep s) (RepL.clean r hc) (p.more g s nd (fun a ha => (fr a ha).2) (nnL r)) (Keep.same s) fun _ h => h
    · exact hp.elim
  · rw [e] at hp
    obtain ⟨W', e', h⟩ := hp
    exact ⟨W', e', fun C dx v H' F1 m g x r => h H' F1 [] C dx v g m x r⟩
  · rw [e] at hp; exact hp
/-- a state with only the slots of a mask; the freezing of these -/
theorem mask_frz {bs : List Bool} (g : Good K H0 F0 H F σ env us) (p : Pend H0 F H us pd) : ∃ um, Slots K H F σ (mask bs env) um ∧ um.Nodup ∧ (∀ a ∈ um, a ∈ us) ∧
    ∀ {H' : Hp} {F1 : Fz}, Same H H' → (∀ a, F a ∨ a ∈ um → F1 a) → (∀ a, F1 a → (F a ∨ a ∈ um) ∨ H a = none) → Wf F1 H' → ∃ us', Good K H0 F0 H' F1 σ (frzAt bs env) us' ∧ Pend H0 F1 H' us' pd ∧ (∀ a ∈ us', a ∈ us) := by
  obtain ⟨um, ur, h1, h2, h3⟩ := g.sl.split bs
  have nn := h3.nodup_iff.mp g.nod
  obtain ⟨n1, n2, n3⟩ := List.nodup_append.mp nn
  have m1 : ∀ a ∈ um, a ∈ us := fun a ha => h3.mem_iff.mpr (List.mem_append_left _ ha)
  have m2 : ∀ a ∈ ur, a ∈ us := fun a ha => h3.mem_iff.mpr (List.mem_append_right _ ha)
  obtain ⟨q1, q2, q3⟩ := List.nodup_append.mp p.nod
  have notF : ∀ {F1 : Fz} {a : Addr}, (∀ a, F1 a → (F a ∨ a ∈ um) ∨ H a = none) → ¬ F a → a ∉ um → H a ≠ none → ¬ F1 a := fun n hF hm hn z => by
    rcases n _ z with (z | z) | z
    · exact hF z
    · exact hm z
    · exact hn z
  refine ⟨um, h1, n1, m1, fun {H' F1} s f n w => ⟨ur, ⟨g.same.trans s, fun a q => f a (.inl (g.sub a q)), fun a q => ?_, w, h2 (fun a q => f a (.inl q)) (fun a q => f a (.inr q)) (Keep.same s), n2, fun a ha => ⟨?_, (g.fresh a (m2 a ha)).2⟩, g.pin⟩, ⟨?_, fun a ha => ⟨?_, (p.fresh a ha).2.1, fun z => (p.fresh a ha).2.2 (s.free z)⟩⟩, m2⟩⟩
  · rcases n a q with (z | z) | z
    · exact g.new a z
    · exact .inr (g.fresh a (m1 a z)).2
    · exact .inr (g.same.free z)
  · exact notF n (g.fresh a (m2 a ha)).1 (fun z => n3 a z a ha rfl) (g.nn a (m2 a ha))
  · exact List.nodup_append.mpr ⟨q1, n2, fun a ha b hb => q3 a ha b (m2 b hb)⟩
  · exact notF n (p.fresh a ha).1 (fun z => q3 a ha a (m1 a z) rfl) (p.fresh a ha).2.2
theorem kM_read {bs : List Bool} {m : T} {Q : VK} (g : Good K H0 F0 H F σ env us) (p : Pend H0 F H us pd) (hp : PostK K mg H0 F0 W (RpV K) σ H F pd (kM bs m env) Q) : tT K mg W (RpV K) m σ H Q := by
  obtain ⟨um, h1, n1, m1, fz⟩ := mask_frz (bs := bs) g p
  unfold kM at hp
  have wf : Wf (fun a => F a ∨ a ∈ um) H := fun a q => q.elim (g.wf a) fun q => g.nn a (m1 a q)
  refine ⟨fun a => F a ∨ a ∈ um, mask bs env, h1.envT (fun _ h => .inl h) (fun _ h => .inr h), wf, ?_⟩
  cases q : m (mask bs env) with
  | ok x =>
    rw [q] at hp
    simp only at hp
    intro v H' F1 u1 s gr w r nd f
    have f' : ∀ a ∈ u1, ¬ F1 a ∧ H a = none := fun a ha => ⟨(f a ha).1, (f a ha).2.elim (fun z => nomatch z) id⟩
    split at hp
    · rename_i hc
      exact hp v H' F us u1 (g.keep s) (r.clean hc) (p.more g s nd (fun a ha => (f' a ha).2) (nn r)) (Keep.same s) fun _ h => h
    · obtain ⟨us', g', p', m'⟩ := fz s gr.sub (fun a z => (gr.new a z).imp id (Or.rec (fun z => nomatch z) id)) w
      refine hp v H' F1 us' u1 g' r ⟨?_, fun a ha => ?_⟩ (Keep.same s) fun a q => gr.sub a (.inl q)
      · rw [List.append_assoc]
        obtain ⟨k1, k2, k3⟩ := List.nodup_append.mp p'.nod
        refine List.nodup_append.mpr ⟨k1, List.nodup_append.mpr ⟨nd, k2, fun a ha b hb e => g.nn b (m' b hb) (e ▸ (f' a ha).2)⟩, fun a ha b hb e => ?_⟩
        rcases List.mem_append.mp hb with hb | hb
        · exact (p.fresh a ha).2.2 (e ▸ (f' b hb).2)
        · exact k3 a ha b hb e
      · rcases List.mem_append.mp ha with ha | ha
        · exact p'.fresh a ha
        · exact ⟨(f' a ha).1, g.same.free (f' a ha).2, nn r a ha⟩
  | exc c d =>
    rw [q] at hp
    obtain ⟨W', e', h⟩ := hp
    subst e'
    refine ⟨_, rfl, fun C dx v H' F1 mc s gr w x r => ?_⟩
    have g2 := g.frz (F1 := fun a => F1 a ∨ a ∈ us) s (fun a q => q.elim (fun q => .inl (gr.sub a (.inl q))) .inr) (fun a q => q.elim (fun q => (gr.new a q).elim (fun q => .inl (q.imp id (m1 a))) (Or.rec (fun z => nomatch z) .inr)) fun q => .inl (.inr q)) (fun a q => q.elim (w a) fun q z => g.nn a q (s.free z))
    exact h H' _ [] C dx v g2 mc x (r.keep (us := []) (fun b o e _ => e) fun a q => .inl q)
  | bad => rw [q] at hp; exact hp
theorem kMs_read {bs : List Bool} {m : Env → R (List D)} {Q : List V → Hp → Prop} (g : Good K H0 F0 H F σ env us) (p : Pend H0 F H us pd) (hp : PostK K mg H0 F0 W (RpL K) σ H F pd (kMs bs m env) Q) : tT K mg W (RpL K) m σ H Q := by
  obtain ⟨um, h1, n1, m1, fz⟩ := mask_frz (bs := bs) g p
  unfold kMs at hp
  have wf : Wf (fun a => F a ∨ a ∈ um) H := fun a q => q.elim (g.wf a) fun q => g.nn a (m1 a q)
  refine ⟨fun a => F a ∨ a ∈ um, mask bs env, h1.envT (fun _ h => .inl h) (fun _ h => .inr h), wf, ?_⟩
  cases q : m (mask bs env) with
  | ok x =>
    rw [q] at hp
    simp only at hp
    intro v H' F1 u1 s gr w r nd f
    have f' : ∀ a ∈ u1, ¬ F1 a ∧ H a = none := fun a ha => ⟨(f a ha).1, (f a ha).2.elim (fun z => nomatch z) id⟩
    split at hp
    · rename_i hc
      exact hp v H' F us u1 (g.keep s) (RepL.clean r hc) (p.more g s nd (fun a ha => (f' a ha).2) (nnL r)) (Keep.same s) fun _ h => h
    · obtain ⟨us', g', p', m'⟩ := fz s gr.sub (fun a z => (gr.new a z).imp id (Or.rec (fun z => nomatch z) id)) w
      refine hp v H' F1 us' u1 g' r ⟨?_, fun a ha => ?_⟩ (Keep.same s) fun a q => gr.sub a (.inl q)
      · rw [List.append_assoc]
        obtain ⟨k1, k2, k3⟩ := List.nodup_append.mp p'.nod
        refine List.nodup_append.mpr ⟨k1, List.nodup_append.mpr ⟨nd, k2, fun a ha b hb e => g.nn b (m' b hb) (e ▸ (f' a ha).2)⟩, fun a ha b hb e => ?_⟩
        rcases List.mem_append.mp hb with hb | hb
        · exact (p.fresh a ha).2.2 (e ▸ (f' b hb).2)
        · exact k3 a ha b hb e
      · rcases List.mem_append.mp ha with ha | ha
        · exact p'.fresh a ha
        · exact ⟨(f' a ha).1, g.same.free (f' a ha).2, nnL r a ha⟩
  | exc c d =>
    rw [q] at hp
    obtain ⟨W', e', h⟩ := hp
    subst e'
    refine ⟨_, rfl, fun C dx v H' F1 mc s gr w x r => ?_⟩
    have g2 := g.frz (F1 := fun a => F1 a ∨ a ∈ us) s (fun a q => q.elim (fun q => .inl (gr.sub a (.inl q))) .inr) (fun a q => q.elim (fun q => (gr.new a q).elim (fun q => .inl (q.imp id (m1 a))) (Or.rec (fun z => nomatch z) .inr)) fun q => .inl (.inr q)) (fun a q => q.elim (w a) fun q z => g.nn a q (s.free z))
    exact h H' _ [] C dx v g2 mc x (r.keep (us := []) (fun b o e _ => e) fun a q => .inl q)
  | bad => rw [q] at hp; exact hp
end

section
variable {X : Cx} {H0 : Hp} {F0 : Ent} {W : Option WX} {e : Expr} {es : List Expr} {m : T} {ms : Env → R (List D)} {mk : Env → RK D} {mks : Env → RK (List D)} {pos : Pos}
theorem vk_t (h : VE X W e m) : KE X H0 F0 W e (kT m) := PE.to h fun σ H Q ⟨F, env, us, pd, g, p, hp⟩ => kT_read g p hp
theorem vk_m (bs : List Bool) (h : VE X W e m) : KE X H0 F0 W e (kM bs m) := PE.to h fun σ H Q ⟨F, env, us, pd, g, p, hp⟩ => kM_read g p hp
theorem vks_t (h : VA X W es ms) : KEs X H0 F0 W es (kTs ms) := PA.to h fun σ H Q ⟨F, env, us, pd, g, p, hp⟩ => kTs_read g p hp
theorem vks_m (bs : List Bool) (h : VA X W es ms) : KEs X H0 F0 W es (kMs bs ms) := PA.to h fun σ H Q ⟨F, env, us, pd, g, p, hp⟩ => kMs_read g p hp
theorem vk_mv (i : Nat) {x : Str} (hN : X.N[i]? = some x := by rfl) (hv : Vis X.env.scope x := by first | exact Or.inl rfl | exact Or.inr (Or.inl rfl) | exact Or.inr (Or.inr rfl)) (hd : (x == ("__debug__" : Str)) = false := by decide)
    (hcd : (x == ("__classdict__" : Str)) = false := by decide) : KE X H0 F0 W (.Name x pos) (kMv i) := by
  refine PE.to (pe_var hN hv hd hcd) fun σ H Q ⟨F, env, us, pd, g, p, hp⟩ => ?_
  unfold kMv at hp
  split at hp
  · rename_i d e
    obtain ⟨v, u, us', h1, h2, h3, h4⟩ := g.sl.get e
    have nn := h4.nodup_iff.mp g.nod
    obtain ⟨n1, n2, n3⟩ := List.nodup_append.mp nn
    have mu : ∀ a ∈ u, a ∈ us := fun a ha => h4.mem_iff.mpr (List.mem_append_left _ ha)
    have mu' : ∀ a ∈ us', a ∈ us := fun a ha => h4.mem_iff.mpr (List.mem_append_right _ ha)
    refine ⟨v, h1, hp v H F us' u ⟨g.same, g.sub, g.new, g.wf, h3, n2, fun a ha => g.fresh a (mu' a ha), g.pin⟩ h2 ⟨?_, fun a ha => ?_⟩ (fun _ _ e _ => e) fun _ h => h⟩
    · rw [List.append_assoc]
      exact ((List.Perm.append_left pd h4).nodup_iff).mp p.nod
    · rcases List.mem_append.mp ha with ha | ha
      · exact p.fresh a ha
      · exact ⟨(g.fresh a (mu a ha)).1, (g.fresh a (mu a ha)).2, g.nn a (mu a ha)⟩
  · exact hp.elim
/-- a further part behind one -/
theorem tK_first {α β γ δ : Type} {K : Frag} {mg : Str → Option Value} {Rp : RpT β α} {Rp2 : RpT γ δ} {m : Env → RK α} {k : α → Env → RK δ} {σ : L2.St} {H : Hp} {Q : γ → Hp → Prop} {Q1 : β → Hp → Prop}
    (h : tK K mg H0 F0 W Rp2 (fun env => (m env).bind k) σ H Q)
    (g : ∀ x v H' F F' e us' pd ux, Good K H0 F0 H' F' σ e us' → Rp H' F' v x ux → Pend H0 F' H' us' (pd ++ ux) → Keep F pd H H' → (∀ a, F a → F' a) → PostK K mg H0 F0 W Rp2 σ H F pd (k x e) Q → Q1 v H') : tK K mg H0 F0 W Rp m σ H Q1 := by
  obtain ⟨F, env, us, pd, gd, p, hp⟩ := h
  replace hp : PostK K mg H0 F0 W Rp2 σ H F pd ((m env).bind k) Q := hp
  refine ⟨F, env, us, pd, gd, p, ?_⟩
  cases q : m env with
  | ok x e =>
    rw [q] at hp
    exact fun v H' F' us' ux g' r p' kp f => g x v H' F F' e us' pd ux g' r p' kp f hp
  | exc c d e => rw [q] at hp; exact hp
  | bad => rw [q] at hp; exact hp
theorem kes_nil : KEs X H0 F0 W [] (fun env => .ok [] env) := PA.to pa_nil fun σ H Q ⟨F, env, us, pd, g, p, hp⟩ => hp [] H F us [] g (show RepL X.K H F [] [] [] from .nil) (by simpa using p) (fun _ _ e _ => e) fun _ h => h
theorem kes_cons (ha : KE X H0 F0 W e mk) (hs : KEs X H0 F0 W es mks) (hq : starEach (e :: es) X.env = (false, eval e X.env) :: starEach es X.env := by rfl) : KEs X H0 F0 W (e :: es) (fun env => (mk env).bind fun d e1 => (mks e1).bind fun ds e2 => .ok (d :: ds) e2) := by
  refine PA.to (pa_cons ha hs hq) fun σ H Q h => ?_
  refine tK_first h fun d v H1 F F1 e1 us1 pd ux g1 r1 p1 k1 f1 hp1 => ?_
  refine ⟨F1, e1, us1, pd ++ ux, g1, p1, ?_⟩
  replace hp1 : PostK X.K X.mg H0 F0 W (RpL X.K) σ H F pd ((mks e1).bind fun ds e2 => .ok (d :: ds) e2) Q := hp1
  cases q : mks e1 with
  | ok ds e2 =>
    rw [q] at hp1
    intro vs H2 F2 us2 ux2 g2 r2 p2 k2 f2
    refine hp1 (v :: vs) H2 F2 us2 (ux ++ ux2) g2 (RepL.cons (r1.keep (k2.mono fun a ha => List.mem_append_right _ ha) f2) r2) (by rw [← List.append_assoc]; exact p2) (fun b o eb hb => ?_) (fun a ha => f2 a (f1 a ha))
    have e1' := k1 b o eb hb
    exact k2 b o e1' (hb.imp (f1 b) (Or.imp (List.mem_append_left _) id))
  | exc c d e => rw [q] at hp1; exact hp1
  | bad => rw [q] at hp1; exact hp1
theorem ke_tup {x1} (h : KEs X H0 F0 W es mks) : KE X H0 F0 W (.Tuple es x1 pos) (fun env => (mks env).bind fun ds e => if ds.length ≤ 1000 then .ok (.tup ds) e else .bad) := by
  refine PE.to (pe_tup h) fun σ H Q h => ?_
  refine tK_first h fun ds vs H1 F F1 e us1 pd ux g1 r1 p1 k1 f1 hp1 => ?_
  split at hp1
  · rename_i hl
    refine ⟨by rw [r1.length]; exact le_line hl, fun q hq => ?_⟩
    have s := same_new (o := HO.tup vs) hq
    exact hp1 (.ref q) _ F1 us1 ux (g1.keep s) (.tup (SqT.of upd_same) (r1.same s fun _ h => h)) (p1.keep s) (fun b o eb hb => s _ _ (k1 b o eb hb)) f1
  · exact hp1.elim
theorem ke_lst (h : KEs X H0 F0 W es mks) : KE X H0 F0 W (.List es pos) (fun env => (mks env).bind fun ds e => if ds.length ≤ 1000 then .ok (.lst true ds) e else .bad) := by
  refine PE.to (pe_lst h) fun σ H Q h => ?_
  refine tK_first h fun ds vs H1 F F1 e us1 pd ux g1 r1 p1 k1 f1 hp1 => ?_
  split at hp1
  · rename_i hl
    refine ⟨by rw [r1.length]; exact le_line hl, fun q hq => ?_⟩
    have s := same_new (o := HO.lst vs) hq
    have qs : ∀ a, H1 a ≠ none → a ≠ q := fun a h z => h (z ▸ hq)
    refine hp1 (.ref q) _ F1 us1 (q :: ux) (g1.keep s) (.lstO upd_same (r1.same s fun _ h => h)) ⟨?_, fun a ha => ?_⟩ (fun b o eb hb => s _ _ (k1 b o eb hb)) f1
    · have p := p1.nod
      rw [List.append_assoc] at p ⊢
      obtain ⟨n1, n2, n3⟩ := List.nodup_append.mp p
      refine List.nodup_append.mpr ⟨n1, List.nodup_cons.mpr ⟨fun z => ?_, n2⟩, fun a ha b hb e => ?_⟩
      · rcases List.mem_append.mp z with z | z
        · exact nnL r1 q z hq
        · exact g1.nn q z hq
      · rcases List.mem_cons.mp hb with hb | hb
        · exact (p1.fresh a (List.mem_append_left _ ha)).2.2 (by rw [e, hb]; exact hq)
        · exact n3 a ha b hb e
    · rcases List.mem_append.mp ha with ha | ha
      · exact (p1.keep s).fresh a (List.mem_append_left _ ha)
      · rcases List.mem_cons.mp ha with ha | ha
        · subst ha
          exact ⟨g1.wf.not hq, g1.same.free hq, by rw [upd_same]; exact fun z => by cases z⟩
        · exact (p1.keep s).fresh a (List.mem_append_right _ ha)
  · exact hp1.elim

theorem tK_of {α β : Type} {K : Frag} {mg : Str → Option Value} {Rp : RpT β α} {m : Env → RK α} {k : α → Env → Fl} {σ : L2.St} {H : Hp} {D : Ends} {Q1 : β → Hp → Prop} (h : tS K mg H0 F0 W (fun env => Fl.ofK (m env) k) D σ H)
    (g : ∀ x v H' F' e us' ux, Good K H0 F0 H' F' σ e us' → Rp H' F' v x ux → (ux ++ us').Nodup → (∀ a ∈ ux, ¬ F' a ∧ H0 a = none) → PostS K mg H0 F0 W (k x e) D → Q1 v H') : tK K mg H0 F0 W Rp m σ H Q1 := by
  obtain ⟨F, env, us, gd, hp⟩ := h
  replace hp : PostS K mg H0 F0 W (Fl.ofK (m env) k) D := hp
  refine ⟨F, env, us, [], gd, Pend.nil gd.nod, ?_⟩
  cases q : m env with
  | ok x e =>
    rw [q] at hp
    exact fun v H' F' us' ux g' r p' kp f => g x v H' F' e us' ux g' r (by simpa using p'.nod) (fun a ha => ⟨(p'.fresh a ha).1, (p'.fresh a ha).2.1⟩) hp
  | exc c d e =>
    rw [q] at hp
    obtain ⟨W', e', h⟩ := hp
    exact ⟨W', e', fun H' F' us' C dx v g' mc x r => h σ H' F' us' C dx v g' mc x r⟩
  | bad => rw [q] at hp; exact hp
def asgM (i : Nat) (m : Env → RK D) (env : Env) : Fl := Fl.ofK (m env) fun d e => if i < e.length then .nx (e.set i (some d)) else .bad
/-- a slot that may be filled anew -/
def NoPin (ix : List (Nat × V)) (i : Nat) : Prop := ∀ p ∈ ix, p.1 ≠ i
def noPinB (ix : List (Nat × V)) (is : List Nat) : Bool := is.all fun i => ix.all fun p => !(p.1 == i)
theorem noPin_of {ix : List (Nat × V)} {is : List Nat} (h : noPinB ix is = true) : ∀ i ∈ is, NoPin ix i := fun i hi p hp => by
  have := List.all_eq_true.mp (List.all_eq_true.mp h i hi) p hp
  simpa using this
theorem pin_set {ix : List (Nat × V)} {σ : L2.St} {i : Nat} {v : Option V} (h : ∀ p ∈ ix, σ[p.1]? = some (some p.2)) (n : ∀ p ∈ ix, p.1 ≠ i) : ∀ p ∈ ix, (σ.set i v)[p.1]? = some (some p.2) := fun p hp => by
  rw [List.getElem?_set_ne (Ne.symm (n p hp))]; exact h p hp
theorem Good.set {K : Frag} {H : Hp} {F : Fz} {σ : L2.St} {env : Env} {us ux : List Addr} {i : Nat} {v : V} {d : D} (g : Good K H0 F0 H F σ env us) (hpn : NoPin F0.ix i) (hi : i < env.length) (r : Rep K H F v d ux) (n : (ux ++ us).Nodup) (f : ∀ a ∈ ux, ¬ F a ∧ H0 a = none) :
    ∃ us', Good K H0 F0 H F (σ.set i (some v)) (env.set i (some d)) us' := by
  obtain ⟨us', h1, h2⟩ := g.sl.set hi r
  exact ⟨us', g.same, g.sub, g.new, g.wf, h1, h2.nod n, fun a ha => (List.mem_append.mp (h2.sub a ha)).elim (f a) (g.fresh a), pin_set g.pin hpn⟩
theorem vs_asg (i : Nat) {x : Str} {pos' : Pos} (hN : X.N.Nodup) (he : KE X H0 F0 W e mk) (hi : X.N[i]? = some x := by rfl) (hx : Loc X.env.scope x := by first | exact Or.inl rfl | exact Or.inr rfl) (hs : swapsWith e (some (.Name x pos')) pos.line X.env = pure false := by rfl)
    (hf : X.fn x = true ∨ X.env.scope.names.lookup x = some .local := by first | exact .inl rfl | exact .inr rfl) (hpn : noPinB F0.ix [i] = true := by rfl) : VS X H0 F0 W (.Assign [.Name x pos'] e pos) (asgM i mk) := by
  refine PS.to (ps_set hN hi hx he hs hf) fun Q σ H h => ?_
  refine tK_of h fun d v H1 F1 e1 us1 ux g1 r1 n1 f1 hp1 => ?_
  split at hp1
  · rename_i hl
    obtain ⟨us', g'⟩ := g1.set (noPin_of hpn i (by simp)) hl r1 n1 f1
    exact hp1 _ H1 F1 us' g'
  · exact hp1.elim
def retM (m : Env → RK D) (env : Env) : Fl := Fl.ofK (m env) fun d _ => .rt d
theorem RetRep.nil {K : Frag} {H : Hp} {F : Fz} {ix : List (Nat × V)} {v : V} {d : D} {u : List Addr} (h : ix = []) (r : Rep K H F v d u) : RetRep K H F ix v d u := by subst h; exact r
theorem vs_ret (he : KE X H0 F0 W e mk) (hix : F0.ix = [] := by rfl) : VS X H0 F0 W (.Return (some e) pos) (retM mk) := by
  refine PS.to (ps_ret he) fun Q σ H h => ?_
  refine tK_of h fun d v H1 F1 e1 us1 ux g1 r1 n1 f1 hp1 => ?_
  exact hp1 v H1 F1 ux g1.same g1.sub g1.new g1.wf (.nil hix r1) (List.nodup_append.mp n1).1 f1
theorem vs_retN (hix : F0.ix = [] := by rfl) : VS X H0 F0 W (.Return none pos) (fun _ => .rt .non) := PS.to ps_retN fun Q σ H ⟨F, env, us, g, hp⟩ => hp .non H F [] g.same g.sub g.new g.wf (.nil hix .non) (by simp) fun _ z => nomatch z
/-- the value, and what the slots that keep theirs hold -/
def grab : List Nat → Env → Option (List D)
  | [], _ => some []
  | j :: js, env => match env[j]? with
    | some (some d) => (grab js env).map (d :: ·)
    | _ => none
theorem grab_off (j : Nat) : ∀ (js : List Nat) (env : Env), j ∉ js → grab js (env.set j none) = grab js env
  | [], _, _ => rfl
  | k :: js, env, h => by
    have h1 : j ≠ k := fun z => h (by simp [z])
    simp only [grab, List.getElem?_set_ne h1, grab_off j js env (fun z => h (by simp [z]))]
def retJ (js : List Nat) (m : Env → RK D) (env : Env) : Fl := Fl.ofK (m env) fun d e => match grab js e with
  | some ds => .rt (.tup (d :: ds))
  | none => .bad
def endJ (js : List Nat) (env : Env) : Fl := match grab js env with
  | some ds => .rt (.tup (.non :: ds))
  | none => .bad
theorem grab_rep {K : Frag} {H : Hp} {F : Fz} {σ : L2.St} : ∀ (ix : List (Nat × V)) {env : Env} {us : List Addr} {ds : List D}, (ix.map (·.1)).Nodup → Slots K H F σ env us → (∀ p ∈ ix, σ[p.1]? = some (some p.2)) → grab (ix.map (·.1)) env = some ds → ∃ u, RepL K H F (ix.map (·.2)) ds u ∧ Less u us
  | [], env, us, ds, _, _, _, h => by
    have h : ([] : List D) = ds := Option.some.inj h
    subst h
    exact ⟨[], .nil, .nil⟩
  | (j, v) :: ix, env, us, ds, hn, s, hp, h => by
    have hn' := List.nodup_cons.mp hn
    simp only [List.map_cons, grab] at h
    cases q : env[j]? with
    | none => rw [q] at h; cases h
    | some o =>
      cases o with
      | none => rw [q] at h; cases h
      | some d =>
        rw [q] at h
        obtain ⟨v', u, us', h1, h2, h3, h4⟩ := s.get q
        have hv := hp (j, v) (by simp)
        rw [h1] at hv
        have hv : v' = v := Option.some.inj (Option.some.inj hv)
        subst hv
        obtain ⟨ds2, q2, h⟩ := Option.map_eq_some_iff.mp h
        obtain ⟨u2, r2, l2⟩ := grab_rep ix hn'.2 h3 (fun p hp' => hp p (by simp [hp'])) (by rw [grab_off j _ _ hn'.1]; exact q2)
        subst h
        exact ⟨u ++ u2, .cons h2 r2, (Less.app .refl l2).trans (.perm h4.symm)⟩
theorem vs_retJ (js : List Nat) (he : KE X H0 F0 W e mk) (hix : F0.ix.map (·.1) = js := by rfl) (hne : F0.ix ≠ [] := by simp) (hnd : js.Nodup := by decide) : VS X H0 F0 W (.Return (some e) pos) (retJ js mk) := by
  refine PS.to (ps_ret he) fun Q σ H h => ?_
  refine tK_of h fun d v H1 F1 e1 us1 ux g1 r1 n1 f1 hp1 => ?_
  cases q : grab js e1 with
  | none => rw [q] at hp1; exact hp1.elim
  | some ds =>
    rw [q] at hp1
    obtain ⟨u2, r2, l2⟩ := grab_rep F0.ix (by rw [hix]; exact hnd) g1.sl g1.pin (by rw [hix]; exact q)
    refine hp1 v H1 F1 (ux ++ u2) g1.same g1.sub g1.new g1.wf ?_ ((Less.app .refl l2).nod n1) fun a ha => ?_
    · unfold RetRep
      split
      · rename_i z; exact absurd z hne
      · exact ⟨_, rfl, .cons r1 r2⟩
    · rcases List.mem_append.mp ha with ha | ha
      · exact f1 a ha
      · exact g1.fresh a (l2.sub a ha)
def dropM (m : Env → RK D) (env : Env) : Fl := Fl.ofK (m env) fun _ e => .nx e
theorem vs_expr (he : KE X H0 F0 W e mk) (hs : swapsWith e none pos.line X.env = pure false := by rfl) : VS X H0 F0 W (.Expr e pos) (dropM mk) := by
  refine PS.to (ps_expr he hs) fun Q σ H h => ?_
  exact tK_of h fun d v H1 F1 e1 us1 ux g1 r1 n1 f1 hp1 => hp1 σ H1 F1 us1 g1
end
end VL
end

section
set_option Elab.async false
set_option linter.all false
set_option maxRecDepth 100000
set_option maxHeartbeats 2000000
namespace VL
open PySem PySem.W PySem.Spec PyProof.Rows L2

def stepD : D → D → Option D
  | .lst true ds, .int i => atI ds i
  | .tup ds, .int i => atI ds i
  | .dct true kvs, .int i => getK kvs (.inl i)
  | .dct true kvs, .str s => getK kvs (.inr s)
  | _, _ => none
def downD : D → List D → Option D
  | d, [] => some d
  | d, k :: ks => (stepD d k).bind fun e => downD e ks
def setI (ds : List D) (i : Int) (e : D) : List D := match ixN ds.length i with
  | some j => ds.set j e
  | none => ds
def setK : List (Key × D) → Key → D → List (Key × D)
  | [], _, _ => []
  | (k2, d) :: r, k, e => if k2 = k then (k2, e) :: r else (k2, d) :: setK r k e
def putS : D → D → D → D
  | .lst o ds, .int i, e => .lst o (setI ds i e)
  | .tup ds, .int i, e => .tup (setI ds i e)
  | .dct o kvs, .int i, e => .dct o (setK kvs (.inl i) e)
  | .dct o kvs, .str s, e => .dct o (setK kvs (.inr s) e)
  | d, _, _ => d
def putD : D → List D → D → D
  | _, [], e => e
  | d, k :: ks, e => match stepD d k with
    | some d1 => putS d k (putD d1 ks e)
    | none => d

/-- one step down: what stands there, with what surrounds it -/
structure Step (K : Frag) (H : Hp) (F : Fz) (v : V) (d : D) (us : List Addr) (k : D) (v1 : V) (d1 : D) (u1 : List Addr) : Prop where
  at' : stepD d k = some d1
  rep : Rep K H F v1 d1 u1
  ex : ∃ out : List Addr, us.Perm (out ++ u1) ∧ (∀ a ∈ out, H a ≠ none) ∧ ∀ (H' : Hp) (F' : Fz) (e : D) (u' : List Addr), Keep F out H H' → (∀ a, F a → F' a) → Rep K H' F' v1 e u' → ∃ us', Rep K H' F' v (putS d k e) us' ∧ us'.Perm (out ++ u')
section
variable {K : Frag} {H H' : Hp} {F F' : Fz}
theorem RepL.at {vs : List V} {ds : List D} : ∀ {us : List Addr} {j : Nat} {d : D}, RepL K H F vs ds us → ds[j]? = some d → ∃ v u out, vs[j]? = some v ∧ Rep K H F v d u ∧ us.Perm (out ++ u) ∧
    ∀ (H' : Hp) (F' : Fz) (e : D) (u' : List Addr), Keep F out H H' → (∀ a, F a → F' a) → Rep K H' F' v e u' → ∃ us', RepL K H' F' vs (ds.set j e) us' ∧ us'.Perm (out ++ u') := by
  induction ds generalizing vs with
  | nil => intro us j d r e; simp at e
  | cons d0 ds ih =>
    intro us j d r e
    cases r with
    | @cons v0 vs _ _ u0 us0 a l =>
      cases j with
      | zero =>
        simp at e
        subst e
        refine ⟨v0, u0, us0, rfl, a, List.perm_append_comm, fun H' F' e u' k f r' => ⟨u' ++ us0, .cons r' (l.keep k f), List.perm_append_comm⟩⟩
      | succ j =>
        obtain ⟨v, u, out, h1, h2, h3, h4⟩ := ih l (by simpa using e)
        refine ⟨v, u, u0 ++ out, by simpa using h1, h2, by rw [List.append_assoc]; exact List.Perm.append_left u0 h3, fun H' F' e u' k f r' => ?_⟩
        obtain ⟨us', g1, g2⟩ := h4 H' F' e u' (k.mono fun a q => List.mem_append_right _ q) f r'
        exact ⟨u0 ++ us', .cons (a.keep (k.mono fun a q => List.mem_append_left _ q) f) g1, by rw [List.append_assoc]; exact List.Perm.append_left u0 g2⟩
theorem RepK.at {vs : List (Key × V)} {ds : List (Key × D)} : ∀ {us : List Addr} {k : Key} {d : D}, RepK K H F vs ds us → getK ds k = some d → ∃ v u out, valV vs k = some v ∧ Rep K H F v d u ∧ us.Perm (out ++ u) ∧
    ∀ (H' : Hp) (F' : Fz) (e : D) (u' : List Addr), Keep F out H H' → (∀ a, F a → F' a) → Rep K H' F' v e u' → ∃ us', RepK K H' F' vs (setK ds k e) us' ∧ us'.Perm (out ++ u') := by
  induction ds generalizing vs with
  | nil => intro us j d r e; simp [getK] at e
  | cons d0 ds ih =>
    intro us k d r e
    cases r with
    | @cons k0 v0 vs d0 _ u0 us0 a l =>
      by_cases hk : k0 = k
      · have e' : d0 = d := by simpa [getK, hk] using e
        subst e'
        refine ⟨v0, u0, us0, by simp [valV, hk], a, List.perm_append_comm, fun H' F' e u' kp f r' => ⟨u' ++ us0, ?_, List.perm_append_comm⟩⟩
        rw [setK, if_pos hk]
        exact .cons r' (l.keep kp f)
      · obtain ⟨v, u, out, h1, h2, h3, h4⟩ := ih l (by simpa [getK, hk] using e)
        refine ⟨v, u, u0 ++ out, by simpa [valV, hk] using h1, h2, by rw [List.append_assoc]; exact List.Perm.append_left u0 h3, fun H' F' e u' kp f r' => ?_⟩
        obtain ⟨us', g1, g2⟩ := h4 H' F' e u' (kp.mono fun a q => List.mem_append_right _ q) f r'
        rw [setK, if_neg hk]
        exact ⟨u0 ++ us', .cons (a.keep (kp.mono fun a q => List.mem_append_left _ q) f) g1, by rw [List.append_assoc]; exact List.Perm.append_left u0 g2⟩
theorem atI_ix {α : Type} {xs : List α} {i : Int} {x : α} (h : atI xs i = some x) : ∃ j, ixN xs.length i = some j ∧ xs[j]? = some x := by
  unfold atI at h
  cases q : ixN xs.length i with
  | none => rw [q] at h; cases h
  | some j => rw [q] at h; exact ⟨j, rfl, h⟩
theorem RepL.atI {vs : List V} {ds : List D} {us : List Addr} {i : Int} {d : D} (r : RepL K H F vs ds us) (h : L2.atI ds i = some d) : ∃ v u out, L2.atI vs i = some v ∧ Rep K H F v d u ∧ us.Perm (out ++ u) ∧
    ∀ (H' : Hp) (F' : Fz) (e : D) (u' : List Addr), Keep F out H H' → (∀ a, F a → F' a) → Rep K H' F' v e u' → ∃ us', RepL K H' F' vs (setI ds i e) us' ∧ us'.Perm (out ++ u') := by
  obtain ⟨j, h1, h2⟩ := atI_ix h
  obtain ⟨v, u, out, g1, g2, g3, g4⟩ := r.at h2
  refine ⟨v, u, out, ?_, g2, g3, fun H' F' e u' k f r' => ?_⟩
  · unfold L2.atI
    rw [r.length, h1]
    exact g1
  · unfold setI
    rw [h1]
    exact g4 H' F' e u' k f r'
theorem keep_cons {a : Addr} {o : HO} {out : List Addr} (h : H a = some o) (k : Keep F (a :: out) H H') : H' a = some o := k _ _ h (.inr (.inl List.mem_cons_self))
theorem step_list {a : Addr} {vs : List V} {ds : List D} {us : List Addr} {i : Int} {d : D} (h : H a = some (.lst vs)) (r : RepL K H F vs ds us) (e : L2.atI ds i = some d) : ∃ v u, L2.atI vs i = some v ∧ Step K H F (.ref a) (.lst true ds) (a :: us) (.int i) v d u := by
  obtain ⟨v, u, out, h1, h2, h3, h4⟩ := r.atI e
  refine ⟨v, u, h1, e, h2, a :: out, h3.cons a, fun b hb => ?_, fun H' F' e u' k f r' => ?_⟩
  · rcases List.mem_cons.mp hb with rfl | hb
    · rw [h]; exact fun z => by cases z
    · exact nnL r b (h3.mem_iff.mpr (List.mem_append_left _ hb))
  · obtain ⟨us', g1, g2⟩ := h4 H' F' e u' (k.mono fun a q => List.mem_cons_of_mem _ q) f r'
    exact ⟨a :: us', .lstO (keep_cons h k) g1, g2.cons a⟩
theorem step_tup {a : Addr} {vs : List V} {ds : List D} {us : List Addr} {i : Int} {d : D} (h : SqT K H a vs) (r : RepL K H F vs ds us) (e : L2.atI ds i = some d) : ∃ v u, L2.atI vs i = some v ∧ Step K H F (.ref a) (.tup ds) us (.int i) v d u := by
  obtain ⟨v, u, out, h1, h2, h3, h4⟩ := r.atI e
  refine ⟨v, u, h1, e, h2, out, h3, fun b hb => nnL r b (h3.mem_iff.mpr (List.mem_append_left _ hb)), fun H' F' e u' k f r' => ?_⟩
  obtain ⟨us', g1, g2⟩ := h4 H' F' e u' k f r'
  exact ⟨us', .tup (SqT.keep h k) g1, g2⟩
theorem nnK {vs : List (Key × V)} {ds : List (Key × D)} {us : List Addr} (r : RepK K H F vs ds us) : ∀ a ∈ us, H a ≠ none := fun a ha => by
  obtain ⟨o, q, _⟩ := r.there a ha
  rw [q]; exact fun z => by cases z
theorem step_dct {a : Addr} {vs : List (Key × V)} {ds : List (Key × D)} {us : List Addr} {k : Key} {d kd : D} (h : H a = some (.dK vs)) (r : RepK K H F vs ds us) (e : getK ds k = some d) (hk : stepD (.dct true ds) kd = getK ds k) (hp : ∀ e, putS (.dct true ds) kd e = .dct true (setK ds k e)) :
    ∃ v u, valV vs k = some v ∧ Step K H F (.ref a) (.dct true ds) (a :: us) kd v d u := by
  obtain ⟨v, u, out, h1, h2, h3, h4⟩ := r.at e
  refine ⟨v, u, h1, hk.trans e, h2, a :: out, h3.cons a, fun b hb => ?_, fun H' F' e u' kp f r' => ?_⟩
  · rcases List.mem_cons.mp hb with rfl | hb
    · rw [h]; exact fun z => by cases z
    · exact nnK r b (h3.mem_iff.mpr (List.mem_append_left _ hb))
  · obtain ⟨us', g1, g2⟩ := h4 H' F' e u' (kp.mono fun a q => List.mem_cons_of_mem _ q) f r'
    exact ⟨a :: us', by rw [hp]; exact .dctO (keep_cons h kp) g1, g2.cons a⟩
/-- the way down -/
inductive Way (K : Frag) (H : Hp) (F : Fz) : V → D → List Addr → List D → V → D → List Addr → Prop
  | here {v : V} {d : D} {us : List Addr} : Rep K H F v d us → Way K H F v d us [] v d us
  | step {v v1 v2 : V} {d d1 d2 k : D} {us u1 u2 : List Addr} {ks : List D} : Step K H F v d us k v1 d1 u1 → Way K H F v1 d1 u1 ks v2 d2 u2 → Way K H F v d us (k :: ks) v2 d2 u2
theorem Way.rep {v v2 : V} {d d2 : D} {us u2 : List Addr} {ks : List D} (w : Way K H F v d us ks v2 d2 u2) : Rep K H F v2 d2 u2 := by
  induction w with
  | here r => exact r
  | step _ _ ih => exact ih
theorem Way.down {v v2 : V} {d d2 : D} {us u2 : List Addr} {ks : List D} (w : Way K H F v d us ks v2 d2 u2) : downD d ks = some d2 := by
  induction w with
  | here r => rfl
  | step s _ ih => unfold downD; rw [s.at']; exact ih
theorem Way.snoc {v v1 v2 : V} {d d1 d2 k : D} {us u1 u2 : List Addr} {ks : List D} (w : Way K H F v d us ks v1 d1 u1) (s : Step K H F v1 d1 u1 k v2 d2 u2) : Way K H F v d us (ks ++ [k]) v2 d2 u2 := by
  induction w with
  | here r => exact .step s (.here s.rep)
  | step s' _ ih => exact .step s' (ih s)
theorem Way.ex {v v2 : V} {d d2 : D} {us u2 : List Addr} {ks : List D} (w : Way K H F v d us ks v2 d2 u2) : ∃ out : List Addr, us.Perm (out ++ u2) ∧ (∀ a ∈ out, H a ≠ none) ∧ ∀ (H' : Hp) (F' : Fz) (e : D) (u' : List Addr), Keep F out H H' → (∀ a, F a → F' a) → Rep K H' F' v2 e u' → ∃ us', Rep K H' F' v (putD d ks e) us' ∧ us'.Perm (out ++ u') := by
  induction w with
  | here r => exact ⟨[], List.Perm.refl _, (fun _ z => nomatch z), fun H' F' e u' k f r' => ⟨u', r', List.Perm.refl _⟩⟩
  | @step v v1 v2 d d1 d2 k us u1 u2 ks s w ih =>
    obtain ⟨o1, p1, t1, h1⟩ := s.ex
    obtain ⟨o2, p2, t2, h2⟩ := ih
    refine ⟨o1 ++ o2, ?_, fun a ha => (List.mem_append.mp ha).elim (t1 a) (t2 a), fun H' F' e u' kk f r' => ?_⟩
    · rw [List.append_assoc]
      exact p1.trans (List.Perm.append_left o1 p2)
    · obtain ⟨ua, ra, pa⟩ := h2 H' F' e u' (kk.mono fun a q => List.mem_append_right _ q) f r'
      obtain ⟨ub, rb, pb⟩ := h1 H' F' _ ua (kk.mono fun a q => List.mem_append_left _ q) f ra
      refine ⟨ub, ?_, pb.trans ?_⟩
      · unfold putD
        rw [s.at']
        exact rb
      · rw [List.append_assoc]
        exact List.Perm.append_left o1 pa
theorem Step.keep {v v1 : V} {d d1 k : D} {us u1 : List Addr} (s : Step K H F v d us k v1 d1 u1) (kp : Keep F us H H') (f : ∀ a, F a → F' a) : Step K H' F' v d us k v1 d1 u1 := by
  obtain ⟨out, p, t, h⟩ := s.ex
  have m : ∀ a ∈ out, a ∈ us := fun a ha => p.mem_iff.mpr (List.mem_append_left _ ha)
  refine ⟨s.at', s.rep.keep (kp.mono fun a ha => p.mem_iff.mpr (List.mem_append_right _ ha)) f, out, p, fun a ha => ?_, fun H2 F2 e u' k2 f2 r' => h H2 F2 e u' ?_ (fun a q => f2 a (f a q)) r'⟩
  · cases q : H a with
    | none => exact absurd q (t a ha)
    | some o => rw [kp a o q (.inr (.inl (m a ha)))]; exact fun z => by cases z
  · intro b o hb hk
    have hb' := kp b o hb (hk.imp id (Or.imp (m b) id))
    exact k2 b o hb' (hk.imp (f b) id)
theorem Way.keep {v v2 : V} {d d2 : D} {us u2 : List Addr} {ks : List D} (w : Way K H F v d us ks v2 d2 u2) (kp : Keep F us H H') (f : ∀ a, F a → F' a) : Way K H' F' v d us ks v2 d2 u2 := by
  induction w with
  | here r => exact .here (r.keep kp f)
  | @step v v1 v2 d d1 d2 k us u1 u2 ks s w ih =>
    obtain ⟨out, p, _⟩ := s.ex
    exact .step (s.keep kp f) (ih (kp.mono fun a ha => p.mem_iff.mpr (List.mem_append_right _ ha)))
end

section
variable {X : Cx} {H0 : Hp} {F0 : Ent} {W : Option WX} {e b : Expr} {es : List Expr} {m : T} {pos : Pos} {mk : Env → R (List D)}
/-- the reading of a path from slot i -/
def tR (K : Frag) (mg : Str → Option Value) (H0 : Hp) (F0 : Ent) (W : Option WX) (i : Nat) (mk : Env → R (List D)) : TE := fun σ H Q => ∃ F env us v d u us', Good K H0 F0 H F σ env us ∧ env[i]? = some (some d) ∧ σ[i]? = some (some v) ∧ Rep K H F v d u ∧ Slots K H F σ (env.set i none) us' ∧ us.Perm (u ++ us') ∧
  match mk env with
  | .ok ks => ∀ v' d' u' H', Same H H' → Way K H' F v d u ks v' d' u' → Q v' H'
  | .exc c dd => ∃ W', W = some W' ∧ ∀ H' F' us' C dx v, Good K H0 F0 H' F' σ (frzE env) us' → ClsAt K c C → H' dx = some (.xd [("at", v)]) → Rep K H' F' v dd [] → W' (.ref C) (some dx) σ H'
  | .bad => False
abbrev VR (X : Cx) (H0 : Hp) (F0 : Ent) (W : Option WX) (e : Expr) (i : Nat) (mk : Env → R (List D)) : Prop := PE X e (tR X.K X.mg H0 F0 W i mk)
theorem vr_name (i : Nat) {x : Str} (hN : X.N[i]? = some x := by rfl) (hv : Vis X.env.scope x := by first | exact Or.inl rfl | exact Or.inr (Or.inl rfl) | exact Or.inr (Or.inr rfl)) (hd : (x == ("__debug__" : Str)) = false := by decide)
    (hcd : (x == ("__classdict__" : Str)) = false := by decide) : VR X H0 F0 W (.Name x pos) i (fun _ => .ok []) :=
  PE.to (pe_var hN hv hd hcd) fun σ H Q ⟨F, env, us, v, d, u, us', g, h1, h2, h3, h4, h5, h⟩ => ⟨v, h2, h v d u H (Same.refl _) (.here h3)⟩
def stepK (i : Nat) (env : Env) (ks : List D) (k : D) : R (List D) := match env[i]? with
  | some (some d) => if (downD d (ks ++ [k])).isSome = true ∧ isFlat k = true then .ok (ks ++ [k]) else .bad
  | _ => .bad
theorem downD_app (d : D) (ks : List D) (k : D) : downD d (ks ++ [k]) = (downD d ks).bind fun e => stepD e k := by
  induction ks generalizing d with
  | nil => simp only [List.nil_append, downD]; cases h : stepD d k <;> simp [h]
  | cons j ks ih =>
    simp only [List.cons_append, downD]
    cases stepD d j with
    | none => rfl
    | some d1 => exact ih d1
theorem step_ix {K : Frag} {H : Hp} {F : Fz} {v w : V} {d k d1 : D} {us u : List Addr} (r : Rep K H F v d us) (rk : Rep K H F w k u) (h : stepD d k = some d1) : ∃ v1 u1, Step K H F v d us k v1 d1 u1 ∧ ∀ Q : VK, Q v1 H → rIxA K v w H Q := by
  unfold stepD at h
  split at h
  · cases rk
    cases r with
    | lstO e l =>
      obtain ⟨v1, u1, h1, h2⟩ := step_list e l h
      exact ⟨v1, u1, h2, fun Q q => .inl (.inl ⟨_, _, _, v1, rfl, rfl, SqL.of e, h1, q⟩)⟩
  · cases rk
    cases r with
    | tup e l =>
      obtain ⟨v1, u1, h1, h2⟩ := step_tup e l h
      exact ⟨v1, u1, h2, fun Q q => .inl (.inr (.inl ⟨_, _, _, v1, rfl, rfl, e, h1, q⟩))⟩
  · cases rk
    cases r with
    | dctO e l =>
      obtain ⟨v1, u1, h1, h2⟩ := step_dct (kd := .int _) e l h rfl fun _ => rfl
      exact ⟨v1, u1, h2, fun Q q => .inr ⟨_, v1, rfl, .inl ⟨_, .inl _, .inl e, rfl, h1.symm⟩, q⟩⟩
  · cases rk
    cases r with
    | dctO e l =>
      obtain ⟨v1, u1, h1, h2⟩ := step_dct (kd := .str _) e l h rfl fun _ => rfl
      exact ⟨v1, u1, h2, fun Q q => .inr ⟨_, v1, rfl, .inl ⟨_, .inr _, .inl e, rfl, h1.symm⟩, q⟩⟩
  · cases h
theorem flat_clean {d : D} (h : isFlat d = true) : clean d = true := by
  cases d <;> first | rfl | (simp [isFlat] at h)
theorem vr_ix (i : Nat) (ha : VR X H0 F0 W e i mk) (hb : VE X W b m) (hs : PlainIx b := by exact fun _ _ => rfl) (hu : X.A.units + 1 < cLine) :
    VR X H0 F0 W (.Subscript e b pos) i (fun env => (mk env).bind fun ks => (m env).bind fun k => stepK i env ks k) := by
  refine PE.to (pe_ix (ix_all hu) ha hb hs) fun σ H Q h => ?_
  obtain ⟨F, env, us, v, d, u, us', g, h1, h2, h3, h4, h5, h⟩ := h
  refine ⟨F, env, us, v, d, u, us', g, h1, h2, h3, h4, h5, ?_⟩
  cases q : mk env with
  | bad => simp only [q, R.bind_bad] at h
  | exc c dd => simp only [q, R.bind_exc] at h; exact h
  | ok ks =>
    simp only [q, R.bind_ok] at h
    intro v1 d1 u1 H1 s1 w1
    refine tblk (g.keep s1) (fun k vk H2 F1 uk ek s2 f2 n2 wf2 rk nk fk => ?_) (fun c dd ek => ?_) (fun ek => ?_)
    · simp only [ek, R.bind_ok, stepK, h1] at h
      by_cases hd : (downD d (ks ++ [k])).isSome = true ∧ isFlat k = true
      · rw [if_pos hd] at h
        have hd' := hd.1
        rw [downD_app, w1.down] at hd'
        obtain ⟨d2, hd2⟩ := Option.isSome_iff_exists.mp hd'
        have w2 := w1.keep (Keep.same s2) (F' := F) fun _ h => h
        obtain ⟨v2, u2, st, hq⟩ := step_ix (F := F) w2.rep (rk.clean (flat_clean hd.2)) hd2
        exact hq Q (h v2 d2 u2 H2 (s1.trans s2) (w2.snoc st))
      · rw [if_neg hd] at h; exact h.elim
    · simp only [ek, R.bind_exc] at h
      obtain ⟨W', e', h⟩ := h
      exact ⟨W', e', fun C dx v H' F1 mc g' x r => h H' F1 [] C dx v g' mc x r⟩
    · simp only [ek, R.bind_bad] at h

/-- the node at b is changed: by values, with what the arguments own -/
structure NMut (K : Frag) (r : V → List V → Hp → VK → Prop) (μ : D → List D → Option (D × D)) : Prop where
  run : ∀ (H : Hp) (F : Fz) (b : V) (d : D) (u ux : List Addr) (xs : List V) (ds : List D) (d1 dy : D) (Q : VK), Rep K H F b d u → RepL K H F xs ds ux → (ux ++ u).Nodup → (∀ a ∈ u, ¬ F a) → (∀ a ∈ ux, ¬ F a) → μ d ds = some (d1, dy) →
    (∀ H1 u1 uy vy, Keep (fun a => a ∉ u) [] H H1 → Rep K H1 F b d1 u1 → Rep K H1 F vy dy uy → Less (uy ++ u1) (ux ++ u) → (∀ a, H1 a = none → H a = none) → (∀ a, a ∉ u → H1 a = H a) → Q vy H1) → r b xs H Q
def ownB : D → Bool
  | .lst o _ => o | .dct o _ => o | _ => false
/-- the state behind: the node in slot i -/
theorem mut_core {K : Frag} {H H1 : Hp} {F : Fz} {σ : L2.St} {env0 : Env} {us0 u u' ux uy u1 pd : List Addr} {i : Nat} {v v' : V} {d d' d1 dy : D} {vy : V} {ks : List D} (g : Good K H0 F0 H F σ env0 us0) (hi : i < env0.length) (h0 : env0[i]? = some none) (hv : σ[i]? = some (some v))
    (w : Way K H F v d u ks v' d' u') (p : Pend H0 F H us0 (pd ++ (ux ++ u))) (ot : ∀ a, a ∉ u' → H1 a = H a) (tn : ∀ a, H1 a = none → H a = none) (r1 : Rep K H1 F v' d1 u1) (ry : Rep K H1 F vy dy uy) (l : Less (uy ++ u1) (ux ++ u')) :
    ∃ us', Good K H0 F0 H1 F σ (env0.set i (some (putD d ks d1))) us' ∧ Pend H0 F H1 us' (pd ++ uy) ∧ Keep F pd H H1 := by
  obtain ⟨out, p1, t1, hx⟩ := w.ex
  have pn := p.nod
  have nall : (pd ++ ((ux ++ u) ++ us0)).Nodup := by rw [← List.append_assoc]; exact pn
  obtain ⟨q1, q2, q3⟩ := List.nodup_append.mp nall
  obtain ⟨q4, q5, q6⟩ := List.nodup_append.mp q2
  obtain ⟨q7, q8, q9⟩ := List.nodup_append.mp q4
  have mu' : ∀ a ∈ u', a ∈ u := fun a ha => p1.mem_iff.mpr (List.mem_append_right _ ha)
  have mo : ∀ a ∈ out, a ∈ u := fun a ha => p1.mem_iff.mpr (List.mem_append_left _ ha)
  obtain ⟨o1, o2, o3⟩ := List.nodup_append.mp (p1.nodup_iff.mp q8)
  have frU : ∀ a ∈ u, ¬ F a ∧ H0 a = none ∧ H a ≠ none := fun a ha => p.fresh a (List.mem_append_right _ (List.mem_append_right _ ha))
  have frX : ∀ a ∈ ux, ¬ F a ∧ H0 a = none ∧ H a ≠ none := fun a ha => p.fresh a (List.mem_append_right _ (List.mem_append_left _ ha))
  have tupK : ∀ b o, H b = some o → ¬ Mut (some o) → b ∉ u' := fun b o hb hm z => by
    obtain ⟨o', e, m⟩ := w.rep.there b z
    rw [hb] at e; cases e; exact hm m
  have keepF : ∀ {ws : List Addr}, (∀ a ∈ ws, a ∉ u') → Keep F ws H H1 := fun {ws} hw b o hb hk => by
    rw [ot b ?_]
    · exact hb
    · rcases hk with hk | hk | hk
      · exact fun z => (frU b (mu' b z)).1 hk
      · exact hw b hk
      · exact tupK b o hb hk
  obtain ⟨un, rn, pn'⟩ := hx H1 F d1 u1 (keepF fun a ha z => o3 a ha a z rfl) (fun _ h => h) r1
  have s0 : Slots K H1 F σ env0 us0 := g.sl.keep (keepF fun a ha z => q6 a (List.mem_append_right _ (mu' a z)) a ha rfl) fun _ h => h
  obtain ⟨us', s1, p2⟩ := s0.fill hi h0 rn
  have hset : σ.set i (some v) = σ := by
    apply List.ext_getElem?
    intro j
    by_cases hj : i = j
    · subst hj
      rw [List.getElem?_set_self (List.getElem?_eq_some_iff.mp hv).1, hv]
    · rw [List.getElem?_set_ne hj]
  rw [hset] at s1
  -- who is who
  have memY : ∀ a ∈ uy ++ u1, a ∈ ux ∨ a ∈ u' := fun a ha => List.mem_append.mp (l.sub a ha)
  have nXU : (ux ++ u').Nodup := List.nodup_append.mpr ⟨q7, o2, fun a ha b hb => q9 a ha b (mu' b hb)⟩
  have nY := l.nod nXU
  obtain ⟨y1, y2, y3⟩ := List.nodup_append.mp nY
  have big : (uy ++ (out ++ u1 ++ us0)).Nodup := by
    refine List.nodup_append.mpr ⟨y1, List.nodup_append.mpr ⟨List.nodup_append.mpr ⟨o1, y2, fun a ha b hb e => ?_⟩, q5, fun a ha b hb e => ?_⟩, fun a ha b hb e => ?_⟩
    · subst e
      rcases memY a (List.mem_append_right _ hb) with z | z
      · exact q9 a z a (mo a ha) rfl
      · exact o3 a ha a z rfl
    · subst e
      refine q6 a ?_ a hb rfl
      rcases List.mem_append.mp ha with z | z
      · exact List.mem_append_right _ (mo a z)
      · exact (memY a (List.mem_append_right _ z)).elim (List.mem_append_left _) fun z => List.mem_append_right _ (mu' a z)
    · subst e
      rcases List.mem_append.mp hb with z | z
      · rcases List.mem_append.mp z with z | z
        · rcases memY a (List.mem_append_left _ ha) with z' | z'
          · exact q9 a z' a (mo a z) rfl
          · exact o3 a z a z' rfl
        · exact y3 a ha a z rfl
      · refine q6 a ?_ a z rfl
        exact (memY a (List.mem_append_left _ ha)).elim (List.mem_append_left _) fun z => List.mem_append_right _ (mu' a z)
  have pm : us'.Perm (out ++ u1 ++ us0) := p2.trans (List.Perm.append_right us0 pn')
  have frY : ∀ a, a ∈ ux ∨ a ∈ u' → ¬ F a ∧ H0 a = none := fun a ha => ha.elim (fun z => ⟨(frX a z).1, (frX a z).2.1⟩) fun z => ⟨(frU a (mu' a z)).1, (frU a (mu' a z)).2.1⟩
  have frS : ∀ a ∈ us', ¬ F a ∧ H0 a = none := fun a ha => by
    rcases List.mem_append.mp (pm.mem_iff.mp ha) with z | z
    · rcases List.mem_append.mp z with z | z
      · exact ⟨(frU a (mo a z)).1, (frU a (mo a z)).2.1⟩
      · exact frY a (memY a (List.mem_append_right _ z))
    · exact g.fresh a z
  have same0 : Same H0 H1 := fun b o hb => by
    rw [ot b fun z => by rw [(frU b (mu' b z)).2.1] at hb; cases hb]
    exact g.same b o hb
  refine ⟨us', ⟨same0, g.sub, g.new, fun a hF z => g.wf a hF (tn a z), s1, pm.nodup_iff.mpr (List.nodup_append.mp big).2.1, frS, g.pin⟩, ⟨?_, fun a ha => ?_⟩, keepF fun a ha z => q3 a ha a (List.mem_append_left _ (List.mem_append_right _ (mu' a z))) rfl⟩
  · rw [List.append_assoc]
    refine List.nodup_append.mpr ⟨q1, ((List.Perm.append_left uy pm).nodup_iff).mpr big, fun a ha b hb e => ?_⟩
    subst e
    refine q3 a ha a ?_ rfl
    rcases List.mem_append.mp hb with z | z
    · exact List.mem_append_left _ ((memY a (List.mem_append_left _ z)).elim (List.mem_append_left _) fun z => List.mem_append_right _ (mu' a z))
    · rcases List.mem_append.mp (pm.mem_iff.mp z) with z | z
      · rcases List.mem_append.mp z with z | z
        · exact List.mem_append_left _ (List.mem_append_right _ (mo a z))
        · exact List.mem_append_left _ ((memY a (List.mem_append_right _ z)).elim (List.mem_append_left _) fun z => List.mem_append_right _ (mu' a z))
      · exact List.mem_append_right _ z
  · rcases List.mem_append.mp ha with z | z
    · have := p.fresh a (List.mem_append_left _ z)
      exact ⟨this.1, this.2.1, fun zz => this.2.2 (tn a zz)⟩
    · have := frY a (memY a (List.mem_append_left _ z))
      exact ⟨this.1, this.2, nn ry a z⟩
/-- the change of slot i at ks, with what comes of it -/
def mutD (i : Nat) (ks : List D) (μ : D → List D → Option (D × D)) (das : List D) (dorig : D) (env : Env) : RK D := match downD dorig ks with
  | some dn => if ownB dn = true then (match μ dn das with
    | some (d1, dy) => .ok dy (env.set i (some (putD dorig ks d1)))
    | none => .bad) else .bad
  | none => .bad
def kindD (T : Ty) (d : D) (ks : List D) : Bool := match downD d ks with
  | some dn => isD' T dn && ownB dn
  | none => false
/-- the arguments are read -/
def mutA (T : Ty) (i : Nat) (mk : Env → R (List D)) (ms : Env → R (List D)) (μ : D → List D → Option (D × D)) (env : Env) : RK D := match env[i]? with
  | some (some d) => (match mk env with
    | .ok ks => if kindD T d ks = true then (match ms env with
      | .ok das => if cleanL das = true then mutD i ks μ das d env else .bad
      | .exc c d => .exc c d (frzE env)
      | .bad => .bad) else .bad
    | .exc c d => .exc c d (frzE env)
    | .bad => .bad)
  | _ => .bad
/-- the arguments move -/
def mutB (T : Ty) (i : Nat) (mk : Env → R (List D)) (ms : Env → RK (List D)) (μ : D → List D → Option (D × D)) (env : Env) : RK D := match env[i]? with
  | some (some d) => (match mk env with
    | .ok ks => if kindD T d ks = true then (ms (env.set i none)).bind fun das e => (match e[i]? with
      | some none => mutD i ks μ das d e
      | _ => .bad) else .bad
    | .exc c d => .exc c d (frzE env)
    | .bad => .bad)
  | _ => .bad
theorem ty_of {K : Frag} {H : Hp} {F : Fz} {b : V} {d : D} {u : List Addr} (r : Rep K H F b d u) (T : Ty) (h : (isD' T d && ownB d) = true) : tyV K T.name b H := by
  obtain ⟨h1, h2⟩ := Bool.and_eq_true_iff.mp h
  cases r with
  | lstO e l => cases T <;> first | exact .inl ⟨rfl, _, .inl (.inl e)⟩ | (simp [isD'] at h1)
  | dctO e l => cases T <;> first | exact .inr (.inr (.inl ⟨rfl, .inl ⟨_, e⟩⟩)) | (simp [isD'] at h1)
  | non => simp [ownB] at h2
  | bl b => simp [ownB] at h2
  | int i => simp [ownB] at h2
  | str s hs => simp [ownB] at h2
  | lstF e l => simp [ownB] at h2
  | tup e l => simp [ownB] at h2
  | dctF e l => simp [ownB] at h2
  | exn e l => simp [ownB] at h2
theorem perm3 {a b c d : List Addr} : (a ++ (b ++ (c ++ d))).Perm (a ++ (c ++ (b ++ d))) := List.Perm.append_left a (by
  rw [← List.append_assoc, ← List.append_assoc]
  exact List.Perm.append_right d List.perm_append_comm)
/-- behind the arguments -/
theorem mut_end {K : Frag} {mg : Str → Option Value} {r : V → List V → Hp → VK → Prop} {μ : D → List D → Option (D × D)} (hm : NMut K r μ) {σ : L2.St} {H H2 : Hp} {F F2 : Fz} {env0 : Env} {us0 u ux u' pd : List Addr} {i : Nat} {v v' : V} {d d' : D} {ks das : List D} {xs : List V} {Q : VK}
    (g : Good K H0 F0 H2 F2 σ env0 us0) (hi : i < env0.length) (h0 : env0[i]? = some none) (hv : σ[i]? = some (some v)) (w : Way K H2 F2 v d u ks v' d' u') (rx : RepL K H2 F2 xs das ux) (p : Pend H0 F2 H2 us0 (pd ++ (ux ++ u))) (kp : Keep F pd H H2) (ff : ∀ a, F a → F2 a)
    (env : Env) (he : ∀ x : Option D, env0.set i x = env.set i x) (hp : PostK K mg H0 F0 W (RpV K) σ H F pd (mutD i ks μ das d env) Q) : r v' xs H2 Q := by
  unfold mutD at hp
  rw [w.down] at hp
  simp only at hp
  split at hp
  · split at hp
    · rename_i d1 dy hμ
      have pn : (pd ++ ((ux ++ u) ++ us0)).Nodup := by rw [← List.append_assoc]; exact p.nod
      obtain ⟨out, p1, _, _⟩ := w.ex
      have mu' : ∀ a ∈ u', a ∈ u := fun a ha => p1.mem_iff.mpr (List.mem_append_right _ ha)
      have n1 := (List.nodup_append.mp (List.nodup_append.mp pn).2.1).1
      obtain ⟨m1, m2, m3⟩ := List.nodup_append.mp n1
      refine hm.run H2 F2 v' d' u' ux xs das d1 dy Q w.rep rx (List.nodup_append.mpr ⟨m1, (List.nodup_append.mp (p1.nodup_iff.mp m2)).2.1, fun a ha b hb => m3 a ha b (mu' b hb)⟩) (fun a ha => (p.fresh a (List.mem_append_right _ (List.mem_append_right _ (mu' a ha)))).1)
        (fun a ha => (p.fresh a (List.mem_append_right _ (List.mem_append_left _ ha))).1) hμ fun H1 u1 uy vy _ r1 ry l tn ot => ?_
      obtain ⟨us', g', p', k'⟩ := mut_core g hi h0 hv w p ot tn r1 ry l
      rw [he] at g'
      exact hp vy H1 F2 us' uy g' ry p' (fun b o hb hk => k' b o (kp b o hb hk) (hk.imp (ff b) id)) ff
    · exact hp.elim
  · exact hp.elim
/-- the reading of a method that changes, its arguments read -/
theorem mutA_read {K : Frag} {mg : Str → Option Value} {T : Ty} {r : V → List V → Hp → VK → Prop} {μ : D → List D → Option (D × D)} {i : Nat} {ms : Env → R (List D)} (hm : NMut K r μ) {σ : L2.St} {H : Hp} {Q : VK}
    (h : tK K mg H0 F0 W (RpV K) (mutA T i mk ms μ) σ H Q) : tBM K T.name r (tR K mg H0 F0 W i mk) (tT K mg W (RpL K) ms) σ H Q := by
  obtain ⟨F, env, us, pd, g, p, hp⟩ := h
  replace hp : PostK K mg H0 F0 W (RpV K) σ H F pd (mutA T i mk ms μ env) Q := hp
  unfold mutA at hp
  show tR K mg H0 F0 W i mk σ H _
  split at hp
  · rename_i d hd
    obtain ⟨v, u, us0, h1, h2, h3, h4⟩ := g.sl.get hd
    refine ⟨F, env, us, v, d, u, us0, g, hd, h1, h2, h3, h4, ?_⟩
    split at hp
    · rename_i ks hk
      intro v1 d1 u1 H1 s1 w1
      have g1 := g.keep s1
      split at hp
      rotate_left
      · exact hp.elim
      rename_i hkd
      refine ⟨ty_of w1.rep T (by simpa only [kindD, w1.down] using hkd), ?_⟩
      refine tblk g1 (fun das xs H2 F1 ux e s2 f2 n2 wf2 rx nx fx => ?_) (fun c dd e => ?_) (fun e => ?_)
      · rw [e] at hp
        simp only at hp
        split at hp
        · rename_i hc
          have rx' : RepL K H2 F xs das ux := RepL.clean rx hc
          have sl0 : Slots K H2 F σ (env.set i none) us0 := h3.keep (Keep.same (s1.trans s2)) fun _ h => h
          have m0 : ∀ a ∈ us0, a ∈ us := fun a ha => h4.mem_iff.mpr (List.mem_append_right _ ha)
          have mu : ∀ a ∈ u, a ∈ us := fun a ha => h4.mem_iff.mpr (List.mem_append_left _ ha)
          have g0 : Good K H0 F0 H2 F σ (env.set i none) us0 := ⟨g.same.trans (s1.trans s2), g.sub, g.new, g.wf.same (s1.trans s2), sl0, (List.nodup_append.mp (h4.nodup_iff.mp g.nod)).2.1, fun a ha => g.fresh a (m0 a ha), g.pin⟩
          have fx' : ∀ a ∈ ux, H a = none := fun a ha => s1.free (fx a ha).2
          have p2 := p.more g (s1.trans s2) nx fx' (nnL rx)
          refine mut_end hm g0 (by rw [List.length_set]; exact (List.getElem?_eq_some_iff.mp hd).1) (by rw [List.getElem?_set_self (List.getElem?_eq_some_iff.mp hd).1]) h1 (w1.keep (Keep.same s2) fun _ h => h) rx' ⟨?_, fun a ha => ?_⟩ (Keep.same (s1.trans s2)) (fun _ h => h) env (fun x => by rw [List.set_set]) hp
          · have pn := p2.nod
            rw [List.append_assoc] at pn
            have : (pd ++ (ux ++ (u ++ us0))).Nodup := ((List.Perm.append_left pd (List.Perm.append_left ux h4)).nodup_iff).mp pn
            simpa [List.append_assoc] using this
          · rcases List.mem_append.mp ha with z | z
            · exact p2.fresh a (List.mem_append_left _ z)
            · rcases List.mem_append.mp z with z | z
              · exact p2.fresh a (List.mem_append_right _ z)
              · exact ⟨(g.fresh a (mu a z)).1, (g.fresh a (mu a z)).2, fun q => g.nn a (mu a z) ((s1.trans s2).free q)⟩
        · exact hp.elim
      · rw [e] at hp
        obtain ⟨W', e', h⟩ := hp
        exact ⟨W', e', fun C dx v H' F1 m g x r => h H' F1 [] C dx v g m x r⟩
      · rw [e] at hp; exact hp
    · exact hp
    · exact hp.elim
  · exact hp.elim
/-- .. its arguments moved -/
theorem mutB_read {K : Frag} {mg : Str → Option Value} {T : Ty} {r : V → List V → Hp → VK → Prop} {μ : D → List D → Option (D × D)} {i : Nat} {ms : Env → RK (List D)} (hm : NMut K r μ) {σ : L2.St} {H : Hp} {Q : VK}
    (h : tK K mg H0 F0 W (RpV K) (mutB T i mk ms μ) σ H Q) : tBM K T.name r (tR K mg H0 F0 W i mk) (tK K mg H0 F0 W (RpL K) ms) σ H Q := by
  obtain ⟨F, env, us, pd, g, p, hp⟩ := h
  replace hp : PostK K mg H0 F0 W (RpV K) σ H F pd (mutB T i mk ms μ env) Q := hp
  unfold mutB at hp
  show tR K mg H0 F0 W i mk σ H _
  split at hp
  · rename_i d hd
    obtain ⟨v, u, us0, h1, h2, h3, h4⟩ := g.sl.get hd
    refine ⟨F, env, us, v, d, u, us0, g, hd, h1, h2, h3, h4, ?_⟩
    split at hp
    · rename_i ks hk
      intro v1 d1 u1 H1 s1 w1
      have m0 : ∀ a ∈ us0, a ∈ us := fun a ha => h4.mem_iff.mpr (List.mem_append_right _ ha)
      have mu : ∀ a ∈ u, a ∈ us := fun a ha => h4.mem_iff.mpr (List.mem_append_left _ ha)
      split at hp
      rotate_left
      · exact hp.elim
      rename_i hkd
      refine ⟨ty_of w1.rep T (by simpa only [kindD, w1.down] using hkd), ?_⟩
      have g0 : Good K H0 F0 H1 F σ (env.set i none) us0 := ⟨g.same.trans s1, g.sub, g.new, g.wf.same s1, h3.keep (Keep.same s1) fun _ h => h, (List.nodup_append.mp (h4.nodup_iff.mp g.nod)).2.1, fun a ha => g.fresh a (m0 a ha), g.pin⟩
      have p0 : Pend H0 F H1 us0 (pd ++ u) := ⟨by rw [List.append_assoc]; exact ((List.Perm.append_left pd h4).nodup_iff).mp p.nod, fun a ha => by
        rcases List.mem_append.mp ha with z | z
        · exact (p.keep s1).fresh a z
        · exact ⟨(g.fresh a (mu a z)).1, (g.fresh a (mu a z)).2, fun q => g.nn a (mu a z) (s1.free q)⟩⟩
      refine ⟨F, env.set i none, us0, pd ++ u, g0, p0, ?_⟩
      cases q : ms (env.set i none) with
      | ok das e =>
        rw [q] at hp
        simp only [RK.bind_ok] at hp
        split at hp
        · rename_i he
          intro xs H2 F2 us2 ux g2 rx p2 k2 f2
          have hi : i < e.length := (List.getElem?_eq_some_iff.mp he).1
          refine mut_end hm g2 hi he h1 (w1.keep (k2.mono fun a ha => List.mem_append_right _ ha) f2) rx ⟨?_, fun a ha => ?_⟩ (fun b o hb hk => k2 b o (s1 b o hb) (hk.imp id (Or.imp (List.mem_append_left _) id))) f2 e (fun x => rfl) hp
          · have pn := p2.nod
            have e1 : (pd ++ (u ++ (ux ++ us2))).Nodup := by simpa [List.append_assoc] using pn
            have := (perm3 (a := pd) (b := u) (c := ux) (d := us2)).nodup_iff.mp e1
            simpa [List.append_assoc] using this
          · refine p2.fresh a ?_
            simp only [List.mem_append] at ha ⊢
            rcases ha with z | z | z
            · exact .inl (.inl z)
            · exact .inr z
            · exact .inl (.inr z)
        · exact hp.elim
      | exc c dd e => rw [q] at hp; exact hp
      | bad => rw [q] at hp; exact hp
    · exact hp
    · exact hp.elim
  · exact hp.elim
variable {meth : Str} {id : String} {apos cpos : Pos} {i : Nat} {T : Ty} {r : V → List V → Hp → VK → Prop} {μ : D → List D → Option (D × D)} {a0 : Expr} {ms : Env → R (List D)} {mks : Env → RK (List D)}
end

section
variable {K : Frag}
def muL (f : List D → List D → Option (List D × D)) : D → List D → Option (D × D)
  | .lst true ds, as => (f ds as).map fun p => (.lst true p.1, p.2)
  | _, _ => none
/-- a list's method by what the items become -/
theorem nmut_list {r : V → List V → Hp → VK → Prop} {f : List D → List D → Option (List D × D)}
    (h : ∀ (H : Hp) (F : Fz) (b : Addr) (vs : List V) (ds : List D) (u ux : List Addr) (xs : List V) (as : List D) (es : List D) (dy : D), H b = some (.lst vs) → RepL K H F vs ds u → RepL K H F xs as ux → f ds as = some (es, dy) →
      ∃ ws u1 vy uy, RepL K H F ws es u1 ∧ Rep K H F vy dy uy ∧ Less (uy ++ u1) (ux ++ u) ∧ ∀ Q : VK, Q vy (upd H b (.lst ws)) → r (.ref b) xs H Q) : NMut K r (muL f) := by
  refine ⟨fun H F b d u ux xs as d1 dy Q rb rx nd fu fx hμ q => ?_⟩
  cases d with
  | lst o dl =>
    cases o with
    | false => cases hμ
    | true =>
    obtain ⟨⟨es, dy'⟩, hf, he⟩ := Option.map_eq_some_iff.mp hμ
    cases he
    cases rb with
    | @lstO a vs _ u0 e l =>
      obtain ⟨ws, u1, vy, uy, r1, ry, ll, hr⟩ := h H F a vs dl u0 ux xs as es _ e l rx hf
      have au : a ∉ ux ++ u0 := fun z => by
        obtain ⟨n1, n2, n3⟩ := List.nodup_append.mp nd
        rcases List.mem_append.mp z with z | z
        · exact n3 a z a List.mem_cons_self rfl
        · exact (List.nodup_cons.mp n2).1 z
      have ay : a ∉ uy ++ u1 := fun z => au (ll.sub a z)
      have kp : ∀ {ws' : List Addr}, a ∉ ws' → Keep F ws' H (upd H a (.lst ws)) := fun {ws'} hw b o hb hk => by
        rw [upd_ne fun z => ?_]
        · exact hb
        · subst z
          rcases hk with hk | hk | hk
          · exact fu _ List.mem_cons_self hk
          · exact hw hk
          · rw [e] at hb; cases hb; exact hk trivial
      refine hr Q (q _ (a :: u1) uy vy (fun b o hb hk => ?_) (.lstO upd_same (r1.keep (kp fun z => ay (List.mem_append_right _ z)) fun _ h => h)) (ry.keep (kp fun z => ay (List.mem_append_left _ z)) fun _ h => h) ⟨fun _ => ?_, fun c hc => ?_⟩ (fun c hc => ?_) fun c hc => ?_)
      · rcases hk with hk | hk | hk
        · rw [upd_ne fun z => hk (by rw [z]; exact List.mem_cons_self)]; exact hb
        · cases hk
        · rw [upd_ne fun z => ?_]
          · exact hb
          · subst z; rw [e] at hb; cases hb; exact hk trivial
      · have n0 : (ux ++ u0).Nodup := by
          obtain ⟨n1, n2, n3⟩ := List.nodup_append.mp nd
          exact List.nodup_append.mpr ⟨n1, (List.nodup_cons.mp n2).2, fun a ha b hb => n3 a ha b (List.mem_cons_of_mem _ hb)⟩
        have := ll.nod n0
        exact (List.perm_middle.nodup_iff).mpr (List.nodup_cons.mpr ⟨ay, this⟩)
      · rcases List.mem_append.mp hc with hc | hc
        · rcases List.mem_append.mp (ll.sub c (List.mem_append_left _ hc)) with z | z
          · exact List.mem_append_left _ z
          · exact List.mem_append_right _ (List.mem_cons_of_mem _ z)
        · rcases List.mem_cons.mp hc with rfl | hc
          · exact List.mem_append_right _ List.mem_cons_self
          · rcases List.mem_append.mp (ll.sub c (List.mem_append_right _ hc)) with z | z
            · exact List.mem_append_left _ z
            · exact List.mem_append_right _ (List.mem_cons_of_mem _ z)
      · unfold upd at hc
        split at hc
        · cases hc
        · exact hc
      · exact upd_ne fun z => hc (by rw [z]; exact List.mem_cons_self)
  | _ => cases hμ
def appendF : List D → List D → Option (List D × D)
  | ds, [d] => if ds.length < LIM then some (ds ++ [d], .non) else none
  | _, _ => none
theorem mu_append : NMut K rAppend (muL appendF) := nmut_list fun H F b vs ds u ux xs as es dy e l rx hf => by
  unfold appendF at hf
  split at hf
  · split at hf
    · rename_i hl
      cases hf
      obtain ⟨v, rfl, rv⟩ := rx.one
      exact ⟨vs ++ [v], u ++ (ux ++ []), .non, [], l.append (us := u) (.cons rv .nil), .non, .perm (by simpa using List.perm_append_comm), fun Q q => ⟨b, vs, v, rfl, rfl, e, by rw [l.length, sizeLine_eq]; have : ds.length < 100000 := hl; omega, q⟩⟩
    · cases hf
  · cases hf
def popF : List D → List D → Option (List D × D)
  | ds, [] => match ds[ds.length - 1]? with
    | some d => some (ds.dropLast, d)
    | none => none
  | ds, [.int i] => if -1000000 ≤ i ∧ i ≤ 1000000 then (match ixN ds.length i with
    | some j => (match ds[j]? with
      | some d => some (ds.eraseIdx j, d)
      | none => none)
    | none => none) else none
  | _, _ => none
theorem RepL.last_ {H : Hp} {F : Fz} {vs : List V} {ds : List D} {u : List Addr} {d : D} {j : Nat} (l : RepL K H F vs ds u) (h : ds[j]? = some d) : ∃ v u1 u2, vs[j]? = some v ∧ Rep K H F v d u1 ∧ RepL K H F (vs.eraseIdx j) (ds.eraseIdx j) u2 ∧ u.Perm (u1 ++ u2) := by
  induction ds generalizing vs u j with
  | nil => simp at h
  | cons d0 ds ih =>
    cases l with
    | @cons v0 vs _ _ u0 us0 a l =>
      cases j with
      | zero => simp at h; subst h; exact ⟨v0, u0, us0, rfl, a, l, List.Perm.refl _⟩
      | succ j =>
        obtain ⟨v, u1, u2, g1, g2, g3, g4⟩ := ih l (by simpa using h)
        refine ⟨v, u1, u0 ++ u2, by simpa using g1, g2, .cons a g3, (List.Perm.append_left u0 g4).trans ?_⟩
        rw [← List.append_assoc, ← List.append_assoc]
        exact List.Perm.append_right u2 List.perm_append_comm
theorem mu_pop0 : NMut K rPop (muL fun ds as => match as with
    | [] => popF ds []
    | _ => none) := nmut_list fun H F b vs ds u ux xs as es dy e l rx hf => by
  split at hf
  · cases rx
    unfold popF at hf
    simp only at hf
    split at hf
    · rename_i d hd
      cases hf
      obtain ⟨v, u1, u2, g1, g2, g3, g4⟩ := l.last_ hd
      have hn : ds.length - 1 + 1 = ds.length := by
        have := (List.getElem?_eq_some_iff.mp hd).1
        omega
      have ed : ds.dropLast = ds.eraseIdx (ds.length - 1) := List.eraseIdx_length_sub_one.symm
      have ev : vs.dropLast = vs.eraseIdx (ds.length - 1) := by rw [← l.length]; exact List.eraseIdx_length_sub_one.symm
      rw [← ed, ← ev] at g3
      exact ⟨_, u2, v, u1, g3, g2, .perm (by simpa using g4.symm), fun Q q => ⟨b, vs, v, rfl, rfl, e, by rw [l.length]; exact g1, q⟩⟩
    · cases hf
  · cases hf
theorem mu_popAt : NMut K rPopAt (muL fun ds as => match as with
    | [.int i] => popF ds [.int i]
    | _ => none) := nmut_list fun H F b vs ds u ux xs as es dy e l rx hf => by
  split at hf
  · rename_i i
    obtain ⟨v0, rfl, r0⟩ := rx.one
    cases r0
    unfold popF at hf
    simp only at hf
    split at hf
    rotate_left
    · cases hf
    rename_i hb
    split at hf
    · rename_i j hj
      split at hf
      · rename_i d hd
        cases hf
        obtain ⟨v, u1, u2, g1, g2, g3, g4⟩ := l.last_ hd
        have hj' := hj
        rw [← l.length] at hj'
        obtain ⟨q1, q2, q3, q4⟩ := ixN_seq hj'
        refine ⟨_, u2, v, u1, g3, g2, .perm (by simpa using g4.symm), fun Q q => ⟨b, vs, i, j, v, rfl, rfl, e, ?_, ?_, q1, g1, q⟩⟩
        · omega
        · omega
      · cases hf
    · cases hf
  · cases hf
end
end VL
end

section
set_option Elab.async false
set_option linter.all false
set_option maxRecDepth 100000
set_option maxHeartbeats 2000000
namespace VL
open PySem PySem.W PySem.Spec PyProof.Rows L2
section
variable {X : Cx} {H0 : Hp} {F0 : Ent} {W : Option WX} {o e a : Expr} {es : List Expr} {m : T} {pos : Pos} {mk : Env → R (List D)} {name : Str} {id : String} {apos cpos : Pos} {i : Nat} {r : V → List V → Hp → VK → Prop} {μ : D → List D → Option (D × D)} {ms : Env → R (List D)} {mks : Env → RK (List D)}
/-- o.m() -/
theorem ke_m0 (T : Ty) (pa : PlainAttrs T.name) (slot : Slot T.name name id) (hty : typeOf (.builtin id) = pure (.type "method_descriptor")) (hm : MtR X id r) (hn : NMut X.K r μ) (ho : VR X H0 F0 W o i mk)
    (hbase : attributeBase o name X.env (eval o X.env) = eval o X.env := by rfl) (hline : (apos.endLine == cpos.line) = true := by rfl) : KE X H0 F0 W (.Call (.Attribute o name apos) [] [] cpos) (mutA T i mk (fun _ => .ok []) μ) := by
  refine PE.to (pe_bm0 pa slot hty hm ho hbase hline) fun σ H Q h => ?_
  have h1 := mutA_read (T := T) (mg := X.mg) hn h
  show tR X.K X.mg H0 F0 W i mk σ H _
  obtain ⟨F, env, us, v, d, u, us', g, a1, a2, a3, a4, a5, h⟩ := h1
  refine ⟨F, env, us, v, d, u, us', g, a1, a2, a3, a4, a5, ?_⟩
  split at h
  · intro v' d' u' H' s w
    obtain ⟨t1, F1, env1, e1, w1, hp⟩ := h v' d' u' H' s w
    exact ⟨t1, post_flat hp w1 (show RepL X.K H' F1 [] [] [] from .nil)⟩
  · exact h
  · exact h
/-- o.m(e, ..), the arguments read -/
theorem ke_mA (T : Ty) (pa : PlainAttrs T.name) (slot : Slot T.name name id) (hty : typeOf (.builtin id) = pure (.type "method_descriptor")) (hm : MtR X id r) (hn : NMut X.K r μ) (ho : VR X H0 F0 W o i mk) (ha : VA X W (e :: es) ms)
    (hbase : attributeBase o name X.env (eval o X.env) = eval o X.env := by rfl)
    (hfew : ((backTo cpos (starEach (e :: es) X.env)).all (fun x => !x.1) && (backToKw cpos (keywordEach [] X.env)).all (fun x => x.1.isSome)
      && decide ((e :: es).length + ([] : List Keyword).length + (if ([] : List Keyword).isEmpty then 0 else 1) < 30)) = true := by rfl)
    (hline : (apos.endLine == cpos.line) = true := by rfl) (hs : starEach (e :: es) X.env = (false, eval e X.env) :: starEach es X.env := by rfl) (hplain : (backTo cpos (starEach es X.env)).any (·.1) = false := by rfl) :
    KE X H0 F0 W (.Call (.Attribute o name apos) (e :: es) [] cpos) (mutA T i mk ms μ) := PE.to (pe_bm pa slot hty hm ho ha hbase hfew hline hs hplain) fun σ H Q h => mutA_read (T := T) (mg := X.mg) hn h
theorem ke_mB (T : Ty) (pa : PlainAttrs T.name) (slot : Slot T.name name id) (hty : typeOf (.builtin id) = pure (.type "method_descriptor")) (hm : MtR X id r) (hn : NMut X.K r μ) (ho : VR X H0 F0 W o i mk) (ha : KEs X H0 F0 W (e :: es) mks)
    (hbase : attributeBase o name X.env (eval o X.env) = eval o X.env := by rfl)
    (hfew : ((backTo cpos (starEach (e :: es) X.env)).all (fun x => !x.1) && (backToKw cpos (keywordEach [] X.env)).all (fun x => x.1.isSome)
      && decide ((e :: es).length + ([] : List Keyword).length + (if ([] : List Keyword).isEmpty then 0 else 1) < 30)) = true := by rfl)
    (hline : (apos.endLine == cpos.line) = true := by rfl) (hs : starEach (e :: es) X.env = (false, eval e X.env) :: starEach es X.env := by rfl) (hplain : (backTo cpos (starEach es X.env)).any (·.1) = false := by rfl) :
    KE X H0 F0 W (.Call (.Attribute o name apos) (e :: es) [] cpos) (mutB T i mk mks μ) := PE.to (pe_bm pa slot hty hm ho ha hbase hfew hline hs hplain) fun σ H Q h => mutB_read (T := T) (mg := X.mg) hn h
end
section
variable {K : Frag}
theorem RepL.cutAt {H : Hp} {F : Fz} : ∀ (n : Nat) {vs : List V} {ds : List D} {u : List Addr}, RepL K H F vs ds u → ∃ ua ub, RepL K H F (vs.take n) (ds.take n) ua ∧ RepL K H F (vs.drop n) (ds.drop n) ub ∧ u.Perm (ua ++ ub) := by
  intro n
  induction n with
  | zero => exact fun {vs ds u} l => ⟨[], u, .nil, l, List.Perm.refl _⟩
  | succ n ih =>
    intro vs ds u l
    cases l with
    | nil => exact ⟨[], [], .nil, .nil, List.Perm.refl _⟩
    | @cons v vs d ds u0 us0 a l =>
      obtain ⟨ua, ub, g1, g2, g3⟩ := ih l
      exact ⟨u0 ++ ua, ub, .cons a g1, g2, by rw [List.append_assoc]; exact List.Perm.append_left u0 g3⟩
theorem RepL.setAt {H : Hp} {F : Fz} {w : V} {e : D} {ue : List Addr} (re : Rep K H F w e ue) : ∀ {ds : List D} {vs : List V} {u : List Addr} {j : Nat}, RepL K H F vs ds u → j < ds.length → ∃ u', RepL K H F (vs.set j w) (ds.set j e) u' ∧ Less u' (ue ++ u)
  | [], _, _, _, _, h => by simp at h
  | d :: ds, vs, u, j, l, h => by
    cases l with
    | @cons v0 vs0 _ _ u0 us0 a l =>
      cases j with
      | zero => exact ⟨ue ++ us0, .cons re l, .app .refl (.of (List.sublist_append_right _ _))⟩
      | succ j =>
        obtain ⟨u', g1, g2⟩ := RepL.setAt re l (j := j) (by simpa using h)
        refine ⟨u0 ++ u', .cons a g1, (Less.app .refl g2).trans (.perm ?_)⟩
        rw [← List.append_assoc, ← List.append_assoc]
        exact List.Perm.append_right us0 List.perm_append_comm
def insF : List D → List D → Option (List D × D)
  | ds, [.int i, d] => if ds.length < LIM ∧ 0 ≤ i ∧ i ≤ 1000000 then some (ds.take i.toNat ++ [d] ++ ds.drop i.toNat, .non) else none
  | _, _ => none
theorem mu_insert : NMut K (fun x vs H Q => ∃ (l : Addr) (xs : List V) (i : Int) (y : V), x = .ref l ∧ vs = [.int i, y] ∧ H l = some (.lst xs) ∧ xs.length < sizeLine ∧ 0 ≤ i ∧ i < 2 ^ 63 ∧ Q .non (upd H l (.lst (xs.take i.toNat ++ [y] ++ xs.drop i.toNat)))) (muL insF) := nmut_list fun H F b vs ds u ux xs as es dy e l rx hf => by
  unfold insF at hf
  split at hf
  · split at hf
    · rename_i hl
      cases hf
      obtain ⟨v, w, u1, u2, rfl, rfl, r1, r2⟩ := rx.two
      cases r1
      obtain ⟨ua, ub, ra, rb, pp⟩ := l.cutAt (Int.toNat _)
      refine ⟨_, (ua ++ (u2 ++ [])) ++ ub, .non, [], (ra.append (us := ua) (.cons r2 .nil)).append (us := ua ++ (u2 ++ [])) rb, .non, .perm ?_, fun Q q => ⟨b, vs, _, w, rfl, rfl, e, by rw [l.length, sizeLine_eq]; have : ds.length < 100000 := hl.1; omega, hl.2.1, by omega, q⟩⟩
      simp only [List.nil_append, List.append_nil]
      refine List.Perm.trans ?_ (List.Perm.append_left u2 pp).symm
      rw [← List.append_assoc]
      exact List.Perm.append_right ub List.perm_append_comm
    · cases hf
  · cases hf
def revF : List D → List D → Option (List D × D)
  | ds, [] => some (ds.reverse, .non)
  | _, _ => none
theorem mu_reverse : NMut K rReverse (muL revF) := nmut_list fun H F b vs ds u ux xs as es dy e l rx hf => by
  unfold revF at hf
  split at hf
  · cases hf
    cases rx
    obtain ⟨u1, r1, l1⟩ := l.reverse
    exact ⟨_, u1, .non, [], r1, .non, by simpa using l1, fun Q q => ⟨b, vs, rfl, rfl, e, q⟩⟩
  · cases hf
def clrF : List D → List D → Option (List D × D)
  | _, [] => some ([], .non)
  | _, _ => none
theorem mu_clear : NMut K rClear (muL clrF) := nmut_list fun H F b vs ds u ux xs as es dy e l rx hf => by
  unfold clrF at hf
  split at hf
  · cases hf
    cases rx
    exact ⟨_, [], .non, [], .nil, .non, .nil, fun Q q => ⟨b, vs, rfl, rfl, e, q⟩⟩
  · cases hf
end

section
variable {X : Cx} {H0 : Hp} {F0 : Ent} {W : Option WX}
theorem set_dict (hu : X.A.units + 1 < cLine) : PSet X (fun o i v H Q => ∃ a H', o = .ref a ∧ DPut H a i v H' ∧ Q H') := by
  intro pins s σ H o i v ov iv u Q I ro ri rv h
  obtain ⟨a, H', rfl, g, q⟩ := h
  cases (show ov = Value.ref a from ro)
  exact d_setItem hu I g ri rv fun s' I' => ⟨H', I', q⟩
theorem PSet.or {t t' : TSet} (h : PSet X t) (h' : PSet X t') : PSet X (fun o i v H Q => t o i v H Q ∨ t' o i v H Q) := by
  intro pins s σ H o i v ov iv u Q I ro ri rv q
  rcases q with q | q
  · exact h pins s σ H o i v ov iv u Q I ro ri rv q
  · exact h' pins s σ H o i v ov iv u Q I ro ri rv q
def rSetA : TSet := fun o i v H Q => rSetL o i v H Q ∨ ∃ a H', o = .ref a ∧ DPut H a i v H' ∧ Q H'
theorem set_all (hu : X.A.units + 1 < cLine) : PSet X rSetA := PSet.or set_list (set_dict hu)
def putKD (kvs : List (Key × D)) (k : Key) (e : D) : List (Key × D) := if kvs.any (fun kv => decide (kv.1 = k)) = true then kvs.map (fun kv => if kv.1 = k then (kv.1, e) else kv) else kvs ++ [(k, e)]
mutual
def noOwn : D → Bool
  | .lst o ds => !o && noOwnL ds
  | .tup ds => noOwnL ds
  | .dct o kvs => !o && noOwnK kvs
  | .exn _ d => noOwn d
  | .non => true | .bl _ => true | .int _ => true | .str _ => true
def noOwnL : List D → Bool
  | [] => true
  | d :: ds => noOwn d && noOwnL ds
def noOwnK : List (Key × D) → Bool
  | [] => true
  | (_, d) :: ds => noOwn d && noOwnK ds
end
section
variable {K : Frag} {H : Hp} {F : Fz}
mutual
theorem Rep.noOwn {v : V} {d : D} {us : List Addr} (r : Rep K H F v d us) (h : VL.noOwn d = true) : us = [] := by
  cases r with
  | non => rfl
  | bl b => rfl
  | int i => rfl
  | str s hs => rfl
  | lstO e l => simp [VL.noOwn] at h
  | lstF e l => rfl
  | tup e l => exact l.noOwn (by simpa [VL.noOwn] using h)
  | dctO e l => simp [VL.noOwn] at h
  | dctF e l => rfl
  | exn e l => exact l.noOwn (by simpa [VL.noOwn] using h)
theorem RepL.noOwn {v : List V} {d : List D} {us : List Addr} (r : RepL K H F v d us) (h : noOwnL d = true) : us = [] := by
  cases r with
  | nil => rfl
  | cons a l =>
    obtain ⟨h1, h2⟩ := Bool.and_eq_true_iff.mp (by simpa only [noOwnL] using h)
    rw [a.noOwn h1, l.noOwn h2]; rfl
end
theorem RepK.any {kvs : List (Key × V)} {ds : List (Key × D)} {us : List Addr} (r : RepK K H F kvs ds us) (k : Key) : (kvs.any fun kv => decide (kv.1 = k)) = ds.any fun kv => decide (kv.1 = k) := by
  induction ds generalizing kvs us with
  | nil => cases r; rfl
  | cons p ds ih => cases r with | cons a l => simp only [List.any_cons, ih l]
theorem RepK.repl {kvs : List (Key × V)} {ds : List (Key × D)} {us : List Addr} {w : V} {e : D} (r : RepK K H F kvs ds us) (k : Key) (re : Rep K H F w e []) : ∃ u, RepK K H F (kvs.map fun kv => if kv.1 = k then (kv.1, w) else kv) (ds.map fun kv => if kv.1 = k then (kv.1, e) else kv) u ∧ Less u us := by
  induction ds generalizing kvs us with
  | nil => cases r; exact ⟨[], .nil, .refl⟩
  | cons p ds ih =>
    cases r with
    | @cons k0 v0 vs d0 _ u0 us0 a l =>
      obtain ⟨u, g1, g2⟩ := ih l
      simp only [List.map_cons]
      by_cases hk : k0 = k
      · simp only [hk, if_true]
        exact ⟨[] ++ u, .cons re g1, by simpa using g2.trans (.of (List.sublist_append_right _ _))⟩
      · simp only [hk, if_false]
        exact ⟨u0 ++ u, .cons a g1, .app .refl g2⟩
theorem RepK.snoc {kvs : List (Key × V)} {ds : List (Key × D)} {us ue : List Addr} {w : V} {e : D} (r : RepK K H F kvs ds us) (k : Key) (re : Rep K H F w e ue) : ∃ u, RepK K H F (kvs ++ [(k, w)]) (ds ++ [(k, e)]) u ∧ u.Perm (us ++ ue) := by
  induction ds generalizing kvs us with
  | nil => cases r; exact ⟨ue ++ [], .cons re .nil, by simp⟩
  | cons p ds ih =>
    cases r with
    | @cons k0 v0 vs d0 _ u0 us0 a l =>
      obtain ⟨u, g1, g2⟩ := ih l
      exact ⟨u0 ++ u, .cons a g1, by rw [List.append_assoc]; exact List.Perm.append_left u0 g2⟩
end
/-- o[k] = v on data; how often a key stands -/
def cntK (kvs : List (Key × D)) (k : Key) : Nat := (kvs.filter fun kv => decide (kv.1 = k)).length
section
variable {K : Frag} {H : Hp} {F : Fz}
theorem map_none {α : Type} (l : List (Key × α)) (k : Key) (w : α) (h : (l.any fun kv => decide (kv.1 = k)) = false) : (l.map fun kv => if kv.1 = k then (kv.1, w) else kv) = l := by
  refine (List.map_congr_left fun kv hkv => ?_).trans (List.map_id l)
  have : decide (kv.1 = k) = false := by
    cases hd : decide (kv.1 = k) with
    | false => rfl
    | true =>
      have : (l.any fun kv => decide (kv.1 = k)) = true := List.any_eq_true.mpr ⟨kv, hkv, hd⟩
      rw [h] at this; cases this
  rw [if_neg (by simpa using this)]; rfl
theorem RepK.repl1 {kvs : List (Key × V)} {ds : List (Key × D)} {us ue : List Addr} {w : V} {e : D} (r : RepK K H F kvs ds us) (k : Key) (re : Rep K H F w e ue) (hc : cntK ds k ≤ 1) : ∃ u, RepK K H F (kvs.map fun kv => if kv.1 = k then (kv.1, w) else kv) (ds.map fun kv => if kv.1 = k then (kv.1, e) else kv) u ∧ Less u (ue ++ us) := by
  induction ds generalizing kvs us with
  | nil => cases r; exact ⟨[], .nil, .nil⟩
  | cons p ds ih =>
    cases r with
    | @cons k0 v0 vs d0 _ u0 us0 a l =>
      unfold cntK at hc ih
      simp only [List.map_cons]
      by_cases hk : k0 = k
      · rw [List.filter_cons, if_pos (by simpa using hk), List.length_cons] at hc
        have hz : (ds.any fun kv => decide (kv.1 = k)) = false := by
          cases hd : ds.any fun kv => decide (kv.1 = k) with
          | false => rfl
          | true =>
            obtain ⟨kv, h1, h2⟩ := List.any_eq_true.mp hd
            have : 0 < (ds.filter fun kv => decide (kv.1 = k)).length := List.length_pos_iff.mpr (List.ne_nil_of_mem (List.mem_filter.mpr ⟨h1, h2⟩))
            omega
        rw [map_none ds k e hz, map_none vs k w (by rw [l.any]; exact hz)]
        simp only [hk, if_true]
        exact ⟨ue ++ us0, .cons re l, .app .refl (.of (List.sublist_append_right _ _))⟩
      · rw [List.filter_cons, if_neg (by simpa using hk)] at hc
        obtain ⟨u, g1, g2⟩ := ih l hc
        simp only [hk, if_false]
        refine ⟨u0 ++ u, .cons a g1, (Less.app (.refl (us := u0)) g2).trans (.perm ?_)⟩
        rw [← List.append_assoc, ← List.append_assoc]
        exact List.Perm.append_right us0 List.perm_append_comm
end
def putF (kvs : List (Key × D)) (k : Key) (e : D) : Option (D × D) := if kvs.length < LIM ∧ ((kvs.any fun kv => decide (kv.1 = k)) = false ∨ noOwn e = true ∨ cntK kvs k ≤ 1) then some (.dct true (putKD kvs k e), .non) else none
def storeF : D → List D → Option (D × D)
  | .lst true ds, [.int i, e] => match ixN ds.length i with
    | some j => some (.lst true (ds.set j e), .non)
    | none => none
  | .dct true kvs, [.int i, e] => putF kvs (.inl i) e
  | .dct true kvs, [.str s, e] => putF kvs (.inr s) e
  | _, _ => none
/-- a dict's change by what its entries become -/
theorem dict_change {K : Frag} {H : Hp} {F : Fz} {b : Addr} {u0 ux : List Addr} {kvs ws : List (Key × V)} {es : List (Key × D)} {u1 : List Addr} (e : H b = some (.dK kvs)) (nd : (ux ++ (b :: u0)).Nodup) (fu : ∀ a ∈ b :: u0, ¬ F a) (r1 : RepK K H F ws es u1) (ll : Less u1 (ux ++ u0)) (Q : VK)
    (q : ∀ H1 u1 uy vy, Keep (fun a => a ∉ b :: u0) [] H H1 → Rep K H1 F (.ref b) (.dct true es) u1 → Rep K H1 F vy .non uy → Less (uy ++ u1) (ux ++ (b :: u0)) → (∀ a, H1 a = none → H a = none) → (∀ a, a ∉ b :: u0 → H1 a = H a) → Q vy H1) : Q .non (upd H b (.dK ws)) := by
  have bu : b ∉ ux ++ u0 := fun z => by
    obtain ⟨n1, n2, n3⟩ := List.nodup_append.mp nd
    rcases List.mem_append.mp z with z | z
    · exact n3 b z b List.mem_cons_self rfl
    · exact (List.nodup_cons.mp n2).1 z
  have b1 : b ∉ u1 := fun z => bu (ll.sub b z)
  refine q _ (b :: u1) [] .non (fun c o hc hk => ?_) (.dctO upd_same (r1.keep (fun c o hc hk => ?_) fun _ h => h)) .non ⟨fun _ => ?_, fun c hc => ?_⟩ (fun c hc => ?_) fun c hc => ?_
  · rw [upd_ne fun z => ?_]
    · exact hc
    · subst z
      rcases hk with hk | hk | hk
      · exact hk List.mem_cons_self
      · cases hk
      · rw [e] at hc; cases hc; exact hk trivial
  · rw [upd_ne fun z => ?_]
    · exact hc
    · subst z
      rcases hk with hk | hk | hk
      · exact fu _ List.mem_cons_self hk
      · exact b1 hk
      · rw [e] at hc; cases hc; exact hk trivial
  · have n0 : (ux ++ u0).Nodup := by
      obtain ⟨n1, n2, n3⟩ := List.nodup_append.mp nd
      exact List.nodup_append.mpr ⟨n1, (List.nodup_cons.mp n2).2, fun a ha b hb => n3 a ha b (List.mem_cons_of_mem _ hb)⟩
    exact List.nodup_cons.mpr ⟨b1, ll.nod n0⟩
  · rcases List.mem_cons.mp hc with rfl | hc
    · exact List.mem_append_right _ List.mem_cons_self
    · rcases List.mem_append.mp (ll.sub c hc) with z | z
      · exact List.mem_append_left _ z
      · exact List.mem_append_right _ (List.mem_cons_of_mem _ z)
  · unfold upd at hc
    split at hc
    · cases hc
    · exact hc
  · exact upd_ne fun z => hc (by rw [z]; exact List.mem_cons_self)
def rStore : V → List V → Hp → VK → Prop := fun x xs H Q => ∃ k v, xs = [k, v] ∧ rSetA x k v H fun H' => Q .non H'
theorem put_read {K : Frag} {H : Hp} {F : Fz} {b : Addr} {u0 ue : List Addr} {kvs : List (Key × V)} {ds : List (Key × D)} {k : Key} {w : V} {e d1 dy : D} (hb : H b = some (.dK kvs)) (l : RepK K H F kvs ds u0) (re : Rep K H F w e ue) (nd : (ue ++ (b :: u0)).Nodup) (fu : ∀ a ∈ b :: u0, ¬ F a) (hμ : putF ds k e = some (d1, dy)) (Q : VK)
    (q : ∀ H1 u1 uy vy, Keep (fun a => a ∉ b :: u0) [] H H1 → Rep K H1 F (.ref b) d1 u1 → Rep K H1 F vy dy uy → Less (uy ++ u1) (ue ++ (b :: u0)) → (∀ a, H1 a = none → H a = none) → (∀ a, a ∉ b :: u0 → H1 a = H a) → Q vy H1) : ∃ H', DPut H b (kV k) w H' ∧ Q .non H' := by
  unfold putF at hμ
  split at hμ
  · rename_i hc
    cases hμ
    refine ⟨_, DPut.k hb (by rw [l.length, sizeLine_eq]; have : ds.length < 100000 := hc.1; omega), ?_⟩
    by_cases ha : (ds.any fun kv => decide (kv.1 = k)) = true
    · have hn := hc.2.resolve_left fun z => by rw [ha] at z; cases z
      obtain ⟨u1, r1, l1⟩ : ∃ u1, RepK K H F (kvs.map fun kv => if kv.1 = k then (kv.1, w) else kv) (ds.map fun kv => if kv.1 = k then (kv.1, e) else kv) u1 ∧ Less u1 (ue ++ u0) := by
        rcases hn with hn | hn
        · have ue0 := re.noOwn hn
          subst ue0
          obtain ⟨u1, r1, l1⟩ := l.repl k re
          exact ⟨u1, r1, by simpa using l1⟩
        · exact l.repl1 k re hn
      have e1 : putKD ds k e = ds.map fun kv => if kv.1 = k then (kv.1, e) else kv := if_pos ha
      have e2 : putK kvs k w = kvs.map fun kv => if kv.1 = k then (kv.1, w) else kv := if_pos (by rw [l.any]; exact ha)
      rw [e1] at q
      rw [e2]
      exact dict_change hb nd fu r1 l1 Q q
    · obtain ⟨u1, r1, p1⟩ := l.snoc k re
      have e1 : putKD ds k e = ds ++ [(k, e)] := if_neg ha
      have e2 : putK kvs k w = kvs ++ [(k, w)] := if_neg (by rw [l.any]; exact ha)
      rw [e1] at q
      rw [e2]
      exact dict_change hb nd fu r1 (.perm (p1.trans List.perm_append_comm)) Q q
  · cases hμ
def setF : List D → List D → Option (List D × D)
  | ds, [.int i, e] => (ixN ds.length i).map fun j => (ds.set j e, .non)
  | _, _ => none
theorem mu_setL {K : Frag} : NMut K rStore (muL setF) := nmut_list fun H F b vs ds u ux xs as es dy e l rx hf => by
  unfold setF at hf
  split at hf
  · obtain ⟨j, hj, he⟩ := Option.map_eq_some_iff.mp hf
    cases he
    obtain ⟨v, w, u1, u2, rfl, rfl, r1, r2⟩ := rx.two
    cases r1
    obtain ⟨u', g1, g2⟩ := RepL.setAt r2 l (j := j) (ixN_seq hj).2.1
    exact ⟨_, u', .non, [], g1, .non, by simpa using g2, fun Q q => ⟨_, _, rfl, .inl ⟨b, vs, _, j, rfl, rfl, e, by rw [l.length]; exact hj, q⟩⟩⟩
  · cases hf
theorem mu_store {K : Frag} : NMut K rStore storeF := by
  refine ⟨fun H F b d u ux xs as d1 dy Q rb rx nd fu fx hμ q => ?_⟩
  unfold storeF at hμ
  split at hμ
  · split at hμ
    · rename_i j hj
      cases hμ
      exact mu_setL.run H F b _ u ux xs _ _ _ Q rb rx nd fu fx (by simp [muL, setF, hj]) q
    · cases hμ
  · rename_i kvs i e
    obtain ⟨v, w, u1, u2, rfl, rfl, r1, r2⟩ := rx.two
    cases r1
    cases rb with
    | dctO hb l =>
      obtain ⟨H', h1, h2⟩ := put_read hb l r2 (by simpa using nd) fu hμ Q (by simpa using q)
      exact ⟨_, _, rfl, .inr ⟨_, H', rfl, h1, h2⟩⟩
  · rename_i kvs s e
    obtain ⟨v, w, u1, u2, rfl, rfl, r1, r2⟩ := rx.two
    cases r1
    cases rb with
    | dctO hb l =>
      obtain ⟨H', h1, h2⟩ := put_read hb l r2 (by simpa using nd) fu hμ Q (by simpa using q)
      exact ⟨_, _, rfl, .inr ⟨_, H', rfl, h1, h2⟩⟩
  · cases hμ
end
end VL
end

section
set_option Elab.async false
set_option linter.all false
set_option maxRecDepth 100000
set_option maxHeartbeats 2000000
namespace VL
open PySem PySem.W PySem.Spec PyProof.Rows L2
section
variable {X : Cx} {H0 : Hp} {F0 : Ent} {W : Option WX} {o e ix : Expr} {es : List Expr} {m : T} {pos : Pos} {mk : Env → R (List D)} {i : Nat} {mv : Env → RK D} {mi : T}
def storeM (i : Nat) (mk : Env → R (List D)) (mi : T) (mv : Env → RK D) (env : Env) : Fl := Fl.ofK (mv env) fun dv e1 => match e1[i]? with
  | some (some d) => Fl.ofR (mk e1) e1 fun ks => Fl.ofR (mi e1) e1 fun k => if isFlat k = true then Fl.ofK (mutD i ks storeF [k, dv] d e1) fun _ e => .nx e else .bad
  | _ => .bad
theorem vs_store (i : Nat) {p' : Pos} (hv : KE X H0 F0 W e mv) (ho : VR X H0 F0 W o i mk) (hi : VE X W ix mi) (hu : X.A.units + 1 < cLine) (hs : swapsWithSole [.Subscript o ix p'] e pos.line X.env = pure false := by rfl) (hw : swappedStores [.Subscript o ix p'] e X.env = pure none := by rfl)
    (ha : ∀ v, assign (.Subscript o ix p') X.env v = (do
      let ov ← holding [v] (eval o X.env)
      let iv ← holding [v, ov] (eval ix X.env)
      standAt p'
      holding [v, ov, iv] (setItem ov iv v)
      release [v, ov, iv] []) := by intro _; rfl) (h1 : (assignEach [.Subscript o ix p'] X.env).map (·.2) = [assign (.Subscript o ix p') X.env] := by rfl) : VS X H0 F0 W (.Assign [.Subscript o ix p'] e pos) (storeM i mk mi mv) := by
  refine PS.to (ps_asg hv (pg_sub ho hi (set_all hu) ha) hs hw h1) fun Q σ H h => ?_
  refine tK_of h fun dv v H1 F1 e1 us1 ux g1 r1 n1 f1 hp1 => ?_
  show tR X.K X.mg H0 F0 W i mk σ H1 _
  split at hp1
  · rename_i d hd
    obtain ⟨vi, u, us0, h1, h2, h3, h4⟩ := g1.sl.get hd
    refine ⟨F1, e1, us1, vi, d, u, us0, g1, hd, h1, h2, h3, h4, ?_⟩
    cases q : mk e1 with
    | bad => rw [q] at hp1; exact hp1
    | exc c dd =>
      rw [q] at hp1
      obtain ⟨W', e', h⟩ := hp1
      exact ⟨W', e', fun H' F' us' C dx v g mc x r => h σ H' F' us' C dx v g mc x r⟩
    | ok ks =>
      rw [q] at hp1
      simp only [Fl.ofR_ok] at hp1
      intro v' d' u' H2 s2 w2
      have g2 := g1.keep s2
      refine tblkS g2 hp1 fun k vk H3 F3 uk ek s3 f3 n3 w3 rk nk fk hp3 => ?_
      split at hp3
      · rename_i hf
        have rk' : Rep X.K H3 F1 vk k uk := Rep.clean rk (flat_clean hf)
        have uk0 := rk'.flat_nil hf
        subst uk0
        have s13 := s2.trans s3
        have m0 : ∀ a ∈ us0, a ∈ us1 := fun a ha => h4.mem_iff.mpr (List.mem_append_right _ ha)
        have mu : ∀ a ∈ u, a ∈ us1 := fun a ha => h4.mem_iff.mpr (List.mem_append_left _ ha)
        have g0 : Good X.K H0 F0 H3 F1 σ (e1.set i none) us0 := ⟨g1.same.trans s13, g1.sub, g1.new, g1.wf.same s13, h3.keep (Keep.same s13) fun _ h => h, (List.nodup_append.mp (h4.nodup_iff.mp g1.nod)).2.1, fun a ha => g1.fresh a (m0 a ha), g1.pin⟩
        have rx : RepL X.K H3 F1 [vk, v] [k, dv] ([] ++ (ux ++ [])) := .cons rk' (.cons (r1.same s13 fun _ h => h) .nil)
        have pp : PostK X.K X.mg H0 F0 W (RpV X.K) σ H1 F1 [] (mutD i ks storeF [k, dv] d e1) (fun _ H' => Q.nx σ H') := by
          cases qm : mutD i ks storeF [k, dv] d e1 with
          | ok x e => rw [qm] at hp3; exact fun v H' F' us' ux g r p kp f => hp3 σ H' F' us' g
          | exc c dd e =>
            rw [qm] at hp3
            obtain ⟨W', e', h⟩ := hp3
            exact ⟨W', e', fun H' F' us' C dx v g mc x r => h σ H' F' us' C dx v g mc x r⟩
          | bad => rw [qm] at hp3; exact hp3
        have fin := mut_end (Q := fun _ H' => Q.nx σ H') mu_store g0 (by rw [List.length_set]; exact (List.getElem?_eq_some_iff.mp hd).1) (by rw [List.getElem?_set_self (List.getElem?_eq_some_iff.mp hd).1]) h1 (w2.keep (Keep.same s3) fun _ h => h) rx (pd := []) (H := H1) (F := F1) ⟨?_, fun a ha => ?_⟩ (Keep.same s13) (fun _ h => h) e1 (fun x => by rw [List.set_set]) pp
        · obtain ⟨k', v2, e', h⟩ := fin
          cases e'
          exact h
        · simp only [List.nil_append, List.append_nil]
          have := ((List.Perm.append_left ux h4).nodup_iff).mp n1
          simpa [List.append_assoc] using this
        · simp only [List.nil_append, List.append_nil] at ha
          rcases List.mem_append.mp ha with z | z
          · exact ⟨(f1 a z).1, (f1 a z).2, fun q => nn r1 a z (s13.free q)⟩
          · exact ⟨(g1.fresh a (mu a z)).1, (g1.fresh a (mu a z)).2, fun q => g1.nn a (mu a z) (s13.free q)⟩
      · exact hp3.elim
  · exact hp1.elim

theorem Good.set' {K : Frag} {H : Hp} {F : Fz} {σ : L2.St} {env : Env} {us ux : List Addr} {i : Nat} {v : V} {d : D} (g : Good K H0 F0 H F σ env us) (hpn : NoPin F0.ix i) (hi : i < env.length) (r : Rep K H F v d ux) (n : (ux ++ us).Nodup) (f : ∀ a ∈ ux, ¬ F a ∧ H0 a = none) :
    ∃ us', Good K H0 F0 H F (σ.set i (some v)) (env.set i (some d)) us' ∧ Less us' (ux ++ us) := by
  obtain ⟨us', h1, h2⟩ := g.sl.set hi r
  exact ⟨us', ⟨g.same, g.sub, g.new, g.wf, h1, h2.nod n, fun a ha => (List.mem_append.mp (h2.sub a ha)).elim (f a) (g.fresh a), pin_set g.pin hpn⟩, h2⟩
mutual
theorem bindP_S {K : Frag} {H : Hp} {F : Fz} : ∀ (p : Pat) (v : V) (d : D) (σ : L2.St) (env env' : Env) (us ux : List Addr), Good K H0 F0 H F σ env us → Rep K H F v d ux → (ux ++ us).Nodup → (∀ a ∈ ux, ¬ F a ∧ H0 a = none) → bindP p d env = .ok env' → (∀ i ∈ p.slots, NoPin F0.ix i) →
    ∃ σ' us', Sto K H p v σ σ' ∧ Good K H0 F0 H F σ' env' us' ∧ Less us' (ux ++ us)
  | .name i, v, d, σ, env, env', us, ux, g, r, n, f, h, hpn => by
    simp only [bindP] at h
    split at h
    · rename_i hi
      cases h
      obtain ⟨us', g', l⟩ := g.set' (hpn i (by simp [Pat.slots])) hi r n f
      exact ⟨σ.set i (some v), us', by simp only [Sto], g', l⟩
    · cases h
  | .tup ps, v, .tup ds, σ, env, env', us, ux, g, r, n, f, h, hpn => by
    simp only [bindP] at h
    obtain ⟨a, xs, rfl, h1, r1⟩ := r.tup_inv
    obtain ⟨σ', us', s1, s2, s3, s4⟩ := bindPs_S ps xs ds σ env env' us ux g r1 n f h (by simpa [Pat.slots] using hpn)
    exact ⟨σ', us', by simp only [Sto]; exact ⟨a, xs, rfl, h1, s4, s1⟩, s2, s3⟩
  | .tup _, v, .non, σ, env, env', us, ux, g, r, n, f, h, hpn => by simp [bindP] at h
  | .tup _, v, .bl _, σ, env, env', us, ux, g, r, n, f, h, hpn => by simp [bindP] at h
  | .tup _, v, .int _, σ, env, env', us, ux, g, r, n, f, h, hpn => by simp [bindP] at h
  | .tup _, v, .str _, σ, env, env', us, ux, g, r, n, f, h, hpn => by simp [bindP] at h
  | .tup _, v, .lst _ _, σ, env, env', us, ux, g, r, n, f, h, hpn => by simp [bindP] at h
  | .tup _, v, .dct _ _, σ, env, env', us, ux, g, r, n, f, h, hpn => by simp [bindP] at h
theorem bindPs_S {K : Frag} {H : Hp} {F : Fz} : ∀ (ps : List Pat) (xs : List V) (ds : List D) (σ : L2.St) (env env' : Env) (us ux : List Addr), Good K H0 F0 H F σ env us → RepL K H F xs ds ux → (ux ++ us).Nodup → (∀ a ∈ ux, ¬ F a ∧ H0 a = none) → bindPs ps ds env = .ok env' → (∀ i ∈ slotsL ps, NoPin F0.ix i) →
    ∃ σ' us', StoL K H ps xs σ σ' ∧ Good K H0 F0 H F σ' env' us' ∧ Less us' (ux ++ us) ∧ xs.length = ps.length
  | [], xs, [], σ, env, env', us, ux, g, r, n, f, h, hpn => by
    simp only [bindPs] at h
    cases h
    cases r
    exact ⟨σ, us, by simp [StoL], g, .refl, rfl⟩
  | [], xs, _ :: _, σ, env, env', us, ux, g, r, n, f, h, hpn => by simp [bindPs] at h
  | _ :: _, xs, [], σ, env, env', us, ux, g, r, n, f, h, hpn => by simp [bindPs] at h
  | p :: ps, xs, d :: ds, σ, env, env', us, ux, g, r, n, f, h, hpn => by
    simp only [bindPs] at h
    obtain ⟨v, vs, u1, u2, rfl, rfl, ra, rl⟩ := r.cons_inv
    cases q : bindP p d env with
    | ok e1 =>
      rw [q] at h
      have n' : (u1 ++ us).Nodup := by
        refine List.Nodup.sublist ?_ n
        rw [List.append_assoc]
        exact List.Sublist.append (List.Sublist.refl _) (List.sublist_append_right _ _)
      obtain ⟨σ1, us1, a1, a2, a3⟩ := bindP_S p v d σ env e1 us u1 g ra n' (fun a ha => f a (List.mem_append_left _ ha)) q (fun i hi => hpn i (by simp [slotsL, hi]))
      have l2 : Less (u2 ++ us1) ((u1 ++ u2) ++ us) := (Less.app .refl a3).trans (.perm (by
        rw [← List.append_assoc]
        exact List.Perm.append_right us List.perm_append_comm))
      obtain ⟨σ2, us2, b1, b2, b3, b4⟩ := bindPs_S ps vs ds σ1 e1 env' us1 u2 a2 rl (l2.nod n) (fun a ha => f a (List.mem_append_right _ ha)) h (fun i hi => hpn i (by simp [slotsL, hi]))
      exact ⟨σ2, us2, by simp only [StoL]; exact ⟨v, vs, σ1, rfl, a1, b1⟩, b2, b3.trans l2, by simp [b4]⟩
    | exc c d => rw [q] at h; cases h
    | bad => rw [q] at h; cases h
end
def asgP (p : Pat) (m : Env → RK D) (env : Env) : Fl := Fl.ofK (m env) fun d e => match bindP p d e with
  | .ok e' => .nx e'
  | _ => .bad
theorem vs_asgP {p : Pat} {tg : Expr} (he : KE X H0 F0 W e mv) (hg : VG X tg p) (hs : swapsWithSole [tg] e pos.line X.env = pure false := by rfl) (hw : swappedStores [tg] e X.env = pure none := by rfl)
    (h1 : (assignEach [tg] X.env).map (·.2) = [assign tg X.env] := by rfl) (hpn : noPinB F0.ix p.slots = true := by rfl) : VS X H0 F0 W (.Assign [tg] e pos) (asgP p mv) := by
  refine PS.to (ps_asg he hg hs hw h1) fun Q σ H h => ?_
  refine tK_of h fun d v H1 F1 e1 us1 ux g1 r1 n1 f1 hp1 => ?_
  cases q : bindP p d e1 with
  | ok e' =>
    rw [q] at hp1
    obtain ⟨σ', us', s, g', _⟩ := bindP_S p v d σ e1 e' us1 ux g1 r1 n1 f1 q (noPin_of hpn)
    exact gP_of p v σ σ' s (hp1 σ' H1 F1 us' g')
  | exc c d => rw [q] at hp1; exact hp1.elim
  | bad => rw [q] at hp1; exact hp1.elim

def forD (p : Pat) (body : Env → Fl) : List D → Env → Fl
  | [], env => .nx env
  | d :: ds, env => match bindP p d env with
    | .ok e1 => (match body e1 with
      | .nx e => forD p body ds e
      | .ct e => forD p body ds e
      | .bk e => .nx e
      | r => r)
    | _ => .bad
/-- the walked thing read within all slots; what is told of lists stays frozen -/
def forM (p : Pat) (bs : List Bool) (mi : Env → R (List D)) (body : Env → Fl) (env : Env) : Fl := match mi (mask bs env) with
  | .ok ds => forD p body ds (frzAt bs env)
  | .exc c d => .exc c d (frzE env)
  | .bad => .bad
/-- what must stay through a turn -/
noncomputable def baseH (H0 : Hp) (F1 : Fz) (H : Hp) : Hp := fun b => open Classical in if F1 b ∨ H0 b ≠ none ∨ ¬ Mut (H b) then H b else none
theorem baseH_some {H0 H : Hp} {F1 : Fz} {b : Addr} {o : HO} (h : H b = some o) (k : F1 b ∨ H0 b ≠ none ∨ ¬ Mut (some o)) : baseH H0 F1 H b = some o := by
  unfold baseH
  rw [if_pos (by rw [h]; exact k)]
  exact h
theorem baseH_none {H0 H : Hp} {F1 : Fz} {b : Addr} (h : baseH H0 F1 H b = none) (s : Same H0 H) : H0 b = none := by
  cases q : H0 b with
  | none => rfl
  | some o => rw [baseH_some (s b o q) (.inr (.inl (by rw [q]; exact fun z => by cases z)))] at h; cases h
theorem Good.base {K : Frag} {H : Hp} {F F1 : Fz} {σ : L2.St} {env : Env} {us : List Addr} (g : Good K H0 F0 H F σ env us) (f : ∀ a, F1 a → F a) : Good K (baseH H0 F1 H) ⟨F, F0.ix⟩ H F σ env us := by
  refine ⟨fun b o h => ?_, fun _ h => h, fun _ h => .inl h, g.wf, g.sl, g.nod, (fun a ha => ⟨(g.fresh a ha).1, ?_⟩), g.pin⟩
  · unfold baseH at h
    split at h
    · exact h
    · cases h
  · obtain ⟨o, e, m⟩ := g.sl.there a ha
    unfold baseH
    rw [if_neg]
    rintro (z | z | z)
    · exact (g.fresh a ha).1 (f a z)
    · exact z (g.fresh a ha).2
    · rw [e] at z; exact z m
theorem Good.unbase {K : Frag} {H H' : Hp} {F F1 F' : Fz} {σ σ' : L2.St} {env env' : Env} {us us' : List Addr} (g : Good K H0 F0 H F σ env us) (g' : Good K (baseH H0 F1 H) ⟨F, F0.ix⟩ H' F' σ' env' us') : Good K H0 F0 H' F' σ' env' us' :=
  ⟨fun b o h => g'.same b o (baseH_some (g.same b o h) (.inr (.inl (by rw [h]; exact fun z => by cases z)))), fun a q => g'.sub a (g.sub a q), fun a q => (g'.new a q).elim (g.new a) fun z => .inr (baseH_none z g.same), g'.wf, g'.sl, g'.nod, fun a ha => ⟨(g'.fresh a ha).1, baseH_none (g'.fresh a ha).2 g.same⟩, g'.pin⟩
def tSx (K : Frag) (mg : Str → Option Value) (ix : List (Nat × V)) (W : Option WX) (m : Env → Fl) : TS := fun Q σ H => ∃ H0 F, tS K mg H0 ⟨F, ix⟩ W m Q σ H
theorem psx {ix : List (Nat × V)} {st : List Stmt} {m : Env → Fl} (h : ∀ H0 F, VSs X H0 ⟨F, ix⟩ W st m) : PSs X st (tSx X.K X.mg ix W m) := ⟨fun pins s σ H Q I ⟨H0, F0, q⟩ => (h H0 F0).run pins s σ H Q I q⟩
theorem vs_for {p : Pat} {tg iter : Expr} {sb : List Stmt} {mi : Env → R (List D)} {mb : Env → Fl} (bs : List Bool) (hpo : PassesOwn (model X.prog X.w) X.A X.env X.xe) (hc : X.calm = true) (hi : VI X W tg iter mi) (hg : VG X tg p) (hb : ∀ H0 F, VSs X H0 ⟨F, F0.ix⟩ W sb mb)
    (hs : ∀ x, foldedSetIterable iter X.env x = pure x := by intro _; rfl) (hpn : noPinB F0.ix p.slots = true := by rfl) : VS X H0 F0 W (.For tg iter sb [] pos) (forM p bs mi mb) := by
  refine PS.to (ps_for hpo hc hi hg (psx hb) hs) fun Q σ H h => ?_
  obtain ⟨F, env, us, g, hp⟩ := h
  replace hp : PostS X.K X.mg H0 F0 W (forM p bs mi mb env) Q := hp
  unfold forM at hp
  obtain ⟨um, h1, n1, m1, fz⟩ := mask_frz (bs := bs) g (Pend.nil g.nod)
  have wf : Wf (fun a => F a ∨ a ∈ um) H := fun a q => q.elim (g.wf a) fun q => g.nn a (m1 a q)
  refine ⟨fun a => F a ∨ a ∈ um, mask bs env, h1.envT (fun _ h => .inl h) (fun _ h => .inr h), wf, ?_⟩
  cases q : mi (mask bs env) with
  | bad => rw [q] at hp; exact hp
  | exc c d =>
    rw [q] at hp
    obtain ⟨W', e', h⟩ := hp
    subst e'
    refine ⟨_, rfl, fun C dx v H' F1 mc s gr w x r => ?_⟩
    have g2 := g.frz (F1 := fun a => F1 a ∨ a ∈ us) s (fun a q => q.elim (fun q => .inl (gr.sub a (.inl q))) .inr) (fun a q => q.elim (fun q => (gr.new a q).elim (fun q => .inl (q.imp id (m1 a))) (Or.rec (fun z => nomatch z) .inr)) fun q => .inl (.inr q)) (fun a q => q.elim (w a) fun q z => g.nn a q (s.free z))
    exact h σ H' _ [] C dx v g2 mc x (r.keep (us := []) (fun b o e _ => e) fun a q => .inl q)
  | ok ds =>
    rw [q] at hp
    replace hp : PostS X.K X.mg H0 F0 W (forD p mb ds (frzAt bs env)) Q := hp
    intro J H1 F1 u1 s gr w r nd f
    obtain ⟨jr, rfl⟩ := r
    obtain ⟨us1, g1, _, _⟩ := fz s gr.sub (fun a z => (gr.new a z).imp id (Or.rec (fun z => nomatch z) id)) w
    refine ⟨fun i m σ' H' => m = ds.length - i ∧ i ≤ ds.length ∧ ∃ F' e us', Good X.K H0 F0 H' F' σ' e us' ∧ Keep F1 [] H1 H' ∧ (∀ a, F1 a → F' a) ∧ PostS X.K X.mg H0 F0 W (forD p mb (ds.drop i) e) Q, ⟨ds.length, by simp, Nat.zero_le _, F1, _, us1, g1, (fun _ _ e _ => e), (fun _ h => h), by simpa using hp⟩, ?_⟩
    rintro i m σ2 H2 ⟨rfl, hil, F2, e2, us2, g2, k2, f2, hp2⟩
    by_cases hlt : i < ds.length
    · refine .inr ⟨jr.go H2 i k2 hlt, fun σ' H' => i + 1 ≤ ds.length ∧ ∃ F' e us', Good X.K H0 F0 H' F' σ' e us' ∧ Keep F1 [] H1 H' ∧ (∀ a, F1 a → F' a) ∧ PostS X.K X.mg H0 F0 W (forD p mb (ds.drop (i + 1)) e) Q, fun σ' H' z => ⟨ds.length - (i + 1), by omega, rfl, z⟩, fun x H3 y => ?_⟩
      have hd : ds[i]? = some ds[i] := List.getElem?_eq_getElem hlt
      obtain ⟨s3, rx⟩ := jr.yld H2 F2 i x H3 k2 f2 g2.wf y _ hd
      rw [List.drop_eq_getElem_cons hlt] at hp2
      simp only [forD] at hp2
      have g3 := g2.keep s3
      cases qb : bindP p ds[i] e2 with
      | bad => rw [qb] at hp2; exact hp2.elim
      | exc c d => rw [qb] at hp2; exact hp2.elim
      | ok e3 =>
        rw [qb] at hp2
        simp only at hp2
        obtain ⟨σ3, us3, st, g4, _⟩ := bindP_S p x _ σ2 e2 e3 us2 [] g3 rx (by simpa using g3.nod) (fun _ z => nomatch z) qb (noPin_of hpn)
        refine gP_of p x σ2 σ3 st ⟨baseH H0 F1 H3, F2, F2, e3, us3, g4.base f2, ?_⟩
        have k3 : Keep F1 [] H1 H3 := fun b o hb hk => s3 _ _ (k2 b o hb hk)
        have nxt : ∀ {σ' H' F' us' e}, Good X.K (baseH H0 F1 H3) ⟨F2, F0.ix⟩ H' F' σ' e us' → PostS X.K X.mg H0 F0 W (forD p mb (ds.drop (i + 1)) e) Q → i + 1 ≤ ds.length ∧ ∃ F' e us', Good X.K H0 F0 H' F' σ' e us' ∧ Keep F1 [] H1 H' ∧ (∀ a, F1 a → F' a) ∧ PostS X.K X.mg H0 F0 W (forD p mb (ds.drop (i + 1)) e) Q := fun g h => ⟨hlt, _, _, _, g4.unbase g, fun b o hb hk => g.same b o (baseH_some (k3 b o hb hk) (hk.imp id fun z => z.elim (fun q => nomatch q) .inr)), fun a q => g.sub a (f2 a q), h⟩
        cases qm : mb e3 with
        | nx e => rw [qm] at hp2; exact fun σ' H' F' us' g' => nxt g' hp2
        | ct e => rw [qm] at hp2; exact fun σ' H' F' us' g' => nxt g' hp2
        | bk e => rw [qm] at hp2; exact fun σ' H' F' us' g' => hp2 σ' H' F' us' (g4.unbase g')
        | rt d =>
          rw [qm] at hp2
          exact fun v H' F' u s' sub new w' r n fr => hp2 v H' F' u (fun b o h => s' b o (baseH_some (g4.same b o h) (.inr (.inl (by rw [h]; exact fun z => by cases z))))) (fun a q => sub a (g4.sub a q)) (fun a q => (new a q).elim (g4.new a) fun z => .inr (baseH_none z g4.same)) w' r n fun a ha => ⟨(fr a ha).1, baseH_none (fr a ha).2 g4.same⟩
        | exc c d e =>
          rw [qm] at hp2
          obtain ⟨W', e', h⟩ := hp2
          exact ⟨W', e', fun σ' H' F' us' C dx v g' mc x r => h σ' H' F' us' C dx v (g4.unbase g') mc x r⟩
        | bad => rw [qm] at hp2; exact hp2
    · have e : i = ds.length := by omega
      subst e
      refine .inl ⟨jr.stop H2 k2, ?_⟩
      rw [List.drop_length] at hp2
      exact hp2 σ2 H2 F2 us2 g2

def whileD (c : Env → R Bool) (body : Env → Fl) : Nat → Env → Fl
  | 0, _ => .bad
  | n + 1, env => Fl.ofR (c env) env fun b => if b = true then (match body env with
      | .nx e => whileD c body n e
      | .ct e => whileD c body n e
      | .bk e => .nx e
      | r => r) else .nx env
theorem vs_while {c : Expr} {mc : Env → R Bool} {sb : List Stmt} {mb : Env → Fl} (n : Nat) (hpo : PassesOwn (model X.prog X.w) X.A X.env X.xe) (hc : VT X W c mc) (hb : VSs X H0 F0 W sb mb) : VS X H0 F0 W (.While c sb [] pos) (whileD mc mb n) := by
  refine PS.to (ps_while hpo hc hb) fun Q σ H ⟨F, env, us, g, hp⟩ => ?_
  refine ⟨fun m σ' H' => ∃ F' e us', Good X.K H0 F0 H' F' σ' e us' ∧ PostS X.K X.mg H0 F0 W (whileD mc mb m e) Q, ⟨n, F, env, us, g, hp⟩, ?_⟩
  rintro m σ1 H1 ⟨F1, e1, us1, g1, hp1⟩
  cases m with
  | zero => exact hp1.elim
  | succ m =>
    unfold whileD at hp1
    refine tblkS g1 hp1 fun x v H2 F2 u2 e s f n w r nd fr hp2 => ?_
    obtain ⟨rfl, rfl⟩ := r
    have g2 := g1.keep s
    cases v with
    | false =>
      rw [if_neg Bool.false_ne_true] at hp2 ⊢
      exact hp2 σ1 H2 F1 us1 g2
    | true =>
      rw [if_pos rfl] at hp2 ⊢
      refine ⟨fun σ' H' => ∃ F' e us', Good X.K H0 F0 H' F' σ' e us' ∧ PostS X.K X.mg H0 F0 W (whileD mc mb m e) Q, fun σ' H' z => ⟨m, Nat.lt_succ_self _, z⟩, F1, e1, us1, g2, ?_⟩
      cases qm : mb e1 with
      | nx e => rw [qm] at hp2; exact fun σ' H' F' us' g' => ⟨F', e, us', g', hp2⟩
      | ct e => rw [qm] at hp2; exact fun σ' H' F' us' g' => ⟨F', e, us', g', hp2⟩
      | bk e => rw [qm] at hp2; exact hp2
      | rt d => rw [qm] at hp2; exact hp2
      | exc c d e => rw [qm] at hp2; exact hp2
      | bad => rw [qm] at hp2; exact hp2
end
end VL
end

section
set_option Elab.async false
set_option linter.all false
set_option maxRecDepth 100000
set_option maxHeartbeats 2000000
namespace VL
open PySem PySem.W PySem.Spec PyProof.Rows L2
section
variable {X : Cx} {H0 : Hp} {F0 : Ent} {W : WX} {e : Expr} {m : T} {pos : Pos}
/-- self.at = at, within an error of the class at C -/
def spInit (K : Frag) : Sp := fun vs H Q _ => ∃ (a C : Addr) (y : V), vs = [.ref a, y] ∧ OexC K C ∧ PySem.W.findIn K (.ref C) "at" = some none ∧ H a = some (exo a C none) ∧
  ∀ dx, H dx = none → dx ≠ a → Q .non (upd (upd H dx (exd dx [("at", y)])) a (exo a C (some dx)))
/-- what is known of an own error class -/
structure ErrC (K : Frag) (mg : Str → Option Value) (x : Str) (fI : Addr) : Prop where
  ex : ∃ C, mg x = some (.ref C) ∧ ClsAt K x C ∧ OexC K C ∧ PySem.W.findIn K (.ref C) "at" = some none ∧ PySem.W.findIn K (.ref C) "__init__" = some (some (.ref fI))
def raiseM (c : Str) (m : T) (env : Env) : Fl := match m env with
  | .ok d => .exc c (frz d) (frzE env)
  | .exc c d => .exc c d (frzE env)
  | .bad => .bad
theorem vs_raise {CX : CXT} {x : Str} {fI : Addr} {k : Nat} {fd : FuncData} {p : Pos} {cpos : Pos} (T : ErrC X.K X.mg x fI) (tI : PySem.W.typeIn X.K (.ref fI) = some (.type "function"))
    (F1 : FnOk X.prog X.w X.K X.mg X.base CX k fI fd ["self", "at"] (spInit X.K)) (hb : Binds X.K fd ["self", "at"] []) (hr : Room (k + 1) X.A) (hx : Passes CX X (fun _ _ _ => False)) (tk : Takes X W) (hc : X.calm = true) (he : VE X (some W) e m)
    (hg : Gl X x := by rfl) (hdb : (x == ("__debug__" : Str)) = false := by decide) (hs : starEach [e] X.env = (false, eval e X.env) :: starEach [] X.env := by rfl) (hpl : (backTo cpos (starEach [] X.env)).any (·.1) = false := by rfl) :
    VS X H0 F0 (some W) (.Raise (some (.Call (.Name x p) [e] [] cpos)) none pos) (raiseM x m) := by
  obtain ⟨C, hm, hmK, oc, hat, iC⟩ := T.ex
  refine PS.to (ps_raise hc tk (pmk_oex (ta := tT X.K X.mg (some W) (RpL X.K) (fun env => (m env).bind fun d => (R.ok []).bind fun ds => .ok (d :: ds))) oc iC tI F1 hr hb .nil hx hg hm (va_cons he va_nil hs) hdb hs hpl)) fun Q σ H ⟨F, env, us, g, hp⟩ => ?_
  replace hp : PostS X.K X.mg H0 F0 (some W) (raiseM x m env) Q := hp
  unfold raiseM at hp
  show tMkO C (spInit X.K) [] _ σ H _
  refine tblk g (fun ds vs H1 F1 u1 eq s f n w r nd fr => ?_) (fun c d eq => ?_) (fun eq => ?_)
  · cases q : m env with
    | bad => simp [q] at eq
    | exc c d => simp [q] at eq
    | ok d =>
      simp only [q, R.bind_ok] at eq
      cases eq
      rw [q] at hp
      obtain ⟨W', e', h⟩ := hp
      cases e'
      obtain ⟨v, rfl, rv⟩ := RepL.one r
      refine ⟨by show 1 ≤ 1000; decide, fun a ha => ⟨a, C, v, rfl, oc, hat, upd_same, fun dx hdx ne => ⟨rfl, dx, [("at", v)], upd_same, by rw [upd_ne ne]; exact upd_same, ?_, ?_⟩⟩⟩
      · rw [upd_ne ne] at hdx; exact hdx
      · have hdx' : H1 dx = none := by rw [upd_ne ne] at hdx; exact hdx
        have s2 : Same H1 (upd (del (upd (upd (upd H1 a (exo a C none)) dx (exd dx [("at", v)])) a (exo a C (some dx))) a) dx (.xd [("at", v)])) := fun b o hb => by
          have n1 : b ≠ a := ne_of_none hb ha
          have n2 : b ≠ dx := ne_of_none hb hdx'
          rw [upd_ne n2, del_ne n1, upd_ne n1, upd_ne n2, upd_ne n1]
          exact hb
        have g1 := g.frz (F1 := fun c => F1 c ∨ c ∈ u1) (s.trans s2) (fun c q => .inl (f c q)) (fun c q => q.elim (n c) fun q => .inr (fr c q).2) (fun c q z => q.elim (fun q => w c q (s2.free z)) fun q => nn rv c q (s2.free z))
        exact h σ _ _ [] C dx v g1 hmK upd_same (rv.same s2 (F' := fun c => F1 c ∨ c ∈ u1) (fun _ h => .inl h) |>.frz (F' := fun c => F1 c ∨ c ∈ u1) (fun _ h => h) fun _ h => .inr h)
  · cases q : m env with
    | bad => simp [q] at eq
    | ok d => simp [q] at eq
    | exc c' d' =>
      simp only [q, R.bind_exc] at eq
      cases eq
      rw [q] at hp
      obtain ⟨W', e', h⟩ := hp
      exact ⟨W', e', fun C dx v H' F1 mc g x r => h σ H' F1 [] C dx v g mc x r⟩
  · cases q : m env with
    | bad => rw [q] at hp; exact hp
    | ok d => simp [q] at eq
    | exc c d => simp [q] at eq
end
def runD (len : Nat) (m : Env → Fl) (ds : List D) : R D := match m (ds.map some ++ List.replicate (len - ds.length) none) with
  | .rt d => .ok d
  | .nx _ => .ok .non
  | .exc c d _ => .exc c d
  | _ => .bad
theorem slots_start {K : Frag} {H : Hp} {F : Fz} {vs : List V} {ds : List D} (r : RepL K H F vs ds []) (n : Nat) : Slots K H F (vs.map some ++ List.replicate n none) (ds.map some ++ List.replicate n none) [] := by
  induction ds generalizing vs with
  | nil =>
    cases r
    simp only [List.map_nil, List.nil_append]
    induction n with
    | zero => exact .nil
    | succ n ih => exact .off ih
  | cons d ds ih =>
    obtain ⟨v, vs', u1, u2, rfl, hu, ra, rl⟩ := r.cons_inv
    obtain ⟨rfl, rfl⟩ := List.append_eq_nil_iff.mp hu.symm
    exact .on (u := []) (us := []) ra (ih rl)
theorem fn_ok {P : Program} {w : World} {K : Frag} {mg : Str → Option Value} {base : Heap} {x qual : Str} {st : Stmt} {f : Addr} {fd : FuncData} {N ps : List Str} {k n : Nat} {m : Env → Fl} (F : Fun K x qual st f fd) (S : FnScope N ps (defScope st)) (hn : ps.length = n)
    (hbody : ∀ (cdv : Value) (A : Around) (outer : List PySem.Env) (s : Shared) (H : Hp) (E : XK), Room k (A.deeper (envOfC qual (defScope st) s.heap.objs.size f cdv)) → ∀ H0 F0,
      VSs (cxOf (L2.CX P w) P w K mg base N qual (defScope st) f cdv A outer s H E) H0 ⟨F0, []⟩ (some fun cls d _ H' => E cls d H') (defBody st) m) :
    FnOk P w K mg base (L2.CX P w) (k + 1) f fd ps (spD K mg n (runD N.length m)) := by
  refine F.okX S (fun vs H Q E h => ?_) (fun cdv A outer s H vs Q E hr h => ?_)
  · obtain ⟨_, _, h, _⟩ := h
    rw [h, hn]
  · obtain ⟨F0, ds, hl, r, hf, wf, hp⟩ := h
    refine ⟨_, hbody cdv A outer s H E hr H F0, F0, ds.map some ++ List.replicate (N.length - ds.length) none, [], ⟨Same.refl _, fun _ h => h, fun _ h => .inl h, wf, ?_, by simp, (fun _ z => nomatch z), (fun _ z => nomatch z)⟩, ?_⟩
    · show Slots K H F0 (L2.start N vs) _ _
      unfold L2.start
      rw [r.length]
      exact slots_start r _
    · unfold runD at hp
      cases q : m (ds.map some ++ List.replicate (N.length - ds.length) none) with
      | nx e => rw [q] at hp; exact fun σ' H' F' us' g => hp .non H' F' [] g.same ⟨g.sub, fun a z => (g.new a z).imp id .inr⟩ g.wf .non (by simp) fun _ z => nomatch z
      | rt d => rw [q] at hp; exact fun v H' F' u s sub new w' r n fr => hp v H' F' u s ⟨sub, fun a z => (new a z).imp id .inr⟩ w' r n fun a ha => ⟨(fr a ha).1, .inr (fr a ha).2⟩
      | exc c d e =>
        rw [q] at hp
        obtain ⟨E', e', h⟩ := hp
        cases e'
        exact ⟨_, rfl, fun σ' H' F' us' C dx v g mc x r => h C dx v H' F' mc g.same ⟨g.sub, fun a z => (g.new a z).imp id .inr⟩ g.wf x r⟩
      | bk e => rw [q] at hp; exact hp.elim
      | ct e => rw [q] at hp; exact hp.elim
      | bad => rw [q] at hp; exact hp.elim
/-- the def that refuses all (the bottom of a recursion) -/
theorem fn_bad {P : Program} {w : World} {K : Frag} {mg : Str → Option Value} {base : Heap} {x qual : Str} {st : Stmt} {f : Addr} {fd : FuncData} {N ps : List Str} {k n : Nat} (F : Fun K x qual st f fd) (S : FnScope N ps (defScope st)) (hn : ps.length = n) :
    FnOk P w K mg base (L2.CX P w) (k + 1) f fd ps (spD K mg n fun _ => .bad) := by
  refine F.okX S (fun vs H Q E h => ?_) (fun cdv A outer s H vs Q E hr h => ?_)
  · obtain ⟨_, _, _, _, _, _, h⟩ := h
    exact h.elim
  · obtain ⟨_, _, _, _, _, _, h⟩ := h
    exact h.elim
/-- CallError's __init__ -/
theorem init_ok {P : Program} {w : World} {K : Frag} {mg : Str → Option Value} {base : Heap} {qual : Str} {st : Stmt} {f : Addr} {fd : FuncData} {p1 p2 p3 p4 : Pos} (F : Fun K "__init__" qual st f fd) (S : FnScope ["self", "at"] ["self", "at"] (defScope st))
    (hb : defBody st = [.Assign [.Attribute (.Name "self" p1) "at" p2] (.Name "at" p3) p4])
    (hv : ∀ x ∈ (["self", "at"] : List Str), (defScope st).names.lookup x = some .local) : FnOk P w K mg base CX0 1 f fd ["self", "at"] (spInit K) := by
  refine F.ok S (fun vs H Q E h => ?_) (fun cdv A outer s H vs Q E hr h => ?_)
  · obtain ⟨a, C, y, rfl, _⟩ := h; rfl
  · obtain ⟨a, C, y, rfl, oc, hat, ha, q⟩ := h
    rw [hb]
    refine ⟨_, pss_one (ps_ost (pe_var (i := 0) rfl (.inl (hv _ (by simp)))) (pe_var (i := 1) rfl (.inl (hv _ (by simp))))), ?_⟩
    exact ⟨y, rfl, .ref a, rfl, a, C, rfl, oc, hat, .inl ⟨ha, fun dx h1 h2 => q dx h1 h2⟩⟩
end VL
end

section
set_option Elab.async false
set_option linter.all false
set_option maxRecDepth 100000
set_option maxHeartbeats 2000000
namespace VL
open PySem PySem.W PySem.Spec PyProof.Rows L2
abbrev cst (d : D) : T := fun _ => .ok d
abbrev tB (op : D → D → R D) (a b : T) : T := fun env => (a env).bind fun x => (b env).bind fun y => op x y
abbrev tU (op : D → R D) (a : T) : T := fun env => (a env).bind op
abbrev tCh (op op' : D → D → R D) (a b c : T) : T := fun env => (a env).bind fun x => (b env).bind fun y => chainD op op' (c env) x y
abbrev tAn (a b : T) : T := fun env => (a env).bind fun x => (truB x).bind fun k => if k = true then b env else .ok x
abbrev tO (a b : T) : T := fun env => (a env).bind fun x => (truB x).bind fun k => if k = true then .ok x else b env
abbrev tN (a : T) : T := fun env => (a env).bind fun x => (truB x).bind fun k => .ok (.bl (!k))
abbrev tIfE (c : Env → R Bool) (a b : T) : T := fun env => (c env).bind fun k => if k = true then a env else b env
abbrev tIsi2 (t1 t2 : Ty) (a : T) : T := fun env => (a env).bind fun d => if isExn d = true then .bad else .ok (.bl (isD' t1 d || isD' t2 d))
abbrev tIsi (t : Ty) (a : T) : T := fun env => (a env).bind fun d => if isExn d = true then .bad else .ok (.bl (isD' t d))
abbrev a0 : Env → R (List D) := fun _ => .ok []
abbrev aC (a : T) (r : Env → R (List D)) : Env → R (List D) := fun env => (a env).bind fun d => (r env).bind fun ds => .ok (d :: ds)
abbrev tF (op : List D → R D) (ms : Env → R (List D)) : T := fun env => (ms env).bind op
abbrev tCall (n : Nat) (fn : List D → R D) (ms : Env → R (List D)) : T := fun env => (ms env).bind fun ds => if ds.length = n then fn (frzL ds) else .bad
abbrev oN : Env → R (Option Int) := fun _ => .ok none
abbrev oS (a : T) : Env → R (Option Int) := fun env => (a env).bind asInt
abbrev tSl' (a : T) (l h : Env → R (Option Int)) : T := fun env => (a env).bind fun d => (l env).bind fun x => (h env).bind fun y => sliceD d x y
abbrev tLc' (mi : Env → R (List D)) (p : Pat) (vs : List Nat) (mt : Env → R Bool) (me : T) : T := fun env => (mi env).bind fun ds => (lcD p vs mt me env ds).bind lcFin
abbrev cYes : Env → R Bool := fun _ => .ok true
abbrev cTr (a : T) : Env → R Bool := fun env => (a env).bind truB
abbrev cB (a : T) : Env → R Bool := fun env => (a env).bind asB
abbrev cAn (a b : Env → R Bool) : Env → R Bool := fun env => (a env).bind fun c => if c = true then b env else .ok false
abbrev cO (a b : Env → R Bool) : Env → R Bool := fun env => (a env).bind fun c => if c = true then .ok true else b env
abbrev cN (a : Env → R Bool) : Env → R Bool := fun env => (a env).bind fun c => .ok (!c)
abbrev iS (a : T) : Env → R (List D) := fun env => (a env).bind seqD
abbrev iA (f : List D → R (List D)) (ms : Env → R (List D)) : Env → R (List D) := fun env => (ms env).bind f
abbrev seqM (a b : Env → Fl) : Env → Fl := fun env => (a env).seq b
abbrev ifM (c : Env → R Bool) (a b : Env → Fl) : Env → Fl := fun env => Fl.ofR (c env) env fun k => if k = true then a env else b env
abbrev k0 : Env → RK (List D) := fun env => .ok [] env
abbrev kC (a : Env → RK D) (r : Env → RK (List D)) : Env → RK (List D) := fun env => (a env).bind fun d e1 => (r e1).bind fun ds e2 => .ok (d :: ds) e2
abbrev kTup (ms : Env → RK (List D)) : Env → RK D := fun env => (ms env).bind fun ds e => if ds.length ≤ 1000 then .ok (.tup ds) e else .bad
abbrev kLst (ms : Env → RK (List D)) : Env → RK D := fun env => (ms env).bind fun ds e => if ds.length ≤ 1000 then .ok (.lst true ds) e else .bad
abbrev rK (mk : Env → R (List D)) (i : Nat) (m : T) : Env → R (List D) := fun env => (mk env).bind fun ks => (m env).bind fun k => stepK i env ks k
section
variable {X : Cx} {H0 : Hp} {F0 : Ent} {W : Option WX} {e a b : Expr} {es : List Expr} {m : T} {pos p : Pos} {tg : Expr} {ms : Env → R (List D)}
/-- a text of the module -/
theorem ve_gstr {x : Str} {z : Str} {t : Tok} (hm : X.mg x = some (.str z t)) (hz : SOk z := by exact ⟨by decide +kernel, by decide +kernel⟩) (hg : Gl X x := by rfl) (hd : (x == ("__debug__" : Str)) = false := by decide) : VE X W (.Name x pos) (cst (.str z)) :=
  PE.to (pe_glob hg hm (v := .str z) ⟨t, rfl⟩ hd) fun σ H Q ⟨F, env, he, w, hp⟩ => post_flat hp w (.str z hz)
theorem ve_dict0 : VE X W (.Dict [] [] pos) (cst (.dct true [])) := PE.to pe_dnewK fun σ H Q ⟨F, env, he, w, hp⟩ q hq => post_newD hp w (u2 := []) (kds := []) (kvs := []) .nil (by simp) (fun _ z => nomatch z) hq
theorem vts_nil {K : Frag} {mg : Str → Option Value} : PTs X [] (tT K mg none RpB cYes) := ⟨fun pins s σ H Q I ⟨F, env, he, w, hp⟩ => pts_nil.run pins s σ H Q I (post_flat hp w ⟨rfl, rfl⟩)⟩
/-- name = [..] -/
theorem vs_asgLc (i : Nat) (bs : List Bool) {y : Str} {py : Pos} {elt tg iter : Expr} {ifs : List Expr} {scope : Scope} {own : List (Str × Nat)} {vs : List Nat} {pp spos : Pos} {p : Pat} {mi : Env → R (List D)} {mt : Env → R Bool} {me : T} (hc : X.calm = true) (hN : X.N.Nodup)
    (hi : VI X W tg iter mi) (ok : BlkOk X.N X.env.scope scope own)
    (hg : ∀ (s : Shared) (H : Hp) (C : Addr) (cl : List (Str × Addr)) (fp : List Addr), VG (X.blk s H scope (compEnvC scope cl C X.env) fp) tg p)
    (ht : ∀ (s : Shared) (H : Hp) (C : Addr) (cl : List (Str × Addr)) (fp : List Addr), PTs (X.blk s H scope (compEnvC scope cl C X.env) fp) ifs (tT X.K X.mg none RpB mt))
    (he : ∀ (s : Shared) (H : Hp) (C : Addr) (cl : List (Str × Addr)) (fp : List Addr), VE (X.blk s H scope (compEnvC scope cl C X.env) fp) none elt me)
    (hvs : own.map (·.2) = vs := by rfl) (hp : ∀ i ∈ p.slots, i ∈ vs := by decide) (hs : ∀ x, foldedSetIterable iter X.env x = pure x := by intro _; rfl)
    (hy : X.N[i]? = some y := by rfl) (hyl : X.env.scope.names.lookup y = some .local := by rfl) (hsw : swapsWith (.ListComp elt [⟨tg, iter, ifs, 0⟩] scope pp) (some (.Name y py)) spos.line X.env = pure true := by exact sw_true rfl rfl rfl (by decide +kernel)) (hpn : noPinB F0.ix [i] = true := by rfl) :
    VS X H0 F0 W (.Assign [.Name y py] (.ListComp elt [⟨tg, iter, ifs, 0⟩] scope pp) spos) (asgM i (kM bs (tLc' mi p vs mt me))) := by
  subst hvs
  refine PS.to (ps_setLc (g := gP X.K p) (tt := tT X.K X.mg none RpB mt) (te := tT X.K X.mg none (RpV X.K) me) hc hN hy hyl hsw hi ok hg ht he hs) fun Q σ H h => ?_
  show tLc _ _ _ _ _ σ H (fun x H1 => gName i x σ H1 Q.nx)
  refine lc_reads hp ?_
  have h2 : tK X.K X.mg H0 F0 W (RpV X.K) (kM bs (tLc' mi p (own.map (·.2)) mt me)) σ H (fun x H1 => gName i x σ H1 Q.nx) := tK_of h fun d v H1 F1 e1 us1 ux g1 r1 n1 f1 hp1 => by
    split at hp1
    · rename_i hl
      obtain ⟨us', g'⟩ := g1.set (noPin_of hpn i (by simp)) hl r1 n1 f1
      exact hp1 _ H1 F1 us' g'
    · exact hp1.elim
  obtain ⟨F, env, us, pd, g, p, hp⟩ := h2
  exact kM_read g p hp
/-- walked over numbers: nothing of the heap is held -/
abbrev RpR (K : Frag) : RpT It (List D) := fun _ _ J ds us => (∀ H F, JRep K J H F ds) ∧ us = []
abbrev VIR (X : Cx) (W : Option WX) (tg e : Expr) (m : Env → R (List D)) : Prop := PI X tg e (tT X.K X.mg W (RpR X.K) m)
theorem vir_range1 (hm : X.mg "range" = none) (ha : VA X W [a] ms) (hg : Gl X "range" := by rfl) (hs : starEach [a] X.env = [(false, eval a X.env)] := by rfl) : VIR X W tg (.Call (.Name "range" p) [a] [] pos) (iA rng1D ms) := by
  refine PI.to (pi_range1 hg hm ha hs) fun σ H Q h => ?_
  refine tT_first h fun F env d v H1 F1 us1 he s1 g1 w1 r1 n1 f1 hp1 => ?_
  unfold rng1D at hp1
  split at hp1
  · split at hp1
    · obtain ⟨x, rfl, r⟩ := RepL.one r1
      cases r
      exact ⟨_, rfl, by omega, by omega, post_flat hp1 w1 ⟨fun _ _ => j_rng, rfl⟩⟩
    · exact hp1.elim
  · exact hp1.elim
theorem vir_range2 (hm : X.mg "range" = none) (ha : VA X W [a, b] ms) (hg : Gl X "range" := by rfl) (hs : starEach [a, b] X.env = [(false, eval a X.env), (false, eval b X.env)] := by rfl) (hs2 : starEach [b] X.env = [(false, eval b X.env)] := by rfl) :
    VIR X W tg (.Call (.Name "range" p) [a, b] [] pos) (iA rng2D ms) := by
  refine PI.to (pi_range2 hg hm ha hs hs2) fun σ H Q h => ?_
  refine tT_first h fun F env d v H1 F1 us1 he s1 g1 w1 r1 n1 f1 hp1 => ?_
  unfold rng2D at hp1
  split at hp1
  · split at hp1
    · obtain ⟨x, y, u1, u2, rfl, rfl, r, r'⟩ := RepL.two r1
      cases r; cases r'
      exact ⟨_, _, rfl, ⟨by omega, by omega, by omega, by omega⟩, post_flat hp1 w1 ⟨fun _ _ => j_rng, rfl⟩⟩
    · exact hp1.elim
  · exact hp1.elim
/-- over a frozen list within what slot i holds: nothing more is frozen -/
def forP (p : Pat) (i : Nat) (mk : Env → R (List D)) (body : Env → Fl) (env : Env) : Fl := match env[i]? with
  | some (some d) => (match mk env with
    | .ok ks => (match downD d ks with
      | some (.lst false ds) => forD p body (frzL ds) env
      | _ => .bad)
    | .exc c d => .exc c d (frzE env)
    | .bad => .bad)
  | _ => .bad
theorem vs_forP {p : Pat} {tg iter : Expr} {sb : List Stmt} {i : Nat} {mk : Env → R (List D)} {mb : Env → Fl} (hpo : PassesOwn (model X.prog X.w) X.A X.env X.xe) (hc : X.calm = true) (hi : VR X H0 F0 W iter i mk) (hg : VG X tg p) (hb : ∀ H0 F, VSs X H0 ⟨F, F0.ix⟩ W sb mb)
    (hs : ∀ x, foldedSetIterable iter X.env x = pure x := by intro _; rfl) (hpn : noPinB F0.ix p.slots = true := by rfl) : VS X H0 F0 W (.For tg iter sb [] pos) (forP p i mk mb) := by
  refine PS.to (ps_for hpo hc (pi_list hi) hg (psx hb) hs) fun Q σ H h => ?_
  obtain ⟨F1, env, us, g, hp⟩ := h
  replace hp : PostS X.K X.mg H0 F0 W (forP p i mk mb env) Q := hp
  unfold forP at hp
  show tR X.K X.mg H0 F0 W i mk σ H _
  split at hp
  · rename_i d hd
    obtain ⟨v, u, us0, h1, h2, h3, h4⟩ := g.sl.get hd
    refine ⟨F1, env, us, v, d, u, us0, g, hd, h1, h2, h3, h4, ?_⟩
    cases hk : mk env with
    | bad => rw [hk] at hp; exact hp
    | exc c dd =>
      rw [hk] at hp
      obtain ⟨W', e', h⟩ := hp
      exact ⟨W', e', fun H' F' us' C dx v g' => h σ H' F' us' C dx v g'⟩
    | ok ks =>
      rw [hk] at hp
      intro v1 d1 u1 H1 s1 w1
      replace hp : PostS X.K X.mg H0 F0 W (match downD d ks with
        | some (.lst false ds) => forD p mb (frzL ds) env
        | _ => .bad) Q := hp
      rw [w1.down] at hp
      have r1 := w1.rep
      have g1 := g.keep s1
      split at hp
      · rename_i ds0 heq
        cases heq
        obtain ⟨a, vs, rfl, st, rl⟩ : ∃ a vs, v1 = .ref a ∧ StL X.K F1 H1 a vs ∧ RepL X.K H1 F1 vs (frzL ds0) [] := by
          cases r1 with
          | lstF h l => exact ⟨_, _, rfl, h, l.frz (fun _ h => h) (fun _ z => nomatch z)⟩
        refine ⟨a, rfl, ⟨vs, st.sq⟩, ?_⟩
        have jr : JRep X.K (Itl X.K a) H1 F1 (frzL ds0) := j_list st rl (frzL_fz _)
        have hp' : PostS X.K X.mg H0 F0 W (forD p mb (frzL ds0) env) Q := hp
        clear hp
        have hp := hp'
        generalize frzL ds0 = ds at jr hp
        refine ⟨fun i m σ' H' => m = ds.length - i ∧ i ≤ ds.length ∧ ∃ F' e us', Good X.K H0 F0 H' F' σ' e us' ∧ Keep F1 [] H1 H' ∧ (∀ a, F1 a → F' a) ∧ PostS X.K X.mg H0 F0 W (forD p mb (ds.drop i) e) Q, ⟨ds.length, by simp, Nat.zero_le _, F1, _, us, g1, (fun _ _ e _ => e), (fun _ h => h), by simpa using hp⟩, ?_⟩
        rintro i m σ2 H2 ⟨rfl, hil, F2, e2, us2, g2, k2, f2, hp2⟩
        by_cases hlt : i < ds.length
        · refine .inr ⟨jr.go H2 i k2 hlt, fun σ' H' => i + 1 ≤ ds.length ∧ ∃ F' e us', Good X.K H0 F0 H' F' σ' e us' ∧ Keep F1 [] H1 H' ∧ (∀ a, F1 a → F' a) ∧ PostS X.K X.mg H0 F0 W (forD p mb (ds.drop (i + 1)) e) Q, fun σ' H' z => ⟨ds.length - (i + 1), by omega, rfl, z⟩, fun x H3 y => ?_⟩
          have hd : ds[i]? = some ds[i] := List.getElem?_eq_getElem hlt
          obtain ⟨s3, rx⟩ := jr.yld H2 F2 i x H3 k2 f2 g2.wf y _ hd
          rw [List.drop_eq_getElem_cons hlt] at hp2
          simp only [forD] at hp2
          have g3 := g2.keep s3
          cases qb : bindP p ds[i] e2 with
          | bad => rw [qb] at hp2; exact hp2.elim
          | exc c d => rw [qb] at hp2; exact hp2.elim
          | ok e3 =>
            rw [qb] at hp2
            simp only at hp2
            obtain ⟨σ3, us3, st, g4, _⟩ := bindP_S p x _ σ2 e2 e3 us2 [] g3 rx (by simpa using g3.nod) (fun _ z => nomatch z) qb (noPin_of hpn)
            refine gP_of p x σ2 σ3 st ⟨baseH H0 F1 H3, F2, F2, e3, us3, g4.base f2, ?_⟩
            have k3 : Keep F1 [] H1 H3 := fun b o hb hk => s3 _ _ (k2 b o hb hk)
            have nxt : ∀ {σ' H' F' us' e}, Good X.K (baseH H0 F1 H3) ⟨F2, F0.ix⟩ H' F' σ' e us' → PostS X.K X.mg H0 F0 W (forD p mb (ds.drop (i + 1)) e) Q → i + 1 ≤ ds.length ∧ ∃ F' e us', Good X.K H0 F0 H' F' σ' e us' ∧ Keep F1 [] H1 H' ∧ (∀ a, F1 a → F' a) ∧ PostS X.K X.mg H0 F0 W (forD p mb (ds.drop (i + 1)) e) Q := fun g h => ⟨hlt, _, _, _, g4.unbase g, fun b o hb hk => g.same b o (baseH_some (k3 b o hb hk) (hk.imp id fun z => z.elim (fun q => nomatch q) .inr)), fun a q => g.sub a (f2 a q), h⟩
            cases qm : mb e3 with
            | nx e => rw [qm] at hp2; exact fun σ' H' F' us' g' => nxt g' hp2
            | ct e => rw [qm] at hp2; exact fun σ' H' F' us' g' => nxt g' hp2
            | bk e => rw [qm] at hp2; exact fun σ' H' F' us' g' => hp2 σ' H' F' us' (g4.unbase g')
            | rt d =>
              rw [qm] at hp2
              exact fun v H' F' u s' sub new w' r n fr => hp2 v H' F' u (fun b o h => s' b o (baseH_some (g4.same b o h) (.inr (.inl (by rw [h]; exact fun z => by cases z))))) (fun a q => sub a (g4.sub a q)) (fun a q => (new a q).elim (g4.new a) fun z => .inr (baseH_none z g4.same)) w' r n fun a ha => ⟨(fr a ha).1, baseH_none (fr a ha).2 g4.same⟩
            | exc c d e =>
              rw [qm] at hp2
              obtain ⟨W', e', h⟩ := hp2
              exact ⟨W', e', fun σ' H' F' us' C dx v g' mc x r => h σ' H' F' us' C dx v (g4.unbase g') mc x r⟩
            | bad => rw [qm] at hp2; exact hp2
        · have e : i = ds.length := by omega
          subst e
          refine .inl ⟨jr.stop H2 k2, ?_⟩
          rw [List.drop_length] at hp2
          exact hp2 σ2 H2 F2 us2 g2
      · exact hp.elim
  · exact hp.elim
def forR (p : Pat) (mi : Env → R (List D)) (body : Env → Fl) (env : Env) : Fl := Fl.ofR (mi env) env fun ds => forD p body ds env
theorem vs_forR {p : Pat} {tg iter : Expr} {sb : List Stmt} {mi : Env → R (List D)} {mb : Env → Fl} (hpo : PassesOwn (model X.prog X.w) X.A X.env X.xe) (hc : X.calm = true) (hi : VIR X W tg iter mi) (hg : VG X tg p) (hb : VSs X H0 F0 W sb mb)
    (hs : ∀ x, foldedSetIterable iter X.env x = pure x := by intro _; rfl) (hpn : noPinB F0.ix p.slots = true := by rfl) : VS X H0 F0 W (.For tg iter sb [] pos) (forR p mi mb) := by
  refine PS.to (ps_for hpo hc hi hg hb hs) fun Q σ H h => ?_
  obtain ⟨F, env, us, g, hp⟩ := h
  refine tblkS g hp fun ds J H1 F1 u1 eq s f n w r nd fr hp1 => ?_
  obtain ⟨jr, _⟩ := r
  have jr0 := jr H1 F
  refine ⟨fun i m σ' H' => m = ds.length - i ∧ i ≤ ds.length ∧ ∃ F' e us', Good X.K H0 F0 H' F' σ' e us' ∧ PostS X.K X.mg H0 F0 W (forD p mb (ds.drop i) e) Q, ⟨ds.length, by simp, Nat.zero_le _, F, _, us, g.keep s, by simpa using hp1⟩, ?_⟩
  rintro i m σ2 H2 ⟨rfl, hil, F2, e2, us2, g2, hp2⟩
  have jr2 := jr H2 F2
  have k2 : Keep F2 [] H2 H2 := fun _ _ h _ => h
  by_cases hlt : i < ds.length
  · refine .inr ⟨jr2.go H2 i k2 hlt, fun σ' H' => i + 1 ≤ ds.length ∧ ∃ F' e us', Good X.K H0 F0 H' F' σ' e us' ∧ PostS X.K X.mg H0 F0 W (forD p mb (ds.drop (i + 1)) e) Q, fun σ' H' z => ⟨ds.length - (i + 1), by omega, rfl, z⟩, fun x H3 y => ?_⟩
    have hd : ds[i]? = some ds[i] := List.getElem?_eq_getElem hlt
    obtain ⟨s3, rx⟩ := jr2.yld H2 F2 i x H3 k2 (fun _ h => h) g2.wf y _ hd
    rw [List.drop_eq_getElem_cons hlt] at hp2
    simp only [forD] at hp2
    have g3 := g2.keep s3
    cases qb : bindP p ds[i] e2 with
    | bad => rw [qb] at hp2; exact hp2.elim
    | exc c d => rw [qb] at hp2; exact hp2.elim
    | ok e3 =>
      rw [qb] at hp2
      simp only at hp2
      obtain ⟨σ3, us3, st, g4, _⟩ := bindP_S p x _ σ2 e2 e3 us2 [] g3 rx (by simpa using g3.nod) (fun _ z => nomatch z) qb (noPin_of hpn)
      refine gP_of p x σ2 σ3 st ⟨F2, e3, us3, g4, ?_⟩
      cases qm : mb e3 with
      | nx e => rw [qm] at hp2; exact fun σ' H' F' us' g' => ⟨hlt, F', e, us', g', hp2⟩
      | ct e => rw [qm] at hp2; exact fun σ' H' F' us' g' => ⟨hlt, F', e, us', g', hp2⟩
      | bk e => rw [qm] at hp2; exact hp2
      | rt d => rw [qm] at hp2; exact hp2
      | exc c d e => rw [qm] at hp2; exact hp2
      | bad => rw [qm] at hp2; exact hp2
  · have e : i = ds.length := by omega
    subst e
    refine .inl ⟨jr2.stop H2 k2, ?_⟩
    rw [List.drop_length] at hp2
    exact hp2 σ2 H2 F2 us2 g2
end
theorem cx_false {P : Program} {w : World} {H : Hp} {s s' : Shared} {e : Value} (h : L2.CX P w [] H s (fun _ _ _ => False) e s') : False := by
  obtain ⟨_, _, _, _, _, _, _, _, _, _, _, _, z⟩ := h
  exact z
/-- the law -/
def spLaw (K : Frag) : Sp := fun vs H Q _ => ∃ (a : Addr) (ns : List Int), vs = [.ref a] ∧ ns.length ≤ 63 ∧ SqL K H a (ns.map V.int) ∧ Only H ∧ ∀ H', Q (.bl true) H'
theorem repL_ints {K : Frag} {H : Hp} {F : Fz} : ∀ ns : List Int, RepL K H F (ns.map V.int) (ns.map D.int) []
  | [] => .nil
  | n :: ns => .cons (u := []) (us := []) (.int n) (repL_ints ns)
theorem law_ok {P : Program} {w : World} {K : Frag} {mg : Str → Option Value} {base : Heap} {k : Nat} {f : Addr} {fd : FuncData} {x : Str} {fn : List D → R D} (G : FnOk P w K mg base (L2.CX P w) k f fd [x] (spD K mg 1 fn)) (h : ∀ ns : List Int, ns.length ≤ 63 → fn [.lst false (ns.map D.int)] = .ok (.bl true)) :
    FnOk P w K mg base (L2.CX P w) k f fd [x] (spLaw K) := G.imp fun vs H Q E hh => by
  obtain ⟨a, ns, rfl, hl, hs, hO, q⟩ := hh
  have st : StL K (fun _ => False) H a (ns.map V.int) := by
    rcases hs with (hs | ⟨o, hs⟩) | hs
    · rcases hO a with z | ⟨_, _, z⟩ <;> rw [hs] at z <;> cases z
    · exact .inr (.inl ⟨o, hs⟩)
    · exact .inr (.inr hs)
  refine ⟨fun _ => False, [.lst false (ns.map D.int)], rfl, .cons (u := []) (us := []) (.lstF st (repL_ints ns)) .nil, fun d hd => ?_, fun _ z => z.elim, ?_⟩
  · obtain rfl := List.mem_singleton.mp hd
    simp only [frz]
    rw [frzL_map]
    congr 1
    simp [frz]
  · rw [h ns hl]
    intro v H' F' us' s g w' r n fr
    cases r
    exact q H'
end VL
namespace VL
open PySem PySem.W PySem.Spec PyProof.Rows L2
/-- a def of the module, by its function -/
structure Fn (P : Program) (w : World) (K : Frag) (mg : Str → Option Value) (base : Heap) (x : Str) (k : Nat) (ps : List Str) (n : Nat) (fn : List D → R D) : Prop where
  ex : ∃ f fd, mg x = some (.ref f) ∧ PySem.W.keepIn K (.ref f) = true ∧ Binds K fd ps [] ∧ FnOk P w K mg base (L2.CX P w) k f fd ps (spD K mg n fn)
/-- an own error class, with its __init__ -/
structure Er (P : Program) (w : World) (K : Frag) (mg : Str → Option Value) (base : Heap) (x : Str) : Prop where
  ex : ∃ fI fd, ErrC K mg x fI ∧ PySem.W.typeIn K (.ref fI) = some (.type "function") ∧ FnOk P w K mg base CX0 1 fI fd ["self", "at"] (spInit K) ∧ Binds K fd ["self", "at"] []
theorem ve_callF {X : Cx} {W : Option WX} {k : Nat} {ps : List Str} {x : Str} {n : Nat} {fn : List D → R D} {e : Expr} {es : List Expr} {ms : Env → R (List D)} {p pos : Pos} (G : Fn X.prog X.w X.K X.mg X.base x k ps n fn) (hr : Room k X.A) (tk : TkW X W) (ha : VA X W (e :: es) ms)
    (hg : Gl X x := by rfl) (hdb : (x == ("__debug__" : Str)) = false := by decide) (he : starEach (e :: es) X.env = (false, eval e X.env) :: starEach es X.env := by rfl) (hpl : (backTo pos (starEach es X.env)).any (·.1) = false := by rfl) :
    VE X W (.Call (.Name x p) (e :: es) [] pos) (tCall n fn ms) := by
  obtain ⟨f, fd, hm, hk, hb, G⟩ := G.ex
  exact ve_call G hr hm hk hb tk ha hg hdb he hpl
theorem vs_raiseF {X : Cx} {H0 : Hp} {F0 : Ent} {W : WX} {e : Expr} {m : T} {x : Str} {p cpos pos : Pos} (E : Er X.prog X.w X.K X.mg X.base x) (hr : Room 2 X.A) (tk : Takes X W) (hc : X.calm = true) (he : VE X (some W) e m)
    (hg : Gl X x := by rfl) (hdb : (x == ("__debug__" : Str)) = false := by decide) (hs : starEach [e] X.env = (false, eval e X.env) :: starEach [] X.env := by rfl) (hpl : (backTo cpos (starEach [] X.env)).any (·.1) = false := by rfl) :
    VS X H0 F0 (some W) (.Raise (some (.Call (.Name x p) [e] [] cpos)) none pos) (raiseM x m) := by
  obtain ⟨fI, fd, T, tI, F1, hb⟩ := E.ex
  exact vs_raise T tI F1 hb hr (CX := CX0) (fun _ _ _ _ _ _ _ z => z.elim) tk hc he hg hdb hs hpl
def muPop0 : D → List D → Option (D × D) := muL fun ds as => match as with
    | [] => popF ds []
    | _ => none
def muPopAt : D → List D → Option (D × D) := muL fun ds as => match as with
    | [.int i] => popF ds [.int i]
    | _ => none
end VL
end

section
set_option Elab.async false
set_option linter.all false
set_option maxRecDepth 100000
set_option maxHeartbeats 2000000
namespace VL
open PySem PySem.W PySem.Spec PyProof.Rows L2
def permL {α : Type} (π : List Nat) (l : List α) : List α := π.filterMap fun i => l[i]?
structure KB (K : Frag) (fd : FuncData) (ps ks : List Str) (π : List Nat) : Prop where
  to : ∀ (s : Shared) (ws : List Value), K.In s.heap → ws.length = ks.length → BindsTo s fd ⟨[], ks.zip ws⟩ (ps.zip (permL π ws))
structure FnK (P : Program) (w : World) (K : Frag) (mg : Str → Option Value) (base : Heap) (x : Str) (k : Nat) (ps ks : List Str) (π : List Nat) (n : Nat) (fn : List D → R D) : Prop where
  ex : ∃ f fd, mg x = some (.ref f) ∧ PySem.W.keepIn K (.ref f) = true ∧ KB K fd ps ks π ∧ FnOk P w K mg base (L2.CX P w) k f fd ps (spD K mg n fn)
theorem fun_kb {K : Frag} {x qual : Str} {st : Stmt} {f : Addr} {fd : FuncData} {ps ks : List Str} {π : List Nat} (F : Fun K x qual st f fd)
    (h : ∀ (kV doc pm : Value) (an : Option Addr) (cdv ct : Value) (ws : List Value), ws.length = ks.length → bindArgs (PySem.W.fnOf x qual (defArgs st) (defBody st) (defScope st) .none kV doc pm an cdv ct) ⟨[], ks.zip ws⟩ = pure (ps.zip (permL π ws))) : KB K fd ps ks π := by
  obtain ⟨oc, od, kV, doc, pm, an, cdv, ct, osl, rfl, lk, hcd⟩ := F.ex
  exact ⟨fun s ws _ hl => .of_eq (h kV doc pm an cdv ct ws hl)⟩
section
variable {X : Cx} {CX : CXT} {k : Nat} {f : Addr} {fd : FuncData} {ps ks : List Str} {π : List Nat} {sp : Sp} {E : L2.St → XK} {x : Str} {p pos : Pos} {kws : List Keyword} {tk : TA}
theorem permL_len {α β : Type} {l : List α} {m : List β} (h : l.length = m.length) : ∀ π : List Nat, (permL π l).length = (permL π m).length
  | [] => rfl
  | i :: π => by
    have ih := permL_len h π
    unfold permL at ih ⊢
    rw [List.filterMap_cons, List.filterMap_cons]
    by_cases hi : i < l.length
    · rw [List.getElem?_eq_getElem hi, List.getElem?_eq_getElem (by omega)]
      simpa using ih
    · rw [List.getElem?_eq_none (by omega), List.getElem?_eq_none (by omega)]
      exact ih
theorem permL_vals : ∀ (π : List Nat) {vs : List V} {us : List Value}, Vals vs us → Vals (permL π vs) (permL π us)
  | [], _, _, _ => .nil
  | i :: π, vs, us, r => by
    have ih := permL_vals π r
    unfold permL at ih ⊢
    rw [List.filterMap_cons, List.filterMap_cons]
    by_cases hi : i < vs.length
    · have hi2 : i < us.length := by rw [← r.length]; exact hi
      rw [List.getElem?_eq_getElem hi, List.getElem?_eq_getElem hi2]
      refine .cons ?_ ih
      obtain ⟨u, h1, h2⟩ := L2.Vals.get r (i := i) (List.getElem?_eq_getElem hi)
      rw [List.getElem?_eq_getElem hi2] at h1
      cases h1; exact h2
    · have hi2 : ¬ i < us.length := by rw [← r.length]; exact hi
      rw [List.getElem?_eq_none (by omega), List.getElem?_eq_none (by omega)]
      exact ih
theorem run_fnKS {pins : List (Addr × Obj)} {σ : L2.St} {H : Hp} {s : Shared} {Q : VK} {ws : List Value} {zs : List V} (F : FnOk X.prog X.w X.K X.mg X.base CX k f fd ps sp) (hr : Room k X.A) (hb : KB X.K fd ps ks π) (hx : PassesAt CX X σ (E σ))
    (I : Inv X pins σ H s) (rz : Vals zs ws) (hl : zs.length = ks.length) (h : sp (permL π zs) H Q (E σ)) : wpAny (model X.prog X.w) X.A (call (.ref f) [] (ks.zip ws)) (EP X pins σ Q) X.xe s := by
  have r2 := permL_vals π rz
  refine wpAny_call (codeAny_mono (F.run X.A X.stack s H ⟨[], ks.zip ws⟩ (permL π ws) (permL π zs) Q (E σ) hr I.env0 (hb.to s ws I.kIn (by rw [← rz.length]; exact hl)) r2 h) fun r s' hq => ?_)
  cases r with
  | error e => exact hx pins H s e s' I hq
  | ok fl =>
    cases fl with
    | ret u => exact I.after hq
    | next => exact False.elim hq
    | brk => exact False.elim hq
    | cont => exact False.elim hq
def tCallKS (ks : List Str) (π : List Nat) (sp : Sp) (E : L2.St → XK) (tk : TA) : TE := fun σ H Q => tk σ H fun zs H2 => zs.length = ks.length ∧ sp (permL π zs) H2 Q (E σ)
theorem pe_callKS (F : FnOk X.prog X.w X.K X.mg X.base CX k f fd ps sp) (hr : Room k X.A) (hg : Gl X x) (hm : X.mg x = some (.ref f)) (hk : PySem.W.keepIn X.K (.ref f) = true) (hb : KB X.K fd ps ks π) (hx : ∀ σ, PassesAt CX X σ (E σ))
    (hkw : PK X kws tk) (hall : (backToKw pos (keywordEach kws X.env)).all (·.1.isSome) = true := by rfl) (hks : (backToKw pos (keywordEach kws X.env)).filterMap (·.1) = ks := by rfl)
    (hdb : (x == ("__debug__" : Str)) = false := by decide)
    (hpl : ((backTo pos (starEach [] X.env)).any (·.1) || (backToKw pos (keywordEach kws X.env)).any (·.1.isNone)) = false := by rfl) :
    PE X (.Call (.Name x p) [] kws pos) (tCallKS ks π sp E tk) := by
  refine ⟨fun pins s σ H Q I h => ?_⟩
  refine wpAny_Call_Name_kw (ld_glob I hg hm ?_ hdb)
  refine PySem.W.callWith_KW0 (h₀ := X.base) I.ok.mod.kin hk hall ?_ hpl
  refine thn (hkw.run pos pins s σ H _ I h) fun ws s2 ⟨zs, H2, I2, rz, hl, q2⟩ => ⟨I2.kIn, ?_⟩
  rw [hks]
  exact run_fnKS F hr hb (hx σ) I2 rz hl q2
end
theorem PK.to {X : Cx} {kws : List Keyword} {t t' : TA} (h : PK X kws t) (i : ∀ σ H Q, t' σ H Q → t σ H Q) : PK X kws t' := ⟨fun pos pins s σ H Q I q => h.run pos pins s σ H Q I (i σ H Q q)⟩
section
variable {X : Cx} {W : Option WX} {e : Expr} {kws : List Keyword} {ma : T} {ms : Env → R (List D)} {nm : Option Str} {kpos p pos : Pos}
abbrev VKW (X : Cx) (W : Option WX) (kws : List Keyword) (m : Env → R (List D)) : Prop := PK X kws (tT X.K X.mg W (RpL X.K) m)
theorem vkw_nil : VKW X W [] (fun _ => .ok []) := PK.to pk_nil fun σ H Q ⟨F, env, he, w, hp⟩ => post_flat hp w (show RepL X.K H F [] [] [] from .nil)
theorem vkw_cons (ha : VE X W e ma) (hs : VKW X W kws ms) : VKW X W (⟨nm, e, kpos⟩ :: kws) (fun env => (ma env).bind fun d => (ms env).bind fun ds => .ok (d :: ds)) := by
  refine PK.to (pk_cons ha hs) fun σ H Q h => ?_
  refine tT_first h fun F env d v H1 F1 us1 he s1 g1 w1 r1 n1 f1 hp1 => ?_
  refine post_next he w1 (fun a ha => ⟨(f1 a ha).1, fun z => by obtain ⟨o, q, _⟩ := r1.there a ha; rw [z] at q; cases q⟩) hp1 fun ds vs H2 F2 us2 he2 s2 g2 w2 r2 n2 f2 q2 hp2 => ?_
  refine post_here hp2 w2 (us1 := us1 ++ us2) (RepL.cons (r1.same s2 g2) r2) (List.nodup_append.mpr ⟨n1, n2, fun a ha b hb e => (f2 b hb).2.2 (e ▸ ha)⟩) fun a ha => ⟨?_, ha⟩
  rcases List.mem_append.mp ha with ha | ha
  · exact q2 a ha
  · exact (f2 a ha).1
theorem RepL.perm {K : Frag} {H : Hp} {F : Fz} {vs : List V} {ds : List D} (r : RepL K H F vs ds []) : ∀ π : List Nat, RepL K H F (permL π vs) (permL π ds) []
  | [] => .nil
  | i :: π => by
    have ih := RepL.perm r π
    have hl := r.length
    unfold permL at ih ⊢
    rw [List.filterMap_cons, List.filterMap_cons]
    by_cases hi : i < ds.length
    · rw [List.getElem?_eq_getElem hi]
      obtain ⟨v, u, h1, h2, h3⟩ := r.get (j := i) (List.getElem?_eq_getElem hi)
      rw [h1]
      have hu : u = [] := by
        cases u with
        | nil => rfl
        | cons a u => exact absurd (h3.sub a (by simp)) (by simp)
      subst hu
      exact RepL.cons (u := []) (us := []) h2 ih
    · rw [List.getElem?_eq_none (by omega), List.getElem?_eq_none (by omega)]
      exact ih
theorem permL_mem {α : Type} {π : List Nat} {l : List α} {x : α} (h : x ∈ permL π l) : x ∈ l := by
  obtain ⟨i, _, h⟩ := List.mem_filterMap.mp h
  exact List.mem_of_getElem? h
/-- f(k = e, ..) -/
abbrev tCallKw (n : Nat) (π : List Nat) (fn : List D → R D) (ms : Env → R (List D)) : T := fun env => (ms env).bind fun ds => if ds.length = n ∧ (permL π ds).length = n then fn (permL π (frzL ds)) else .bad
theorem ve_callKw {k : Nat} {ps ks : List Str} {π : List Nat} {x : Str} {n : Nat} {fn : List D → R D} (G : FnK X.prog X.w X.K X.mg X.base x k ps ks π n fn) (hr : Room k X.A) (tk : TkW X W) (ha : VKW X W kws ms) (hn : ks.length = n := by rfl)
    (hg : Gl X x := by rfl) (hall : (backToKw pos (keywordEach kws X.env)).all (·.1.isSome) = true := by rfl) (hks : (backToKw pos (keywordEach kws X.env)).filterMap (·.1) = ks := by rfl) (hdb : (x == ("__debug__" : Str)) = false := by decide)
    (hpl : ((backTo pos (starEach [] X.env)).any (·.1) || (backToKw pos (keywordEach kws X.env)).any (·.1.isNone)) = false := by rfl) :
    VE X W (.Call (.Name x p) [] kws pos) (tCallKw n π fn ms) := by
  obtain ⟨f, fd, hm, hk, hb, G⟩ := G.ex
  have hx : ∀ σ, PassesAt (L2.CX X.prog X.w) X σ (eW W σ) := by
    intro σ
    cases W with
    | none =>
      intro pins H s e s' I c
      obtain ⟨_, _, _, _, _, _, _, _, _, _, _, _, z⟩ := c
      exact z.elim
    | some W => exact passAt tk σ
  refine PE.to (pe_callKS G hr hg hm hk hb hx ha hall hks hdb hpl) fun σ H Q h => ?_
  refine tT_first h fun F env d v H1 F1 us1 he s1 g1 w1 r1 n1 f1 hp1 => ?_
  split at hp1
  · rename_i hl
    refine ⟨by rw [r1.length, hl.1, hn], ?_⟩
    have r2 := (repL_all r1).perm π
    have hfz : ∀ y ∈ permL π (frzL d), frz y = y := fun y hd => frzL_fz _ y (permL_mem hd)
    refine ⟨_, _, ?_, r2, hfz, fun a q => q.elim (w1 a) (nnL r1 a), frz_post hp1 _ fun y hy => by
      cases W with
      | none => cases hy
      | some W => cases hy; rfl⟩
    rw [r2.length, permL_len (m := d) (by rw [frzL_map]; simp)]
    exact hl.2
  · exact hp1.elim
/-- xs[::-1] -/
def revLD : D → R D
  | .lst _ ds => .ok (.lst true ds.reverse)
  | _ => .bad
theorem ve_revL {k : Nat} {p1 p2 p3 : Pos} (ha : VE X W e ma) : VE X W (.Subscript e (.Slice none none (some (.UnaryOp .USub (.Constant (.int 1) k p1) p2)) p3) pos) (fun env => (ma env).bind revLD) := by
  refine PE.to (pe_revL ha) fun σ H Q h => ?_
  refine tT_first h fun F env d v H1 F1 us1 he s1 g1 w1 r1 n1 f1 hp1 => ?_
  unfold revLD at hp1
  split at hp1
  · obtain ⟨a, vs, u', rfl, h1, r, l⟩ := r1.lst_inv
    obtain ⟨u2, r2, l2⟩ := r.reverse
    exact ⟨a, vs, rfl, h1, fun p hp => post_newL hp1 w1 r2 ((l2.trans l).nod n1) (fr (fun a ha => (f1 a ha).1) (l2.trans l)) hp⟩
  · exact hp1.elim
end
structure NMutU (K : Frag) (r : V → List V → Hp → VK → Prop) (μ : D → List D → Option (D × D)) : Prop where
  run : ∀ (H : Hp) (F F1 : Fz) (b : V) (d : D) (u ux : List Addr) (xs : List V) (ds : List D) (d1 dy : D) (Q : VK), Rep K H F b d u → RepL K H F1 xs ds ux → (∀ a, F a → F1 a) → u.Nodup → (∀ a ∈ u, ¬ F1 a ∧ a ∉ ux) → μ d ds = some (d1, dy) →
    (∀ H1 u1 uy vy, Keep (fun a => a ∉ u) [] H H1 → Rep K H1 F b d1 u1 → Rep K H1 F vy dy uy → Less (uy ++ u1) u → (∀ a, H1 a = none → H a = none) → (∀ a, a ∉ u → H1 a = H a) → Q vy H1) → r b xs H Q
def mutU (T : Ty) (i : Nat) (mk : Env → R (List D)) (ms : Env → R (List D)) (μ : D → List D → Option (D × D)) (env : Env) : RK D := match env[i]? with
  | some (some d) => (match mk env with
    | .ok ks => if kindD T d ks = true then (match ms (env.set i none) with
      | .ok das => mutD i ks μ das d env
      | .exc c dd => .exc c dd (frzE (env.set i none))
      | .bad => .bad) else .bad
    | .exc c dd => .exc c dd (frzE env)
    | .bad => .bad)
  | _ => .bad
section
variable {X : Cx} {H0 : Hp} {F0 : Ent} {W : Option WX}
theorem mutU_read {K : Frag} {mg : Str → Option Value} {T : Ty} {r : V → List V → Hp → VK → Prop} {μ : D → List D → Option (D × D)} {i : Nat} {mk ms : Env → R (List D)} (hm : NMutU K r μ) {σ : L2.St} {H : Hp} {Q : VK}
    (h : tK K mg H0 F0 W (RpV K) (mutU T i mk ms μ) σ H Q) : tBM K T.name r (tR K mg H0 F0 W i mk) (tT K mg W (RpL K) ms) σ H Q := by
  obtain ⟨F, env, us, pd, g, p, hp⟩ := h
  replace hp : PostK K mg H0 F0 W (RpV K) σ H F pd (mutU T i mk ms μ env) Q := hp
  unfold mutU at hp
  show tR K mg H0 F0 W i mk σ H _
  split at hp
  · rename_i d hd
    obtain ⟨v, u, us0, h1, h2, h3, h4⟩ := g.sl.get hd
    refine ⟨F, env, us, v, d, u, us0, g, hd, h1, h2, h3, h4, ?_⟩
    cases hk : mk env with
    | bad => rw [hk] at hp; exact hp.elim
    | exc c dd => rw [hk] at hp; exact hp
    | ok ks =>
      rw [hk] at hp
      simp only at hp
      intro v1 d1 u1 H1 s1 w1
      split at hp
      rotate_left
      · exact hp.elim
      rename_i hkd
      refine ⟨ty_of w1.rep T (by simpa only [kindD, w1.down] using hkd), ?_⟩
      have m0 : ∀ a ∈ us0, a ∈ us := fun a ha => h4.mem_iff.mpr (List.mem_append_right _ ha)
      have mu : ∀ a ∈ u, a ∈ us := fun a ha => h4.mem_iff.mpr (List.mem_append_left _ ha)
      have nus := h4.nodup_iff.mp g.nod
      have g0 : Good K H0 F0 H1 F σ (env.set i none) us0 := ⟨g.same.trans s1, g.sub, g.new, g.wf.same s1, h3.keep (Keep.same s1) fun _ h => h, (List.nodup_append.mp nus).2.1, fun a ha => g.fresh a (m0 a ha), g.pin⟩
      refine tblk g0 (fun das xs H2 F1 ux e s2 f2 n2 wf2 rx nx fx => ?_) (fun c dd e => ?_) (fun e => ?_)
      · rw [e] at hp
        simp only at hp
        unfold mutD at hp
        rw [w1.down] at hp
        simp only at hp
        split at hp
        rotate_left
        · exact hp.elim
        split at hp
        rotate_left
        · exact hp.elim
        rename_i dd1 dy hμ
        have g2 : Good K H0 F0 H2 F σ (env.set i none) us0 := ⟨g0.same.trans s2, g.sub, g.new, g0.wf.same s2, g0.sl.keep (Keep.same s2) fun _ h => h, g0.nod, g0.fresh, g0.pin⟩
        have w2 := w1.keep (Keep.same s2) fun _ h => h
        obtain ⟨out, p1, t1, hx⟩ := w2.ex
        have mu' : ∀ a ∈ u1, a ∈ u := fun a ha => p1.mem_iff.mpr (List.mem_append_right _ ha)
        have nu : u.Nodup := (List.nodup_append.mp nus).1
        have nu1 : u1.Nodup := (List.nodup_append.mp (p1.nodup_iff.mp nu)).2.1
        have hu : ∀ a ∈ u, H a ≠ none := fun a ha => g.nn a (mu a ha)
        have fr1 : ∀ a ∈ u1, ¬ F1 a ∧ a ∉ ux := fun a ha => by
          have hau := mu' a ha
          have hn1 : H1 a ≠ none := fun q => hu a hau (s1.free q)
          refine ⟨fun z => ?_, fun z => hn1 (fx a z).2⟩
          rcases n2 a z with (z | z) | z
          · exact (g.fresh a (mu a hau)).1 z
          · exact (List.nodup_append.mp nus).2.2 a hau a z rfl
          · exact hn1 z
        have pd2 : Pend H0 F H2 us0 (pd ++ ([] ++ u)) := ⟨by
          have := p.nod
          have e2 : (pd ++ (u ++ us0)).Nodup := ((List.Perm.append_left pd h4).nodup_iff).mp this
          simpa [List.append_assoc] using e2, fun a ha => by
          rcases List.mem_append.mp ha with z | z
          · exact ((p.keep (s1.trans s2)).fresh a z)
          · have z : a ∈ u := by simpa using z
            exact ⟨(g.fresh a (mu a z)).1, (g.fresh a (mu a z)).2, fun q => hu a z ((s1.trans s2).free q)⟩⟩
        refine hm.run H2 F F1 v1 d1 u1 ux xs das dd1 dy Q w2.rep rx (fun a z => f2 a (.inl z)) nu1 fr1 hμ fun H3 u3 uy vy _ r1 ry l tn ot => ?_
        obtain ⟨us', g', p', k'⟩ := mut_core (ux := []) g2 (by rw [List.length_set]; exact (List.getElem?_eq_some_iff.mp hd).1) (by rw [List.getElem?_set_self (List.getElem?_eq_some_iff.mp hd).1]) h1 w2 pd2 ot tn r1 ry (by simpa using l)
        rw [List.set_set] at g'
        exact hp vy H3 F us' uy g' ry p' (fun b o hb hk => k' b o ((s1.trans s2) b o hb) hk) fun _ h => h
      · rw [e] at hp
        obtain ⟨W', e', h⟩ := hp
        exact ⟨W', e', fun C dx v H' F1 m g x r => h H' F1 [] C dx v g m x r⟩
      · rw [e] at hp; exact hp
  · exact hp.elim
theorem ke_mU {o e : Expr} {es : List Expr} {name : Str} {id : String} {apos cpos : Pos} {i : Nat} {r : V → List V → Hp → VK → Prop} {μ : D → List D → Option (D × D)} {mk ms : Env → R (List D)} (T : Ty) (pa : PlainAttrs T.name) (slot : Slot T.name name id) (hty : typeOf (.builtin id) = pure (.type "method_descriptor")) (hm : MtR X id r) (hn : NMutU X.K r μ) (ho : VR X H0 F0 W o i mk) (ha : VA X W (e :: es) ms)
    (hbase : attributeBase o name X.env (eval o X.env) = eval o X.env := by rfl)
    (hfew : ((backTo cpos (starEach (e :: es) X.env)).all (fun x => !x.1) && (backToKw cpos (keywordEach [] X.env)).all (fun x => x.1.isSome)
      && decide ((e :: es).length + ([] : List Keyword).length + (if ([] : List Keyword).isEmpty then 0 else 1) < 30)) = true := by rfl)
    (hline : (apos.endLine == cpos.line) = true := by rfl) (hs : starEach (e :: es) X.env = (false, eval e X.env) :: starEach es X.env := by rfl) (hplain : (backTo cpos (starEach es X.env)).any (·.1) = false := by rfl) :
    KE X H0 F0 W (.Call (.Attribute o name apos) (e :: es) [] cpos) (mutU T i mk ms μ) := PE.to (pe_bm pa slot hty hm ho ha hbase hfew hline hs hplain) fun σ H Q h => mutU_read (T := T) (mg := X.mg) hn h
end
def rDUpd : V → List V → Hp → VK → Prop := fun x vs H Q => ∃ (a b : Addr) (kvs more : List (Key × V)), x = .ref a ∧ vs = [.ref b] ∧ a ≠ b ∧ H a = some (.dK kvs) ∧ Rd H b (.dK more) ∧ kvs.length + more.length ≤ sizeLine ∧ Q .non (upd H a (.dK (mergeK kvs more)))
theorem mergeK_len : ∀ (more kvs : List (Key × V)), (mergeK kvs more).length ≤ kvs.length + more.length
  | [], kvs => Nat.le_refl _
  | x :: more, kvs => by
    have h1 := mergeK_len more (putK kvs x.1 x.2)
    have h2 := length_putK kvs x.1 x.2
    show (mergeK (putK kvs x.1 x.2) more).length ≤ _
    rw [List.length_cons]; omega
theorem mtd_update {X : Cx} : MtR X "dict.update" rDUpd := by
  intro pins s σ H x vs v us Q I rx rv h
  obtain ⟨a, b, kvs, more, ex, ev, hab, e, e2, hl, q⟩ := h
  subst ex
  subst ev
  obtain rfl : v = Value.ref a := rx
  obtain ⟨u, rfl, ru⟩ := L2.Vals.one rv
  obtain rfl : u = Value.ref b := ru
  obtain ⟨z, hd, vs, rel, dd⟩ := dk_of I.hok e
  obtain ⟨z2, hd2, vs2, rel2, dd2⟩ := dk_rd I.hok e2
  refine call_meetsIn PySem.F.slot_dict_update dd.typeIs PySem.F.entry_dict_update (PySem.F.args_dict_update_2 _ _) (meets_dict_update (mixKind X.prog X.w) a b hab hd2) ⟨vs, vs2, dd, dd2, by rw [← rel.length, ← rel2.length]; exact hl, fun h' dd' _ hs => ⟨.non, _, ?_, rfl, q⟩⟩
  have he : ∃ q, h'.get? a = some q := let ⟨q, _, _, hq, _⟩ := dd'; ⟨q, hq⟩
  exact d_write (t' := s.toks) I (by rw [e]; exact True.intro) hs he (dk_new (Nat.le_trans (mergeK_len _ _) hl) hd (KV.merge rel2 rel) dd')
def mergeKD (kvs more : List (Key × D)) : List (Key × D) := more.foldl (fun acc kv => putKD acc kv.1 kv.2) kvs
def updF : D → List D → Option (D × D)
  | .dct true kvs, [.dct _ more] => if kvs.length + more.length ≤ LIM ∧ (more.all fun kv => isFlat kv.2) = true then some (.dct true (mergeKD kvs more), .non) else none
  | _, _ => none
section
variable {K : Frag} {H : Hp} {F F1 : Fz}
theorem Rep.flatU {v : V} {d : D} {u : List Addr} (r : Rep K H F1 v d u) (h : isFlat d = true) : Rep K H F v d [] := by
  cases r with
  | non => exact .non
  | bl b => exact .bl b
  | int i => exact .int i
  | str s hs => exact .str s hs
  | _ => simp [isFlat] at h
theorem RepK.put1 {kvs : List (Key × V)} {ds : List (Key × D)} {us : List Addr} {w : V} {e : D} (r : RepK K H F kvs ds us) (k : Key) (re : Rep K H F w e []) : ∃ u, RepK K H F (putK kvs k w) (putKD ds k e) u ∧ Less u us := by
  by_cases ha : (ds.any fun kv => decide (kv.1 = k)) = true
  · obtain ⟨u1, r1, l1⟩ := r.repl k re
    have e1 : putKD ds k e = ds.map fun kv => if kv.1 = k then (kv.1, e) else kv := if_pos ha
    have e2 : putK kvs k w = kvs.map fun kv => if kv.1 = k then (kv.1, w) else kv := if_pos (by rw [r.any]; exact ha)
    rw [e1, e2]
    exact ⟨u1, r1, l1⟩
  · obtain ⟨u1, r1, p1⟩ := r.snoc k re
    have e1 : putKD ds k e = ds ++ [(k, e)] := if_neg ha
    have e2 : putK kvs k w = kvs ++ [(k, w)] := if_neg (by rw [r.any]; exact ha)
    rw [e1, e2]
    exact ⟨u1, r1, .perm (by simpa using p1)⟩
theorem RepK.merge : ∀ {more : List (Key × V)} {dm : List (Key × D)} {um : List Addr} {kvs : List (Key × V)} {ds : List (Key × D)} {us : List Addr}, RepK K H F1 more dm um → (dm.all fun kv => isFlat kv.2) = true → RepK K H F kvs ds us → ∃ u, RepK K H F (mergeK kvs more) (mergeKD ds dm) u ∧ Less u us
  | _, _, _, kvs, ds, us, .nil, _, r => ⟨us, r, .refl⟩
  | _, _, _, kvs, ds, us, .cons (k := k) a l, h, r => by
    have h := Bool.and_eq_true_iff.mp (by simpa only [List.all_cons] using h)
    obtain ⟨u1, r1, l1⟩ := r.put1 k (a.flatU (F := F) h.1)
    obtain ⟨u2, r2, l2⟩ := RepK.merge l h.2 r1
    exact ⟨u2, r2, l2.trans l1⟩
theorem mu_update : NMutU K rDUpd updF := by
  refine ⟨fun H F F1 b d u ux xs ds d1 dy Q rb rx ff nu fu hμ q => ?_⟩
  unfold updF at hμ
  split at hμ
  · rename_i kvs o more
    split at hμ
    rotate_left
    · cases hμ
    rename_i hc
    cases hμ
    cases rb with
    | @dctO a kv _ u0 e l =>
      cases rx with
      | @cons v vs _ _ ub us' rv rn =>
        cases rn
        have key : ∃ (c : Addr) (mv : List (Key × V)) (um : List Addr), v = .ref c ∧ Rd H c (.dK mv) ∧ RepK K H F1 mv more um ∧ a ≠ c := by
          cases rv with
          | dctO e2 l2 => exact ⟨_, _, _, rfl, .inl e2, l2, fun z => (fu a List.mem_cons_self).2 (by rw [z]; simp)⟩
          | dctF e2 l2 =>
            refine ⟨_, _, _, rfl, e2.rd, l2, fun z => ?_⟩
            rcases e2 with ⟨h1, _⟩ | ⟨o, h1⟩
            · exact (fu a List.mem_cons_self).1 (z ▸ h1)
            · rw [← z, e] at h1; cases h1
        obtain ⟨c, mv, um, rfl, hr, lm, hne⟩ := key
        obtain ⟨u1, r1, l1⟩ := RepK.merge lm hc.2 l
        refine ⟨a, c, kv, mv, rfl, rfl, hne, e, hr, by
          have h9 : kvs.length + more.length ≤ 100000 := hc.1
          have h8 := l.length
          have h7 := lm.length
          rw [sizeLine_eq]; omega, ?_⟩
        exact dict_change (ux := []) e (by simpa using nu) (fun y hy z => (fu y hy).1 (ff y z)) r1 (by simpa using l1) Q fun H1 u1 uy vy k r1 ry l => q H1 u1 uy vy k r1 ry (by simpa using l)
  · cases hμ
end
def disp1 (x y : D) : R D := match keyOf x with
  | some k => .ok (.dct true [(k, y)])
  | none => .bad
theorem key_flat {d : D} {k : Key} (h : keyOf d = some k) : isFlat d = true := by
  cases d <;> first | rfl | cases h
theorem Rep.flat0 {K : Frag} {H : Hp} {F : Fz} {v : V} {d : D} {u : List Addr} (r : Rep K H F v d u) (h : isFlat d = true) : u = [] := by
  cases r with
  | non => rfl
  | bl b => rfl
  | int i => rfl
  | str s hs => rfl
  | _ => simp [isFlat] at h
theorem key_v {K : Frag} {H : Hp} {F : Fz} {v : V} {d : D} {u : List Addr} {k : Key} (r : Rep K H F v d u) (h : keyOf d = some k) : v = kV k := by
  cases r with
  | int i => cases h; rfl
  | str s hs => cases h; rfl
  | _ => cases h
section
variable {X : Cx} {W : Option WX} {ka va : Expr} {ma mb : T} {pos : Pos}
theorem ve_disp1 (ha : VE X W ka ma) (hb : VE X W va mb) : VE X W (.Dict [some ka] [va] pos) (fun env => (ma env).bind fun x => (mb env).bind fun y => disp1 x y) := by
  refine PE.to (pe_disp (pps_cons ha hb pps_nil) rfl rfl (by simp) (by show 1 ≤ 15; decide)) fun σ H Q h p hn => ?_
  obtain ⟨F, env, he, wf, hp⟩ := h
  replace hp : Post X.K X.mg (RpV X.K) H F [] ((ma env).bind fun x => (mb env).bind fun y => disp1 x y) Q (wX W σ) := hp
  have s1 : Same H (upd H p (.dK [])) := same_new hn
  have w1 : Wf F (upd H p (.dK [])) := wf.same s1
  have fp : ¬ F p := fun z => wf p z hn
  have up : (upd H p (.dK [])) p = some (.dK []) := upd_same
  show tT X.K X.mg W (RpV X.K) ma σ (upd H p (.dK [])) _
  refine ⟨F, env, he.same s1 fun _ h => h, w1, ?_⟩
  generalize upd H p (.dK []) = H1 at *
  cases qa : ma env with
  | bad => rw [qa] at hp; exact hp
  | exc c dd =>
    rw [qa] at hp
    obtain ⟨E', e1, g⟩ := hp
    exact ⟨E', e1, fun C dx v H' F' m s gr w x r => g C dx v H' F' m (s1.trans s) ⟨gr.sub, fun a z => (gr.new a z).imp id (Or.imp id fun q => s1.free q)⟩ w x r⟩
  | ok dx =>
    rw [qa] at hp
    simp only [R.bind_ok] at hp
    intro v H2 F2 u2 s2 g2 w2 r2 n2 f2
    show tT X.K X.mg W (RpV X.K) mb σ H2 _
    refine ⟨F2, env, he.same (s1.trans s2) g2.sub, w2, ?_⟩
    cases qb : mb env with
    | bad => rw [qb] at hp; exact hp
    | exc c dd =>
      rw [qb] at hp
      obtain ⟨E', e1, g⟩ := hp
      refine ⟨E', e1, fun C dx v H' F' m s gr w x r => g C dx v H' F' m ((s1.trans s2).trans s) ⟨fun a z => gr.sub a (g2.sub a z), fun a z => ?_⟩ w x r⟩
      rcases gr.new a z with z | z | z
      · rcases g2.new a z with z | z | z
        · exact .inl z
        · cases z
        · exact .inr (.inr (s1.free z))
      · cases z
      · exact .inr (.inr ((s1.trans s2).free z))
    | ok dy =>
      rw [qb] at hp
      simp only [R.bind_ok] at hp
      intro w H3 F3 u3 s3 g3 w3 r3 n3 f3
      have e3 : H3 p = some (.dK []) := s3 _ _ (s2 _ _ up)
      have e2 : H2 p = some (.dK []) := s2 _ _ up
      refine ⟨e3, ?_⟩
      unfold disp1 at hp
      cases qk : keyOf dx with
      | none => rw [qk] at hp; exact hp.elim
      | some k =>
        rw [qk] at hp
        have hv := key_v r2 qk
        refine ⟨[(k, w)], by rw [hv]; rfl, by show 1 ≤ 15; decide, ?_⟩
        have f2p : ¬ F2 p := fun z => by
          rcases g2.new p z with z | z | z
          · exact fp z
          · cases z
          · rw [up] at z; cases z
        have f3p : ¬ F3 p := fun z => by
          rcases g3.new p z with z | z | z
          · exact f2p z
          · cases z
          · rw [e2] at z; cases z
        have u3p : p ∉ u3 := fun z => by
          rcases (f3 p z).2 with z | z
          · cases z
          · rw [e2] at z; cases z
        have s4 : Same H (upd H3 p (.dK [(k, w)])) := fun b o hb => by
          have hbp : b ≠ p := fun z => by rw [z, hn] at hb; cases hb
          rw [upd_ne hbp]
          exact s3 _ _ (s2 _ _ (s1 _ _ hb))
        have kp : Keep F3 u3 H3 (upd H3 p (.dK [(k, w)])) := fun b o hb hk => by
          rw [upd_ne fun z => ?_]
          · exact hb
          · subst z
            rcases hk with hk | hk | hk
            · exact f3p hk
            · exact u3p hk
            · rw [e3] at hb; cases hb; exact hk trivial
        refine hp (.ref p) _ F3 (p :: (u3 ++ [])) s4 ⟨fun a z => g3.sub a (g2.sub a z), fun a z => ?_⟩ (fun a z q => ?_) (.dctO upd_same (.cons (r3.keep kp fun _ h => h) .nil)) (List.nodup_cons.mpr ⟨by simpa using u3p, by simpa using n3⟩) (fun a ha => ?_)
        · rcases g3.new a z with z | z | z
          · rcases g2.new a z with z | z | z
            · exact .inl z
            · cases z
            · exact .inr (.inr (s1.free z))
          · cases z
          · exact .inr (.inr ((s1.trans s2).free z))
        · by_cases hap : a = p
          · rw [hap, upd_same] at q; cases q
          · rw [upd_ne hap] at q; exact w3 a z q
        · rcases List.mem_cons.mp ha with rfl | ha
          · exact ⟨f3p, .inr hn⟩
          · have ha : a ∈ u3 := by simpa using ha
            refine ⟨(f3 a ha).1, .inr ?_⟩
            rcases (f3 a ha).2 with z | z
            · cases z
            · exact (s1.trans s2).free z
end
end VL
end

section
set_option Elab.async false
set_option linter.all false
set_option maxRecDepth 100000
set_option maxHeartbeats 2000000
namespace VL
open PySem PySem.W PySem.Spec PyProof.Rows L2

/-- what a call tells: the value and what the handed slots hold -/
def RetP (K : Frag) (mg : Str → Option Value) (H0 : Hp) (F : Fz) (ix : List (Nat × V)) (r : R D) (Q : VK) (E : XK) : Prop := match r with
  | .ok d => ∀ v H' F' u, Same H0 H' → (∀ a, F a → F' a) → (∀ a, F' a → F a ∨ H0 a = none) → Wf F' H' → RetRep K H' F' ix v d u → u.Nodup → (∀ a ∈ u, ¬ F' a ∧ H0 a = none) → Q v H'
  | .exc c d => ∀ C dx v H' F', ClsAt K c C → Same H0 H' → (∀ a, F a → F' a) → (∀ a, F' a → F a ∨ H0 a = none) → Wf F' H' → H' dx = some (.xd [("at", v)]) → Rep K H' F' v d [] → E (.ref C) (some dx) H'
  | .bad => False
def spJ (K : Frag) (mg : Str → Option Value) (n : Nat) (js : List Nat) (f : List D → R D) : Sp := fun vs H Q E => ∃ H0 F ds us ix, vs.length = n ∧ RepL K H F vs ds us ∧ us.Nodup ∧ (∀ a ∈ us, ¬ F a ∧ H0 a = none) ∧ Same H0 H ∧ Wf F H ∧
  (ix : List (Nat × V)).map (·.1) = js ∧ (∀ p ∈ ix, vs[p.1]? = some p.2) ∧ RetP K mg H0 F ix (f ds) Q E
def runJ (len : Nat) (js : List Nat) (m : Env → Fl) (ds : List D) : R D := match m (ds.map some ++ List.replicate (len - ds.length) none) with
  | .rt d => .ok d
  | .nx e => (match grab js e with
    | some xs => .ok (.tup (.non :: xs))
    | none => .bad)
  | .exc c d _ => .exc c d
  | _ => .bad
theorem slots_startJ {K : Frag} {H : Hp} {F : Fz} : ∀ {vs : List V} {ds : List D} {us : List Addr} (r : RepL K H F vs ds us) (n : Nat), Slots K H F (vs.map some ++ List.replicate n none) (ds.map some ++ List.replicate n none) us
  | _, _, _, .nil, n => by
    simp only [List.map_nil, List.nil_append]
    induction n with
    | zero => exact .nil
    | succ n ih => exact .off ih
  | _, _, _, .cons a r, n => .on a (slots_startJ r n)
theorem fnJ_bad {P : Program} {w : World} {K : Frag} {mg : Str → Option Value} {base : Heap} {x qual : Str} {st : Stmt} {f : Addr} {fd : FuncData} {N ps : List Str} {k n : Nat} {js : List Nat} (F : Fun K x qual st f fd) (S : FnScope N ps (defScope st)) (hn : ps.length = n) :
    FnOk P w K mg base (L2.CX P w) (k + 1) f fd ps (spJ K mg n js fun _ => .bad) := by
  refine F.okX S (fun vs H Q E h => ?_) (fun cdv A outer s H vs Q E hr h => ?_)
  · obtain ⟨_, _, _, _, _, _, _, _, _, _, _, _, _, h⟩ := h; exact h.elim
  · obtain ⟨_, _, _, _, _, _, _, _, _, _, _, _, _, h⟩ := h; exact h.elim
theorem fnJ_ok {P : Program} {w : World} {K : Frag} {mg : Str → Option Value} {base : Heap} {x qual : Str} {st : Stmt} {f : Addr} {fd : FuncData} {N ps : List Str} {k n : Nat} {js : List Nat} {m : Env → Fl} (F : Fun K x qual st f fd) (S : FnScope N ps (defScope st)) (hn : ps.length = n) (hjs : js.Nodup) (hj0 : js ≠ [])
    (hbody : ∀ (cdv : Value) (A : Around) (outer : List PySem.Env) (s : Shared) (H : Hp) (E : XK), Room k (A.deeper (envOfC qual (defScope st) s.heap.objs.size f cdv)) → ∀ H0 F0 (ix : List (Nat × V)), ix.map (·.1) = js →
      VSs (cxOf (L2.CX P w) P w K mg base N qual (defScope st) f cdv A outer s H E) H0 ⟨F0, ix⟩ (some fun cls d _ H' => E cls d H') (defBody st) m) :
    FnOk P w K mg base (L2.CX P w) (k + 1) f fd ps (spJ K mg n js (runJ N.length js m)) := by
  refine F.okX S (fun vs H Q E h => ?_) (fun cdv A outer s H vs Q E hr h => ?_)
  · obtain ⟨_, _, _, _, _, h, _⟩ := h
    rw [h, hn]
  · obtain ⟨H0, F0, ds, us, ix, hl, r, nd, fr, sm, wf, hix, hpin, hp⟩ := h
    refine ⟨_, hbody cdv A outer s H E hr H0 F0 ix hix, F0, ds.map some ++ List.replicate (N.length - ds.length) none, us, ⟨sm, fun _ h => h, fun _ h => .inl h, wf, ?_, nd, fr, fun p hp => ?_⟩, ?_⟩
    · show Slots K H F0 (L2.start N vs) _ _
      unfold L2.start
      rw [r.length]
      exact slots_startJ r _
    · show (L2.start N vs)[p.1]? = _
      unfold L2.start
      have h1 := hpin p hp
      have h2 := (List.getElem?_eq_some_iff.mp h1).1
      rw [List.getElem?_append_left (by simpa using h2), List.getElem?_map, h1]
      rfl
    · unfold runJ at hp
      cases q : m (ds.map some ++ List.replicate (N.length - ds.length) none) with
      | nx e =>
        rw [q] at hp
        intro σ' H' F' us' g
        cases q2 : grab js e with
        | none => simp only [q2] at hp; exact hp.elim
        | some xs =>
          simp only [q2] at hp
          obtain ⟨u2, r2, l2⟩ := grab_rep ix (by rw [hix]; exact hjs) g.sl g.pin (by rw [hix]; exact q2)
          refine hp .non H' F' u2 g.same g.sub g.new g.wf ?_ (l2.nod g.nod) fun a ha => g.fresh a (l2.sub a ha)
          unfold RetRep
          split
          · exact absurd hix.symm hj0
          · exact ⟨_, rfl, .cons (u := []) .non r2⟩
      | rt d => rw [q] at hp; exact fun v H' F' u s sub new w' r n fr => hp v H' F' u s sub new w' r n fr
      | exc c d e =>
        rw [q] at hp
        exact ⟨_, rfl, fun σ' H' F' us' C dx v g mc x r => hp C dx v H' F' mc g.same g.sub g.new g.wf x r⟩
      | bk e => rw [q] at hp; exact hp.elim
      | ct e => rw [q] at hp; exact hp.elim
      | bad => rw [q] at hp; exact hp.elim
def RpLJ (K : Frag) (σ : L2.St) : RpT (List V) (List (Nat ⊕ D)) := fun H F vs ks us => match vs, ks with
  | [], [] => us = []
  | v :: vs, .inl i :: ks => σ[i]? = some (some v) ∧ RpLJ K σ H F vs ks us
  | v :: vs, .inr d :: ks => ∃ u u', us = u ++ u' ∧ Rep K H F v d u ∧ RpLJ K σ H F vs ks u'
  | _, _ => False
abbrev KEsJ (X : Cx) (H0 : Hp) (F0 : Ent) (W : Option WX) (es : List Expr) (m : Env → RK (List (Nat ⊕ D))) : Prop := PA X es fun σ H Q => tK X.K X.mg H0 F0 W (RpLJ X.K σ) m σ H Q
theorem RpLJ.keep {K : Frag} {σ : L2.St} {H H' : Hp} {F F' : Fz} : ∀ {vs : List V} {ks : List (Nat ⊕ D)} {us : List Addr}, RpLJ K σ H F vs ks us → Keep F us H H' → (∀ a, F a → F' a) → RpLJ K σ H' F' vs ks us
  | [], [], _, h, _, _ => h
  | v :: vs, .inl i :: ks, _, h, k, f => ⟨h.1, RpLJ.keep h.2 k f⟩
  | v :: vs, .inr d :: ks, _, ⟨u, u', e, r, l⟩, k, f => by
    subst e
    exact ⟨u, u', rfl, r.keep (k.mono fun a q => List.mem_append_left _ q) f, RpLJ.keep l (k.mono fun a q => List.mem_append_right _ q) f⟩
  | [], _ :: _, _, h, _, _ => h.elim
  | _ :: _, [], _, h, _, _ => h.elim
section
variable {X : Cx} {H0 : Hp} {F0 : Ent} {W : Option WX} {e : Expr} {es : List Expr} {mk : Env → RK D} {mks : Env → RK (List (Nat ⊕ D))} {pos : Pos}
def j0 : Env → RK (List (Nat ⊕ D)) := fun env => .ok [] env
def jE (mk : Env → RK D) (mks : Env → RK (List (Nat ⊕ D))) : Env → RK (List (Nat ⊕ D)) := fun env => (mk env).bind fun d e1 => (mks e1).bind fun ds e2 => .ok (.inr d :: ds) e2
def jV (i : Nat) (mks : Env → RK (List (Nat ⊕ D))) : Env → RK (List (Nat ⊕ D)) := fun env => match env[i]? with
  | some (some _) => (mks env).bind fun ds e2 => .ok (.inl i :: ds) e2
  | _ => .bad
theorem kj_nil : KEsJ X H0 F0 W [] j0 := PA.to pa_nil fun σ H Q ⟨F, env, us, pd, g, p, hp⟩ => hp [] H F us [] g (show RpLJ X.K σ H F [] [] [] from rfl) (by simpa using p) (fun _ _ e _ => e) fun _ h => h
theorem kj_cons (ha : KE X H0 F0 W e mk) (hs : KEsJ X H0 F0 W es mks) (hq : starEach (e :: es) X.env = (false, eval e X.env) :: starEach es X.env := by rfl) : KEsJ X H0 F0 W (e :: es) (jE mk mks) := by
  refine PA.to (pa_cons ha hs hq) fun σ H Q h => ?_
  refine tK_first h fun d v H1 F F1 e1 us1 pd ux g1 r1 p1 k1 f1 hp1 => ?_
  refine ⟨F1, e1, us1, pd ++ ux, g1, p1, ?_⟩
  replace hp1 : PostK X.K X.mg H0 F0 W (RpLJ X.K σ) σ H F pd ((mks e1).bind fun ds e2 => .ok (.inr d :: ds) e2) Q := hp1
  cases q : mks e1 with
  | ok ds e2 =>
    rw [q] at hp1
    intro vs H2 F2 us2 ux2 g2 r2 p2 k2 f2
    refine hp1 (v :: vs) H2 F2 us2 (ux ++ ux2) g2 ⟨ux, ux2, rfl, r1.keep (k2.mono fun a ha => List.mem_append_right _ ha) f2, r2⟩ (by rw [← List.append_assoc]; exact p2) (fun b o eb hb => ?_) (fun a ha => f2 a (f1 a ha))
    have e1' := k1 b o eb hb
    exact k2 b o e1' (hb.imp (f1 b) (Or.imp (List.mem_append_left _) id))
  | exc c d => rw [q] at hp1; exact hp1
  | bad => rw [q] at hp1; exact hp1
theorem kj_var (i : Nat) {x : Str} {vp : Pos} (hs : KEsJ X H0 F0 W es mks) (hN : X.N[i]? = some x := by rfl) (hv : Vis X.env.scope x := by first | exact Or.inl rfl | exact Or.inr (Or.inl rfl) | exact Or.inr (Or.inr rfl)) (hd : (x == ("__debug__" : Str)) = false := by decide)
    (hcd : (x == ("__classdict__" : Str)) = false := by decide) (hq : starEach (.Name x vp :: es) X.env = (false, eval (.Name x vp) X.env) :: starEach es X.env := by rfl) : KEsJ X H0 F0 W (.Name x vp :: es) (jV i mks) := by
  refine PA.to (pa_cons (pe_var hN hv hd hcd) hs hq) fun σ H Q h => ?_
  obtain ⟨F, env, us, pd, g, p, hp⟩ := h
  replace hp : PostK X.K X.mg H0 F0 W (RpLJ X.K σ) σ H F pd (jV i mks env) Q := hp
  unfold jV at hp
  split at hp
  · rename_i d hd
    obtain ⟨v, u, us', h1, h2, h3, h4⟩ := g.sl.get hd
    refine ⟨v, h1, F, env, us, pd, g, p, ?_⟩
    cases q : mks env with
    | ok ds e2 =>
      rw [q] at hp
      exact fun vs H2 F2 us2 ux2 g2 r2 p2 k2 f2 => hp (v :: vs) H2 F2 us2 ux2 g2 ⟨h1, r2⟩ p2 k2 f2
    | exc c d => rw [q] at hp; exact hp
    | bad => rw [q] at hp; exact hp
  · exact hp.elim
end
def fillJ : List (Nat ⊕ D) → Env → Option (List D × Env)
  | [], e => some ([], e)
  | .inl i :: ks, e => match e[i]? with
    | some (some d) => (fillJ ks (e.set i none)).map fun p => (d :: p.1, p.2)
    | _ => none
  | .inr d :: ks, e => (fillJ ks e).map fun p => (frz d :: p.1, p.2)
def holes : List (Nat ⊕ D) → List Nat
  | [] => []
  | .inl i :: ks => i :: holes ks
  | .inr _ :: ks => holes ks
def posJ : Nat → List (Nat ⊕ D) → List Nat
  | _, [] => []
  | n, .inl _ :: ks => n :: posJ (n + 1) ks
  | n, .inr _ :: ks => posJ (n + 1) ks
def putJ : List Nat → List D → Env → Option Env
  | [], [], e => some e
  | i :: is, d :: ds, e => match e[i]? with
    | some none => putJ is ds (e.set i (some d))
    | _ => none
  | _, _, _ => none
def pinJ : Nat → List (Nat ⊕ D) → List V → List (Nat × V)
  | n, .inl _ :: ks, v :: vs => (n, v) :: pinJ (n + 1) ks vs
  | n, .inr _ :: ks, _ :: vs => pinJ (n + 1) ks vs
  | _, _, _ => []
section
variable {K : Frag} {H : Hp} {F F1 : Fz} {σ : L2.St}
theorem RpLJ.len : ∀ {vs : List V} {ks : List (Nat ⊕ D)} {us : List Addr}, RpLJ K σ H F vs ks us → vs.length = ks.length
  | [], [], _, _ => rfl
  | v :: vs, .inl i :: ks, _, h => by simp [RpLJ.len h.2]
  | v :: vs, .inr d :: ks, _, ⟨_, _, _, _, l⟩ => by simp [RpLJ.len l]
  | [], _ :: _, _, h => h.elim
  | _ :: _, [], _, h => h.elim
theorem pinJ_fst : ∀ {vs : List V} {ks : List (Nat ⊕ D)} {us : List Addr} (n : Nat), RpLJ K σ H F vs ks us → (pinJ n ks vs).map (·.1) = posJ n ks
  | [], [], _, n, _ => rfl
  | v :: vs, .inl i :: ks, _, n, h => by simp [pinJ, posJ, pinJ_fst (n + 1) h.2]
  | v :: vs, .inr d :: ks, _, n, ⟨_, _, _, _, l⟩ => by simp [pinJ, posJ, pinJ_fst (n + 1) l]
  | [], _ :: _, _, _, h => h.elim
  | _ :: _, [], _, _, h => h.elim
theorem pinJ_get : ∀ {vs : List V} {ks : List (Nat ⊕ D)} (n : Nat) (p : Nat × V), p ∈ pinJ n ks vs → n ≤ p.1 ∧ vs[p.1 - n]? = some p.2
  | [], [], _, _, h => by simp [pinJ] at h
  | [], .inl _ :: _, _, _, h => by simp [pinJ] at h
  | [], .inr _ :: _, _, _, h => by simp [pinJ] at h
  | _ :: _, [], _, _, h => by simp [pinJ] at h
  | v :: vs, .inl i :: ks, n, p, h => by
    simp only [pinJ, List.mem_cons] at h
    rcases h with rfl | h
    · exact ⟨Nat.le_refl _, by simp⟩
    · obtain ⟨h1, h2⟩ := pinJ_get (n + 1) p h
      exact ⟨by omega, by rw [show p.1 - n = (p.1 - (n + 1)) + 1 by omega]; simpa using h2⟩
  | v :: vs, .inr d :: ks, n, p, h => by
    simp only [pinJ] at h
    obtain ⟨h1, h2⟩ := pinJ_get (n + 1) p h
    exact ⟨by omega, by rw [show p.1 - n = (p.1 - (n + 1)) + 1 by omega]; simpa using h2⟩
theorem pinJ_hole : ∀ {vs : List V} {ks : List (Nat ⊕ D)} {us : List Addr} (n : Nat), RpLJ K σ H F vs ks us → (holes ks).map (fun i => σ[i]?) = ((pinJ n ks vs).map (·.2)).map fun v => some (some v)
  | [], [], _, n, _ => rfl
  | v :: vs, .inl i :: ks, _, n, h => by simp only [pinJ, holes, List.map_cons, pinJ_hole (n + 1) h.2, h.1]
  | v :: vs, .inr d :: ks, _, n, ⟨_, _, _, _, l⟩ => by simp only [pinJ, holes, pinJ_hole (n + 1) l]
  | [], _ :: _, _, _, h => h.elim
  | _ :: _, [], _, _, h => h.elim
theorem fill_rep : ∀ {ks : List (Nat ⊕ D)} {vs : List V} {ux : List Addr} {e : Env} {us : List Addr} {ds : List D} {e2 : Env}, RpLJ K σ H F vs ks ux → (∀ a ∈ ux, F1 a) → (∀ a, F a → F1 a) → Slots K H F σ e us → fillJ ks e = some (ds, e2) →
    ∃ uJ us2, RepL K H F1 vs ds uJ ∧ Slots K H F σ e2 us2 ∧ us.Perm (uJ ++ us2)
  | [], [], ux, e, us, ds, e2, r, g, f, s, h => by
    simp only [fillJ, Option.some.injEq, Prod.mk.injEq] at h
    obtain ⟨rfl, rfl⟩ := h
    exact ⟨[], us, .nil, s, List.Perm.refl _⟩
  | [], _ :: _, _, _, _, _, _, r, _, _, _, _ => r.elim
  | _ :: _, [], _, _, _, _, _, r, _, _, _, _ => r.elim
  | .inl i :: ks, v :: vs, ux, e, us, ds, e2, r, g, f, s, h => by
    simp only [fillJ] at h
    split at h
    · rename_i d hd
      obtain ⟨⟨ds', e'⟩, q1, q2⟩ := Option.map_eq_some_iff.mp h
      obtain ⟨v', u, us', h1, h2, h3, h4⟩ := s.get hd
      have hv : v' = v := Option.some.inj (Option.some.inj (h1.symm.trans r.1))
      subst hv
      obtain ⟨uJ, us2, k1, k2, k3⟩ := fill_rep r.2 g f h3 q1
      cases q2
      refine ⟨u ++ uJ, us2, .cons (h2.keep (fun _ _ e _ => e) f) k1, k2, ?_⟩
      rw [List.append_assoc]
      exact h4.trans (List.Perm.append_left u k3)
    · cases h
  | .inr d :: ks, v :: vs, ux, e, us, ds, e2, ⟨u, u', hu, r, l⟩, g, f, s, h => by
    subst hu
    simp only [fillJ] at h
    obtain ⟨⟨ds', e'⟩, q1, q2⟩ := Option.map_eq_some_iff.mp h
    obtain ⟨uJ, us2, k1, k2, k3⟩ := fill_rep l (fun a ha => g a (List.mem_append_right _ ha)) f s q1
    cases q2
    exact ⟨uJ, us2, .cons (u := []) (r.frz f fun a ha => g a (List.mem_append_left _ ha)) k1, k2, k3⟩
theorem put_rep : ∀ {is : List Nat} {vs : List V} {ds : List D} {e e2 : Env} {us u : List Addr}, Slots K H F σ e us → RepL K H F vs ds u → is.map (fun i => σ[i]?) = vs.map (fun v => some (some v)) → putJ is ds e = some e2 → ∃ us2, Slots K H F σ e2 us2 ∧ us2.Perm (u ++ us)
  | [], [], [], e, e2, us, u, s, r, hv, h => by
    cases r
    cases h
    exact ⟨us, s, List.Perm.refl _⟩
  | [], _ :: _, _, _, _, _, _, _, _, hv, _ => by simp at hv
  | _ :: _, [], _, _, _, _, _, _, _, hv, _ => by simp at hv
  | [], [], _ :: _, e, e2, us, u, s, r, hv, h => by cases r
  | _ :: _, _ :: _, [], e, e2, us, u, s, r, hv, h => by cases r
  | i :: is, v :: vs, d :: ds, e, e2, us, u, s, r, hv, h => by
    simp only [List.map_cons, List.cons.injEq] at hv
    obtain ⟨v', vs', u1, u2, q, hu, ra, rl⟩ := r.cons_inv
    cases q
    subst hu
    simp only [putJ] at h
    split at h
    · rename_i he
      obtain ⟨us', s1, p1⟩ := s.fill (i := i) (List.getElem?_eq_some_iff.mp he).1 he ra
      have hset : σ.set i (some v) = σ := by
        apply List.ext_getElem?
        intro j
        by_cases hj : i = j
        · subst hj
          rw [List.getElem?_set_self (List.getElem?_eq_some_iff.mp hv.1).1, hv.1]
        · rw [List.getElem?_set_ne hj]
      rw [hset] at s1
      obtain ⟨us2, s2, p2⟩ := put_rep s1 rl hv.2 h
      refine ⟨us2, s2, p2.trans ((List.Perm.append_left u2 p1).trans ?_)⟩
      rw [← List.append_assoc]
      exact List.Perm.append_right us List.perm_append_comm
    · cases h
end
section
variable {X : Cx} {H0 : Hp} {F0 : Ent} {W : Option WX} {e : Expr} {es : List Expr} {mks : Env → RK (List (Nat ⊕ D))} {pos p : Pos}
def callJ (n : Nat) (js : List Nat) (fn : List D → R D) (mks : Env → RK (List (Nat ⊕ D))) : Env → RK D := fun env => (mks env).bind fun ks e1 => match fillJ ks e1 with
  | some (ds, e2) => if ds.length = n ∧ posJ 0 ks = js then (match fn ds with
      | .ok (.tup (d :: xs)) => (match putJ (holes ks) xs e2 with
        | some e3 => .ok d e3
        | none => .bad)
      | .exc c d => .exc c d e2
      | _ => .bad) else .bad
  | none => .bad
theorem ke_callJ {k : Nat} {f : Addr} {fd : FuncData} {ps : List Str} {x : Str} {n : Nat} {js : List Nat} {fn : List D → R D} (G : FnOk X.prog X.w X.K X.mg X.base (L2.CX X.prog X.w) k f fd ps (spJ X.K X.mg n js fn)) (hj0 : js ≠ []) (hr : Room k X.A) (hm : X.mg x = some (.ref f)) (hk : PySem.W.keepIn X.K (.ref f) = true) (hb : Binds X.K fd ps [])
    (tk : TkW X W) (ha : KEsJ X H0 F0 W (e :: es) mks) (hg : Gl X x := by rfl) (hdb : (x == ("__debug__" : Str)) = false := by decide) (he : starEach (e :: es) X.env = (false, eval e X.env) :: starEach es X.env := by rfl) (hpl : (backTo pos (starEach es X.env)).any (·.1) = false := by rfl) :
    KE X H0 F0 W (.Call (.Name x p) (e :: es) [] pos) (callJ n js fn mks) := by
  have hx : ∀ σ, PassesAt (L2.CX X.prog X.w) X σ (eW W σ) := by
    intro σ
    cases W with
    | none =>
      intro pins H s e s' I c
      obtain ⟨_, _, _, _, _, _, _, _, _, _, _, _, z⟩ := c
      exact z.elim
    | some W => exact passAt tk σ
  refine PE.to (pe_callS G hr hg hm hk hb hx ha hdb he hpl) fun σ H Q h => ?_
  refine tK_first (Rp := RpLJ X.K σ) h fun ks vs H1 F F1 e1 us1 pd ux g1 r1 p1 k1 f1 hp1 => ?_
  cases qfi : fillJ ks e1 with
  | none => simp only [qfi] at hp1; exact hp1.elim
  | some de =>
  obtain ⟨ds, e2⟩ := de
  simp only [qfi] at hp1
  split at hp1
  case isFalse => exact hp1.elim
  rename_i hc
  obtain ⟨hlen, hpos⟩ := hc
  obtain ⟨uJ, us2, q1, q2, q3⟩ := fill_rep (F1 := fun a => F1 a ∨ a ∈ ux) r1 (fun a ha => .inr ha) (fun a h => .inl h) g1.sl qfi
  have mJ : ∀ a ∈ uJ, a ∈ us1 := fun a ha => q3.mem_iff.mpr (List.mem_append_left _ ha)
  have m2 : ∀ a ∈ us2, a ∈ us1 := fun a ha => q3.mem_iff.mpr (List.mem_append_right _ ha)
  obtain ⟨n1, n2, n3⟩ := List.nodup_append.mp (q3.nodup_iff.mp g1.nod)
  obtain ⟨P1, P2, P3⟩ := List.nodup_append.mp p1.nod
  obtain ⟨P4, P5, P6⟩ := List.nodup_append.mp P1
  classical
  obtain ⟨Hc, hHc⟩ : ∃ Hc : Hp, Hc = fun b => if b ∈ uJ then none else H1 b := ⟨_, rfl⟩
  have hcs : ∀ b, b ∉ uJ → Hc b = H1 b := fun b hb => by rw [hHc]; simp [hb]
  have hcn : ∀ b, Hc b = none → b ∈ uJ ∨ H1 b = none := fun b hb => by
    by_cases z : b ∈ uJ
    · exact .inl z
    · rw [hcs b z] at hb; exact .inr hb
  have hcJ : ∀ b ∈ uJ, Hc b = none := fun b hb => by rw [hHc]; simp [hb]
  have toH0 : ∀ b, Hc b = none → H0 b = none := fun b hb => (hcn b hb).elim (fun z => (g1.fresh b (mJ b z)).2) g1.same.free
  have sm : Same Hc H1 := fun b o hb => by
    by_cases z : b ∈ uJ
    · rw [hcJ b z] at hb; cases hb
    · rw [hcs b z] at hb; exact hb
  have hix := pinJ_fst 0 r1
  refine ⟨Hc, fun a => F1 a ∨ a ∈ ux, ds, uJ, pinJ 0 ks vs, by rw [q1.length]; exact hlen, q1, n1, fun a ha => ⟨fun z => z.elim (g1.fresh a (mJ a ha)).1 fun z => P3 a (List.mem_append_right _ z) a (mJ a ha) rfl, hcJ a ha⟩, sm, fun a z => z.elim (g1.wf a) fun z => (p1.fresh a (List.mem_append_right _ z)).2.2, by rw [hix]; exact hpos, fun p hp => by simpa using (pinJ_get 0 p hp).2, ?_⟩
  have nJ : ∀ a, (F1 a ∨ a ∈ us2 ∨ a ∈ pd) → a ∉ uJ := fun a h z => by
    rcases h with h | h | h
    · exact (g1.fresh a (mJ a z)).1 h
    · exact n3 a z a h rfl
    · exact P3 a (List.mem_append_left _ h) a (mJ a z) rfl
  have nF : ∀ {F' : Fz}, (∀ a, F' a → (F1 a ∨ a ∈ ux) ∨ Hc a = none) → ∀ a, ¬ F1 a → a ∉ ux → a ∉ uJ → H1 a ≠ none → ¬ F' a := fun new a h1 h2 h3 h4 z => by
    rcases new a z with (z | z) | z
    · exact h1 z
    · exact h2 z
    · exact (hcn a z).elim h3 h4
  have newA : ∀ {F' : Fz}, (∀ a, F' a → (F1 a ∨ a ∈ ux) ∨ Hc a = none) → ∀ a, F' a → F0 a ∨ H0 a = none := fun new a z => by
    rcases new a z with (z | z) | z
    · exact g1.new a z
    · exact .inr (p1.fresh a (List.mem_append_right _ z)).2.1
    · exact .inr (toH0 a z)
  have kpA : ∀ {H' : Hp}, Same Hc H' → ∀ b o, H1 b = some o → b ∉ uJ → H' b = some o := fun s b o hb z => s b o (by rw [hcs b z]; exact hb)
  have tJ : ∀ b o, H1 b = some o → ¬ Mut (some o) → b ∉ uJ := fun b o hb hm z => by
    obtain ⟨o', e, m⟩ := q1.there b z
    rw [hb] at e; cases e; exact hm m
  have keepA : ∀ {H' : Hp}, Same Hc H' → ∀ ws : List Addr, (∀ a ∈ ws, a ∉ uJ) → Keep F1 ws H1 H' := fun s ws hw b o hb hk => kpA s b o hb (by
    rcases hk with hk | hk | hk
    · exact nJ b (.inl hk)
    · exact hw b hk
    · exact tJ b o hb hk)
  have sameA : ∀ {H' : Hp}, Same Hc H' → Same H0 H' := fun s b o hb => kpA s b o (g1.same b o hb) fun z => by rw [(g1.fresh b (mJ b z)).2] at hb; cases hb
  cases qf : fn ds with
  | bad => rw [qf] at hp1; exact hp1.elim
  | exc c d =>
    rw [qf] at hp1
    obtain ⟨W', eW', hexc⟩ := hp1
    subst eW'
    intro C dx v H' F' mc s' sub' new' w' hx rd
    have sl2 : Slots X.K H' F' σ e2 us2 := q2.keep (keepA s' us2 fun a ha => nJ a (.inr (.inl ha))) fun a h => sub' a (.inl h)
    exact hexc H' F' us2 C dx v ⟨sameA s', fun a q => sub' a (.inl (g1.sub a q)), newA new', w', sl2, n2, fun a ha => ⟨nF new' a (g1.fresh a (m2 a ha)).1 (fun z => P3 a (List.mem_append_right _ z) a (m2 a ha) rfl) (nJ a (.inr (.inl ha))) (g1.nn a (m2 a ha)), (g1.fresh a (m2 a ha)).2⟩, g1.pin⟩ mc hx rd
  | ok d =>
    rw [qf] at hp1
    cases d with
    | tup xs0 =>
      cases xs0 with
      | nil => exact hp1.elim
      | cons d0 xs =>
        cases qp : putJ (holes ks) xs e2 with
        | none => simp only [qp] at hp1; exact hp1.elim
        | some e3 =>
          simp only [qp] at hp1
          intro v H' F' u s' sub' new' w' rr nd' fr'
          obtain ⟨ds', hd', rl0⟩ : ∃ ds', D.tup (d0 :: xs) = .tup ds' ∧ RepL X.K H' F' (v :: (pinJ 0 ks vs).map (·.2)) ds' u := by
            unfold RetRep at rr
            split at rr
            · rename_i z
              rw [z] at hix
              exact absurd (hpos ▸ hix.symm) hj0
            · exact rr
          cases hd'
          obtain ⟨v', vs', u0, u1, q, hu, ra, rl⟩ := rl0.cons_inv
          cases q
          subst hu
          obtain ⟨a1, a2, a3⟩ := List.nodup_append.mp nd'
          have sl2 : Slots X.K H' F' σ e2 us2 := q2.keep (keepA s' us2 fun a ha => nJ a (.inr (.inl ha))) fun a h => sub' a (.inl h)
          obtain ⟨us3, s3, p3⟩ := put_rep sl2 rl (pinJ_hole 0 r1) qp
          have us2F : ∀ a ∈ us2, ¬ F' a := fun a ha => nF new' a (g1.fresh a (m2 a ha)).1 (fun z => P3 a (List.mem_append_right _ z) a (m2 a ha) rfl) (nJ a (.inr (.inl ha))) (g1.nn a (m2 a ha))
          have uD : ∀ a, (a ∈ u0 ∨ a ∈ u1) → ∀ b, (b ∈ us2 ∨ b ∈ pd) → a ≠ b := fun a ha b hb e => by
            subst e
            have h1 := (fr' a (List.mem_append.mpr ha)).2
            rcases hcn a h1 with z | z
            · exact nJ a (.inr hb) z
            · rcases hb with hb | hb
              · exact g1.nn a (m2 a hb) z
              · exact (p1.fresh a (List.mem_append_left _ hb)).2.2 z
          have mem3 : ∀ a ∈ us3, a ∈ u1 ∨ a ∈ us2 := fun a ha => List.mem_append.mp (p3.mem_iff.mp ha)
          refine hp1 v H' F' us3 u0 ⟨sameA s', fun a q => sub' a (.inl (g1.sub a q)), newA new', w', s3, p3.nodup_iff.mpr (List.nodup_append.mpr ⟨a2, n2, fun a ha b hb => uD a (.inr ha) b (.inl hb)⟩), fun a ha => ?_, g1.pin⟩ ra ⟨?_, fun a ha => ?_⟩ ?_ ?_
          · rcases mem3 a ha with h | h
            · exact ⟨(fr' a (List.mem_append_right _ h)).1, toH0 a (fr' a (List.mem_append_right _ h)).2⟩
            · exact ⟨us2F a h, (g1.fresh a (m2 a h)).2⟩
          · refine List.nodup_append.mpr ⟨List.nodup_append.mpr ⟨P4, a1, fun a ha b hb e => uD b (.inl hb) a (.inr ha) e.symm⟩, p3.nodup_iff.mpr (List.nodup_append.mpr ⟨a2, n2, fun a ha b hb => uD a (.inr ha) b (.inl hb)⟩), fun a ha b hb e => ?_⟩
            rcases List.mem_append.mp ha with h | h <;> rcases mem3 b hb with h2 | h2
            · exact uD b (.inr h2) a (.inr h) e.symm
            · exact P3 a (List.mem_append_left _ h) b (m2 b h2) e
            · exact a3 a h b h2 e
            · exact uD a (.inl h) b (.inl h2) e
          · rcases List.mem_append.mp ha with h | h
            · have z := p1.fresh a (List.mem_append_left _ h)
              refine ⟨nF new' a z.1 (fun y => P6 a h a y rfl) (nJ a (.inr (.inr h))) z.2.2, z.2.1, ?_⟩
              cases qa : H1 a with
              | none => exact absurd qa z.2.2
              | some o => rw [kpA s' a o qa (nJ a (.inr (.inr h)))]; exact fun z => by cases z
            · exact ⟨(fr' a (List.mem_append_left _ h)).1, toH0 a (fr' a (List.mem_append_left _ h)).2, nn ra a h⟩
          · intro b o hb hk
            exact keepA s' pd (fun a ha => nJ a (.inr (.inr ha))) b o (k1 b o hb (hk.imp id id)) (hk.imp (f1 b) id)
          · exact fun a h => sub' a (.inl (f1 a h))
    | non => exact hp1.elim
    | bl _ => exact hp1.elim
    | int _ => exact hp1.elim
    | str _ => exact hp1.elim
    | lst _ _ => exact hp1.elim
    | dct _ _ => exact hp1.elim
    | exn _ _ => exact hp1.elim
end
end VL
end

section
set_option Elab.async false
set_option linter.all false
set_option maxRecDepth 100000
set_option maxHeartbeats 2000000
namespace VL
open PySem PySem.W PySem.Spec PyProof.Rows L2

theorem Pend.left {H0 H : Hp} {F : Fz} {us pd ux : List Addr} (p : Pend H0 F H us (pd ++ ux)) : Pend H0 F H us pd := ⟨by
    refine List.Nodup.sublist ?_ p.nod
    rw [List.append_assoc]
    exact List.Sublist.append (List.Sublist.refl _) (List.sublist_append_right _ _), fun a ha => p.fresh a (List.mem_append_left _ ha)⟩
def rdJ : List (Nat ⊕ D) → Env → Option (List D)
  | [], _ => some []
  | .inl i :: ks, e => match e[i]? with
    | some (some d) => (rdJ ks e).map (frz d :: ·)
    | _ => none
  | .inr d :: ks, e => (rdJ ks e).map (frz d :: ·)
def flatJ (ks : List (Nat ⊕ D)) : Bool := ks.all fun k => match k with
  | .inl _ => true
  | .inr d => isFlat d
def maskJ (ks : List (Nat ⊕ D)) (n : Nat) : List Bool := (List.range n).map fun i => (holes ks).contains i
def finJ (op : List D → R D) (ks : List (Nat ⊕ D)) (e : Env) : RK D := match rdJ ks e with
  | some ds => (match op ds with
    | .ok d => if clean d = true then .ok d e else .ok d (frzAt (maskJ ks e.length) e)
    | _ => .bad)
  | none => .bad
theorem mask_get : ∀ {bs : List Bool} {env : Env} {i : Nat}, bs[i]? = some true → (mask bs env)[i]? = env[i]?
  | [], _, _, h => by simp at h
  | b :: bs, [], i, h => by simp [mask]
  | b :: bs, o :: env, 0, h => by
    simp at h; subst h
    simp [mask]
  | b :: bs, o :: env, i + 1, h => by
    simp only [mask, List.getElem?_cons_succ]
    exact mask_get (by simpa using h)
section
variable {K : Frag} {H : Hp} {F F1 : Fz} {σ : L2.St}
theorem rd_rep : ∀ {ks : List (Nat ⊕ D)} {vs : List V} {ux : List Addr} {e e' : Env} {ds : List D}, RpLJ K σ H F vs ks ux → EnvT K H F1 σ e' → (∀ i ∈ holes ks, e'[i]? = e[i]?) → (∀ a, F a → F1 a) → (∀ a ∈ ux, F1 a) → rdJ ks e = some ds → RepL K H F1 vs ds []
  | [], [], _, e, e', ds, r, t, g, f, u, h => by
    have h : ([] : List D) = ds := Option.some.inj h
    subst h
    exact .nil
  | [], _ :: _, _, _, _, _, r, _, _, _, _, _ => r.elim
  | _ :: _, [], _, _, _, _, r, _, _, _, _, _ => r.elim
  | .inl i :: ks, v :: vs, ux, e, e', ds, r, t, g, f, u, h => by
    simp only [rdJ] at h
    split at h
    · rename_i d hd
      obtain ⟨ds2, q1, q2⟩ := Option.map_eq_some_iff.mp h
      subst q2
      obtain ⟨v', h1, h2⟩ := t.2 i d (by rw [g i (by simp [holes])]; exact hd)
      have hv : v' = v := Option.some.inj (Option.some.inj (h1.symm.trans r.1))
      subst hv
      exact .cons (u := []) (us := []) h2 (rd_rep r.2 t (fun j hj => g j (by simp [holes, hj])) f u q1)
    · cases h
  | .inr d :: ks, v :: vs, ux, e, e', ds, ⟨u1, u2, hu, ra, rl⟩, t, g, f, u, h => by
    subst hu
    simp only [rdJ] at h
    obtain ⟨ds2, q1, q2⟩ := Option.map_eq_some_iff.mp h
    subst q2
    exact .cons (u := []) (us := []) (ra.frz f fun a ha => u a (List.mem_append_left _ ha)) (rd_rep rl t g f (fun a ha => u a (List.mem_append_right _ ha)) q1)
theorem flatJ_nil : ∀ {ks : List (Nat ⊕ D)} {vs : List V} {ux : List Addr}, RpLJ K σ H F vs ks ux → flatJ ks = true → ux = []
  | [], [], _, r, _ => r
  | [], _ :: _, _, r, _ => r.elim
  | _ :: _, [], _, r, _ => r.elim
  | .inl i :: ks, v :: vs, ux, r, h => flatJ_nil r.2 (by simpa [flatJ] using h)
  | .inr d :: ks, v :: vs, ux, ⟨u1, u2, hu, ra, rl⟩, h => by
    have h := Bool.and_eq_true_iff.mp (by simpa only [flatJ, List.all_cons] using h)
    rw [hu, ra.flat_nil h.1, flatJ_nil rl h.2]; rfl
end
section
variable {K : Frag} {mg : Str → Option Value} {H0 H H1 : Hp} {F0 : Ent} {F F2 : Fz} {σ : L2.St} {e : Env} {us pd ux : List Addr} {W : Option WX}
theorem fin_read {op : List D → R D} {ks : List (Nat ⊕ D)} {vs : List V} {Q : VK} {E : Option XK} (g : Good K H0 F0 H F2 σ e us) (p : Pend H0 F2 H us (pd ++ ux)) (r : RpLJ K σ H F2 vs ks ux) (kp : Keep F pd H1 H) (ff : ∀ a, F a → F2 a) (hp : PostK K mg H0 F0 W (RpV K) σ H1 F pd (finJ op ks e) Q) :
    ∃ F' ds, rdJ ks e = some ds ∧ RepL K H F' vs ds [] ∧ (∀ d ∈ ds, frz d = d) ∧ Wf F' H ∧ Post K mg (RpV K) H F' [] (op ds) Q E := by
  unfold finJ at hp
  split at hp
  case h_2 => exact hp.elim
  rename_i ds hds
  have hfz : ∀ {ks : List (Nat ⊕ D)} {ds : List D}, rdJ ks e = some ds → ∀ d ∈ ds, frz d = d := by
    intro ks
    induction ks with
    | nil => intro ds h d hd; cases h; cases hd
    | cons k ks ih =>
      intro ds h d hd
      cases k with
      | inl i =>
        simp only [rdJ] at h
        split at h
        · obtain ⟨ds2, q1, q2⟩ := Option.map_eq_some_iff.mp h
          subst q2
          rcases List.mem_cons.mp hd with rfl | hd
          · exact frz_frz _
          · exact ih q1 d hd
        · cases h
      | inr x =>
        simp only [rdJ] at h
        obtain ⟨ds2, q1, q2⟩ := Option.map_eq_some_iff.mp h
        subst q2
        rcases List.mem_cons.mp hd with rfl | hd
        · exact frz_frz _
        · exact ih q1 d hd
  split at hp
  case h_2 => exact hp.elim
  rename_i d hd
  have hpd : Pend H0 F2 H us pd := ⟨by
    refine List.Nodup.sublist ?_ p.nod
    rw [List.append_assoc]
    exact List.Sublist.append (List.Sublist.refl _) (List.sublist_append_right _ _), fun a ha => p.fresh a (List.mem_append_left _ ha)⟩
  split at hp
  · rename_i hc
    refine ⟨fun a => F2 a ∨ a ∈ us ∨ a ∈ ux, ds, hds, rd_rep r (g.sl.envT (fun a h => .inl h) fun a h => .inr (.inl h)) (fun _ _ => rfl) (fun a h => .inl h) (fun a h => .inr (.inr h)) hds, hfz hds, fun a z => ?_, ?_⟩
    · rcases z with z | z | z
      · exact g.wf a z
      · exact g.nn a z
      · exact (p.fresh a (List.mem_append_right _ z)).2.2
    · rw [hd]
      intro v H' F' us' s gr w rr nd fr
      exact hp v H' F2 us us' (g.keep s) (rr.clean hc) (hpd.more g s nd (fun a ha => ((fr a ha).2.elim (fun z => nomatch z) id)) (nn rr)) (fun b o hb hk => s b o (kp b o hb hk)) ff
  · · rename_i hc
      have hpn := List.nodup_append.mp p.nod
      have g' : Good K H0 F0 H (fun a => F2 a ∨ a ∈ ux) σ e us := ⟨g.same, fun a q => .inl (g.sub a q), fun a q => q.elim (g.new a) fun q => .inr (p.fresh a (List.mem_append_right _ q)).2.1, fun a q => q.elim (g.wf a) fun q => (p.fresh a (List.mem_append_right _ q)).2.2, g.sl.keep (Keep.same (Same.refl H)) fun _ q => .inl q, g.nod, fun a ha => ⟨fun q => q.elim (g.fresh a ha).1 fun q => hpn.2.2 a (List.mem_append_right _ q) a ha rfl, (g.fresh a ha).2⟩, g.pin⟩
      have hpd' : Pend H0 (fun a => F2 a ∨ a ∈ ux) H us pd := ⟨hpd.nod, fun a ha => ⟨fun q => q.elim (hpd.fresh a ha).1 fun q => (List.nodup_append.mp hpn.1).2.2 a ha a q rfl, (hpd.fresh a ha).2⟩⟩
      obtain ⟨um, h1, n1, m1, fz⟩ := mask_frz (bs := maskJ ks e.length) g' hpd'
      have hholes : ∀ {ks : List (Nat ⊕ D)} {ds : List D}, rdJ ks e = some ds → ∀ i ∈ holes ks, i < e.length := by
        intro ks
        induction ks with
        | nil => intro ds h i hi; cases hi
        | cons k ks ih =>
          intro ds h i hi
          cases k with
          | inl j =>
            simp only [rdJ] at h
            split at h
            · rename_i d' hd'
              obtain ⟨ds2, q1, q2⟩ := Option.map_eq_some_iff.mp h
              rcases List.mem_cons.mp hi with rfl | hi
              · exact (List.getElem?_eq_some_iff.mp hd').1
              · exact ih q1 i hi
            · cases h
          | inr x =>
            simp only [rdJ] at h
            obtain ⟨ds2, q1, q2⟩ := Option.map_eq_some_iff.mp h
            exact ih q1 i hi
      refine ⟨fun a => (F2 a ∨ a ∈ ux) ∨ a ∈ um, ds, hds, rd_rep r (h1.envT (fun a h => .inl h) fun a h => .inr h) (fun i hi => mask_get ?_) (fun a h => .inl (.inl h)) (fun a h => .inl (.inr h)) hds, hfz hds, fun a z => z.elim (g'.wf a) fun z => g.nn a (m1 a z), ?_⟩
      · have hlt := hholes hds i hi
        unfold maskJ
        rw [List.getElem?_map, List.getElem?_range hlt]
        simp [hi]
      · rw [hd]
        intro v H' F' us' s gr w rr nd fr
        have fr' : ∀ a ∈ us', ¬ F' a ∧ H a = none := fun a ha => ⟨(fr a ha).1, (fr a ha).2.elim (fun z => nomatch z) id⟩
        obtain ⟨us2, g2, p2, m2⟩ := fz s gr.sub (fun a z => (gr.new a z).imp id (Or.rec (fun z => nomatch z) id)) w
        refine hp v H' F' us2 us' g2 rr ⟨?_, fun a ha => ?_⟩ (fun b o hb hk => s b o (kp b o hb hk)) fun a q => gr.sub a (.inl (.inl (ff a q)))
        · rw [List.append_assoc]
          obtain ⟨k1, k2, k3⟩ := List.nodup_append.mp p2.nod
          refine List.nodup_append.mpr ⟨k1, List.nodup_append.mpr ⟨nd, k2, fun a ha b hb e => g.nn b (m2 b hb) (e ▸ (fr' a ha).2)⟩, fun a ha b hb e => ?_⟩
          rcases List.mem_append.mp hb with hb | hb
          · exact (hpd.fresh a ha).2.2 (e ▸ (fr' b hb).2)
          · exact k3 a ha b hb e
        · rcases List.mem_append.mp ha with ha | ha
          · exact p2.fresh a ha
          · exact ⟨(fr' a ha).1, g.same.free (fr' a ha).2, nn rr a ha⟩
end
abbrev RpJ (K : Frag) (σ : L2.St) : RpT V (Nat ⊕ D) := fun H F v k us => match k with
  | .inl i => σ[i]? = some (some v) ∧ us = []
  | .inr d => Rep K H F v d us
abbrev OJ (X : Cx) (H0 : Hp) (F0 : Ent) (W : Option WX) (e : Expr) (m : Env → RK (Nat ⊕ D)) : Prop := PE X e fun σ H Q => tK X.K X.mg H0 F0 W (RpJ X.K σ) m σ H Q
section
variable {X : Cx} {H0 : Hp} {F0 : Ent} {W : Option WX} {e a b : Expr} {es : List Expr} {mk : Env → RK D} {ma mb : Env → RK (Nat ⊕ D)} {mks : Env → RK (List (Nat ⊕ D))} {pos : Pos}
def oE (mk : Env → RK D) : Env → RK (Nat ⊕ D) := fun env => (mk env).bind fun d e => .ok (.inr d) e
def oV (i : Nat) : Env → RK (Nat ⊕ D) := fun env => match env[i]? with
  | some (some _) => .ok (.inl i) env
  | _ => .bad
theorem oj_ke (h : KE X H0 F0 W e mk) : OJ X H0 F0 W e (oE mk) := PE.to h fun σ H Q hh => by
  obtain ⟨F, env, us, pd, g, p, hp⟩ := hh
  replace hp : PostK X.K X.mg H0 F0 W (RpJ X.K σ) σ H F pd ((mk env).bind fun d e => .ok (.inr d) e) Q := hp
  refine ⟨F, env, us, pd, g, p, ?_⟩
  cases q : mk env with
  | ok x e => rw [q] at hp; exact fun v H' F' us' ux g' r p' kp f => hp v H' F' us' ux g' r p' kp f
  | exc c d e => rw [q] at hp; exact hp
  | bad => rw [q] at hp; exact hp
theorem oj_var (i : Nat) {x : Str} (hN : X.N[i]? = some x := by rfl) (hv : Vis X.env.scope x := by first | exact Or.inl rfl | exact Or.inr (Or.inl rfl) | exact Or.inr (Or.inr rfl)) (hd : (x == ("__debug__" : Str)) = false := by decide)
    (hcd : (x == ("__classdict__" : Str)) = false := by decide) : OJ X H0 F0 W (.Name x pos) (oV i) := by
  refine PE.to (pe_var hN hv hd hcd) fun σ H Q ⟨F, env, us, pd, g, p, hp⟩ => ?_
  unfold oV at hp
  split at hp
  · rename_i d hd
    obtain ⟨v, u, us', h1, h2, h3, h4⟩ := g.sl.get hd
    exact ⟨v, h1, hp v H F us [] g ⟨h1, rfl⟩ (by simpa using p) (fun _ _ e _ => e) fun _ h => h⟩
  · exact hp.elim
def kO2 (op : D → D → R D) (ma mb : Env → RK (Nat ⊕ D)) : Env → RK D := fun env => (ma env).bind fun x e1 => (mb e1).bind fun y e2 => finJ (fun ds => match ds with
  | [a, b] => op a b
  | _ => .bad) [x, y] e2
theorem tO2 {r : R2} {op : D → D → R D} (hv : OpV X.K X.mg r op) {σ : L2.St} {H : Hp} {Q : VK} (h : tK X.K X.mg H0 F0 W (RpV X.K) (kO2 op ma mb) σ H Q) : tOp r (fun σ H Q => tK X.K X.mg H0 F0 W (RpJ X.K σ) ma σ H Q) (fun σ H Q => tK X.K X.mg H0 F0 W (RpJ X.K σ) mb σ H Q) σ H Q := by
  refine tK_first (Rp := RpJ X.K σ) h fun x v H1 F F1 e1 us1 pd u1 g1 r1 p1 k1 f1 hp1 => ?_
  refine ⟨F1, e1, us1, pd ++ u1, g1, p1, ?_⟩
  replace hp1 : PostK X.K X.mg H0 F0 W (RpV X.K) σ H F pd ((mb e1).bind fun y e2 => finJ (fun ds => match ds with
    | [a, b] => op a b
    | _ => .bad) [x, y] e2) Q := hp1
  cases q : mb e1 with
  | bad => rw [q] at hp1; exact hp1
  | exc c d => rw [q] at hp1; exact hp1
  | ok y e2 =>
    rw [q] at hp1
    intro w H2 F2 us2 u2 g2 r2 p2 k2 f2
    have rr : RpLJ X.K σ H2 F2 [v, w] [x, y] (u1 ++ u2) := by
      have r1' : RpJ X.K σ H2 F2 v x u1 := by
        cases x with
        | inl i => exact r1
        | inr d => exact Rep.keep r1 (k2.mono fun a ha => List.mem_append_right _ ha) f2
      cases x with
      | inl i =>
        obtain ⟨h1, h2⟩ := r1'
        subst h2
        cases y with
        | inl j => exact ⟨h1, r2.1, r2.2⟩
        | inr d => exact ⟨h1, u2, [], by simp, r2, rfl⟩
      | inr d =>
        cases y with
        | inl j => exact ⟨u1, u2, rfl, r1', r2.1, r2.2⟩
        | inr d' => exact ⟨u1, u2, rfl, r1', u2, [], by simp, r2, rfl⟩
    have kp : Keep F pd H H2 := fun b o eb hb => k2 b o (k1 b o eb hb) (hb.imp (f1 b) (Or.imp (List.mem_append_left _) id))
    obtain ⟨F', ds, q1, q2, q3, q4, q5⟩ := fin_read (E := wX W σ) g2 (by rw [← List.append_assoc]; exact p2) rr kp (fun a h => f2 a (f1 a h)) hp1
    have hl := q2.length
    match ds, hl with
    | [z1, z2], _ =>
      obtain ⟨v', w', ua, ub, hvw, hu, ra, rb⟩ := RepL.two q2
      cases hvw
      obtain ⟨h1, h2⟩ := List.append_eq_nil_iff.mp hu.symm
      subst h1 h2
      exact hv H2 F' [] [] [] z1 z2 v w Q _ q4 ra rb rfl (by simp) (fun _ z => nomatch z) q5
theorem ke_op {o : Operator} {r : R2} {op : D → D → R D} (ho : OpR X (binaryOp o) r) (hv : OpV X.K X.mg r op) (ha : OJ X H0 F0 W a ma) (hb : OJ X H0 F0 W b mb) : KE X H0 F0 W (.BinOp a o b pos) (kO2 op ma mb) := PE.to (pe_op ho ha hb) fun σ H Q h => tO2 hv h
theorem ke_cmp {o : CmpOp} {r : R2} {op : D → D → R D} (ho : OpR X (compareOp o) r) (hv : OpV X.K X.mg r op) (ha : OJ X H0 F0 W a ma) (hb : OJ X H0 F0 W b mb) (hm : behindInMarks o b = false := by first | rfl | exact nomark _) : KE X H0 F0 W (.Compare a [o] [b] pos) (kO2 op ma mb) := PE.to (pe_cmpR ho ha hb hm) fun σ H Q h => tO2 hv h
theorem ke_ix {r : R2} {op : D → D → R D} (ho : IxR X r) (hv : OpV X.K X.mg r op) (ha : OJ X H0 F0 W a ma) (hb : OJ X H0 F0 W b mb) (hs : PlainIx b := by exact fun _ _ => rfl) : KE X H0 F0 W (.Subscript a b pos) (kO2 op ma mb) := PE.to (pe_ix ho ha hb hs) fun σ H Q h => tO2 hv h
end
section
variable {X : Cx} {H0 : Hp} {F0 : Ent} {W : Option WX} {e a b : Expr} {es : List Expr} {mks : Env → RK (List (Nat ⊕ D))} {pos : Pos}
def kCall (op : List D → R D) (mks : Env → RK (List (Nat ⊕ D))) : Env → RK D := fun env => (mks env).bind fun ks e => finJ op ks e
theorem ke_callB {r : List V → Hp → VK → Prop} {op : List D → R D} {x : Str} {id : String} {p : Pos} (hc : CallR X (.builtin id) r) (hv : CallV X.K X.mg r op) (hm : X.mg x = none) (hb : bootBuiltins x = some (.builtin id)) (ha : KEsJ X H0 F0 W (e :: es) mks)
    (hg : Gl X x := by rfl) (hn : x ≠ "__name__" := by decide) (hdb : (x == ("__debug__" : Str)) = false := by decide)
    (he : starEach (e :: es) X.env = (false, eval e X.env) :: starEach es X.env := by rfl) (hpl : (backTo pos (starEach es X.env)).any (·.1) = false := by rfl) : KE X H0 F0 W (.Call (.Name x p) (e :: es) [] pos) (kCall op mks) := by
  refine PE.to (pe_callB hc hg hm hb ha hn hdb he hpl) fun σ H Q h => ?_
  refine tK_first (Rp := RpLJ X.K σ) h fun ks vs H1 F F1 e1 us1 pd ux g1 r1 p1 k1 f1 hp1 => ?_
  obtain ⟨F', ds, q1, q2, q3, q4, q5⟩ := fin_read (E := wX W σ) g1 p1 r1 k1 f1 hp1
  exact hv H1 F' [] ds vs Q _ q4 q2 (by simp) (fun _ z => nomatch z) q5
theorem ke_callTy {r : List V → Hp → VK → Prop} {op : List D → R D} {x : Str} {id : String} {p : Pos} (hc : CallR X (.type id) r) (hv : CallV X.K X.mg r op) (hm : X.mg x = none) (hb : bootBuiltins x = some (.type id)) (ha : KEsJ X H0 F0 W (e :: es) mks)
    (hg : Gl X x := by rfl) (hn : x ≠ "__name__" := by decide) (hdb : (x == ("__debug__" : Str)) = false := by decide)
    (he : starEach (e :: es) X.env = (false, eval e X.env) :: starEach es X.env := by rfl) (hpl : (backTo pos (starEach es X.env)).any (·.1) = false := by rfl) : KE X H0 F0 W (.Call (.Name x p) (e :: es) [] pos) (kCall op mks) := by
  refine PE.to (pe_callTy hc hg hm hb ha hn hdb he hpl) fun σ H Q h => ?_
  refine tK_first (Rp := RpLJ X.K σ) h fun ks vs H1 F F1 e1 us1 pd ux g1 r1 p1 k1 f1 hp1 => ?_
  obtain ⟨F', ds, q1, q2, q3, q4, q5⟩ := fin_read (E := wX W σ) g1 p1 r1 k1 f1 hp1
  exact hv H1 F' [] ds vs Q _ q4 q2 (by simp) (fun _ z => nomatch z) q5
def fnOp (n : Nat) (fn : List D → R D) : List D → R D := fun ds => if ds.length = n then fn ds else .bad
theorem ke_callK {k : Nat} {f : Addr} {fd : FuncData} {ps : List Str} {x : Str} {n : Nat} {fn : List D → R D} {p : Pos} (G : FnOk X.prog X.w X.K X.mg X.base (L2.CX X.prog X.w) k f fd ps (spD X.K X.mg n fn)) (hr : Room k X.A) (hm : X.mg x = some (.ref f)) (hk : PySem.W.keepIn X.K (.ref f) = true) (hb : Binds X.K fd ps [])
    (tk : TkW X W) (ha : KEsJ X H0 F0 W (e :: es) mks) (hg : Gl X x := by rfl) (hdb : (x == ("__debug__" : Str)) = false := by decide) (he : starEach (e :: es) X.env = (false, eval e X.env) :: starEach es X.env := by rfl) (hpl : (backTo pos (starEach es X.env)).any (·.1) = false := by rfl) :
    KE X H0 F0 W (.Call (.Name x p) (e :: es) [] pos) (kCall (fnOp n fn) mks) := by
  have hx : ∀ σ, PassesAt (L2.CX X.prog X.w) X σ (eW W σ) := by
    intro σ
    cases W with
    | none =>
      intro pins H s e s' I c
      obtain ⟨_, _, _, _, _, _, _, _, _, _, _, _, z⟩ := c
      exact z.elim
    | some W => exact passAt tk σ
  refine PE.to (pe_callS G hr hg hm hk hb hx ha hdb he hpl) fun σ H Q h => ?_
  refine tK_first (Rp := RpLJ X.K σ) h fun ks vs H1 F F1 e1 us1 pd ux g1 r1 p1 k1 f1 hp1 => ?_
  obtain ⟨F', ds, q1, q2, q3, q4, q5⟩ := fin_read (E := some (eW W σ)) g1 p1 r1 k1 f1 hp1
  unfold fnOp at q5
  split at q5
  · rename_i hl
    exact ⟨F', ds, by rw [q2.length, hl], q2, q3, q4, q5⟩
  · exact q5.elim
end
section
variable {X : Cx} {H0 : Hp} {F0 : Ent} {W : Option WX} {c a b : Expr} {rest : List Expr} {mk : Env → RK D} {ma mb : Env → RK (Nat ⊕ D)} {ta tb : Env → RK Bool} {sa sb : List Stmt} {sta stb : Env → Fl} {pos : Pos}
abbrev KT (X : Cx) (H0 : Hp) (F0 : Ent) (W : Option WX) (e : Expr) (m : Env → RK Bool) : Prop := PT X e (tK X.K X.mg H0 F0 W RpB m)
abbrev KW (X : Cx) (H0 : Hp) (F0 : Ent) (W : Option WX) (e : Expr) (m : Env → RK Bool) : Prop := PW X e (tK X.K X.mg H0 F0 W RpB m)
def kBl (mk : Env → RK D) : Env → RK Bool := fun env => (mk env).bind fun d e => match d with
  | .bl b => .ok b e
  | _ => .bad
theorem kt_cmp {o : CmpOp} {r : R2} {op : D → D → R D} (ho : OpR X (compareOp o) r) (hv : OpV X.K X.mg r op) (ha : OJ X H0 F0 W a ma) (hb : OJ X H0 F0 W b mb) (hm : behindInMarks o b = false := by first | rfl | exact nomark _) :
    KT X H0 F0 W (.Compare a [o] [b] pos) (kBl (kO2 op ma mb)) :=
  PT.to (pt_cmpR ho ha hb hm) fun σ H Q h => tO2 hv (tK_first (Rp := RpV X.K) (Q1 := fun x H' => ∃ k, x = V.bl k ∧ Q k H') h fun d v H1 F F1 e1 us1 pd ux g1 r1 p1 k1 f1 hp1 => by
    cases d with
    | bl b => cases r1; exact ⟨b, rfl, hp1 b H1 F1 us1 [] g1 ⟨rfl, rfl⟩ p1 k1 f1⟩
    | _ => exact hp1.elim)
/-- a value as a test -/
def kTru (mk : Env → RK D) : Env → RK Bool := fun env => (mk env).bind fun d e => match truD d with
  | some b => .ok b e
  | none => .bad
theorem kt_truth (ha : KE X H0 F0 W a mk) (he : ∀ whole, isTrue a X.env whole = (do let v ← whole; standAt a.pos; holding [v] (truthy v)) := by intro _; rfl) : KT X H0 F0 W a (kTru mk) := by
  refine PT.to (pt_truth ha he) fun σ H Q h => ?_
  refine tK_first (Rp := RpV X.K) h fun d v H1 F F1 e1 us1 pd ux g1 r1 p1 k1 f1 hp1 => ?_
  split at hp1
  · rename_i k hk
    exact ⟨k, tru_v r1 hk, hp1 k H1 F1 us1 [] g1 ⟨rfl, rfl⟩ (by simpa using p1.left) k1 f1⟩
  · exact hp1.elim
/-- a test that changes nothing -/
def kB (m : Env → R Bool) : Env → RK Bool := fun env => match m env with
  | .ok b => .ok b env
  | _ => .bad
theorem kt_t {m : Env → R Bool} (h : VT X W c m) : KT X H0 F0 W c (kB m) := PT.to h fun σ H Q ⟨F, env, us, pd, g, p, hp⟩ => by
  unfold kB at hp
  refine tblk g (fun x v H' F1 u1 e s f n w r nd fr => ?_) (fun c d e => ?_) (fun e => ?_)
  · rw [e] at hp
    obtain ⟨h1, h2⟩ := r
    subst h1 h2
    exact hp v H' F us [] (g.keep s) ⟨rfl, rfl⟩ (by simpa using p.keep s) (Keep.same s) fun _ h => h
  · rw [e] at hp; exact hp.elim
  · rw [e] at hp; exact hp
theorem kt_not (ha : KT X H0 F0 W a ta) : KT X H0 F0 W (.UnaryOp .Not a pos) (fun env => (ta env).bind fun c e => .ok (!c) e) := by
  refine PT.to (pt_not ha) fun σ H Q h => ?_
  refine tK_first (Rp := RpB) h fun d v H1 F F1 e1 us1 pd ux g1 r1 p1 k1 f1 hp1 => ?_
  obtain ⟨h1, h2⟩ := r1
  subst h1 h2
  exact hp1 _ H1 F1 us1 [] g1 ⟨rfl, rfl⟩ p1 k1 f1
theorem kw_one {o} (h : KT X H0 F0 W a ta) (ho : o = .And ∨ o = .Or) : KW X H0 F0 W (.BoolOp o [a] pos) ta := by
  rcases ho with rfl | rfl
  · exact pw_and1 h
  · exact pw_or1 h
theorem kw_and (ha : KT X H0 F0 W a ta) (hb : KW X H0 F0 W (.BoolOp .And (b :: rest) pos) tb) : KW X H0 F0 W (.BoolOp .And (a :: b :: rest) pos) (fun env => (ta env).bind fun c e => if c = true then tb e else .ok false e) := by
  refine PW.to (pw_and ha hb) fun σ H Q h => ?_
  refine tK_first (Rp := RpB) h fun d v H1 F F1 e1 us1 pd ux g1 r1 p1 k1 f1 hp1 => ?_
  obtain ⟨h1, h2⟩ := r1
  subst h1 h2
  cases v with
  | true =>
    rw [if_pos rfl] at hp1 ⊢
    refine ⟨F1, e1, us1, pd, g1, by simpa using p1, ?_⟩
    cases q : tb e1 with
    | ok x e => rw [q] at hp1; exact fun v H' F' us' ux g r p kp f => hp1 v H' F' us' ux g r p (fun b o hb hk => kp b o (k1 b o hb hk) (hk.imp (f1 b) id)) fun a h => f a (f1 a h)
    | exc c d => rw [q] at hp1; exact hp1
    | bad => rw [q] at hp1; exact hp1
  | false =>
    rw [if_neg Bool.false_ne_true] at hp1 ⊢
    exact hp1 _ H1 F1 us1 [] g1 ⟨rfl, rfl⟩ p1 k1 f1
theorem kw_or (ha : KT X H0 F0 W a ta) (hb : KW X H0 F0 W (.BoolOp .Or (b :: rest) pos) tb) : KW X H0 F0 W (.BoolOp .Or (a :: b :: rest) pos) (fun env => (ta env).bind fun c e => if c = true then .ok true e else tb e) := by
  refine PW.to (pw_or ha hb) fun σ H Q h => ?_
  refine tK_first (Rp := RpB) h fun d v H1 F F1 e1 us1 pd ux g1 r1 p1 k1 f1 hp1 => ?_
  obtain ⟨h1, h2⟩ := r1
  subst h1 h2
  cases v with
  | true =>
    rw [if_pos rfl] at hp1 ⊢
    exact hp1 _ H1 F1 us1 [] g1 ⟨rfl, rfl⟩ p1 k1 f1
  | false =>
    rw [if_neg Bool.false_ne_true] at hp1 ⊢
    refine ⟨F1, e1, us1, pd, g1, by simpa using p1, ?_⟩
    cases q : tb e1 with
    | ok x e => rw [q] at hp1; exact fun v H' F' us' ux g r p kp f => hp1 v H' F' us' ux g r p (fun b o hb hk => kp b o (k1 b o hb hk) (hk.imp (f1 b) id)) fun a h => f a (f1 a h)
    | exc c d => rw [q] at hp1; exact hp1
    | bad => rw [q] at hp1; exact hp1
theorem KW.kt {m : Env → RK Bool} (h : KW X H0 F0 W c m) : KT X H0 F0 W c m := PW.pt h
def ifK (mc : Env → RK Bool) (ma mb : Env → Fl) (env : Env) : Fl := Fl.ofK (mc env) fun b e => if b = true then ma e else mb e
theorem vs_ifK {mc : Env → RK Bool} (hc : KT X H0 F0 W c mc) (ha : VSs X H0 F0 W sa sta) (hb : VSs X H0 F0 W sb stb) : VS X H0 F0 W (.If c sa sb pos) (ifK mc sta stb) := by
  refine PS.to (ps_if hc ha hb) fun Q σ H h => ?_
  refine tK_of h fun d v H1 F1 e1 us1 ux g1 r1 n1 f1 hp1 => ?_
  obtain ⟨h1, h2⟩ := r1
  subst h1 h2
  cases v with
  | true =>
    rw [if_pos rfl] at hp1 ⊢
    exact ⟨F1, e1, us1, g1, hp1⟩
  | false =>
    rw [if_neg Bool.false_ne_true] at hp1 ⊢
    exact ⟨F1, e1, us1, g1, hp1⟩
end
section
variable {X : Cx} {H0 : Hp} {F0 : Ent} {W : Option WX} {a b tg iter : Expr} {sb : List Stmt} {mks : Env → RK (List (Nat ⊕ D))} {pos p : Pos}
abbrev KIR (X : Cx) (H0 : Hp) (F0 : Ent) (W : Option WX) (tg e : Expr) (m : Env → RK (List D)) : Prop := PI X tg e (tK X.K X.mg H0 F0 W (RpR X.K) m)
def kRng (f : List D → R (List D)) (mks : Env → RK (List (Nat ⊕ D))) : Env → RK (List D) := fun env => (mks env).bind fun ks e => match rdJ ks e with
  | some ds => (match f ds with
    | .ok xs => .ok xs e
    | _ => .bad)
  | none => .bad
theorem rng_read {σ : L2.St} {H H1 : Hp} {F F1 : Fz} {e1 : Env} {us1 pd ux : List Addr} {f : List D → R (List D)} {ks : List (Nat ⊕ D)} {vs : List V} {Q : It → Hp → Prop} (g1 : Good X.K H0 F0 H1 F1 σ e1 us1) (p1 : Pend H0 F1 H1 us1 (pd ++ ux)) (r1 : RpLJ X.K σ H1 F1 vs ks ux) (k1 : Keep F pd H H1) (f1 : ∀ a, F a → F1 a)
    (hp : PostK X.K X.mg H0 F0 W (RpR X.K) σ H F pd (match rdJ ks e1 with
      | some ds => (match f ds with
        | .ok xs => .ok xs e1
        | _ => .bad)
      | none => .bad) Q) : ∃ ds xs F', rdJ ks e1 = some ds ∧ f ds = .ok xs ∧ RepL X.K H1 F' vs ds [] ∧ ∀ J, (∀ H F, JRep X.K J H F xs) → Q J H1 := by
  split at hp
  case h_2 => exact hp.elim
  rename_i ds hds
  split at hp
  case h_2 => exact hp.elim
  rename_i xs hxs
  exact ⟨ds, xs, fun a => F1 a ∨ a ∈ us1 ∨ a ∈ ux, hds, hxs, rd_rep r1 (g1.sl.envT (fun a h => .inl h) fun a h => .inr (.inl h)) (fun _ _ => rfl) (fun a h => .inl h) (fun a h => .inr (.inr h)) hds, fun J hj => hp J H1 F1 us1 [] g1 ⟨hj, rfl⟩ (by simpa using p1.left) k1 f1⟩
theorem kir_range1 (hm : X.mg "range" = none) (ha : KEsJ X H0 F0 W [a] mks) (hg : Gl X "range" := by rfl) (hs : starEach [a] X.env = [(false, eval a X.env)] := by rfl) : KIR X H0 F0 W tg (.Call (.Name "range" p) [a] [] pos) (kRng rng1D mks) := by
  refine PI.to (pi_range1 hg hm ha hs) fun σ H Q h => ?_
  refine tK_first (Rp := RpLJ X.K σ) h fun ks vs H1 F F1 e1 us1 pd ux g1 r1 p1 k1 f1 hp1 => ?_
  obtain ⟨ds, xs, F', q1, q2, q3, q4⟩ := rng_read g1 p1 r1 k1 f1 hp1
  unfold rng1D at q2
  split at q2
  · split at q2
    · obtain ⟨x, rfl, r⟩ := RepL.one q3
      cases r
      cases q2
      exact ⟨_, rfl, by omega, by omega, q4 _ fun _ _ => j_rng⟩
    · cases q2
  · cases q2
theorem kir_range2 (hm : X.mg "range" = none) (ha : KEsJ X H0 F0 W [a, b] mks) (hg : Gl X "range" := by rfl) (hs : starEach [a, b] X.env = [(false, eval a X.env), (false, eval b X.env)] := by rfl) (hs2 : starEach [b] X.env = [(false, eval b X.env)] := by rfl) :
    KIR X H0 F0 W tg (.Call (.Name "range" p) [a, b] [] pos) (kRng rng2D mks) := by
  refine PI.to (pi_range2 hg hm ha hs hs2) fun σ H Q h => ?_
  refine tK_first (Rp := RpLJ X.K σ) h fun ks vs H1 F F1 e1 us1 pd ux g1 r1 p1 k1 f1 hp1 => ?_
  obtain ⟨ds, xs, F', q1, q2, q3, q4⟩ := rng_read g1 p1 r1 k1 f1 hp1
  unfold rng2D at q2
  split at q2
  · split at q2
    · obtain ⟨x, y, u1, u2, rfl, _, r, r'⟩ := RepL.two q3
      cases r; cases r'
      cases q2
      exact ⟨_, _, rfl, ⟨by omega, by omega, by omega, by omega⟩, q4 _ fun _ _ => j_rng⟩
    · cases q2
  · cases q2
def forK (p : Pat) (mi : Env → RK (List D)) (body : Env → Fl) (env : Env) : Fl := Fl.ofK (mi env) fun ds e => forD p body ds e
theorem vs_forK {p : Pat} {mi : Env → RK (List D)} {mb : Env → Fl} (hpo : PassesOwn (model X.prog X.w) X.A X.env X.xe) (hc : X.calm = true) (hi : KIR X H0 F0 W tg iter mi) (hg : VG X tg p) (hb : VSs X H0 F0 W sb mb)
    (hs : ∀ x, foldedSetIterable iter X.env x = pure x := by intro _; rfl) (hpn : noPinB F0.ix p.slots = true := by rfl) : VS X H0 F0 W (.For tg iter sb [] pos) (forK p mi mb) := by
  refine PS.to (ps_for hpo hc hi hg hb hs) fun Q σ H h => ?_
  refine tK_of (Rp := RpR X.K) h fun ds J H1 F e1 us u1 g r n1 fr1 hp1 => ?_
  obtain ⟨jr, _⟩ := r
  refine ⟨fun i m σ' H' => m = ds.length - i ∧ i ≤ ds.length ∧ ∃ F' e us', Good X.K H0 F0 H' F' σ' e us' ∧ PostS X.K X.mg H0 F0 W (forD p mb (ds.drop i) e) Q, ⟨ds.length, by simp, Nat.zero_le _, F, _, us, g, by simpa using hp1⟩, ?_⟩
  rintro i m σ2 H2 ⟨rfl, hil, F2, e2, us2, g2, hp2⟩
  have jr2 := jr H2 F2
  have k2 : Keep F2 [] H2 H2 := fun _ _ h _ => h
  by_cases hlt : i < ds.length
  · refine .inr ⟨jr2.go H2 i k2 hlt, fun σ' H' => i + 1 ≤ ds.length ∧ ∃ F' e us', Good X.K H0 F0 H' F' σ' e us' ∧ PostS X.K X.mg H0 F0 W (forD p mb (ds.drop (i + 1)) e) Q, fun σ' H' z => ⟨ds.length - (i + 1), by omega, rfl, z⟩, fun x H3 y => ?_⟩
    have hd : ds[i]? = some ds[i] := List.getElem?_eq_getElem hlt
    obtain ⟨s3, rx⟩ := jr2.yld H2 F2 i x H3 k2 (fun _ h => h) g2.wf y _ hd
    rw [List.drop_eq_getElem_cons hlt] at hp2
    simp only [forD] at hp2
    have g3 := g2.keep s3
    cases qb : bindP p ds[i] e2 with
    | bad => rw [qb] at hp2; exact hp2.elim
    | exc c d => rw [qb] at hp2; exact hp2.elim
    | ok e3 =>
      rw [qb] at hp2
      simp only at hp2
      obtain ⟨σ3, us3, st, g4, _⟩ := bindP_S p x _ σ2 e2 e3 us2 [] g3 rx (by simpa using g3.nod) (fun _ z => nomatch z) qb (noPin_of hpn)
      refine gP_of p x σ2 σ3 st ⟨F2, e3, us3, g4, ?_⟩
      cases qm : mb e3 with
      | nx e => rw [qm] at hp2; exact fun σ' H' F' us' g' => ⟨hlt, F', e, us', g', hp2⟩
      | ct e => rw [qm] at hp2; exact fun σ' H' F' us' g' => ⟨hlt, F', e, us', g', hp2⟩
      | bk e => rw [qm] at hp2; exact hp2
      | rt d => rw [qm] at hp2; exact hp2
      | exc c d e => rw [qm] at hp2; exact hp2
      | bad => rw [qm] at hp2; exact hp2
  · have e : i = ds.length := by omega
    subst e
    refine .inl ⟨jr2.stop H2 k2, ?_⟩
    rw [List.drop_length] at hp2
    exact hp2 σ2 H2 F2 us2 g2
end
structure FnJ (P : Program) (w : World) (K : Frag) (mg : Str → Option Value) (base : Heap) (x : Str) (k : Nat) (ps : List Str) (n : Nat) (js : List Nat) (fn : List D → R D) : Prop where
  ex : ∃ f fd, mg x = some (.ref f) ∧ PySem.W.keepIn K (.ref f) = true ∧ Binds K fd ps [] ∧ FnOk P w K mg base (L2.CX P w) k f fd ps (spJ K mg n js fn)
section
variable {X : Cx} {H0 : Hp} {F0 : Ent} {W : Option WX} {e : Expr} {es : List Expr} {mks : Env → RK (List (Nat ⊕ D))} {pos p : Pos} {k n : Nat} {ps : List Str} {x : Str} {js : List Nat} {fn : List D → R D}
theorem ke_callJF (G : FnJ X.prog X.w X.K X.mg X.base x k ps n js fn) (hr : Room k X.A) (tk : TkW X W) (ha : KEsJ X H0 F0 W (e :: es) mks) (hj0 : js ≠ [] := by simp)
    (hg : Gl X x := by rfl) (hdb : (x == ("__debug__" : Str)) = false := by decide) (he : starEach (e :: es) X.env = (false, eval e X.env) :: starEach es X.env := by rfl) (hpl : (backTo pos (starEach es X.env)).any (·.1) = false := by rfl) :
    KE X H0 F0 W (.Call (.Name x p) (e :: es) [] pos) (callJ n js fn mks) := by
  obtain ⟨f, fd, hm, hk, hb, G⟩ := G.ex
  exact ke_callJ G hj0 hr hm hk hb tk ha hg hdb he hpl
theorem ke_callKF (G : Fn X.prog X.w X.K X.mg X.base x k ps n fn) (hr : Room k X.A) (tk : TkW X W) (ha : KEsJ X H0 F0 W (e :: es) mks)
    (hg : Gl X x := by rfl) (hdb : (x == ("__debug__" : Str)) = false := by decide) (he : starEach (e :: es) X.env = (false, eval e X.env) :: starEach es X.env := by rfl) (hpl : (backTo pos (starEach es X.env)).any (·.1) = false := by rfl) :
    KE X H0 F0 W (.Call (.Name x p) (e :: es) [] pos) (kCall (fnOp n fn) mks) := by
  obtain ⟨f, fd, hm, hk, hb, G⟩ := G.ex
  exact ke_callK G hr hm hk hb tk ha hg hdb he hpl
end
section
variable {P : Program} {w : World} {K : Frag} {mg : Str → Option Value} {base : Heap} {x qual : Str} {st : Stmt} {f : Addr} {fd : FuncData} {N ps : List Str} {k n : Nat} {m : Env → Fl}
theorem fnJ1_ok (j : Nat) (F : Fun K x qual st f fd) (S : FnScope N ps (defScope st)) (hn : ps.length = n)
    (hbody : ∀ (cdv : Value) (A : Around) (outer : List PySem.Env) (s : Shared) (H : Hp) (E : XK), Room k (A.deeper (envOfC qual (defScope st) s.heap.objs.size f cdv)) → ∀ H0 F0 v,
      VSs (cxOf (L2.CX P w) P w K mg base N qual (defScope st) f cdv A outer s H E) H0 ⟨F0, [(j, v)]⟩ (some fun cls d _ H' => E cls d H') (defBody st) m) :
    FnOk P w K mg base (L2.CX P w) (k + 1) f fd ps (spJ K mg n [j] (runJ N.length [j] m)) :=
  fnJ_ok F S hn (by simp) (by simp) fun cdv A outer s H E hr H0 F0 ix hix => by
    match ix, hix with
    | [(a, v)], hix =>
      have : a = j := by simpa using hix
      subst this
      exact hbody cdv A outer s H E hr H0 F0 v
theorem fnJ2_ok (j1 j2 : Nat) (hj : j1 ≠ j2) (F : Fun K x qual st f fd) (S : FnScope N ps (defScope st)) (hn : ps.length = n)
    (hbody : ∀ (cdv : Value) (A : Around) (outer : List PySem.Env) (s : Shared) (H : Hp) (E : XK), Room k (A.deeper (envOfC qual (defScope st) s.heap.objs.size f cdv)) → ∀ H0 F0 v1 v2,
      VSs (cxOf (L2.CX P w) P w K mg base N qual (defScope st) f cdv A outer s H E) H0 ⟨F0, [(j1, v1), (j2, v2)]⟩ (some fun cls d _ H' => E cls d H') (defBody st) m) :
    FnOk P w K mg base (L2.CX P w) (k + 1) f fd ps (spJ K mg n [j1, j2] (runJ N.length [j1, j2] m)) :=
  fnJ_ok F S hn (by simp [hj]) (by simp) fun cdv A outer s H E hr H0 F0 ix hix => by
    match ix, hix with
    | [(a, v1), (b, v2)], hix =>
      have h : a = j1 ∧ b = j2 := by simpa using hix
      obtain ⟨h1, h2⟩ := h
      subst h1 h2
      exact hbody cdv A outer s H E hr H0 F0 v1 v2
end
theorem ve_gstrE {X : Cx} {W : Option WX} {pos : Pos} {x : Str} {z : Str} (hm : ∃ t : Tok, X.mg x = some (.str z t)) (hz : SOk z := by exact ⟨by decide +kernel, by decide +kernel⟩) (hg : Gl X x := by rfl) (hd : (x == ("__debug__" : Str)) = false := by decide) : VE X W (.Name x pos) (cst (.str z)) := by
  obtain ⟨t, hm⟩ := hm
  exact ve_gstr hm hz hg hd
theorem ve_gintE {X : Cx} {W : Option WX} {pos : Pos} {x : Str} {i : Int} (hm : ∃ t : Tok, X.mg x = some (.int i t)) (hg : Gl X x := by rfl) (hd : (x == ("__debug__" : Str)) = false := by decide) : VE X W (.Name x pos) (cst (.int i)) := by
  obtain ⟨t, hm⟩ := hm
  exact PE.to (pe_glob hg hm (v := .int i) ⟨t, rfl⟩ hd) fun σ H Q ⟨F, env, he, w, hp⟩ => post_flat hp w (.int i)
section
variable {X : Cx} {H0 : Hp} {F0 : Ent} {W : Option WX} {e : Expr} {mk : Env → RK D} {ma : Env → RK (Nat ⊕ D)} {pos p2 : Pos}
abbrev KO (X : Cx) (H0 : Hp) (F0 : Ent) (W : Option WX) (e : Option Expr) (m : Env → RK (Option Int)) : Prop := PO X e (tK X.K X.mg H0 F0 W RpO m)
def okN : Env → RK (Option Int) := fun env => .ok none env
def okS (mk : Env → RK D) : Env → RK (Option Int) := fun env => (mk env).bind fun d e => match d with
  | .int i => .ok (some i) e
  | _ => .bad
theorem ko_none : KO X H0 F0 W none okN := PO.to po_none fun σ H Q ⟨F, env, us, pd, g, p, hp⟩ => hp none H F us [] g ⟨rfl, rfl⟩ (by simpa using p) (fun _ _ e _ => e) fun _ h => h
theorem ko_some (h : KE X H0 F0 W e mk) : KO X H0 F0 W (some e) (okS mk) := by
  refine PO.to (po_some h) fun σ H Q h => ?_
  refine tK_first (Rp := RpV X.K) h fun d v H1 F F1 e1 us1 pd ux g1 r1 p1 k1 f1 hp1 => ?_
  cases d with
  | int i => cases r1; exact ⟨_, rfl, hp1 _ H1 F1 us1 [] g1 ⟨rfl, rfl⟩ p1 k1 f1⟩
  | _ => exact hp1.elim
def kSl (ma : Env → RK (Nat ⊕ D)) (ml mh : Env → RK (Option Int)) : Env → RK D := fun env => (ma env).bind fun x e1 => (ml e1).bind fun l e2 => (mh e2).bind fun h e3 => finJ (fun ds => match ds with
  | [d] => sliceD d l h
  | _ => .bad) [x] e3
theorem ke_slice {lo hi : Option Expr} {ml mh : Env → RK (Option Int)} (he : OJ X H0 F0 W e ma) (hl : KO X H0 F0 W lo ml) (hu : KO X H0 F0 W hi mh) : KE X H0 F0 W (.Subscript e (.Slice lo hi none p2) pos) (kSl ma ml mh) := by
  refine PE.to (pe_slice sl_all he hl hu) fun σ H Q h => ?_
  refine tK_first (Rp := RpJ X.K σ) h fun x v H1 F F1 e1 us1 pd u1 g1 r1 p1 k1 f1 hp1 => ?_
  refine ⟨F1, e1, us1, pd ++ u1, g1, p1, ?_⟩
  cases q : ml e1 with
  | bad => rw [q] at hp1; exact hp1
  | exc c d => rw [q] at hp1; exact hp1
  | ok l e2 =>
    rw [q] at hp1
    intro l' H2 F2 us2 u2 g2 r2 p2 k2 f2
    obtain ⟨h1, h2⟩ := r2
    subst h1 h2
    refine ⟨F2, e2, us2, pd ++ u1, g2, by simpa using p2, ?_⟩
    replace hp1 : PostK X.K X.mg H0 F0 W (RpV X.K) σ H F pd ((mh e2).bind fun h e3 => finJ (fun ds => match ds with
      | [d] => sliceD d l' h
      | _ => .bad) [x] e3) Q := hp1
    cases q2 : mh e2 with
    | bad => rw [q2] at hp1; exact hp1
    | exc c d => rw [q2] at hp1; exact hp1
    | ok h' e3 =>
      rw [q2] at hp1
      intro h2' H3 F3 us3 u3 g3 r3 p3 k3 f3
      obtain ⟨z1, z2⟩ := r3
      subst z1 z2
      have kA : Keep F1 u1 H1 H3 := fun b o eb hb => k3 b o (k2 b o eb (hb.imp id (Or.imp (List.mem_append_right _) id))) (hb.imp (f2 b) (Or.imp (List.mem_append_right _) id))
      have rr : RpLJ X.K σ H3 F3 [v] [x] u1 := by
        cases x with
        | inl i => exact ⟨r1.1, r1.2⟩
        | inr d => exact ⟨u1, [], by simp, Rep.keep r1 kA (fun a h => f3 a (f2 a h)), rfl⟩
      have kp : Keep F pd H H3 := fun b o eb hb => k3 b o (k2 b o (k1 b o eb hb) (hb.imp (f1 b) (Or.imp (List.mem_append_left _) id))) (hb.imp (fun z => f2 b (f1 b z)) (Or.imp (List.mem_append_left _) id))
      obtain ⟨F', ds, q3, q4, q5, q6, q7⟩ := fin_read (E := wX W σ) g3 (by simpa using p3) rr kp (fun a h => f3 a (f2 a (f1 a h))) hp1
      have hl := q4.length
      match ds, hl with
      | [z], _ =>
        obtain ⟨v', hv', ra⟩ := RepL.one q4
        cases hv'
        exact slice_v q6 ra (by simp) (fun _ z => nomatch z) q7
end
end VL
end

section
set_option Elab.async false
set_option linter.all false
set_option maxRecDepth 100000
set_option maxHeartbeats 2000000
namespace VL
open PySem PySem.W PySem.Spec PyProof.Rows L2

abbrev exU : HO := .ext fun _ => True
section
variable {X : Cx} {pins : List (Addr × Obj)} {σ : L2.St} {H : Hp} {s : Shared}
/-- an object that came since the entry, and that no part of ours is, is tracked from now on as it is -/
theorem inv_track {a : Addr} {oe : Obj} {vs : Array Value} (I : Inv X pins σ H s) (ha : s.heap.get? a = some oe) (hd : oe.data = .fields vs) (na : H a = Option.none) (nL : a ≠ X.env.locals)
    (n0 : X.s_0.heap.get? a = Option.none) (np : ∀ p ∈ X.pn ++ pins, p.1 ≠ a) : Inv X pins σ (upd H a (.frz oe exU)) s := by
  have ne0 : ∀ b o, X.s_0.heap.get? b = some o → b ≠ a := by
    intro b o e z; rw [z, n0] at e; cases e
  have neS : ∀ {b : Addr} {o : HO}, H b = some o → upd H a (.frz oe exU) b = some o := by
    intro b o e; rw [upd_ne (ne_of_none e na)]; exact e
  have nC : ∀ y c, X.env.cells.lookup y = some c → c ≠ a := by
    intro y c e z
    obtain ⟨v, o, q1, q2⟩ := I.cell y c e
    rw [z, ha] at q1; cases q1
    rw [hd] at q2; cases q2
  exact {
    ok := I.ok, os := I.os, bare := I.bare, loc := I.loc, cell := I.cell, len := I.len
    base := { keep := I.base.keep, slot := I.base.slot, there := I.base.there
              free := by intro b o e n hx; rw [upd_ne (ne0 b o e)]; exact I.base.free b o e n hx
              tups := by intro b xs e; exact neS (I.base.tups b xs e)
              frzs := by intro b o u e; exact neS (I.base.frzs b o u e)
              tbls := by intro b ps e; obtain ⟨m, q⟩ := I.base.tbls b ps e; exact ⟨m, neS q⟩ }
    free := by rw [upd_ne (Ne.symm nL)]; exact I.free
    freeC := by intro y c e; rw [upd_ne (nC y c e)]; exact I.freeC y c e
    pin := by
      intro p hp
      obtain ⟨e, n, r⟩ := I.pin p hp
      exact ⟨e, by rw [upd_ne (np p hp)]; exact n, r⟩
    hok := by
      intro b u e
      by_cases hb : b = a
      · subst hb
        rw [upd_same] at e; cases e
        exact ⟨ha, trivial, ⟨_, ha⟩, fun _ _ _ _ => trivial⟩
      · rw [upd_ne hb] at e
        exact (I.hok b u e).stay (fun c v _ q => q) (fun c q => neS q) fun c xs q => neS q }
theorem inv_in {a : Addr} (I : Inv X pins σ H s) : Inv (X.suite a (X.pn ++ pins)) [] σ H s :=
  { ok := I.ok.suite _ _, os := I.os, bare := I.bare, base := I.base, loc := I.loc, cell := I.cell, free := I.free, freeC := I.freeC, hok := I.hok, len := I.len
    pin := by intro p hp; exact I.pin p (by rw [List.append_nil] at hp; exact hp) }
theorem inv_out {a : Addr} {pn' : List (Addr × Obj)} (I : Inv (X.suite a (X.pn ++ pins)) pn' σ H s) (ok : X.Ok) : Inv X pins σ H s :=
  { ok := ok, os := I.os, bare := I.bare, base := I.base, loc := I.loc, cell := I.cell, free := I.free, freeC := I.freeC, hok := I.hok, len := I.len
    pin := by intro p hp; exact I.pin p (List.mem_append_left _ hp) }
end

/-- what 'except x as n' wishes of an error of the body: in the suite it is a tracked thing -/
def wEx (K : Frag) (c : Value) (i : Nat) (ts : TS) (Wout : WX) (D : Ends) : WX := fun cls d σ H => ∃ b, PySem.W.exmOne K cls c = some b ∧
  (b = true → ∀ a oe, H a = Option.none → Zc cls d oe → (∃ vs, oe.data = .fields vs) →
    ts { nx := fun σ' H' => D.nx (σ'.set i Option.none) H', rt := D.rt, bk := fun σ' H' => D.bk (σ'.set i Option.none) H', ct := fun σ' H' => D.ct (σ'.set i Option.none) H' } (σ.set i (some (.ref a))) (upd H a (.frz oe exU))) ∧
  (b = false → Wout cls d σ H)
section
variable {X : Cx} {x n : Str} {c : Value} {i : Nat} {body suite : List Stmt} {b₀ : Stmt} {np pos pos' : Pos} {tb : WX → TS} {ts : TS} {Wout : WX}
theorem ps_try_ex (hex : X.ex = []) (hs : X.stack = X.env :: X.outer) (hf : X.env.frame = some X.env.locals) (hN : X.N.Nodup) (hi : X.N[i]? = some n) (hln : X.env.kindOf n = some .local) (hc : Names X x c) (tk : Takes X Wout)
    (hb : ∀ (W : WX) (pn : List (Addr × Obj)) (xe : Value → Shared → Prop), Takes (X.tr pn xe) W → PassesOwn (model X.prog X.w) X.A X.env xe → PSs (X.tr pn xe) body (tb W))
    (hsu : ∀ (a : Addr) (pn : List (Addr × Obj)), PSs (X.suite a pn) (b₀ :: suite) ts) :
    PS X (.Try body [.ExceptHandler (some (.Name x np)) (some n) (b₀ :: suite) pos'] [] [] pos) (fun D σ H => tb (wEx X.K c i ts Wout D) D σ H) := by
  refine ⟨fun pins s σ H D I h => ?_⟩
  have ok := I.ok
  have hfr : X.A.frames = some (X.env :: X.outer) := by rw [← hs]; exact ok.frames
  have hloc : Loc X.env.scope n := .inl hln
  refine wpAny_Try_except ?_
  have hbody := (hb (wEx X.K c i ts Wout D) (X.pn ++ pins) (fun e s₁ => wpAny (model X.prog X.w) X.A (noteFrame e X.env) (fun _ s₂ => wpAny (model X.prog X.w) X.A (setFlight e Option.none) (fun _ s₃ => wpAny (model X.prog X.w) X.A
    (handleBy e X.env [.ExceptHandler (some (.Name x np)) (some n) (b₀ :: suite) pos']) (SP X pins D) X.xe s₃) X.xe s₂) X.xe s₁) (fun u s' xx => ?_) PassesOwn.looking).run [] s σ H D (I.toTry _) h
  · refine wpAny_mono hbody (fun f s1 hsp => ?_) (fun e s1 he => he)
    cases f with
    | next =>
      obtain ⟨σ', H', J', q⟩ := hsp
      exact wpAny_execs_nil ⟨σ', H', J'.ofTry ok, q⟩
    | brk => obtain ⟨σ', H', J', q⟩ := hsp; exact ⟨σ', H', J'.ofTry ok, q⟩
    | cont => obtain ⟨σ', H', J', q⟩ := hsp; exact ⟨σ', H', J'.ofTry ok, q⟩
    | ret u => obtain ⟨v, σ', H', J', r, q⟩ := hsp; exact ⟨v, σ', H', J'.ofTry ok, r, q⟩
  · obtain ⟨a, B, sI, pins', σ', H', cls, d, rfl, J', nb, up, sky, na, os, ag, b, hb1, hyes, hno⟩ := xx
    have J : Inv X pins σ' H' sI := J'.ofTry ok
    have sky' : Sky B (X.env :: X.outer) a (Zc cls d) X.env.locals s'.heap := by rw [← hs]; exact sky
    show wpAny (model X.prog X.w) X.A (noteFrame (.ref a) X.env) _ _ _
    refine Sky.land Zc.steady hfr hf sky' fun h3 fl3 up3 => ?_
    have J3 : Inv X pins σ' H' { s' with heap := h3 } := J.landed nb fl3.1 (up.trans up3) os ag
    obtain ⟨oe3, vs3, he3, hz3, hd3⟩ := fl3.there
    have notFr : ∀ {h : Heap} {o : Obj} {vs : Array Value}, h.FunFrames B (X.env :: X.outer) → h.get? a = some o → o.data = .fields vs → a ∉ frs (X.env :: X.outer) := by
      intro h o vs ff e dd hm
      obtain ⟨_, o', e', hnf⟩ := ff.mem hm
      rw [e] at e'; cases e'; exact hnf _ dd
    have nfr := notFr fl3.2.2.1 he3 hd3
    have nL : a ≠ X.env.locals := fun z => nfr (List.mem_filterMap.mpr ⟨X.env, List.mem_cons_self, by rw [hf, z]⟩)
    have nF : a ∉ X.fs := by
      intro hm
      obtain ⟨e, he, q⟩ := List.mem_filterMap.mp hm
      exact nfr (List.mem_filterMap.mpr ⟨e, List.mem_cons_of_mem _ he, q⟩)
    have nB : ∀ {b : Addr} {o : Obj}, sI.heap.get? b = some o → b ∉ frs X.stack → b ≠ a := by
      intro b o e hn z
      have q := nb b o e hn
      rw [z, fl3.2.1] at q; cases q
    have nst : a ∉ frs X.stack := by rw [hs]; exact nfr
    have n0 : X.s_0.heap.get? a = Option.none := by
      cases q : X.s_0.heap.get? a with
      | none => rfl
      | some o =>
        obtain ⟨o', e'⟩ := J.base.there a o q (by rw [hex]; exact fun z => nomatch z)
        exact absurd rfl (nB e' nst)
    have npin : ∀ p ∈ X.pn ++ pins, p.1 ≠ a := by
      intro p hp
      obtain ⟨e, _, ne, nf, _⟩ := J.pin p hp
      refine nB e fun hm => ?_
      rw [hs] at hm
      obtain ⟨e', he', q⟩ := List.mem_filterMap.mp hm
      rcases List.mem_cons.mp he' with z | z
      · rw [z, hf] at q; exact ne (Option.some.inj q).symm
      · exact nf (List.mem_filterMap.mpr ⟨e', z, q⟩)
    have S3 := J3.suite he3 hd3 na nL nF
    refine wpAny_handleBy_cons (codeAny_handlers_test ?_) (by intro q; cases q)
    have LT : PySem.W.Looks (model X.prog X.w) h3 (typeOf (.ref a)) cls := by
      intro A Q E s k q
      exact wpAny_typeOf_ref (k _ _ he3) (by rw [hz3.1]; exact q)
    have LM := PySem.W.exm_one (M := model X.prog X.w) J3.kIn LT hb1
    have test : ∀ {Q : Value → Shared → Prop} {E : Value → Shared → Prop}, Q c { s' with heap := h3 } → wpAny (model X.prog X.w) (X.A.mark (some (.ref a))) (eval (.Name x np) X.env) Q E { s' with heap := h3 } := by
      intro Q E q
      rcases hc with ⟨hg, hdbg, hm | ⟨hm, hv, hnn⟩⟩
      · exact ld_glob (X := X.suite a ((a, oe3) :: (X.pn ++ pins))) S3 hg hm q hdbg
      · exact ld_blt (X := X.suite a ((a, oe3) :: (X.pn ++ pins))) S3 hg hm hv q hnn hdbg
    refine test (LM.here ?_)
    cases b with
    | true =>
      refine codeAny_handlers_suite_as ?_
      refine HandSPX.lands_againZ fl3 fun h4 fl4 up4 => ?_
      have J4 : Inv X pins σ' H' { s' with heap := h4 } := J.landed nb fl4.1 ((up.trans up3).trans up4) os ag
      obtain ⟨oe4, vs4, he4, hz4, hd4⟩ := fl4.there
      have T4 := inv_in (a := a) (inv_track J4 he4 hd4 na nL n0 npin)
      refine store_ok (X := X.suite a (X.pn ++ pins)) (v := .ref a) T4 hN hi hloc rfl (fun s5 S5 => ?_) (.inr hln)
      refine wpAny_mono ((hsu a (X.pn ++ pins)).run [] s5 _ _ _ S5 (hyes rfl a oe4 na hz4 ⟨_, hd4⟩)) (fun f s6 hsp => ?_) (fun _ _ z => False.elim z)
      have end_ : ∀ {σ6 : L2.St} {H6 : Hp} {Q : Shared → Prop}, Inv (X.suite a (X.pn ++ pins)) [] σ6 H6 s6 → (∀ s7, Inv X pins (σ6.set i Option.none) H6 s7 → Q s7) →
          wpAny (model X.prog X.w) X.A (do bindName X.env n .none; unbindBehindTheSuite X.env n pos') (fun _ s7 => Q s7) X.xe s6 := by
        intro σ6 H6 Q S6 hq
        exact gone_ok (inv_out S6 ok) hN hi hln hq
      cases f with
      | next => obtain ⟨σ6, H6, S6, q6⟩ := hsp; exact end_ S6 fun s7 J7 => ⟨_, _, J7, q6⟩
      | brk => obtain ⟨σ6, H6, S6, q6⟩ := hsp; exact end_ S6 fun s7 J7 => ⟨_, _, J7, q6⟩
      | cont => obtain ⟨σ6, H6, S6, q6⟩ := hsp; exact end_ S6 fun s7 J7 => ⟨_, _, J7, q6⟩
      | ret u => obtain ⟨v6, σ6, H6, S6, r6, q6⟩ := hsp; exact end_ S6 fun s7 J7 => ⟨_, _, _, J7, r6, q6⟩
    | false =>
      show wpAny _ X.A (handleBy (.ref a) X.env []) _ _ _
      refine wpAny_handleBy_nil ?_
      obtain ⟨k1, k2, k3, oe, vs, T, oT, ts', he, hz, hd, h1, hr⟩ := id fl3
      unfold PySem.passOn
      refine wpAny_bind (wpAny_field he hd h1 ?_)
      rw [if_neg (show ¬ ((Value.ref T == Value.none) = true) from by simp)]
      have fin : wpAny (model X.prog X.w) X.A (setFlight (.ref a) X.env.frame) (fun _ s4 => wpAny (model X.prog X.w) X.A (throw (.ref a) : Sem Flow) (SP X pins D) X.xe s4) X.xe { s' with heap := h3 } := by
        rw [hf]
        refine HandSPX.setFlight_upZ fl3 fun h4 hh4 up4 => wpAny_throw (tk _ _ ?_)
        exact ⟨a, B, sI, pins, σ', H', cls, d, rfl, J, nb, (up.trans up3).trans up4, .inr (.inr (by rw [hs]; exact hh4)), na, os, ag, hno rfl⟩
      first
        | exact wpAny_bind (wpAny_pure (wpAny_bind fin))
        | exact wpAny_bind fin
end

/-- c is x, or stands on it -/
def subC (c x : Str) : Bool := c == x || (x == "CallError" || x == "ValueError")
structure ExF (K : Frag) (C : Addr) : Prop where
  ga : PySem.W.findIn K (.ref C) "__getattribute__" = some (some (.builtin "BaseException.__getattribute__"))
  gg : PySem.W.findIn K (.ref C) "__getattr__" = some none
  ex : PySem.W.subIn K (.ref C) (.type "BaseException") = some true
  va : PySem.W.subIn K (.ref C) (.type "ValueError") = some true
  hd : PySem.W.hasDictIn K C = true
  at_ : PySem.W.findIn K (.ref C) "at" = some none
  ca : PySem.W.findIn K (.ref C) "__class__" = some (some (.builtin "object.__class__"))
  sp : PySem.W.specialIn K (.builtin "object.__class__") "__get__" = some (some (.builtin "getset_descriptor.__get__"))
  tk : PySem.W.takesIn K (.builtin "object.__class__") = some true
  mo : PySem.W.mroIn K C (.type "object") = some true
  ty : PySem.W.typeIn K (.ref C) = some (.type "type")
structure ErrTab (K : Frag) (mg : Str → Option Value) (tb : List (Str × Addr)) : Prop where
  mg_ : ∀ p ∈ tb, mg p.1 = some (.ref p.2)
  cl : ∀ p ∈ tb, ClsAt K p.1 p.2
  fx : ∀ p ∈ tb, ExF K p.2
  sub : ∀ p ∈ tb, ∀ q ∈ tb, PySem.W.subIn K (.ref p.2) (.ref q.2) = some (subC p.1 q.1)
def Tb (K : Frag) (mg : Str → Option Value) (names : List Str) : Prop := ∃ tb : List (Str × Addr), tb.map (·.1) = names ∧ ErrTab K mg tb
section
variable {K : Frag} {mg : Str → Option Value} {names : List Str}
theorem Tb.at {tb : List (Str × Addr)} (h : tb.map (·.1) = names) {c : Str} (hc : c ∈ names) : ∃ C, (c, C) ∈ tb := by
  rw [← h] at hc
  obtain ⟨p, hp, e⟩ := List.mem_map.mp hc
  exact ⟨p.2, by rw [← e]; exact hp⟩
theorem ExF.cls {C : Addr} (f : ExF K C) : (PySem.W.clsIn K C).isSome = true := by
  obtain ⟨cd, hc, _⟩ := PySem.W.any_some f.hd
  rw [hc]; rfl
theorem ErrTab.one {tb : List (Str × Addr)} (T : ErrTab K mg tb) {c x : Str} {C D : Addr} (h : (c, C) ∈ tb) (k : (x, D) ∈ tb) : PySem.W.kitOne K (.ref C) (.ref D) = some (subC c x) := by
  unfold PySem.W.kitOne
  split
  · rename_i e
    have e : C = D := Value.ref.inj (beq_iff_eq.mp e)
    subst e
    have h1 := T.sub _ h _ h
    have h2 := T.sub _ h _ k
    rw [h1] at h2
    rw [← Option.some.inj h2]
    simp [subC]
  · unfold PySem.W.kitCls
    have e2 : ((PySem.W.clsIn K D).isSome && PySem.W.typeIn K (.ref D) == some (.type "type")) = true := by rw [(T.fx _ k).cls, (T.fx _ k).ty] <;> rfl
    simp only [e2, if_true]
    exact T.sub _ h _ k
theorem ErrTab.val {tb : List (Str × Addr)} (T : ErrTab K mg tb) {c : Str} {C : Addr} (h : (c, C) ∈ tb) : PySem.W.kitOne K (.ref C) (.type "ValueError") = some (subC c "ValueError") := by
  have e : subC c "ValueError" = true := by simp [subC]
  rw [e]
  show (if (Value.ref C == Value.type "ValueError") = true then some true else PySem.W.kitCls K (.ref C) (.type "ValueError")) = some true
  split
  · rfl
  · unfold PySem.W.kitCls
    have : PySem.W.kitMeta "ValueError" = true := by decide +kernel
    simp only [this, if_true]
    exact (T.fx _ h).va
theorem ErrTab.exm {tb : List (Str × Addr)} (T : ErrTab K mg tb) {c x : Str} {C D : Addr} (h : (c, C) ∈ tb) (k : (x, D) ∈ tb) : PySem.W.exmOne K (.ref C) (.ref D) = some (subC c x) := by
  unfold PySem.W.exmOne PySem.W.kitCls
  have e1 : (PySem.W.subIn K (.ref D) (.type "BaseException") == some true) = true := by rw [(T.fx _ k).ex] <;> rfl
  have e2 : ((PySem.W.clsIn K D).isSome && PySem.W.typeIn K (.ref D) == some (.type "type")) = true := by rw [(T.fx _ k).cls, (T.fx _ k).ty] <;> rfl
  simp only [e1, e2, if_true]
  exact T.sub _ h _ k
theorem ErrTab.same {tb : List (Str × Addr)} (T : ErrTab K mg tb) {c : Str} {C D : Addr} (h : (c, C) ∈ tb) (k : ClsAt K c D) : D = C := by
  have := T.cl _ h
  unfold ClsAt at this k
  rw [k] at this
  exact Value.ref.inj (Option.some.inj (Option.some.inj this))
end
def atD (names : List Str) : D → R D
  | .exn c d => if c ∈ names then .ok d else .bad
  | _ => .bad
def isxD (names xs : List Str) : D → R D
  | .exn c _ => if c ∈ names then .ok (.bl (xs.any (subC c))) else .bad
  | _ => .bad
/-- a caught error at a, as the machine sees it -/
theorem exn_inst {X : Cx} {pins : List (Addr × Obj)} {σ : L2.St} {H : Hp} {s : Shared} (I : Inv X pins σ H s) {a C dx : Addr} {oe : Obj} {u : HO} {fs : List (Str × V)} (h1 : H a = some (.frz oe u)) (hz : Zc (.ref C) (some dx) oe) (hf : ∃ vs, oe.data = .fields vs) (hx : H dx = some (.xd fs)) :
    ∃ od, PySem.W.InstAt s.heap a oe C (some od) ∧ ∀ n, RelO (fs.lookup n) (match PySem.W.lookIn n od with | some y => y | none => none) := by
  have hx : ObjOk X.prog X.w H s.heap dx (.xd fs) := I.hok dx _ hx
  obtain ⟨ha, _⟩ := (show ObjOk X.prog X.w H s.heap a (.frz oe u) from I.hok a _ h1)
  obtain ⟨vs, hd⟩ := hf
  obtain ⟨mA, hns, hr⟩ := hx
  obtain ⟨od, ho, hl⟩ := lookIn_ns hns
  refine ⟨od, ⟨ha, hz.1, by unfold PySem.W.notCls; rw [hd] <;> rfl, by rw [hz.2]; exact ho⟩, fun n => ?_⟩
  rw [hl]
  exact hr n
def rIsX (K : Frag) : List V → Hp → VK → Prop := fun xs H Q => ∃ (a C dx : Addr) (oe : Obj) (u : HO) (fs : List (Str × V)) (c : V) (cv : Value) (b : Bool), xs = [.ref a, c] ∧ H a = some (.frz oe u) ∧ Zc (.ref C) (some dx) oe ∧ (∃ vs, oe.data = .fields vs) ∧ H dx = some (.xd fs) ∧ ExF K C ∧
  ClsV c cv ∧ PySem.W.kitOne K (.ref C) cv = some b ∧ Q (.bl b) H
def rIsXT (K : Frag) : List V → Hp → VK → Prop := fun xs H Q => ∃ (a C dx : Addr) (oe : Obj) (u : HO) (fs : List (Str × V)) (tp : Addr) (cs : List V) (us : List Value) (b : Bool), xs = [.ref a, .ref tp] ∧ H a = some (.frz oe u) ∧ Zc (.ref C) (some dx) oe ∧ (∃ vs, oe.data = .fields vs) ∧ H dx = some (.xd fs) ∧ ExF K C ∧
  H tp = some (.tup cs) ∧ Paired ClsV cs us ∧ PySem.W.kitAny K (.ref C) us = some b ∧ Q (.bl b) H
theorem ExF.kit {K : Frag} {C : Addr} (f : ExF K C) (x : Addr) (ox od : Obj) : PySem.W.KitX K (.ref x) (.ref C) (fun h => PySem.W.InstAt h x ox C (some od)) :=
  PySem.W.kitx_exc f.cls f.ga f.gg f.ex f.ca f.sp f.tk f.mo
section
variable {X : Cx}
theorem call_isX : CallR X (.builtin "isinstance") (rIsX X.K) := by
  intro pins s σ H xs us Q I r h
  obtain ⟨a, C, dx, oe, u, fs, c, cv, b, rfl, h1, hz, hf, hx, F, k, e, q⟩ := h
  obtain ⟨u1, u2, rfl, r1, r2⟩ := vals2 r
  cases (show u1 = Value.ref a from r1)
  have e2 := k.eq r2
  subst e2
  obtain ⟨od, J, _⟩ := exn_inst I h1 hz hf hx
  exact PySem.W.kia_one (F.kit a oe od) I.kIn J e (fun z => nomatch z) fun tk => ⟨.bl b, H, I.tok tk, rfl, q⟩
theorem call_isXT : CallR X (.builtin "isinstance") (rIsXT X.K) := by
  intro pins s σ H xs us Q I r h
  obtain ⟨a, C, dx, oe, u, fs, tp, cs, ws, b, rfl, h1, hz, hf, hx, F, hT, k, e, q⟩ := h
  obtain ⟨u1, u2, rfl, r1, r2⟩ := vals2 r
  cases (show u1 = Value.ref a from r1)
  cases (show u2 = Value.ref tp from r2)
  obtain ⟨od, J, _⟩ := exn_inst I h1 hz hf hx
  obtain ⟨_, its, rv, o, g1, g2, n, g3⟩ := (show ObjOk X.prog X.w H s.heap tp (.tup cs) from I.hok tp _ hT)
  have e3 := ClsV.all k rv
  subst e3
  obtain ⟨oc, od', dt, sl⟩ := o
  simp only at g2 g3
  subst g2 g3
  exact PySem.W.kia_tup (F.kit a oe od) I.kIn J g1 e (fun z => nomatch z) fun tk => ⟨.bl b, H, I.tok tk, rfl, q⟩
end
/-- names of classes, written one behind the other -/
abbrev tCs (vs : List V) : TA := fun _ H Q => Q vs H
def CLs (X : Cx) (names xs : List Str) (es : List Expr) : Prop := ∀ tb, tb.map (·.1) = names → ErrTab X.K X.mg tb → ∃ vs us, PA X es (tCs vs) ∧ vs.length = xs.length ∧ Paired ClsV vs us ∧ ∀ c C, (c, C) ∈ tb → PySem.W.kitAny X.K (.ref C) us = some (xs.any (subC c))
section
variable {X : Cx} {W : Option WX} {names xs : List Str} {es : List Expr} {a : Expr} {ma : T} {pos : Pos}
theorem kitAny_cons' {K : Frag} {t c : Value} {cs : List Value} {b r : Bool} (h : PySem.W.kitOne K t c = some b) (hr : PySem.W.kitAny K t cs = some r) : PySem.W.kitAny K t (c :: cs) = some (b || r) := by
  refine kitAny_cons h (fun e => ?_) fun e => ?_
  · rw [e]; exact hr
  · rw [e]; rfl
theorem cls_nil : CLs X names [] [] := fun tb _ _ => ⟨[], [], PA.to pa_nil fun σ H Q h => h, rfl, .nil, fun _ _ _ => kitAny_nil⟩
theorem cls_own {y : Str} {p : Pos} (h : CLs X names xs es) (hy : y ∈ names := by decide +kernel) (hg : Gl X y := by rfl) (hd : (y == ("__debug__" : Str)) = false := by decide) (hs : starEach (.Name y p :: es) X.env = (false, eval (.Name y p) X.env) :: starEach es X.env := by rfl) : CLs X names (y :: xs) (.Name y p :: es) := by
  intro tb hn T
  obtain ⟨vs, us, h1, hl, h2, h3⟩ := h tb hn T
  obtain ⟨C, hC⟩ := Tb.at hn hy
  refine ⟨.ref C :: vs, .ref C :: us, PA.to (pa_cons (pe_glob hg (T.mg_ _ hC) (show RelV (.ref C) (.ref C) from rfl) hd) h1 hs) fun σ H Q h => h, by simp [hl], .cons (.own C) h2, fun c D hD => ?_⟩
  rw [List.any_cons]
  exact kitAny_cons' (T.one hD hC) (h3 c D hD)
theorem cls_val {p : Pos} (h : CLs X names xs es) (hm : X.mg "ValueError" = none) (hg : Gl X "ValueError" := by rfl) (hs : starEach (.Name "ValueError" p :: es) X.env = (false, eval (.Name "ValueError" p) X.env) :: starEach es X.env := by rfl) : CLs X names ("ValueError" :: xs) (.Name "ValueError" p :: es) := by
  intro tb hn T
  obtain ⟨vs, us, h1, hl, h2, h3⟩ := h tb hn T
  refine ⟨.ty "ValueError" :: vs, .type "ValueError" :: us, PA.to (pa_cons (pe_bltn hg hm (by decide +kernel) (show L2.RelV (.ty "ValueError") (.type "ValueError") from rfl) (by decide) (by decide)) h1 hs) fun σ H Q h => h, by simp [hl], .cons (.ty _) h2, fun c D hD => ?_⟩
  rw [List.any_cons]
  exact kitAny_cons' (T.val hD) (h3 c D hD)
theorem exn_inv {K : Frag} {H : Hp} {F : Fz} {v : V} {c : Str} {d : D} {us : List Addr} (r : Rep K H F v (.exn c d) us) : ∃ (a C dx : Addr) (oe : Obj) (u : HO) (w : V), v = .ref a ∧ H a = some (.frz oe u) ∧ Zc (.ref C) (some dx) oe ∧ (∃ vs, oe.data = .fields vs) ∧ ClsAt K c C ∧ H dx = some (.xd [("at", w)]) ∧ Rep K H F w d us := by
  cases r with
  | exn h l =>
    obtain ⟨C, dx, oe, u, h1, h2, h3, h4, h5⟩ := h
    exact ⟨_, C, dx, oe, u, _, rfl, h1, h2, h3, h4, h5, l⟩
theorem post_isx {K : Frag} {mg : Str → Option Value} {H : Hp} {F : Fz} {us : List Addr} {v : V} {d : D} {Q : VK} {E : Option XK} (w : Wf F H) (r : Rep K H F v d us) (hp : Post K mg (RpV K) H F us (isxD names xs d) Q E) :
    ∃ (a C dx : Addr) (oe : Obj) (u : HO) (w : V) (c : Str), v = .ref a ∧ H a = some (.frz oe u) ∧ Zc (.ref C) (some dx) oe ∧ (∃ vs, oe.data = .fields vs) ∧ ClsAt K c C ∧ H dx = some (.xd [("at", w)]) ∧ c ∈ names ∧ ∀ H', Same H H' → Q (.bl (xs.any (subC c))) H' := by
  cases d with
  | exn c d =>
    obtain ⟨a, C, dx, oe, u, y, e, h1, h2, h3, h4, h5, _⟩ := exn_inv r
    unfold isxD at hp
    dsimp only at hp
    split at hp
    · rename_i hc
      exact ⟨a, C, dx, oe, u, y, c, e, h1, h2, h3, h4, h5, hc, fun H' s => hp _ H' F [] s Grow.refl (w.same s) (.bl _) (by simp) fun _ z => nomatch z⟩
    · exact hp.elim
  | _ => exact hp.elim
theorem ve_isX {y : Str} {p1 p2 : Pos} (TB : Tb X.K X.mg names) (hm : X.mg "isinstance" = none) (ha : VE X W a ma) (hc : CLs X names [y] [.Name y p2]) (hg : Gl X "isinstance" := by rfl)
    (hs : starEach [a, .Name y p2] X.env = (false, eval a X.env) :: starEach [.Name y p2] X.env := by rfl) (hpl : (backTo pos (starEach [.Name y p2] X.env)).any (·.1) = false := by rfl) :
    VE X W (.Call (.Name "isinstance" p1) [a, .Name y p2] [] pos) (fun env => (ma env).bind (isxD names [y])) := by
  obtain ⟨tb, hn, T⟩ := TB
  obtain ⟨vs, us, h1, hvl, h2, h3⟩ := hc tb hn T
  refine PE.to (pe_callB call_isX hg hm (by decide +kernel) (pa_cons ha h1 hs) (by decide) (by decide) hs hpl) fun σ H Q h => ?_
  refine tT_first h fun F env d v H1 F1 us1 he s1 g1 w1 r1 n1 f1 hp1 => ?_
  obtain ⟨a, C, dx, oe, u, y, c, rfl, g1, g2, g3, g4, g5, hcn, q⟩ := post_isx w1 r1 hp1
  obtain ⟨C', hC⟩ := Tb.at hn hcn
  have e := T.same hC g4
  subst e
  show rIsX X.K (.ref a :: vs) H1 Q
  have hk := h3 c _ hC
  match vs, us, h2, hvl with
  | [v1], [u1], .cons k .nil, _ =>
    refine ⟨a, _, dx, oe, u, _, v1, u1, _, rfl, g1, g2, g3, g5, T.fx _ hC, k, ?_, q _ (Same.refl _)⟩
    unfold PySem.W.kitAny at hk
    split at hk
    · rename_i hh; rw [hh]; exact hk
    · rename_i hh; rw [hh]; unfold PySem.W.kitAny at hk; exact hk
    · cases hk
theorem ve_isXT {es : List Expr} {x1} {p1 p2 : Pos} (TB : Tb X.K X.mg names) (hm : X.mg "isinstance" = none) (ha : VE X W a ma) (hc : CLs X names xs es) (hg : Gl X "isinstance" := by rfl)
    (hs : starEach [a, .Tuple es x1 p2] X.env = (false, eval a X.env) :: starEach [.Tuple es x1 p2] X.env := by rfl) (hs2 : starEach [.Tuple es x1 p2] X.env = (false, eval (.Tuple es x1 p2) X.env) :: starEach [] X.env := by rfl) (hpl : (backTo pos (starEach [.Tuple es x1 p2] X.env)).any (·.1) = false := by rfl) (hl : xs.length ≤ 100 := by decide) :
    VE X W (.Call (.Name "isinstance" p1) [a, .Tuple es x1 p2] [] pos) (fun env => (ma env).bind (isxD names xs)) := by
  obtain ⟨tb, hn, T⟩ := TB
  obtain ⟨vs, us, h1, hvl, h2, h3⟩ := hc tb hn T
  refine PE.to (pe_callB call_isXT hg hm (by decide +kernel) (pa_cons ha (pa_cons (pe_tup h1) pa_nil hs2) hs) (by decide) (by decide) hs hpl) fun σ H Q h => ?_
  refine tT_first h fun F env d v H1 F1 us1 he s1 g1 w1 r1 n1 f1 hp1 => ?_
  obtain ⟨a, C, dx, oe, u, y, c, rfl, g1, g2, g3, g4, g5, hcn, q⟩ := post_isx w1 r1 hp1
  obtain ⟨C', hC⟩ := Tb.at hn hcn
  have e := T.same hC g4
  subst e
  refine ⟨le_line (by rw [hvl]; omega), fun p hp => ?_⟩
  have s := same_new (o := HO.tup vs) hp
  exact ⟨a, _, dx, oe, u, _, p, vs, us, _, rfl, s _ _ g1, g2, g3, s _ _ g5, T.fx _ hC, upd_same, h2, h3 c _ hC, q _ s⟩
theorem ve_isinst2 (t1 t2 : Ty) {y1 y2 : Str} {x1} {p1 p2 p3 p4 : Pos} (hg : Gl X "isinstance" := by rfl) (hm : X.mg "isinstance" = none) (hm1 : X.mg y1 = none) (hm2 : X.mg y2 = none) (ha : VE X W a ma) (hg1 : Gl X y1 := by rfl) (hg2 : Gl X y2 := by rfl)
    (hb1 : bootBuiltins y1 = some (.type t1.name) := by decide +kernel) (hb2 : bootBuiltins y2 = some (.type t2.name) := by decide +kernel)
    (hy1 : y1 ≠ "__name__" := by decide) (hz1 : (y1 == ("__debug__" : Str)) = false := by decide) (hy2 : y2 ≠ "__name__" := by decide) (hz2 : (y2 == ("__debug__" : Str)) = false := by decide)
    (he1 : starEach [.Name y1 p3, .Name y2 p4] X.env = (false, eval (.Name y1 p3) X.env) :: starEach [.Name y2 p4] X.env := by rfl) (he2 : starEach [.Name y2 p4] X.env = (false, eval (.Name y2 p4) X.env) :: starEach [] X.env := by rfl)
    (hs : starEach [a, .Tuple [.Name y1 p3, .Name y2 p4] x1 p2] X.env = (false, eval a X.env) :: starEach [.Tuple [.Name y1 p3, .Name y2 p4] x1 p2] X.env := by rfl) (hs2 : starEach [.Tuple [.Name y1 p3, .Name y2 p4] x1 p2] X.env = (false, eval (.Tuple [.Name y1 p3, .Name y2 p4] x1 p2) X.env) :: starEach [] X.env := by rfl) (hpl : (backTo pos (starEach [.Tuple [.Name y1 p3, .Name y2 p4] x1 p2] X.env)).any (·.1) = false := by rfl) :
    VE X W (.Call (.Name "isinstance" p1) [a, .Tuple [.Name y1 p3, .Name y2 p4] x1 p2] [] pos) (fun env => (ma env).bind fun d => if isExn d = true then .bad else .ok (.bl (isD' t1 d || isD' t2 d))) := by
  refine PE.to (pe_callB call_isiT hg hm (by decide +kernel) (pa_cons ha (pa_cons (pe_tup (pa_cons (pe_bltn hg1 hm1 hb1 (show L2.RelV (.ty t1.name) (.type t1.name) from rfl) hy1 hz1) (pa_cons (pe_bltn hg2 hm2 hb2 (show L2.RelV (.ty t2.name) (.type t2.name) from rfl) hy2 hz2) pa_nil he2) he1)) pa_nil hs2) hs) (by decide) (by decide) hs hpl) fun σ H Q h => ?_
  refine tT_first h fun F env d v H1 F1 us1 he s1 g1 w1 r1 n1 f1 hp1 => ?_
  split at hp1
  · exact hp1.elim
  · rename_i ne
    refine ⟨le_line (by simp), fun p hp => ?_⟩
    have s := same_new (o := HO.tup [.ty t1.name, .ty t2.name]) hp
    refine ⟨v, p, _, _, [.type t1.name, .type t2.name], _, rfl, upd_same, .cons (.ty _) (.cons (.ty _) .nil), (r1.same s fun _ h => h).ty (by simpa using ne), ?_, hp1 _ _ F1 [] s Grow.refl (w1.same s) (.bl _) (by simp) fun _ z => nomatch z⟩
    refine kitAny_cons (kit_ty (kit_D t1 d)) (fun h1 => ?_) (fun h1 => by simp [h1])
    rw [h1, Bool.false_or]
    exact kitAny_cons (kit_ty (kit_D t2 d)) (fun h2 => by rw [h2]; exact kitAny_nil) (fun h2 => h2)
/-- e.at -/
def tAt (te : TE) (K : Frag) : TE := fun σ H Q => te σ H fun x H1 => ∃ (a C dx : Addr) (oe : Obj) (u : HO) (v : V), x = .ref a ∧ H1 a = some (.frz oe u) ∧ Zc (.ref C) (some dx) oe ∧ (∃ vs, oe.data = .fields vs) ∧ H1 dx = some (.xd [("at", v)]) ∧ ExF K C ∧ Q v H1
theorem pe_at {e : Expr} {te : TE} {pos : Pos} (he : PE X e te) (hb : attributeBase e "at" X.env (eval e X.env) = eval e X.env := by rfl) : PE X (.Attribute e "at" pos) (tAt te X.K) := by
  refine ⟨fun pins s σ H Q I h => ?_⟩
  refine attr_of hb (thn (he.run pins s σ H _ I h) fun u s1 hh => ?_)
  obtain ⟨x, H1, I1, rx, a, C, dx, oe, uo, v, ex, h1, hz, hf, hx, T, q⟩ := hh
  subst ex
  obtain rfl : u = Value.ref a := rx
  obtain ⟨od, J, hr⟩ := exn_inst I1 h1 hz hf hx
  obtain ⟨w, hw, rw_⟩ := RelO.some_of (v := v) (o := match PySem.W.lookIn "at" od with | some y => y | none => none) (hr "at")
  have hl : PySem.W.lookIn "at" od = some (some w) := by
    split at hw
    · rename_i y e; rw [e, hw]
    · cases hw
  exact HandSPX.exc_get I1.kIn J T.ga T.gg T.ex (PySem.W.findObj_own T.hd T.at_ rfl hl) (handed_of rw_) ⟨v, H1, I1.tok _, rw_, q⟩
theorem ve_at {pos : Pos} (TB : Tb X.K X.mg names) (ha : VE X W a ma) (hb : attributeBase a "at" X.env (eval a X.env) = eval a X.env := by rfl) : VE X W (.Attribute a "at" pos) (fun env => (ma env).bind (atD names)) := by
  obtain ⟨tb, hn, T⟩ := TB
  refine PE.to (pe_at ha hb) fun σ H Q h => ?_
  refine tT_first h fun F env d v H1 F1 us1 he s1 g1 w1 r1 n1 f1 hp1 => ?_
  cases d with
  | exn c d =>
    obtain ⟨a, C, dx, oe, u, y, rfl, h1, h2, h3, h4, h5, r⟩ := exn_inv r1
    unfold atD at hp1
    dsimp only at hp1
    split at hp1
    · rename_i hc
      obtain ⟨C', hC⟩ := Tb.at hn hc
      have e := T.same hC h4
      subst e
      exact ⟨a, _, dx, oe, u, y, rfl, h1, h2, h3, h5, T.fx _ hC, post_here hp1 w1 r n1 fun a ha => ⟨(f1 a ha).1, ha⟩⟩
    · exact hp1.elim
  | _ => exact hp1.elim
end

def offAt (i : Nat) : Fl → Fl
  | .nx e => .nx (e.set i none) | .bk e => .bk (e.set i none) | .ct e => .ct (e.set i none)
  | .rt d => .rt d
  | .exc _ _ _ => .bad | .bad => .bad
def tryM (names : List Str) (x : Str) (i : Nat) (mb ms : Env → Fl) (env : Env) : Fl := match mb env with
  | .exc c d e => if c ∈ names then (if subC c x = true then (if i < e.length then offAt i (ms (e.set i (some (.exn c d)))) else .bad) else .exc c d e) else .bad
  | r => r
/-- except x: -/
def onlyM : Fl → Fl
  | .exc _ _ _ => .bad
  | r => r
def tryN (names : List Str) (x : Str) (mb ms : Env → Fl) (env : Env) : Fl := match mb env with
  | .exc c d e => if c ∈ names then (if subC c x = true then onlyM (ms e) else .exc c d e) else .bad
  | r => r
section
variable {K : Frag} {mg : Str → Option Value} {H0 H H' : Hp} {F0 : Ent} {F F' : Fz} {σ : L2.St} {env : Env} {us : List Addr}
theorem Slots.gone : ∀ {σ : L2.St} {env : Env} {us : List Addr} (i : Nat), Slots K H F σ env us → ∃ us', Slots K H F (σ.set i Option.none) (env.set i Option.none) us' ∧ Less us' us
  | _, _, _, _, .nil => ⟨_, .nil, .refl⟩
  | _, _, _, 0, .off s => ⟨_, .off s, .refl⟩
  | _, _, _, 0, .on r s => ⟨_, .off s, .of (List.sublist_append_right _ _)⟩
  | _, _, _, i + 1, .off s => by
    obtain ⟨u, h, l⟩ := s.gone i
    exact ⟨u, .off h, l⟩
  | _, _, _, i + 1, .on r s => by
    obtain ⟨u, h, l⟩ := s.gone i
    exact ⟨_, .on r h, .app .refl l⟩
theorem Good.gone {i : Nat} (g : Good K H0 F0 H F σ env us) (hpn : NoPin F0.ix i) : ∃ us', Good K H0 F0 H F (σ.set i none) (env.set i none) us' := by
  obtain ⟨us', h1, h2⟩ := g.sl.gone i
  exact ⟨us', g.same, g.sub, g.new, g.wf, h1, h2.nod g.nod, fun a ha => g.fresh a (h2.sub a ha), pin_set g.pin hpn⟩
theorem postS_off {i : Nat} {r : Fl} {W : Option WX} {Q : Ends} (hpn : NoPin F0.ix i) (h : PostS K mg H0 F0 W (offAt i r) Q) : PostS K mg H0 F0 none r
    { nx := fun σ' H' => Q.nx (σ'.set i none) H', rt := Q.rt, bk := fun σ' H' => Q.bk (σ'.set i none) H', ct := fun σ' H' => Q.ct (σ'.set i none) H' } := by
  cases r with
  | nx e => intro σ' H' F' us' g; obtain ⟨u, g'⟩ := g.gone hpn; exact h _ _ _ _ g'
  | bk e => intro σ' H' F' us' g; obtain ⟨u, g'⟩ := g.gone hpn; exact h _ _ _ _ g'
  | ct e => intro σ' H' F' us' g; obtain ⟨u, g'⟩ := g.gone hpn; exact h _ _ _ _ g'
  | rt d => exact h
  | exc c d e => exact h.elim
  | bad => exact h.elim
theorem postS_only {r : Fl} {W : Option WX} {Q : Ends} (h : PostS K mg H0 F0 W (onlyM r) Q) : PostS K mg H0 F0 none r Q := by
  cases r with
  | exc c d e => exact h.elim
  | _ => exact h
end
section
variable {X : Cx} {H0 : Hp} {F0 : Ent} {W : WX} {names : List Str} {body suite : List Stmt} {b₀ : Stmt} {mb ms : Env → Fl} {x n : Str} {np pos' pos : Pos}
theorem vs_try (TB : Tb X.K X.mg names) (i : Nat) (hN : X.N.Nodup) (tk : Takes X W)
    (hb : ∀ (W' : WX) (pn : List (Addr × Obj)) (xe : Value → Shared → Prop), Takes (X.tr pn xe) W' → PassesOwn (model X.prog X.w) X.A X.env xe → VSs (X.tr pn xe) H0 F0 (some W') body mb)
    (hsu : ∀ (a : Addr) (pn : List (Addr × Obj)), VSs (X.suite a pn) H0 F0 none (b₀ :: suite) ms)
    (hx : x ∈ names := by decide +kernel) (hex : X.ex = [] := by rfl) (hs : X.stack = X.env :: X.outer := by rfl) (hf : X.env.frame = some X.env.locals := by rfl) (hi : X.N[i]? = some n := by rfl) (hln : X.env.kindOf n = some .local := by rfl)
    (hg : Gl X x := by rfl) (hd : (x == ("__debug__" : Str)) = false := by decide) (hpn : noPinB F0.ix [i] = true := by rfl) :
    VS X H0 F0 (some W) (.Try body [.ExceptHandler (some (.Name x np)) (some n) (b₀ :: suite) pos'] [] [] pos) (tryM names x i mb ms) := by
  obtain ⟨tb, hn, T⟩ := TB
  obtain ⟨Cx', hCx⟩ := Tb.at hn hx
  have hpi := noPin_of hpn i (by simp)
  refine PS.to (ps_try_ex (tb := fun W' => tS X.K X.mg H0 F0 (some W') mb) (ts := tS X.K X.mg H0 F0 Option.none ms) hex hs hf hN hi hln ⟨hg, hd, .inl (T.mg_ _ hCx)⟩ tk (fun W' pn xe t po => hb W' pn xe t po) (fun a pn => hsu a pn)) fun Q σ H ⟨F, env, us, g, hp⟩ => ⟨F, env, us, g, ?_⟩
  replace hp : PostS X.K X.mg H0 F0 (some W) (tryM names x i mb ms env) Q := hp
  unfold tryM at hp
  show PostS X.K X.mg H0 F0 _ (mb env) Q
  cases q : mb env with
  | exc c d e =>
    rw [q] at hp
    dsimp only at hp
    split at hp
    · rename_i hc
      refine ⟨_, rfl, fun σ' H' F' us' C dx v g' hcl hdx r => ?_⟩
      obtain ⟨C', hC⟩ := Tb.at hn hc
      have ee := T.same hC hcl
      subst ee
      refine ⟨_, T.exm hC hCx, fun hb a oe ha hz hf' => ?_, fun hb => ?_⟩
      · rw [if_pos hb] at hp
        split at hp
        · rename_i hl
          have s := same_new (o := HO.frz oe exU) ha
          obtain ⟨u2, g2⟩ := (g'.keep s).set hpi hl (v := .ref a) (.exn (c := c) (v := v) ⟨C, dx, oe, exU, upd_same, hz, hf', hcl, s _ _ hdx⟩ (r.same s fun _ h => h)) (by simpa using (g'.nod)) (fun _ z => nomatch z)
          exact ⟨F', _, u2, g2, postS_off hpi hp⟩
        · exact hp.elim
      · rw [if_neg (by rw [hb]; exact Bool.false_ne_true)] at hp
        obtain ⟨W', e1, h⟩ := hp
        cases e1
        exact h σ' H' F' us' C dx v g' hcl hdx r
    · exact hp.elim
  | _ => rw [q] at hp; exact hp
theorem vs_tryN (TB : Tb X.K X.mg names) (tk : Takes X W)
    (hb : ∀ (W' : WX) (pn : List (Addr × Obj)) (xe : Value → Shared → Prop), Takes (X.tr pn xe) W' → PassesOwn (model X.prog X.w) X.A X.env xe → VSs (X.tr pn xe) H0 F0 (some W') body mb)
    (hsu : ∀ (a : Addr) (pn : List (Addr × Obj)), VSs (X.suite a pn) H0 F0 none (b₀ :: suite) ms)
    (hx : x ∈ names := by decide +kernel) (hs : X.stack = X.env :: X.outer := by rfl) (hf : X.env.frame = some X.env.locals := by rfl)
    (hg : Gl X x := by rfl) (hd : (x == ("__debug__" : Str)) = false := by decide) :
    VS X H0 F0 (some W) (.Try body [.ExceptHandler (some (.Name x np)) none (b₀ :: suite) pos'] [] [] pos) (tryN names x mb ms) := by
  obtain ⟨tb, hn, T⟩ := TB
  obtain ⟨Cx', hCx⟩ := Tb.at hn hx
  refine PS.to (ps_try_only (tb := fun W' => tS X.K X.mg H0 F0 (some W') mb) (ts := fun _ _ _ => tS X.K X.mg H0 F0 Option.none ms) hs hf ⟨hg, hd, .inl (T.mg_ _ hCx)⟩ tk (fun W' pn xe t po => hb W' pn xe t po) (fun a oe cls d pn _ _ => hsu a ((a, oe) :: pn))) fun Q σ H ⟨F, env, us, g, hp⟩ => ⟨F, env, us, g, ?_⟩
  replace hp : PostS X.K X.mg H0 F0 (some W) (tryN names x mb ms env) Q := hp
  unfold tryN at hp
  show PostS X.K X.mg H0 F0 _ (mb env) Q
  cases q : mb env with
  | exc c d e =>
    rw [q] at hp
    dsimp only at hp
    split at hp
    · rename_i hc
      refine ⟨_, rfl, fun σ' H' F' us' C dx v g' hcl hdx r => ?_⟩
      obtain ⟨C', hC⟩ := Tb.at hn hc
      have ee := T.same hC hcl
      subst ee
      refine ⟨_, T.exm hC hCx, fun hb a ha => ?_, fun hb => ?_⟩
      · rw [if_pos hb] at hp
        exact ⟨F', _, us', g', postS_only hp⟩
      · rw [if_neg (by rw [hb]; exact Bool.false_ne_true)] at hp
        obtain ⟨W', e1, h⟩ := hp
        cases e1
        exact h σ' H' F' us' C dx v g' hcl hdx r
    · exact hp.elim
  | _ => rw [q] at hp; exact hp
end
abbrev tIsx (names xs : List Str) (a : T) : T := fun env => (a env).bind (isxD names xs)
abbrev tAt' (names : List Str) (a : T) : T := fun env => (a env).bind (atD names)
theorem al_nil {α : Type} {P : α → Prop} : ∀ p ∈ ([] : List α), P p := fun _ z => nomatch z
theorem al_cons {α : Type} {P : α → Prop} {a : α} {l : List α} (h : P a) (t : ∀ p ∈ l, P p) : ∀ p ∈ a :: l, P p := fun p hp => by
  rcases List.mem_cons.mp hp with e | e
  · rw [e]; exact h
  · exact t p e
end VL
end

section
set_option Elab.async false
set_option linter.all false
set_option maxRecDepth 100000
set_option maxHeartbeats 2000000
namespace VL
open PySem PySem.W PySem.Spec PyProof.Rows L2
mutual
theorem sto_wipe {K : Frag} {H : Hp} {vs : List Nat} : ∀ (p : Pat) (v : V) (σ σ' : L2.St), Sto K H p v σ σ' → (∀ i ∈ p.slots, i ∈ vs) → wipe σ' vs = wipe σ vs
  | .name i, v, σ, σ', h, hv => by
    simp only [Sto] at h
    rw [h]
    exact wipe_set vs (hv i (by simp [Pat.slots]))
  | .tup ps, v, σ, σ', h, hv => by
    simp only [Sto] at h
    obtain ⟨a, xs, _, _, _, h⟩ := h
    exact stoL_wipe ps xs σ σ' h (by simpa [Pat.slots] using hv)
theorem stoL_wipe {K : Frag} {H : Hp} {vs : List Nat} : ∀ (ps : List Pat) (xs : List V) (σ σ' : L2.St), StoL K H ps xs σ σ' → (∀ i ∈ slotsL ps, i ∈ vs) → wipe σ' vs = wipe σ vs
  | [], xs, σ, σ', h, hv => by
    simp only [StoL] at h
    rw [h.2]
  | p :: ps, xs, σ, σ', h, hv => by
    simp only [StoL] at h
    obtain ⟨v, vs', σ1, _, h1, h2⟩ := h
    rw [stoL_wipe ps _ σ1 σ' h2 fun i hi => hv i (by simp [slotsL, hi]), sto_wipe p _ σ σ1 h1 fun i hi => hv i (by simp [slotsL, hi])]
end
def lcK (p : Pat) (vs : List Nat) (me : Env → RK D) : List D → Env → RK (List D)
  | [], e => .ok [] e
  | d :: ds, e => match bindP p d (wipeD e vs) with
    | .ok e1 => (match me e1 with
      | .ok r e2 => (match lcK p vs me ds e2 with
        | .ok rs e3 => .ok (r :: rs) e3
        | _ => .bad)
      | _ => .bad)
    | _ => .bad
def finK (vs : List Nat) (da : List D) : RK (List D) → RK D
  | .ok rs e => if (da ++ rs).length ≤ LIM then .ok (.lst true (da ++ rs)) (wipeD e vs) else .bad
  | _ => .bad
/-- [e for x in xs], where e may change what the slots hold; what the own slots held is forgotten -/
def kLc (p : Pat) (vs : List Nat) (mi : Env → RK (List D)) (me : Env → RK D) (env : Env) : RK D := (mi env).bind fun ds e => finK vs [] (lcK p vs me ds e)
section
variable {K : Frag} {mg : Str → Option Value} {H0 H H1 : Hp} {F0 : Ent} {F F1 : Fz} {σ : L2.St} {env : Env} {us pd : List Addr} {W : Option WX}
theorem Good.gone' {i : Nat} (g : Good K H0 F0 H F σ env us) (hpn : NoPin F0.ix i) : ∃ us', Good K H0 F0 H F (σ.set i Option.none) (env.set i Option.none) us' ∧ Less us' us := by
  obtain ⟨us', h1, h2⟩ := g.sl.gone i
  exact ⟨us', ⟨g.same, g.sub, g.new, g.wf, h1, h2.nod g.nod, fun a ha => g.fresh a (h2.sub a ha), pin_set g.pin hpn⟩, h2⟩
theorem Good.wiped (g : Good K H0 F0 H F σ env us) : ∀ vs : List Nat, (∀ i ∈ vs, NoPin F0.ix i) → ∃ us', Good K H0 F0 H F (wipe σ vs) (wipeD env vs) us' ∧ Less us' us
  | [], _ => ⟨us, g, .refl⟩
  | v :: vs, h => by
    obtain ⟨u1, g1, l1⟩ := Good.wiped g vs fun i hi => h i (by simp [hi])
    obtain ⟨u2, g2, l2⟩ := g1.gone' (i := v) (h v (by simp))
    exact ⟨u2, g2, l2.trans l1⟩
theorem Pend.less {us' : List Addr} (p : Pend H0 F H us pd) (l : Less us' us) : Pend H0 F H us' pd := ⟨(Less.app .refl l).nod p.nod, p.fresh⟩
theorem Slots.swap : ∀ {σ : L2.St} {env : Env} {us : List Addr} {σ' : L2.St}, Slots K H F σ env us → σ'.length = σ.length → (∀ (i : Nat) (d : D), env[i]? = some (some d) → σ'[i]? = σ[i]?) → Slots K H F σ' env us
  | _, _, _, [], .nil, _, _ => .nil
  | _, _, _, y :: σ', .off s, hl, h => .off (s.swap (by simpa using hl) fun i d e => by simpa using h (i + 1) d (by simpa using e))
  | _, _, _, y :: σ', .on (v := v) (d := d) r s, hl, h => by
    have e : y = some v := by simpa using h 0 d rfl
    subst e
    exact .on r (s.swap (by simpa using hl) fun i d e => by simpa using h (i + 1) d (by simpa using e))
theorem wipe_len (σ : L2.St) : ∀ vs : List Nat, (wipe σ vs).length = σ.length
  | [] => rfl
  | v :: vs => by unfold wipe; rw [List.length_set, wipe_len σ vs]
theorem wipeD_get (env : Env) (i : Nat) : ∀ vs : List Nat, i ∈ vs → ∀ d : D, (wipeD env vs)[i]? ≠ some (some d)
  | v :: vs, h, d => by
    unfold wipeD
    by_cases hv : v = i
    · subst hv
      rw [List.getElem?_set]
      split
      · split <;> exact fun z => by cases z
      · rename_i h; exact absurd rfl h
    · rw [List.getElem?_set_ne hv]
      exact wipeD_get env i vs (by rcases List.mem_cons.mp h with e | e; exact absurd e.symm hv; exact e) d
/-- back behind the comprehension -/
theorem Good.unwiped {vs : List Nat} (g : Good K H0 F0 H F (wipe σ vs) (wipeD env vs) us) (hpin : ∀ p ∈ F0.ix, σ[p.1]? = some (some p.2)) : Good K H0 F0 H F σ (wipeD env vs) us :=
  ⟨g.same, g.sub, g.new, g.wf, g.sl.swap (wipe_len σ vs).symm fun i d e => by
    rw [wipe_get, if_neg fun z => wipeD_get env i vs z d e], g.nod, g.fresh, hpin⟩
theorem Good.touch {a : Addr} {acc acc' : List V} (g : Good K H0 F0 H F σ env us) (h : H a = some (.lst acc)) (ha : a ∉ us) (hF : ¬ F a) (h0 : H0 a = none) : Good K H0 F0 (upd H a (.lst acc')) F σ env us := by
  have kp : Keep F us H (upd H a (.lst acc')) := fun b o hb hk => by
    rw [upd_ne fun z => ?_]
    · exact hb
    · subst z
      rcases hk with hk | hk | hk
      · exact hF hk
      · exact ha hk
      · rw [h] at hb; cases hb; exact hk trivial
  refine ⟨fun b o hb => ?_, g.sub, g.new, fun b hb => ?_, g.sl.keep kp fun _ h => h, g.nod, g.fresh, g.pin⟩
  · rw [upd_ne fun z => by subst z; rw [h0] at hb; cases hb]
    exact g.same b o hb
  · by_cases hz : b = a
    · subst hz; exact absurd hb hF
    · rw [upd_ne hz]; exact g.wf b hb
theorem klc_reads {p : Pat} {vs : List Nat} {mi : Env → RK (List D)} {me : Env → RK D} {Q : VK} (hp : ∀ i ∈ p.slots, i ∈ vs) (hpn : ∀ i ∈ vs, NoPin F0.ix i) (h : tK K mg H0 F0 W (RpV K) (kLc p vs mi me) σ H Q) :
    tLc (tK K mg H0 F0 W (RpI K) mi) (gP K p) tYes (tK K mg H0 F0 Option.none (RpV K) me) vs σ H Q := by
  refine tK_first (m := mi) (k := fun ds e => finK vs [] (lcK p vs me ds e)) h fun ds J H1 F F1 e us1 pd ux g1 r1 p1 k1 f1 hp1 => ?_
  obtain ⟨jr, rfl⟩ := r1
  rw [List.append_nil] at p1
  intro D0 hD
  have h00 : H0 D0 = none := g1.same.free hD
  have hDF : ¬ F1 D0 := g1.wf.not hD
  have hDu : ∀ {l : List Addr}, (∀ a ∈ l, H1 a ≠ none) → D0 ∉ l := fun hl z => hl D0 z hD
  have s0 := same_new (o := HO.lst ([] : List V)) hD
  obtain ⟨u0, g0, l0⟩ := (g1.keep s0).wiped vs hpn
  refine ⟨fun i m Hc => m = ds.length - i ∧ i ≤ ds.length ∧ ∃ acc da ua ec Fc uc, Hc D0 = some (.lst acc) ∧ Good K H0 F0 Hc Fc (wipe σ vs) (wipeD ec vs) uc ∧ RepL K Hc Fc acc da ua ∧ Pend H0 Fc Hc uc (pd ++ (D0 :: ua)) ∧ Keep F1 pd H1 Hc ∧ (∀ a, F1 a → Fc a) ∧
    PostK K mg H0 F0 W (RpV K) σ H F pd (finK vs da (lcK p vs me (ds.drop i) ec)) Q, ⟨ds.length, by simp, Nat.zero_le _, [], [], [], e, F1, u0, upd_same, g0, .nil, ?_, Keep.same s0, fun _ h => h, by simpa using hp1⟩, ?_⟩
  · have pp := (p1.keep s0).less l0
    refine ⟨?_, fun a ha => ?_⟩
    · rw [List.append_assoc]
      obtain ⟨n1, n2, n3⟩ := List.nodup_append.mp pp.nod
      refine List.nodup_append.mpr ⟨n1, List.nodup_cons.mpr ⟨fun z => g1.nn D0 (l0.sub D0 (by simpa using z)) hD, by simpa using n2⟩, fun a ha b hb e => ?_⟩
      rcases List.mem_cons.mp hb with hb | hb
      · exact (p1.fresh a ha).2.2 (by rw [e, hb]; exact hD)
      · exact n3 a ha b (by simpa using hb) e
    · rcases List.mem_append.mp ha with ha | ha
      · exact pp.fresh a ha
      · obtain rfl := List.mem_singleton.mp ha
        exact ⟨hDF, h00, by rw [upd_same]; exact fun z => by cases z⟩
  rintro i m Hc ⟨rfl, hil, acc, da, ua, ec, Fc, uc, hacc, gc, rl, pc, kc, fc, hpc⟩
  have kc0 : Keep F1 [] H1 Hc := kc.mono (fun a ha => by cases ha)
  by_cases hlt : i < ds.length
  · refine .inr ⟨jr.go Hc i kc0 hlt, fun H' => i + 1 ≤ ds.length ∧ ∃ acc da ua ec Fc uc, H' D0 = some (.lst acc) ∧ Good K H0 F0 H' Fc (wipe σ vs) (wipeD ec vs) uc ∧ RepL K H' Fc acc da ua ∧ Pend H0 Fc H' uc (pd ++ (D0 :: ua)) ∧ Keep F1 pd H1 H' ∧ (∀ a, F1 a → Fc a) ∧
      PostK K mg H0 F0 W (RpV K) σ H F pd (finK vs da (lcK p vs me (ds.drop (i + 1)) ec)) Q, fun H' z => ⟨ds.length - (i + 1), by omega, rfl, z⟩, fun x H' y => ?_⟩
    have hd : ds[i]? = some ds[i] := List.getElem?_eq_getElem hlt
    obtain ⟨s2, rx⟩ := jr.yld Hc Fc i x H' kc0 fc gc.wf y _ hd
    rw [List.drop_eq_getElem_cons hlt] at hpc
    simp only [lcK] at hpc
    have gc2 := gc.keep s2
    cases qb : bindP p ds[i] (wipeD ec vs) with
    | bad => rw [qb] at hpc; exact hpc.elim
    | exc c d => rw [qb] at hpc; exact hpc.elim
    | ok e1 =>
      rw [qb] at hpc
      simp only at hpc
      obtain ⟨σ2, us3, st, g4, l4⟩ := bindP_S p x _ (wipe σ vs) (wipeD ec vs) e1 uc [] gc2 rx (by simpa using gc2.nod) (fun _ z => nomatch z) qb fun j hj => hpn j (hp j hj)
      have hw := sto_wipe p x _ σ2 st hp
      rw [wipe_wipe] at hw
      refine gP_of p x _ σ2 st ⟨by rw [hw], ?_⟩
      unfold tYes
      dsimp only
      rw [if_pos rfl]
      have p4 : Pend H0 Fc H' us3 (pd ++ (D0 :: ua)) := (pc.keep s2).less (by simpa using l4)
      refine ⟨Fc, e1, us3, pd ++ (D0 :: ua), g4, p4, ?_⟩
      cases q3 : me e1 with
      | bad => rw [q3] at hpc; exact hpc.elim
      | exc c d e => rw [q3] at hpc; exact hpc.elim
      | ok r e2 =>
        rw [q3] at hpc
        simp only at hpc
        intro v H4 F4 us4 ux g5 r5 p5 k5 f5
        cases q4 : lcK p vs me (ds.drop (i + 1)) e2 with
        | bad => rw [q4] at hpc; exact hpc.elim
        | exc c d e => rw [q4] at hpc; exact hpc.elim
        | ok rs e3 =>
          rw [q4] at hpc
          simp only [finK] at hpc
          have hlen : (da ++ r :: rs).length ≤ LIM := by
            split at hpc
            · assumption
            · exact hpc.elim
          have acc4 : H4 D0 = some (.lst acc) := k5 _ _ (s2 _ _ hacc) (.inr (.inl (by simp)))
          have hD4 : ¬ F4 D0 ∧ H0 D0 = none ∧ H4 D0 ≠ none := p5.fresh D0 (by simp)
          have nd5 := p5.nod
          have hDus : D0 ∉ us4 := fun z => (List.nodup_append.mp nd5).2.2 D0 (by simp) D0 z rfl
          have hDux : D0 ∉ ux := fun z => by
            have := (List.nodup_append.mp nd5).1
            exact (List.nodup_append.mp this).2.2 D0 (by simp) D0 z rfl
          have hDua : D0 ∉ ua := fun z => by
            have := (List.nodup_append.mp pc.nod).1
            have := (List.nodup_append.mp this).2.1
            exact (List.nodup_cons.mp this).1 z
          have hDpd : D0 ∉ pd := fun z => by
            have := (List.nodup_append.mp pc.nod).1
            exact (List.nodup_append.mp this).2.2 D0 z D0 (by simp) rfl
          obtain ⟨u5, g6, l6⟩ := g5.wiped vs hpn
          rw [hw] at g6
          have kD : ∀ {l : List Addr}, D0 ∉ l → Keep F4 l H4 (upd H4 D0 (.lst (acc ++ [v]))) := fun {l} hl b o hb hk => by
            rw [upd_ne fun z => ?_]
            · exact hb
            · subst z
              rcases hk with hk | hk | hk
              · exact hD4.1 hk
              · exact hl hk
              · rw [acc4] at hb; cases hb; exact hk trivial
          refine ⟨acc, acc4, ?_, hlt, acc ++ [v], da ++ [r], ua ++ (ux ++ []), e2, F4, u5, upd_same, g6.touch acc4 (fun z => hDus (l6.sub _ z)) hD4.1 hD4.2.1, ?_, ?_, ?_, fun a ha => f5 a (fc a ha), ?_⟩
          · rw [rl.length, sizeLine_eq]
            simp only [List.length_append, List.length_cons, LIM] at hlen
            omega
          · refine RepL.append (us := ua) (((rl.same s2 fun _ h => h).keep (k5.mono fun a ha => by simp [ha]) f5).keep (kD hDua) fun _ h => h) (.cons (us := []) (r5.keep (kD hDux) fun _ h => h) .nil)
          · have p6 := p5.less l6
            refine ⟨by simpa [List.append_assoc] using p6.nod, fun a ha => ?_⟩
            have hm : a ∈ (pd ++ (D0 :: ua)) ++ ux := by simpa [List.append_assoc] using ha
            have := p6.fresh a hm
            refine ⟨this.1, this.2.1, ?_⟩
            by_cases hz : a = D0
            · subst hz; rw [upd_same]; exact fun z => by cases z
            · rw [upd_ne hz]; exact this.2.2
          · intro b o hb hk
            rw [upd_ne fun z => by subst z; rw [hD] at hb; cases hb]
            refine k5 b o (s2 b o (kc b o hb hk)) ?_
            rcases hk with hk | hk | hk
            · exact .inl (fc b hk)
            · exact .inr (.inl (by simp [hk]))
            · exact .inr (.inr hk)
          · rw [q4]
            simp only [finK]
            have e : (da ++ [r]) ++ rs = da ++ r :: rs := by simp
            rw [e]
            exact hpc
  · have e : i = ds.length := by omega
    subst e
    refine .inl ⟨jr.stop Hc kc0, ?_⟩
    rw [List.drop_length] at hpc
    simp only [lcK, finK, List.append_nil] at hpc
    split at hpc
    · exact hpc (.ref D0) Hc Fc uc (D0 :: ua) (gc.unwiped g1.pin) (.lstO hacc rl) pc (fun b o hb hk => kc b o (k1 b o hb hk) (hk.imp (f1 b) id)) fun a ha => fc a (f1 a ha)
    · exact hpc.elim
end
section
variable {X : Cx} {H0 : Hp} {F0 : Ent} {W : Option WX}
abbrev KI (X : Cx) (H0 : Hp) (F0 : Ent) (W : Option WX) (tg e : Expr) (m : Env → RK (List D)) : Prop := PI X tg e (tK X.K X.mg H0 F0 W (RpI X.K) m)
theorem ki_r {tg e : Expr} {m : Env → RK (List D)} (h : KIR X H0 F0 W tg e m) : KI X H0 F0 W tg e m := PI.to h fun σ H Q ⟨F, env, us, pd, g, p, hp⟩ => ⟨F, env, us, pd, g, p, by
  cases q : m env with
  | ok x e => rw [q] at hp; exact fun v H' F' us' ux g' r p' k f => hp v H' F' us' ux g' ⟨r.1 _ _, r.2⟩ p' k f
  | exc c d e => rw [q] at hp; exact hp
  | bad => rw [q] at hp; exact hp⟩
theorem ke_lc {elt tg iter : Expr} {scope : Scope} {own : List (Str × Nat)} {vs : List Nat} {pp : Pos} {p : Pat} {mi : Env → RK (List D)} {me : Env → RK D} (hc : X.calm = true) (hN : X.N.Nodup) (hi : KI X H0 F0 W tg iter mi) (ok : BlkOk X.N X.env.scope scope own)
    (hg : ∀ (s : Shared) (H : Hp) (C : Addr) (cl : List (Str × Addr)) (fp : List Addr), VG (X.blk s H scope (compEnvC scope cl C X.env) fp) tg p)
    (he : ∀ (s : Shared) (H : Hp) (C : Addr) (cl : List (Str × Addr)) (fp : List Addr), KE (X.blk s H scope (compEnvC scope cl C X.env) fp) H0 F0 Option.none elt me)
    (hvs : own.map (·.2) = vs := by rfl) (hp : ∀ i ∈ p.slots, i ∈ vs := by decide) (hs : ∀ x, foldedSetIterable iter X.env x = pure x := by intro _; rfl) (hpn : noPinB F0.ix vs = true := by rfl) :
    KE X H0 F0 W (.ListComp elt [⟨tg, iter, [], 0⟩] scope pp) (kLc p vs mi me) := by
  subst hvs
  exact PE.to (pe_lc (g := gP X.K p) (tt := tYes) (te := tK X.K X.mg H0 F0 Option.none (RpV X.K) me) hc hN hi ok hg (fun _ _ _ _ _ => pts_nil) he hs) fun σ H Q h => klc_reads hp (noPin_of hpn) h
end

def intsOf : List D → Option (List Int)
  | [] => some []
  | .int i :: ds => (intsOf ds).map (i :: ·)
  | _ => none
def strsOf : List D → Option (List Str)
  | [] => some []
  | .str i :: ds => (strsOf ds).map (i :: ·)
  | _ => none
section
variable {K : Frag} {mg : Str → Option Value} {H : Hp} {F : Fz}
theorem RepL.ints : ∀ {ds : List D} {ns : List Int} {vs : List V} {us : List Addr}, RepL K H F vs ds us → intsOf ds = some ns → vs = ns.map V.int
  | [], ns, vs, us, r, h => by cases r; cases h; rfl
  | .int i :: ds, ns, vs, us, r, h => by
    simp only [intsOf] at h
    obtain ⟨ms, h1, rfl⟩ := Option.map_eq_some_iff.mp h
    cases r with
    | cons a l => cases a; rw [RepL.ints l h1]; rfl
theorem RepL.strs : ∀ {ds : List D} {ns : List Str} {vs : List V} {us : List Addr}, RepL K H F vs ds us → strsOf ds = some ns → vs = ns.map V.str ∧ ∀ x ∈ ns, SOk x
  | [], ns, vs, us, r, h => by cases r; cases h; exact ⟨rfl, fun _ z => nomatch z⟩
  | .str i :: ds, ns, vs, us, r, h => by
    simp only [strsOf] at h
    obtain ⟨ms, h1, rfl⟩ := Option.map_eq_some_iff.mp h
    cases r with
    | cons a l =>
      cases a with
      | str _ hs =>
        obtain ⟨e, k⟩ := RepL.strs l h1
        exact ⟨by rw [e]; rfl, fun x hx => by
          rcases List.mem_cons.mp hx with rfl | hx
          · exact hs
          · exact k x hx⟩
def sumD : List D → R D
  | [.lst _ ds] => match intsOf ds with
    | some ns => .ok (.int ns.sum)
    | none => .bad
  | _ => .bad
def max1D : List D → R D
  | [.lst _ ds] => match intsOf ds with
    | some ns => (match ns.max? with
      | some m => .ok (.int m)
      | none => .bad)
    | none => .bad
  | _ => .bad
def min1D : List D → R D
  | [.lst _ ds] => match intsOf ds with
    | some ns => (match ns.min? with
      | some m => .ok (.int m)
      | none => .bad)
    | none => .bad
  | _ => .bad
theorem sum_v : CallV K mg (rSum K) sumD := by
  intro H F us ds vs Q E wf r n f hp
  unfold sumD at hp
  split at hp
  · split at hp
    · rename_i ns hb
      obtain ⟨v, rfl, r'⟩ := r.one
      obtain ⟨a, xs, u', rfl, h1, r1, l1⟩ := r'.lst_inv
      exact ⟨_, ns, rfl, r1.ints hb ▸ h1, post_flat hp wf (.int _)⟩
    · exact hp.elim
  · exact hp.elim
theorem max1_v : CallV K mg (rMax K) max1D := by
  intro H F us ds vs Q E wf r n f hp
  unfold max1D at hp
  split at hp
  · split at hp
    · rename_i ns hb
      split at hp
      · rename_i m hm
        obtain ⟨v, rfl, r'⟩ := r.one
        obtain ⟨a, xs, u', rfl, h1, r1, l1⟩ := r'.lst_inv
        have hne : ns ≠ [] := fun z => by subst z; cases hm
        refine ⟨_, ns, rfl, r1.ints hb ▸ h1, List.length_pos_iff.mpr hne, fun m' h1' h2' => ?_⟩
        have hm2 := List.max?_eq_some_iff.mp hm
        have e : m' = m := Int.le_antisymm (hm2.2 m' h1') (h2' m hm2.1)
        rw [e]
        exact post_flat hp wf (.int _)
      · exact hp.elim
    · exact hp.elim
  · exact hp.elim
theorem min1_v : CallV K mg (rMin K) min1D := by
  intro H F us ds vs Q E wf r n f hp
  unfold min1D at hp
  split at hp
  · split at hp
    · rename_i ns hb
      split at hp
      · rename_i m hm
        obtain ⟨v, rfl, r'⟩ := r.one
        obtain ⟨a, xs, u', rfl, h1, r1, l1⟩ := r'.lst_inv
        have hne : ns ≠ [] := fun z => by subst z; cases hm
        refine ⟨_, ns, rfl, r1.ints hb ▸ h1, List.length_pos_iff.mpr hne, fun m' h1' h2' => ?_⟩
        have hm2 := List.min?_eq_some_iff.mp hm
        have e : m' = m := Int.le_antisymm (h2' m hm2.1) (hm2.2 m' h1')
        rw [e]
        exact post_flat hp wf (.int _)
      · exact hp.elim
    · exact hp.elim
  · exact hp.elim
end
def MthV (K : Frag) (mg : Str → Option Value) (r : V → List V → Hp → VK → Prop) (op : D → List D → R D) : Prop :=
  ∀ (H : Hp) (F : Fz) (us u1 u2 : List Addr) (d : D) (ds : List D) (v : V) (vs : List V) (Q : VK) (E : Option XK), Wf F H → Rep K H F v d u1 → RepL K H F vs ds u2 → us = u1 ++ u2 → us.Nodup → (∀ a ∈ us, ¬ F a) → Post K mg (RpV K) H F us (op d ds) Q E → r v vs H Q
def tyB : Ty → D → Bool
  | .str, .str _ => true | .list, .lst _ _ => true | _, _ => false
theorem tyB_v {K : Frag} {H : Hp} {F : Fz} {v : V} {d : D} {u : List Addr} (r : Rep K H F v d u) (T : Ty) (h : tyB T d = true) : tyV K T.name v H := by
  cases d with
  | str s => cases T <;> first | (cases h; done) | (cases r; rfl)
  | lst o ds =>
    cases T <;> first | (cases h; done) | skip
    obtain ⟨a, vs, u', rfl, h1, _, _⟩ := r.lst_inv
    exact .inl ⟨rfl, _, h1⟩
  | _ => cases T <;> cases h
def tMth (T : Ty) (op : D → List D → R D) (ma : Env → R D) (ms : Env → R (List D)) : Env → R D := fun env => (ma env).bind fun d => if tyB T d = true then (ms env).bind fun ds => op d ds else .bad
section
variable {X : Cx} {H0 : Hp} {F0 : Ent} {W : Option WX} {o e : Expr} {es : List Expr} {ma : T} {ms : Env → R (List D)} {mks : Env → RK (List (Nat ⊕ D))} {name : Str} {id : String} {r : V → List V → Hp → VK → Prop} {op : D → List D → R D} {apos cpos : Pos}
theorem ve_bm (T : Ty) (pa : PlainAttrs T.name) (slot : Slot T.name name id) (hty : typeOf (.builtin id) = pure (.type "method_descriptor")) (hm : MtR X id r) (hv : MthV X.K X.mg r op) (ha : VE X W o ma) (hs' : VA X W (e :: es) ms)
    (hbase : attributeBase o name X.env (eval o X.env) = eval o X.env := by rfl)
    (hfew : ((backTo cpos (starEach (e :: es) X.env)).all (fun x => !x.1) && (backToKw cpos (keywordEach [] X.env)).all (fun x => x.1.isSome) && decide ((e :: es).length + ([] : List Keyword).length + (if ([] : List Keyword).isEmpty then 0 else 1) < 30)) = true := by rfl)
    (hline : (apos.endLine == cpos.line) = true := by rfl) (hs : starEach (e :: es) X.env = (false, eval e X.env) :: starEach es X.env := by rfl) (hplain : (backTo cpos (starEach es X.env)).any (·.1) = false := by rfl) :
    VE X W (.Call (.Attribute o name apos) (e :: es) [] cpos) (tMth T op ma ms) := by
  refine PE.to (pe_bm pa slot hty hm ha hs' hbase hfew hline hs hplain) fun σ H Q h => ?_
  refine tT_first h fun F env d v H1 F1 us1 he s1 g1 w1 r1 n1 f1 hp1 => ?_
  split at hp1
  · rename_i ht
    refine ⟨tyB_v r1 T ht, ?_⟩
    refine post_next he w1 (fun a ha => ⟨(f1 a ha).1, nn r1 a ha⟩) hp1 fun ds vs H2 F2 us2 he2 s2 g2 w2 r2 n2 f2 q2 hp2 => ?_
    refine hv H2 F2 _ us1 us2 d ds v vs Q _ w2 (r1.same s2 g2) r2 rfl (List.nodup_append.mpr ⟨n1, n2, fun a ha b hb e => (f2 b hb).2.2 (e ▸ ha)⟩) (fun a ha => ?_) hp2
    rcases List.mem_append.mp ha with ha | ha
    · exact q2 a ha
    · exact (f2 a ha).1
  · exact hp1.elim
/-- a method of a written text, its arguments may change slots -/
theorem ke_strm {z : Str} {j : Nat} {p : Pos} (slot : Slot "str" name id) (hty : typeOf (.builtin id) = pure (.type "method_descriptor")) (hm : MtR X id r) (hv : MthV X.K X.mg r op) (ha : KEsJ X H0 F0 W (e :: es) mks) (hz : SOk z := by exact ⟨by decide +kernel, by decide +kernel⟩)
    (hbase : attributeBase (.Constant (.str z) j p) name X.env (eval (.Constant (.str z) j p) X.env) = eval (.Constant (.str z) j p) X.env := by rfl)
    (hfew : ((backTo cpos (starEach (e :: es) X.env)).all (fun x => !x.1) && (backToKw cpos (keywordEach [] X.env)).all (fun x => x.1.isSome) && decide ((e :: es).length + ([] : List Keyword).length + (if ([] : List Keyword).isEmpty then 0 else 1) < 30)) = true := by rfl)
    (hline : (apos.endLine == cpos.line) = true := by rfl) (hs : starEach (e :: es) X.env = (false, eval e X.env) :: starEach es X.env := by rfl) (hplain : (backTo cpos (starEach es X.env)).any (·.1) = false := by rfl) :
    KE X H0 F0 W (.Call (.Attribute (.Constant (.str z) j p) name apos) (e :: es) [] cpos) (kCall (op (.str z)) mks) := by
  refine PE.to (pe_bm PySem.F.plainAttrs_str slot hty hm pe_str ha hbase hfew hline hs hplain) fun σ H Q h => ⟨rfl, ?_⟩
  refine tK_first (Rp := RpLJ X.K σ) h fun ks vs H1 F F1 e1 us1 pd ux g1 r1 p1 k1 f1 hp1 => ?_
  obtain ⟨F', ds, q1, q2, q3, q4, q5⟩ := fin_read (E := wX W σ) g1 p1 r1 k1 f1 hp1
  exact hv H1 F' [] [] [] (.str z) ds (.str z) vs Q _ q4 (.str z hz) q2 rfl (by simp) (fun _ z => nomatch z) q5
end
def joinD : D → List D → R D
  | .str a, [.lst _ ds] => match strsOf ds with
    | some ys => if (ys.map (·.length)).sum + ys.length * a.length ≤ LIM then .ok (.str (Str.join a ys)) else .bad
    | none => .bad
  | .str a, [.tup ds] => match strsOf ds with
    | some ys => if (ys.map (·.length)).sum + ys.length * a.length ≤ LIM then .ok (.str (Str.join a ys)) else .bad
    | none => .bad
  | _, _ => .bad
abbrev rJoin (K : Frag) : V → List V → Hp → VK → Prop := fun x xs H Q => ∃ a p, ∃ ys : List Str, x = .str a ∧ xs = [.ref p] ∧ (SqL K H p (ys.map V.str) ∨ SqT K H p (ys.map V.str)) ∧ (ys.map (·.length)).sum + ys.length * a.length ≤ 16777216 ∧ Q (.str (Txt.join a ys)) H
theorem join_ok (a : Str) (ha : PyData.strOk a = true) : ∀ ys : List Str, (∀ y ∈ ys, PyData.strOk y = true) → PyData.strOk (Str.join a ys) = true ∧ (Str.join a ys).length ≤ (ys.map (·.length)).sum + ys.length * a.length
  | [], _ => ⟨by rw [show Str.join a [] = Str.empty by unfold Str.join; rfl]; decide +kernel, by rw [show Str.join a [] = Str.empty by unfold Str.join; rfl]; exact Nat.zero_le _⟩
  | [x], h => ⟨h x (by simp), by simp [Str.join]⟩
  | x :: y :: r, h => by
    obtain ⟨h1, h2⟩ := join_ok a ha (y :: r) fun z hz => h z (by simp [hz])
    have hx := h x (by simp)
    have e : Str.join a (x :: y :: r) = x ++ a ++ Str.join a (y :: r) := rfl
    rw [e]
    generalize Str.join a (y :: r) = t at h1 h2
    have hl : ∀ p q : Str, (p ++ q).length = p.length + q.length := fun p q => by
      show (p.cps ++ q.cps).size = _
      rw [Array.size_append]; rfl
    have ho : ∀ p q : Str, PyData.strOk p = true → PyData.strOk q = true → PyData.strOk (p ++ q) = true := fun p q hp hq => by
      show (p.cps ++ q.cps).all _ = true
      rw [Array.all_append, Bool.and_eq_true]; exact ⟨hp, hq⟩
    refine ⟨ho _ _ (ho _ _ hx ha) h1, ?_⟩
    rw [hl, hl]
    simp only [List.map_cons, List.sum_cons, List.length_cons] at h2 ⊢
    have : (r.length + 1 + 1) * a.length = (r.length + 1) * a.length + a.length := by rw [Nat.add_mul (r.length + 1)]; omega
    omega
theorem join_v {K : Frag} {mg : Str → Option Value} : MthV K mg (rJoin K) joinD := by
  intro H F us u1 u2 d ds v vs Q E wf rd rl hus n f hp
  cases d with
  | str z =>
    have hs : SOk z ∧ v = .str z := by cases rd with | str _ hs => exact ⟨hs, rfl⟩
    obtain ⟨hs, rfl⟩ := hs
    have fin : ∀ (x : V) (a : Addr) (ys : List Str), vs = [.ref a] → (∀ y ∈ ys, SOk y) → (SqL K H a (ys.map V.str) ∨ SqT K H a (ys.map V.str)) → Post K mg (RpV K) H F us (if (ys.map (·.length)).sum + ys.length * z.length ≤ LIM then .ok (.str (Str.join z ys)) else .bad) Q E → rJoin K (.str z) vs H Q := fun x a ys e k q hp => by
      split at hp
      · rename_i hl
        have hj := join_ok z hs.2 ys fun y hy => (k y hy).2
        refine ⟨z, a, ys, rfl, e, q, Nat.le_trans hl (show (100000 : Nat) ≤ 16777216 by decide), ?_⟩
        rw [TL.join_eq]
        exact post_flat hp wf (.str _ ⟨lim_line (Nat.le_trans hj.2 hl), hj.1⟩)
      · exact hp.elim
    match ds, rl, hp with
    | [.lst o es], rl, hp =>
      simp only [joinD] at hp
      cases hy : strsOf es with
      | none => rw [hy] at hp; exact hp.elim
      | some ys =>
        rw [hy] at hp
        obtain ⟨x, rfl, rx⟩ := rl.one
        obtain ⟨a, xs, u', rfl, h1, r1, l1⟩ := rx.lst_inv
        obtain ⟨e, k⟩ := r1.strs hy
        exact fin (.ref a) a ys rfl k (.inl (e ▸ h1)) hp
    | [.tup es], rl, hp =>
      simp only [joinD] at hp
      cases hy : strsOf es with
      | none => rw [hy] at hp; exact hp.elim
      | some ys =>
        rw [hy] at hp
        obtain ⟨x, rfl, rx⟩ := rl.one
        obtain ⟨a, xs, rfl, h1, r1⟩ := rx.tup_inv
        obtain ⟨e, k⟩ := r1.strs hy
        exact fin (.ref a) a ys rfl k (.inr (e ▸ h1)) hp
    | [], _, hp => exact hp.elim
    | [.non], _, hp => exact hp.elim
    | [.bl _], _, hp => exact hp.elim
    | [.int _], _, hp => exact hp.elim
    | [.str _], _, hp => exact hp.elim
    | [.dct _ _], _, hp => exact hp.elim
    | [.exn _ _], _, hp => exact hp.elim
    | _ :: _ :: _, _, hp => simp only [joinD] at hp; exact hp.elim
  | _ => simp only [joinD] at hp; exact hp.elim
def idxOf (y : D) : List D → Nat → Option Nat
  | [], _ => none
  | z :: ds, k => if eqvD z y = true then some k else idxOf y ds (k + 1)
def indexD : D → List D → R D
  | .lst o ds, [y] => if cmpP y = true ∧ cmpP (.lst o ds) = true then (match idxOf y ds 0 with
    | some j => .ok (.int (j : Nat))
    | none => .bad) else .bad
  | _, _ => .bad
theorem idx_at (y : D) : ∀ (ds : List D) (k j : Nat), idxOf y ds k = some j → ∃ i z, j = k + i ∧ ds[i]? = some z ∧ eqvD z y = true ∧ ∀ m z', m < i → ds[m]? = some z' → eqvD z' y = false
  | [], _, _, h => by cases h
  | z :: ds, k, j, h => by
    rw [idxOf] at h
    split at h
    · rename_i e
      cases h
      exact ⟨0, z, rfl, rfl, e, fun m z' h => by omega⟩
    · rename_i e
      obtain ⟨i, z2, h1, h2, h3, h4⟩ := idx_at y ds (k + 1) j h
      refine ⟨i + 1, z2, by omega, by simpa using h2, h3, fun m z' hm hz => ?_⟩
      cases m with
      | zero => simp at hz; subst hz; simpa using e
      | succ m => exact h4 m z' (by omega) (by simpa using hz)
theorem noDcPL_mem : ∀ ds : List D, noDcPL ds = true → ∀ z ∈ ds, noDcP z = true
  | [], _, z, hz => by cases hz
  | d :: ds, h, z, hz => by
    have h := Bool.and_eq_true_iff.mp (by simpa only [noDcPL] using h)
    rcases List.mem_cons.mp hz with rfl | hz
    · exact h.1
    · exact noDcPL_mem ds h.2 z hz
theorem index_v {K : Frag} {mg : Str → Option Value} : MthV K mg (rIndexD K) indexD := by
  intro H F us u1 u2 d ds v vs Q E wf rd rl hus n f hp
  cases d with
  | lst o es =>
    match ds, rl, hp with
    | [y], rl, hp =>
      simp only [indexD] at hp
      split at hp
      · rename_i hc
        cases hj : idxOf y es 0 with
        | none => rw [hj] at hp; exact hp.elim
        | some j =>
          rw [hj] at hp
          obtain ⟨x, rfl, rx⟩ := rl.one
          obtain ⟨h1, h2⟩ := rd.shaped hc.2
          obtain ⟨h3, h4⟩ := rx.shaped hc.1
          obtain ⟨i, z, q1, q2, q3, q4⟩ := idx_at _ _ _ _ hj
          obtain ⟨a, xs, u', rfl, _, _, _⟩ := rd.lst_inv
          have e : pyP (.lst o es) = .list (es.map pyP) := by rw [pyP, pyPL_map]
          rw [e] at h1 h2
          have q1 : j = i := by omega
          subst q1
          have hy := (Bool.and_eq_true_iff.mp hc.1).1
          have hes : ∀ z ∈ es, noDcP z = true := noDcPL_mem es (by simpa [noDcP] using (Bool.and_eq_true_iff.mp hc.2).1)
          refine ⟨a, x, pyP y, es.map pyP, j, pyP z, rfl, rfl, h1, h3, h2, h4, by rw [List.getElem?_map, q2]; rfl, by rw [eqv_pyP z y (hes z (List.mem_of_getElem? q2)) hy]; exact q3, fun m z' hm hz => ?_, post_flat hp wf (.int _)⟩
          rw [List.getElem?_map] at hz
          obtain ⟨z2, g1, rfl⟩ := Option.map_eq_some_iff.mp hz
          rw [eqv_pyP z2 y (hes z2 (List.mem_of_getElem? g1)) hy]; exact q4 m z2 hm g1
      · exact hp.elim
    | [], _, hp => exact hp.elim
    | _ :: _ :: _, _, hp => exact hp.elim
  | _ => exact hp.elim
def extF : List D → List D → Option (List D × D)
  | ds, [.lst true es] => if ds.length + es.length ≤ LIM then some (ds ++ es, .non) else none
  | _, _ => none
theorem mu_extend {K : Frag} : NMut K rExtend (muL extF) := nmut_list fun H F b vs ds u ux xs as es dy e l rx hf => by
  unfold extF at hf
  split at hf
  · split at hf
    · rename_i hl
      cases hf
      obtain ⟨v, rfl, rv⟩ := rx.one
      cases rv with
      | lstO h2 l2 =>
        refine ⟨_, _, .non, [], l.append (us := u) l2, .non, ⟨fun nd => ?_, fun a ha => ?_⟩, fun Q q => ⟨b, _, _, _, rfl, rfl, e, h2, by rw [l.length, l2.length, sizeLine_eq]; have : _ ≤ 100000 := hl; omega, q⟩⟩
        · rw [List.nil_append]
          obtain ⟨n1, n2, n3⟩ := List.nodup_append.mp nd
          exact List.nodup_append.mpr ⟨n2, (List.nodup_cons.mp n1).2, fun x hx y hy z => n3 y (List.mem_cons_of_mem _ hy) x hx z.symm⟩
        · rw [List.nil_append] at ha
          rcases List.mem_append.mp ha with ha | ha
          · exact List.mem_append_right _ ha
          · exact List.mem_append_left _ (List.mem_cons_of_mem _ ha)
    · cases hf
  · cases hf

def kMI (bs : List Bool) (m : Env → R (List D)) (env : Env) : RK (List D) := match m (mask bs env) with
  | .ok d => .ok d (frzAt bs env)
  | _ => .bad
section
variable {X : Cx} {H0 : Hp} {F0 : Ent} {W : Option WX}
theorem ki_m {tg e : Expr} {m : Env → R (List D)} (bs : List Bool) (h : VI X W tg e m) : KI X H0 F0 W tg e (kMI bs m) := PI.to h fun σ H Q ⟨F, env, us, pd, g, p, hp⟩ => by
  obtain ⟨um, h1, n1, m1, fz⟩ := mask_frz (bs := bs) g p
  unfold kMI at hp
  have wf : Wf (fun a => F a ∨ a ∈ um) H := fun a q => q.elim (g.wf a) fun q => g.nn a (m1 a q)
  refine ⟨fun a => F a ∨ a ∈ um, mask bs env, h1.envT (fun _ h => .inl h) (fun _ h => .inr h), wf, ?_⟩
  cases q : m (mask bs env) with
  | ok x =>
    rw [q] at hp
    intro v H' F1 u1 s gr w r nd f
    obtain ⟨us', g', p', m'⟩ := fz s gr.sub (fun a z => (gr.new a z).imp id (Or.rec (fun z => nomatch z) id)) w
    obtain ⟨jr, rfl⟩ := r
    exact hp v H' F1 us' [] g' ⟨jr, rfl⟩ (by rw [List.append_nil]; exact p') (Keep.same s) fun a q => gr.sub a (.inl q)
  | exc c d => rw [q] at hp; exact hp.elim
  | bad => rw [q] at hp; exact hp.elim
theorem vs_asgKLc (i : Nat) {y : Str} {py : Pos} {elt tg iter : Expr} {scope : Scope} {own : List (Str × Nat)} {vs : List Nat} {pp spos : Pos} {p : Pat} {mi : Env → RK (List D)} {me : Env → RK D} (hc : X.calm = true) (hN : X.N.Nodup) (hi : KI X H0 F0 W tg iter mi) (ok : BlkOk X.N X.env.scope scope own)
    (hg : ∀ (s : Shared) (H : Hp) (C : Addr) (cl : List (Str × Addr)) (fp : List Addr), VG (X.blk s H scope (compEnvC scope cl C X.env) fp) tg p)
    (he : ∀ (s : Shared) (H : Hp) (C : Addr) (cl : List (Str × Addr)) (fp : List Addr), KE (X.blk s H scope (compEnvC scope cl C X.env) fp) H0 F0 Option.none elt me)
    (hvs : own.map (·.2) = vs := by rfl) (hp : ∀ i ∈ p.slots, i ∈ vs := by decide) (hs : ∀ x, foldedSetIterable iter X.env x = pure x := by intro _; rfl) (hpv : noPinB F0.ix vs = true := by rfl)
    (hy : X.N[i]? = some y := by rfl) (hyl : X.env.scope.names.lookup y = some .local := by rfl) (hsw : swapsWith (.ListComp elt [⟨tg, iter, [], 0⟩] scope pp) (some (.Name y py)) spos.line X.env = pure true := by exact sw_true rfl rfl rfl (by decide +kernel)) (hpn : noPinB F0.ix [i] = true := by rfl) :
    VS X H0 F0 W (.Assign [.Name y py] (.ListComp elt [⟨tg, iter, [], 0⟩] scope pp) spos) (asgM i (kLc p vs mi me)) := by
  subst hvs
  refine PS.to (ps_setLc (g := gP X.K p) (tt := tYes) (te := tK X.K X.mg H0 F0 Option.none (RpV X.K) me) hc hN hy hyl hsw hi ok hg (fun _ _ _ _ _ => pts_nil) he hs) fun Q σ H h => ?_
  show tLc _ _ _ _ _ σ H (fun x H1 => gName i x σ H1 Q.nx)
  refine klc_reads hp (noPin_of hpv) ?_
  exact tK_of h fun d v H1 F1 e1 us1 ux g1 r1 n1 f1 hp1 => by
    split at hp1
    · rename_i hl
      obtain ⟨us', g'⟩ := g1.set (noPin_of hpn i (by simp)) hl r1 n1 f1
      exact hp1 _ H1 F1 us' g'
    · exact hp1.elim
end
end VL
end

section
set_option Elab.async false
set_option linter.all false
set_option maxRecDepth 100000
set_option maxHeartbeats 2000000
namespace VL
open PySem PySem.W PySem.Spec PyProof.Rows L2
def kAn (ta tb : Env → RK Bool) : Env → RK Bool := fun env => (ta env).bind fun c e => if c = true then tb e else .ok false e
def kOr (ta tb : Env → RK Bool) : Env → RK Bool := fun env => (ta env).bind fun c e => if c = true then .ok true e else tb e
def kNo (ta : Env → RK Bool) : Env → RK Bool := fun env => (ta env).bind fun c e => .ok (!c) e
def mutC (T : Ty) (i : Nat) (ms : Env → RK (List D)) (μ : D → List D → Option (D × D)) (env : Env) : RK D := match env[i]? with
  | some (some d) => if (isD' T d && ownB d) = true then (ms env).bind fun das e => (match e[i]? with
      | some (some d1) => mutD i [] μ das d1 e
      | _ => .bad) else .bad
  | _ => .bad
section
variable {X : Cx} {H0 : Hp} {F0 : Ent} {W : Option WX} {e : Expr} {es : List Expr} {mks : Env → RK (List D)} {cpos apos vp : Pos} {x name : Str} {id : String} {r : V → List V → Hp → VK → Prop} {μ : D → List D → Option (D × D)}
theorem ke_mC (T : Ty) (pa : PlainAttrs T.name) (slot : Slot T.name name id) (hty : typeOf (.builtin id) = pure (.type "method_descriptor")) (hm : MtR X id r) (hn : NMut X.K r μ) (i : Nat) (ha : KEs X H0 F0 W (e :: es) mks)
    (hN : X.N[i]? = some x := by rfl) (hv : Vis X.env.scope x := by first | exact Or.inl rfl | exact Or.inr (Or.inl rfl) | exact Or.inr (Or.inr rfl)) (hd : (x == ("__debug__" : Str)) = false := by decide) (hcd : (x == ("__classdict__" : Str)) = false := by decide)
    (hbase : attributeBase (.Name x vp) name X.env (eval (.Name x vp) X.env) = eval (.Name x vp) X.env := by rfl)
    (hfew : ((backTo cpos (starEach (e :: es) X.env)).all (fun x => !x.1) && (backToKw cpos (keywordEach [] X.env)).all (fun x => x.1.isSome) && decide ((e :: es).length + ([] : List Keyword).length + (if ([] : List Keyword).isEmpty then 0 else 1) < 30)) = true := by rfl)
    (hline : (apos.endLine == cpos.line) = true := by rfl) (hs : starEach (e :: es) X.env = (false, eval e X.env) :: starEach es X.env := by rfl) (hplain : (backTo cpos (starEach es X.env)).any (·.1) = false := by rfl) :
    KE X H0 F0 W (.Call (.Attribute (.Name x vp) name apos) (e :: es) [] cpos) (mutC T i mks μ) := by
  refine PE.to (pe_bm pa slot hty hm (pe_var hN hv hd hcd) ha hbase hfew hline hs hplain) fun σ H Q h => ?_
  obtain ⟨F, env, us, pd, g, p, hp⟩ := h
  replace hp : PostK X.K X.mg H0 F0 W (RpV X.K) σ H F pd (mutC T i mks μ env) Q := hp
  unfold mutC at hp
  split at hp
  case h_2 => exact hp.elim
  rename_i d hd'
  split at hp
  case isFalse => exact hp.elim
  rename_i hk
  obtain ⟨v, u, us', h1, h2, h3, h4⟩ := g.sl.get hd'
  refine ⟨v, h1, ty_of h2 T hk, F, env, us, pd, g, p, ?_⟩
  cases q : mks env with
  | bad => rw [q] at hp; exact hp
  | exc c d => rw [q] at hp; exact hp
  | ok das e1 =>
    rw [q] at hp
    simp only [RK.bind_ok] at hp
    intro xs H2 F2 us2 ux g2 rx p2 k2 f2
    split at hp
    case h_2 => exact hp.elim
    rename_i d1 hd1
    obtain ⟨v', u', us3, q1, q2, q3, q4⟩ := g2.sl.get hd1
    have hvv : v' = v := Option.some.inj (Option.some.inj (q1.symm.trans h1))
    subst hvv
    have mu : ∀ a ∈ u', a ∈ us2 := fun a ha => q4.mem_iff.mpr (List.mem_append_left _ ha)
    have m3 : ∀ a ∈ us3, a ∈ us2 := fun a ha => q4.mem_iff.mpr (List.mem_append_right _ ha)
    have hi : i < e1.length := (List.getElem?_eq_some_iff.mp hd1).1
    have g3 : Good X.K H0 F0 H2 F2 σ (e1.set i none) us3 := ⟨g2.same, g2.sub, g2.new, g2.wf, q3, (List.nodup_append.mp (q4.nodup_iff.mp g2.nod)).2.1, fun a ha => g2.fresh a (m3 a ha), g2.pin⟩
    refine mut_end hn g3 (by rw [List.length_set]; exact hi) (by rw [List.getElem?_set_self hi]) h1 (Way.here q2) rx ⟨?_, fun a ha => ?_⟩ k2 f2 e1 (fun x => by rw [List.set_set]) hp
    · have z := ((List.Perm.append_left (pd ++ ux) q4).nodup_iff).mp p2.nod
      simpa [List.append_assoc] using z
    · rcases List.mem_append.mp ha with z | z
      · exact p2.fresh a (List.mem_append_left _ z)
      · rcases List.mem_append.mp z with z | z
        · exact p2.fresh a (List.mem_append_right _ z)
        · exact ⟨(g2.fresh a (mu a z)).1, (g2.fresh a (mu a z)).2, g2.nn a (mu a z)⟩
def storeK (i : Nat) (mi mv : Env → RK D) (env : Env) : Fl := Fl.ofK (mv env) fun dv e1 => match e1[i]? with
  | some (some _) => Fl.ofK (mi e1) fun k e2 => (match e2[i]? with
    | some (some d) => if isFlat k = true then Fl.ofK (mutD i [] storeF [k, dv] d e2) fun _ e => .nx e else .bad
    | _ => .bad)
  | _ => .bad
theorem vs_storeK {ix : Expr} {pos p' : Pos} {mi mv : Env → RK D} (i : Nat) (hv : KE X H0 F0 W e mv) (hi : KE X H0 F0 W ix mi) (hu : X.A.units + 1 < cLine)
    (hN : X.N[i]? = some x := by rfl) (hvs : Vis X.env.scope x := by first | exact Or.inl rfl | exact Or.inr (Or.inl rfl) | exact Or.inr (Or.inr rfl)) (hd : (x == ("__debug__" : Str)) = false := by decide) (hcd : (x == ("__classdict__" : Str)) = false := by decide)
    (hs : swapsWithSole [.Subscript (.Name x vp) ix p'] e pos.line X.env = pure false := by rfl) (hw : swappedStores [.Subscript (.Name x vp) ix p'] e X.env = pure none := by rfl)
    (ha : ∀ v, assign (.Subscript (.Name x vp) ix p') X.env v = (do
      let ov ← holding [v] (eval (.Name x vp) X.env)
      let iv ← holding [v, ov] (eval ix X.env)
      standAt p'
      holding [v, ov, iv] (setItem ov iv v)
      release [v, ov, iv] []) := by intro _; rfl) (h1 : (assignEach [.Subscript (.Name x vp) ix p'] X.env).map (·.2) = [assign (.Subscript (.Name x vp) ix p') X.env] := by rfl) : VS X H0 F0 W (.Assign [.Subscript (.Name x vp) ix p'] e pos) (storeK i mi mv) := by
  refine PS.to (ps_asg hv (pg_sub (pe_var hN hvs hd hcd) hi (set_all hu) ha) hs hw h1) fun Q σ H h => ?_
  refine tK_of h fun dv v H1 F1 e1 us1 ux g1 r1 n1 f1 hp1 => ?_
  split at hp1
  case h_2 => exact hp1.elim
  rename_i d0 hd0
  obtain ⟨vi, u, us0, h1, h2, h3, h4⟩ := g1.sl.get hd0
  refine ⟨vi, h1, F1, e1, us1, ux, g1, ⟨n1, fun a ha => ⟨(f1 a ha).1, (f1 a ha).2, nn r1 a ha⟩⟩, ?_⟩
  cases q : mi e1 with
  | bad => rw [q] at hp1; exact hp1
  | exc c dd =>
    rw [q] at hp1
    obtain ⟨W', e', h⟩ := hp1
    exact ⟨W', e', fun H' F' us' C dx v g mc x r => h σ H' F' us' C dx v g mc x r⟩
  | ok k e2 =>
    rw [q] at hp1
    simp only [Fl.ofK_ok] at hp1
    intro vk H3 F3 us3 uk g3 rk p3 k3 f3
    split at hp1
    case h_2 => exact hp1.elim
    rename_i d hd
    split at hp1
    case isFalse => exact hp1.elim
    rename_i hf
    obtain ⟨v', u', us4, q1, q2, q3, q4⟩ := g3.sl.get hd
    have hvv : v' = vi := Option.some.inj (Option.some.inj (q1.symm.trans h1))
    subst hvv
    have uk0 := rk.flat_nil hf
    subst uk0
    have mu : ∀ a ∈ u', a ∈ us3 := fun a ha => q4.mem_iff.mpr (List.mem_append_left _ ha)
    have m3 : ∀ a ∈ us4, a ∈ us3 := fun a ha => q4.mem_iff.mpr (List.mem_append_right _ ha)
    have hi : i < e2.length := (List.getElem?_eq_some_iff.mp hd).1
    have g0 : Good X.K H0 F0 H3 F3 σ (e2.set i none) us4 := ⟨g3.same, g3.sub, g3.new, g3.wf, q3, (List.nodup_append.mp (q4.nodup_iff.mp g3.nod)).2.1, fun a ha => g3.fresh a (m3 a ha), g3.pin⟩
    have r1' : Rep X.K H3 F3 v dv ux := Rep.keep r1 k3 f3
    have rx : RepL X.K H3 F3 [vk, v] [k, dv] ([] ++ (ux ++ [])) := .cons rk (.cons r1' .nil)
    have pp : PostK X.K X.mg H0 F0 W (RpV X.K) σ H3 F3 [] (mutD i [] storeF [k, dv] d e2) (fun _ H' => Q.nx σ H') := by
      cases qm : mutD i [] storeF [k, dv] d e2 with
      | ok x e => rw [qm] at hp1; exact fun v H' F' us' ux g r p kp f => hp1 σ H' F' us' g
      | exc c dd e =>
        rw [qm] at hp1
        obtain ⟨W', e', h⟩ := hp1
        exact ⟨W', e', fun H' F' us' C dx v g mc x r => h σ H' F' us' C dx v g mc x r⟩
      | bad => rw [qm] at hp1; exact hp1
    have fin := mut_end (Q := fun _ H' => Q.nx σ H') mu_store g0 (by rw [List.length_set]; exact hi) (by rw [List.getElem?_set_self hi]) h1 (Way.here q2) rx (pd := []) (H := H3) (F := F3) ⟨?_, fun a ha => ?_⟩ (Keep.same (Same.refl _)) (fun _ h => h) e2 (fun x => by rw [List.set_set]) pp
    · obtain ⟨k', v2, e', h⟩ := fin
      cases e'
      exact h
    · simp only [List.nil_append, List.append_nil]
      have p4 : (ux ++ us3).Nodup := by simpa using p3.nod
      have := ((List.Perm.append_left ux q4).nodup_iff).mp p4
      simpa [List.append_assoc] using this
    · simp only [List.nil_append, List.append_nil] at ha
      rcases List.mem_append.mp ha with z | z
      · exact p3.fresh a (by simpa using z)
      · exact ⟨(g3.fresh a (mu a z)).1, (g3.fresh a (mu a z)).2, fun q => g3.nn a (mu a z) q⟩
end
end VL
end

section
set_option Elab.async false
set_option linter.all false
set_option maxRecDepth 100000
set_option maxHeartbeats 2000000
namespace VL
open PySem PySem.W PySem.Spec PyProof.Rows L2

def outG (js : List Nat) : Nat → List (Nat ⊕ D) → Env → Env
  | _, [], e => e
  | n, .inl i :: ks, e => if n ∈ js then outG js (n + 1) ks (e.set i none) else outG js (n + 1) ks e
  | n, .inr _ :: ks, e => outG js (n + 1) ks e
def fillG (js : List Nat) (e2 : Env) : Nat → List (Nat ⊕ D) → Env → Option (List D)
  | _, [], _ => some []
  | n, .inl i :: ks, e => if n ∈ js then (match e[i]? with
      | some (some d) => (fillG js e2 (n + 1) ks (e.set i none)).map (d :: ·)
      | _ => none) else (match e2[i]? with
      | some (some d) => (fillG js e2 (n + 1) ks e).map (frz d :: ·)
      | _ => none)
  | n, .inr d :: ks, e => (fillG js e2 (n + 1) ks e).map ((if n ∈ js then d else frz d) :: ·)
def putG (ks : List (Nat ⊕ D)) : List Nat → List D → Env → Option Env
  | [], [], e => some e
  | n :: js, d :: ds, e => (match ks[n]? with
    | some (.inl i) => (match e[i]? with
      | some none => putG ks js ds (e.set i (some d))
      | _ => none)
    | some (.inr _) => putG ks js ds e
    | none => none)
  | _, _, _ => none
section
variable {K : Frag} {H : Hp} {F : Fz} {σ : L2.St}
theorem fillG_rep {js : List Nat} {e2 : Env} : ∀ {ks : List (Nat ⊕ D)} {n : Nat} {vs : List V} {ux : List Addr} {e : Env} {us : List Addr} {ds : List D}, RpLJ K σ H F vs ks ux → Slots K H F σ e us → fillG js e2 n ks e = some ds →
    ∃ uJ uR us2, Slots K H F σ (outG js n ks e) us2 ∧ (ux ++ us).Perm (uJ ++ (uR ++ us2)) ∧ (∀ F1 : Fz, (∀ a, F a → F1 a) → (∀ a ∈ uR, F1 a) → EnvT K H F1 σ e2 → RepL K H F1 vs ds uJ)
  | [], n, [], ux, e, us, ds, r, s, h => by
    have r : ux = [] := r
    subst r
    have h : [] = ds := Option.some.inj h
    subst h
    exact ⟨[], [], us, s, List.Perm.refl _, fun _ _ _ _ => .nil⟩
  | _ :: _, _, [], _, _, _, _, r, _, _ => r.elim
  | [], _, _ :: _, _, _, _, _, r, _, _ => r.elim
  | .inl i :: ks, n, v :: vs, ux, e, us, ds, r, s, h => by
    simp only [fillG] at h
    unfold outG
    split at h
    · rename_i hj
      rw [if_pos hj]
      split at h
      · rename_i d hd
        obtain ⟨ds', q1, q2⟩ := Option.map_eq_some_iff.mp h
        subst q2
        obtain ⟨v', u, us', h1, h2, h3, h4⟩ := s.get hd
        have hv : v' = v := Option.some.inj (Option.some.inj (h1.symm.trans r.1))
        subst hv
        obtain ⟨uJ, uR, us2, k1, k2, k3⟩ := fillG_rep r.2 h3 q1
        refine ⟨u ++ uJ, uR, us2, k1, ?_, fun F1 f g t => .cons (h2.keep (fun _ _ e _ => e) f) (k3 F1 f g t)⟩
        rw [List.perm_iff_count] at h4 k2 ⊢
        intro a
        have := h4 a; have := k2 a
        simp only [List.count_append] at *; omega
      · cases h
    · rename_i hj
      rw [if_neg hj]
      split at h
      · rename_i d hd
        obtain ⟨ds', q1, q2⟩ := Option.map_eq_some_iff.mp h
        subst q2
        obtain ⟨uJ, uR, us2, k1, k2, k3⟩ := fillG_rep r.2 s q1
        refine ⟨uJ, uR, us2, k1, k2, fun F1 f g t => ?_⟩
        obtain ⟨v', h1, h2⟩ := t.2 i d hd
        have hv : v' = v := Option.some.inj (Option.some.inj (h1.symm.trans r.1))
        subst hv
        exact .cons (u := []) (us := uJ) h2 (k3 F1 f g t)
      · cases h
  | .inr d :: ks, n, v :: vs, ux, e, us, ds, ⟨u, u', hu, r, l⟩, s, h => by
    subst hu
    simp only [fillG] at h
    unfold outG
    obtain ⟨ds', q1, q2⟩ := Option.map_eq_some_iff.mp h
    subst q2
    obtain ⟨uJ, uR, us2, k1, k2, k3⟩ := fillG_rep l s q1
    by_cases hj : n ∈ js
    · rw [if_pos hj]
      refine ⟨u ++ uJ, uR, us2, k1, ?_, fun F1 f g t => .cons (r.keep (fun _ _ e _ => e) f) (k3 F1 f g t)⟩
      rw [List.perm_iff_count] at k2 ⊢
      intro a
      have := k2 a
      simp only [List.count_append] at *; omega
    · rw [if_neg hj]
      refine ⟨uJ, u ++ uR, us2, k1, ?_, fun F1 f g t => .cons (u := []) (us := uJ) (r.frz f fun a ha => g a (List.mem_append_left _ ha)) (k3 F1 f (fun a ha => g a (List.mem_append_right _ ha)) t)⟩
      rw [List.perm_iff_count] at k2 ⊢
      intro a
      have := k2 a
      simp only [List.count_append] at *; omega
theorem RpLJ.at {ux : List Addr} : ∀ {vs : List V} {ks : List (Nat ⊕ D)} {ux : List Addr} {n i : Nat}, RpLJ K σ H F vs ks ux → ks[n]? = some (.inl i) → ∃ v, vs[n]? = some v ∧ σ[i]? = some (some v)
  | [], [], _, n, i, _, h => by simp at h
  | v :: vs, .inl j :: ks, _, 0, i, r, h => by
    simp at h; subst h
    exact ⟨v, rfl, r.1⟩
  | v :: vs, .inl j :: ks, _, n + 1, i, r, h => by
    obtain ⟨w, h1, h2⟩ := RpLJ.at (ux := []) r.2 (n := n) (i := i) (by simpa using h)
    exact ⟨w, by simpa using h1, h2⟩
  | v :: vs, .inr d :: ks, _, 0, i, r, h => by simp at h
  | v :: vs, .inr d :: ks, _, n + 1, i, ⟨_, _, _, _, l⟩, h => by
    obtain ⟨w, h1, h2⟩ := RpLJ.at (ux := []) l (n := n) (i := i) (by simpa using h)
    exact ⟨w, by simpa using h1, h2⟩
  | [], _ :: _, _, _, _, r, _ => r.elim
  | _ :: _, [], _, _, _, r, _ => r.elim
theorem putG_rep {ks : List (Nat ⊕ D)} {vs : List V} (hk : ∀ n i : Nat, ks[n]? = some (.inl i) → ∃ v, vs[n]? = some v ∧ σ[i]? = some (some v)) : ∀ {js : List Nat} {ws : List V} {ds : List D} {e e3 : Env} {us u : List Addr},
    Slots K H F σ e us → RepL K H F ws ds u → ws = js.map (fun n => vs.getD n .non) → putG ks js ds e = some e3 → ∃ us3 ud, Slots K H F σ e3 us3 ∧ (u ++ us).Perm (us3 ++ ud)
  | [], ws, [], e, e3, us, u, s, r, hw, h => by
    cases h
    cases r
    exact ⟨us, [], s, by simp⟩
  | [], ws, _ :: _, e, e3, us, u, s, r, hw, h => by cases h
  | _ :: _, ws, [], e, e3, us, u, s, r, hw, h => by cases h
  | n :: js, ws, d :: ds, e, e3, us, u, s, r, hw, h => by
    obtain ⟨v, ws', u1, u2, q, hu, ra, rl⟩ := r.cons_inv
    subst q hu
    simp only [List.map_cons, List.cons.injEq] at hw
    simp only [putG] at h
    split at h
    · rename_i i hi
      split at h
      · rename_i he
        obtain ⟨v', h1, h2⟩ := hk n i hi
        have hv : v = v' := by rw [hw.1, List.getD_eq_getElem?_getD, h1]; rfl
        subst hv
        obtain ⟨us', s1, p1⟩ := s.fill (i := i) (List.getElem?_eq_some_iff.mp he).1 he ra
        have hset : σ.set i (some v) = σ := by
          apply List.ext_getElem?
          intro j
          by_cases hj : i = j
          · subst hj
            rw [List.getElem?_set_self (List.getElem?_eq_some_iff.mp h2).1, h2]
          · rw [List.getElem?_set_ne hj]
        rw [hset] at s1
        obtain ⟨us3, ud, k1, k2⟩ := putG_rep hk s1 rl hw.2 h
        refine ⟨us3, ud, k1, ?_⟩
        rw [List.perm_iff_count] at k2 p1 ⊢
        intro a
        have := k2 a; have := p1 a
        simp only [List.count_append] at *; omega
      · cases h
    · obtain ⟨us3, ud, k1, k2⟩ := putG_rep hk s rl hw.2 h
      refine ⟨us3, u1 ++ ud, k1, ?_⟩
      rw [List.perm_iff_count] at k2 ⊢
      intro a
      have := k2 a
      simp only [List.count_append] at *; omega
    · cases h
end
section
variable {X : Cx} {H0 : Hp} {F0 : Ent} {W : Option WX} {e : Expr} {es : List Expr} {mks : Env → RK (List (Nat ⊕ D))} {pos p : Pos}
def callG (n : Nat) (js : List Nat) (fn : List D → R D) (mks : Env → RK (List (Nat ⊕ D))) : Env → RK D := fun env => (mks env).bind fun ks e1 => match fillG js (outG js 0 ks e1) 0 ks e1 with
  | some ds => if ds.length = n ∧ (js.all fun j => decide (j < n)) = true then (match fn ds with
      | .ok (.tup (d :: xs)) => if (VL.clean d && cleanL xs) = true then (match putG ks js xs (outG js 0 ks e1) with
        | some e3 => .ok d e3
        | none => .bad) else .bad
      | .exc c d => .exc c d (frzE (outG js 0 ks e1))
      | _ => .bad) else .bad
  | none => .bad
theorem ke_callG {k : Nat} {f : Addr} {fd : FuncData} {ps : List Str} {x : Str} {n : Nat} {js : List Nat} {fn : List D → R D} (G : FnOk X.prog X.w X.K X.mg X.base (L2.CX X.prog X.w) k f fd ps (spJ X.K X.mg n js fn)) (hj0 : js ≠ []) (hr : Room k X.A) (hm : X.mg x = some (.ref f)) (hk : PySem.W.keepIn X.K (.ref f) = true) (hb : Binds X.K fd ps [])
    (tk : TkW X W) (ha : KEsJ X H0 F0 W (e :: es) mks) (hg : Gl X x := by rfl) (hdb : (x == ("__debug__" : Str)) = false := by decide) (he : starEach (e :: es) X.env = (false, eval e X.env) :: starEach es X.env := by rfl) (hpl : (backTo pos (starEach es X.env)).any (·.1) = false := by rfl) :
    KE X H0 F0 W (.Call (.Name x p) (e :: es) [] pos) (callG n js fn mks) := by
  have hx : ∀ σ, PassesAt (L2.CX X.prog X.w) X σ (eW W σ) := by
    intro σ
    cases W with
    | none =>
      intro pins H s e s' I c
      obtain ⟨_, _, _, _, _, _, _, _, _, _, _, _, z⟩ := c
      exact z.elim
    | some W => exact passAt tk σ
  refine PE.to (pe_callS G hr hg hm hk hb hx ha hdb he hpl) fun σ H Q h => ?_
  refine tK_first (Rp := RpLJ X.K σ) h fun ks vs H1 F F1 e1 us1 pd ux g1 r1 p1 k1 f1 hp1 => ?_
  cases qfi : fillG js (outG js 0 ks e1) 0 ks e1 with
  | none => simp only [qfi] at hp1; exact hp1.elim
  | some ds =>
  simp only [qfi] at hp1
  split at hp1
  case isFalse => exact hp1.elim
  rename_i hc
  obtain ⟨hlen, hjs⟩ := hc
  obtain ⟨uJ, uR, us2, q2, q3, q1⟩ := fillG_rep r1 g1.sl qfi
  generalize he2 : outG js 0 ks e1 = e2 at *
  have pn := p1.nod
  have nn3 : (pd ++ (uJ ++ (uR ++ us2))).Nodup := by
    refine ((List.Perm.append_left pd q3).nodup_iff).mp ?_
    rw [← List.append_assoc]; exact pn
  obtain ⟨P1, P2, P3⟩ := List.nodup_append.mp nn3
  obtain ⟨n1, P4, P5⟩ := List.nodup_append.mp P2
  obtain ⟨P6, n2, P7⟩ := List.nodup_append.mp P4
  have inq : ∀ a, a ∈ ux ++ us1 ↔ a ∈ uJ ++ (uR ++ us2) := fun a => q3.mem_iff
  have mJ : ∀ a ∈ uJ, a ∈ ux ∨ a ∈ us1 := fun a ha => List.mem_append.mp ((inq a).mpr (List.mem_append_left _ ha))
  have mR : ∀ a ∈ uR, a ∈ ux ∨ a ∈ us1 := fun a ha => List.mem_append.mp ((inq a).mpr (List.mem_append_right _ (List.mem_append_left _ ha)))
  have m2 : ∀ a ∈ us2, a ∈ ux ∨ a ∈ us1 := fun a ha => List.mem_append.mp ((inq a).mpr (List.mem_append_right _ (List.mem_append_right _ ha)))
  have fre : ∀ a, (a ∈ ux ∨ a ∈ us1) → ¬ F1 a ∧ H0 a = none ∧ H1 a ≠ none := fun a h => h.elim (fun h => p1.fresh a (List.mem_append_right _ h)) fun h => ⟨(g1.fresh a h).1, (g1.fresh a h).2, g1.nn a h⟩
  classical
  obtain ⟨Hc, hHc⟩ : ∃ Hc : Hp, Hc = fun b => if b ∈ uJ then none else H1 b := ⟨_, rfl⟩
  have hcs : ∀ b, b ∉ uJ → Hc b = H1 b := fun b hb => by rw [hHc]; simp [hb]
  have hcn : ∀ b, Hc b = none → b ∈ uJ ∨ H1 b = none := fun b hb => by
    by_cases z : b ∈ uJ
    · exact .inl z
    · rw [hcs b z] at hb; exact .inr hb
  have hcJ : ∀ b ∈ uJ, Hc b = none := fun b hb => by rw [hHc]; simp [hb]
  have toH0 : ∀ b, Hc b = none → H0 b = none := fun b hb => (hcn b hb).elim (fun z => (fre b (mJ b z)).2.1) g1.same.free
  have sm : Same Hc H1 := fun b o hb => by
    by_cases z : b ∈ uJ
    · rw [hcJ b z] at hb; cases hb
    · rw [hcs b z] at hb; exact hb
  obtain ⟨Fc, hFc⟩ : ∃ Fc : Fz, Fc = fun a => F1 a ∨ a ∈ uR ∨ a ∈ us2 := ⟨_, rfl⟩
  have fc1 : ∀ a, F1 a → Fc a := fun a h => by rw [hFc]; exact .inl h
  have fcR : ∀ a ∈ uR, Fc a := fun a h => by rw [hFc]; exact .inr (.inl h)
  have fc2 : ∀ a ∈ us2, Fc a := fun a h => by rw [hFc]; exact .inr (.inr h)
  have fcE : ∀ a, Fc a → F1 a ∨ a ∈ uR ∨ a ∈ us2 := fun a h => by rw [hFc] at h; exact h
  have rds := q1 Fc fc1 fcR (q2.envT fc1 fc2)
  have hvl : vs.length = n := by rw [rds.length]; exact hlen
  have jlt : ∀ j ∈ js, j < n := fun j hj => by simpa using (List.all_eq_true.mp hjs) j hj
  have nJ : ∀ a, (Fc a ∨ a ∈ pd) → a ∉ uJ := fun a h z => by
    rcases h with h | h
    · rcases fcE a h with h | h | h
      · exact (fre a (mJ a z)).1 h
      · exact P5 a z a (List.mem_append_left _ h) rfl
      · exact P5 a z a (List.mem_append_right _ h) rfl
    · exact P3 a h a (List.mem_append_left _ z) rfl
  obtain ⟨ix, hix⟩ : ∃ ix : List (Nat × V), ix = js.map fun j => (j, vs.getD j .non) := ⟨_, rfl⟩
  refine ⟨Hc, Fc, ds, uJ, ix, hvl, rds, n1, fun a ha => ⟨fun z => nJ a (.inl z) ha, hcJ a ha⟩, sm, fun a z => ?_, by rw [hix, List.map_map]; exact List.map_id js, fun p hp => ?_, ?_⟩
  · rcases fcE a z with h | h | h
    · exact g1.wf a h
    · exact (fre a (mR a h)).2.2
    · exact (fre a (m2 a h)).2.2
  · rw [hix] at hp
    obtain ⟨j, hj, rfl⟩ := List.mem_map.mp hp
    have : j < vs.length := by rw [hvl]; exact jlt j hj
    show vs[j]? = some (vs.getD j .non)
    rw [List.getD_eq_getElem?_getD, List.getElem?_eq_getElem this]; rfl
  have newA : ∀ {F' : Fz}, (∀ a, F' a → Fc a ∨ Hc a = none) → ∀ a, F' a → F0 a ∨ H0 a = none := fun new a z => by
    rcases new a z with z | z
    · rcases fcE a z with z | z | z
      · exact g1.new a z
      · exact .inr (fre a (mR a z)).2.1
      · exact .inr (fre a (m2 a z)).2.1
    · exact .inr (toH0 a z)
  have kpA : ∀ {H' : Hp}, Same Hc H' → ∀ b o, H1 b = some o → b ∉ uJ → H' b = some o := fun s b o hb z => s b o (by rw [hcs b z]; exact hb)
  have tJ : ∀ b o, H1 b = some o → ¬ Mut (some o) → b ∉ uJ := fun b o hb hm z => by
    obtain ⟨o', e, m⟩ := rds.there b z
    rw [hb] at e; cases e; exact hm m
  have keepA : ∀ {H' : Hp}, Same Hc H' → ∀ ws : List Addr, (∀ a ∈ ws, a ∉ uJ) → Keep F1 ws H1 H' := fun s ws hw b o hb hk => kpA s b o hb (by
    rcases hk with hk | hk | hk
    · exact nJ b (.inl (fc1 b hk))
    · exact hw b hk
    · exact tJ b o hb hk)
  have sameA : ∀ {H' : Hp}, Same Hc H' → Same H0 H' := fun s b o hb => kpA s b o (g1.same b o hb) fun z => by rw [(fre b (mJ b z)).2.1] at hb; cases hb
  cases qf : fn ds with
  | bad => rw [qf] at hp1; exact hp1.elim
  | exc c d =>
    rw [qf] at hp1
    obtain ⟨W', eW', hexc⟩ := hp1
    subst eW'
    intro C dx v H' F' mc s' sub' new' w' hx rd
    have sl2 : Slots X.K H' F1 σ e2 us2 := q2.keep (keepA s' us2 fun a ha => nJ a (.inl (fc2 a ha))) fun a h => h
    exact hexc H' F' [] C dx v ⟨sameA s', fun a q => sub' a (fc1 a (g1.sub a q)), newA new', w', sl2.frz (fun a h => sub' a (fc1 a h)) (fun a h => sub' a (fc2 a h)), List.nodup_nil, (fun _ z => nomatch z), g1.pin⟩ mc hx rd
  | ok d =>
    rw [qf] at hp1
    cases d with
    | tup xs0 =>
      cases xs0 with
      | nil => exact hp1.elim
      | cons d0 xs =>
        simp only at hp1
        split at hp1
        case isFalse => exact hp1.elim
        rename_i hcl
        obtain ⟨hcl1, hcl2⟩ := Bool.and_eq_true_iff.mp hcl
        cases qp : putG ks js xs e2 with
        | none => simp only [qp] at hp1; exact hp1.elim
        | some e3 =>
          simp only [qp] at hp1
          intro v H' F' u s' sub' new' w' rr nd' fr'
          obtain ⟨ds', hd', rl0⟩ : ∃ ds', D.tup (d0 :: xs) = .tup ds' ∧ RepL X.K H' F' (v :: ix.map (·.2)) ds' u := by
            unfold RetRep at rr
            split at rr
            · exfalso
              cases js with
              | nil => exact hj0 rfl
              | cons j js => cases hix
            · exact rr
          cases hd'
          obtain ⟨v', vs', u0, u1, q, hu, ra0, rl1⟩ := rl0.cons_inv
          cases q
          subst hu
          have ra : Rep X.K H' F1 v d0 u0 := ra0.clean hcl1
          have rl : RepL X.K H' F1 (ix.map (·.2)) xs u1 := rl1.clean hcl2
          obtain ⟨a1, a2, a3⟩ := List.nodup_append.mp nd'
          have sl2 : Slots X.K H' F1 σ e2 us2 := q2.keep (keepA s' us2 fun a ha => nJ a (.inl (fc2 a ha))) fun a h => h
          obtain ⟨us3, ud, s3, p3⟩ := putG_rep (ks := ks) (vs := vs) (fun n i h => RpLJ.at (ux := []) r1 h) sl2 rl (by rw [hix, List.map_map]; rfl) qp
          have uD : ∀ a, (a ∈ u0 ∨ a ∈ u1) → ∀ b, (b ∈ us2 ∨ b ∈ pd) → a ≠ b := fun a ha b hb e => by
            subst e
            have h1 := (fr' a (List.mem_append.mpr ha)).2
            rcases hcn a h1 with z | z
            · exact nJ a (hb.imp (fc2 a) id) z
            · rcases hb with hb | hb
              · exact (fre a (m2 a hb)).2.2 z
              · exact (p1.fresh a (List.mem_append_left _ hb)).2.2 z
          have nd3 : (us3 ++ ud).Nodup := p3.nodup_iff.mp (List.nodup_append.mpr ⟨a2, n2, fun a ha b hb => uD a (.inr ha) b (.inl hb)⟩)
          have nd3' := (List.nodup_append.mp nd3).1
          have mem3 : ∀ a ∈ us3, a ∈ u1 ∨ a ∈ us2 := fun a ha => List.mem_append.mp (p3.mem_iff.mpr (List.mem_append_left _ ha))
          have notF1 : ∀ a, (a ∈ u0 ∨ a ∈ u1) → ¬ F1 a := fun a h z => (fr' a (List.mem_append.mpr h)).1 (sub' a (fc1 a z))
          have h2pd : ∀ a ∈ us2, ∀ b ∈ pd, b ≠ a := fun a ha b hb => P3 b hb a (List.mem_append_right _ (List.mem_append_right _ ha))
          refine hp1 v H' F1 us3 u0 ⟨sameA s', g1.sub, g1.new, fun a z => ?_, s3, nd3', fun a ha => ?_, g1.pin⟩ ra ⟨?_, fun a ha => ?_⟩ ?_ f1
          · cases qa : H1 a with
            | none => exact absurd qa (g1.wf a z)
            | some o => rw [kpA s' a o qa (nJ a (.inl (fc1 a z)))]; exact fun z => by cases z
          · rcases mem3 a ha with h | h
            · exact ⟨notF1 a (.inr h), toH0 a (fr' a (List.mem_append_right _ h)).2⟩
            · exact ⟨(fre a (m2 a h)).1, (fre a (m2 a h)).2.1⟩
          · refine List.nodup_append.mpr ⟨List.nodup_append.mpr ⟨P1, a1, fun a ha b hb e => uD b (.inl hb) a (.inr ha) e.symm⟩, nd3', fun a ha b hb e => ?_⟩
            rcases List.mem_append.mp ha with h | h <;> rcases mem3 b hb with h2 | h2
            · exact uD b (.inr h2) a (.inr h) e.symm
            · exact h2pd b h2 a h e
            · exact a3 a h b h2 e
            · exact uD a (.inl h) b (.inl h2) e
          · rcases List.mem_append.mp ha with h | h
            · have z := p1.fresh a (List.mem_append_left _ h)
              refine ⟨z.1, z.2.1, ?_⟩
              cases qa : H1 a with
              | none => exact absurd qa z.2.2
              | some o => rw [kpA s' a o qa (nJ a (.inr h))]; exact fun z => by cases z
            · exact ⟨notF1 a (.inl h), toH0 a (fr' a (List.mem_append_left _ h)).2, nn ra a h⟩
          · intro b o hb hk
            exact keepA s' pd (fun a ha => nJ a (.inr ha)) b o (k1 b o hb (hk.imp id id)) (hk.imp (f1 b) id)
    | non => exact hp1.elim
    | bl _ => exact hp1.elim
    | int _ => exact hp1.elim
    | str _ => exact hp1.elim
    | lst _ _ => exact hp1.elim
    | dct _ _ => exact hp1.elim
    | exn _ _ => exact hp1.elim
theorem ke_callGF {x : Str} {k n : Nat} {ps : List Str} {js : List Nat} {fn : List D → R D} (G : FnJ X.prog X.w X.K X.mg X.base x k ps n js fn) (hr : Room k X.A) (tk : TkW X W) (ha : KEsJ X H0 F0 W (e :: es) mks) (hj0 : js ≠ [] := by simp)
    (hg : Gl X x := by rfl) (hdb : (x == ("__debug__" : Str)) = false := by decide) (he : starEach (e :: es) X.env = (false, eval e X.env) :: starEach es X.env := by rfl) (hpl : (backTo pos (starEach es X.env)).any (·.1) = false := by rfl) :
    KE X H0 F0 W (.Call (.Name x p) (e :: es) [] pos) (callG n js fn mks) := by
  obtain ⟨f, fd, hm, hk, hb, G⟩ := G.ex
  exact ke_callG G hj0 hr hm hk hb tk ha hg hdb he hpl
end
end VL
end

section
set_option Elab.async false
set_option linter.all false
set_option maxRecDepth 100000
set_option maxHeartbeats 2000000
namespace VL
open PySem PySem.W PySem.Spec PyProof.Rows L2

def ItzT (K : Frag) (k1 k2 k3 : Bool) (a b c : Addr) : It where
  go := fun i H => ∃ (xs ys zs : List V) (x y z : V), SqB K k1 H a xs ∧ SqB K k2 H b ys ∧ SqB K k3 H c zs ∧ xs[i]? = some x ∧ ys[i]? = some y ∧ zs[i]? = some z
  yld := fun i H v H' => ∃ (T : Addr) (x y z : V), v = .ref T ∧ H T = none ∧ H' = upd H T (.tup [x, y, z]) ∧ (∀ xs, SqB K k1 H a xs → xs[i]? = some x) ∧ (∀ ys, SqB K k2 H b ys → ys[i]? = some y) ∧ (∀ zs, SqB K k3 H c zs → zs[i]? = some z)
  stop := fun i H => ∃ xs ys zs : List V, SqB K k1 H a xs ∧ SqB K k2 H b ys ∧ SqB K k3 H c zs ∧ i = min (min xs.length ys.length) zs.length
theorem sep3_of (n a b c : Nat) (ha : a < n) (hb : b < n) (hc : c < n) : ZipSep3 (n + 5) (n + 3) (n + 4) n (n + 1) (n + 2) [n, a] [n + 1, b] [n + 2, c] := by
  constructor
  all_goals first
    | exact List.mem_cons_self
    | (intro h; exact absurd (show (_ : Nat) = _ from h) (by omega))
    | (intro h
       rcases List.mem_cons.mp h with h | h
       · exact absurd (show (_ : Nat) = _ from h) (by omega)
       · exact absurd (show (_ : Nat) = _ from List.mem_singleton.mp h) (by omega))
theorem turn_zipT {P : Program} {w : World} {K : PySem.W.Frag} {k1 k2 k3 : Bool} {elts : List Expr} {kk : Nat} {tpos : Pos} (n a b c : Nat) (ha : a < n) (hb : b < n) (hc3 : c < n) :
    Turn P w K (.Tuple elts kk tpos) (ItzT K k1 k2 k3 a b c) [n + 5, n + 3, n + 4, n, n + 1, n + 2] (n + 5) (fun i h => IsZip h (n + 5) (n + 3) (n + 4) .none ∧ IsTupOf3 h (n + 3) (.ref n) (.ref (n + 1)) (.ref (n + 2)) ∧ (∃ x y z, IsTupOf3 h (n + 4) x y z) ∧ ItB k1 h n a i ∧ ItB k2 h (n + 1) b i ∧ ItB k3 h (n + 2) c i) where
  mem := List.mem_cons_self
  obj := fun i h ⟨hz, hTI, ⟨x, y, z, hTO⟩, q1, q2, q3⟩ c hc => by
    simp only [List.mem_cons, List.not_mem_nil, or_false] at hc
    rcases hc with rfl | rfl | rfl | rfl | rfl | rfl
    · exact ⟨_, hz, fun v z => nomatch z⟩
    · exact ⟨_, hTI, fun v z => nomatch z⟩
    · exact ⟨_, hTO, fun v z => nomatch z⟩
    · exact srcObj k1 q1
    · exact srcObj k2 q2
    · exact srcObj k3 q3
  keep := fun i h h' ⟨hz, hTI, ⟨x, y, z, hTO⟩, q1, q2, q3⟩ k => ⟨k (n + 5) (by simp) _ hz, k (n + 3) (by simp) _ hTI, ⟨x, y, z, k (n + 4) (by simp) _ hTO⟩, srcAt k1 q1 (k n (by simp)), srcAt k2 q2 (k (n + 1) (by simp)), srcAt k3 q3 (k (n + 2) (by simp))⟩
  item := by
    rintro X rfl rfl rfl hc i pins s σ H E I hf ⟨hz, hTI, hTO, q1, q2, q3⟩ ⟨xs, ys, zs, x, y, z, hqx, hqy, hqz, hx, hy, hzz⟩
    obtain ⟨l1, r1, p1⟩ := srcGet k1 I hqx
    obtain ⟨l2, r2, p2⟩ := srcGet k2 I hqy
    obtain ⟨l3, r3, p3⟩ := srcGet k3 I hqz
    obtain ⟨u, hu, ru⟩ := r1.get hx
    obtain ⟨u2, hu2, ru2⟩ := r2.get hy
    obtain ⟨u3, hu3, ru3⟩ := r3.get hzz
    have hh : X.A.in1.handled = none := I.ok.hd hc
    have W := GoesN.zip3 (elts := elts) (x1 := kk) (pos := tpos) (sep3_of n a b c ha hb hc3) (srcDraws (P := X.prog) (w := X.w) k1 hh n a (Nat.ne_of_lt ha) l1.toArray) (srcDraws (P := X.prog) (w := X.w) k2 hh (n + 1) b (Nat.ne_of_lt (Nat.lt_succ_of_lt hb)) l2.toArray) (srcDraws (P := X.prog) (w := X.w) k3 hh (n + 2) c (Nat.ne_of_lt (Nat.lt_succ_of_lt (Nat.lt_succ_of_lt hc3))) l3.toArray)
    have b1 : i < l1.length := (List.getElem?_eq_some_iff.mp hu).1
    have b2 : i < l2.length := (List.getElem?_eq_some_iff.mp hu2).1
    have b3 : i < l3.length := (List.getElem?_eq_some_iff.mp hu3).1
    refine W.goes i s _ E (by simp; omega) ⟨hz, hTI, hTO, ⟨q1, p1⟩, ⟨q2, p2⟩, ⟨q3, p3⟩⟩ fun v h' tk hY hS hk ht => ?_
    obtain ⟨T, v1, v2, v3, rfl, hT, e1, e2, e3, hN⟩ := hY
    have e1 : v1 = u := by simp only [List.getElem?_toArray] at e1; rw [hu] at e1; exact (Option.some.inj e1).symm
    have e2 : v2 = u2 := by simp only [List.getElem?_toArray] at e2; rw [hu2] at e2; exact (Option.some.inj e2).symm
    have e3 : v3 = u3 := by simp only [List.getElem?_toArray] at e3; rw [hu3] at e3; exact (Option.some.inj e3).symm
    subst e1 e2 e3
    have new : ObjOk X.prog X.w (upd H T (.tup [x, y, z])) h' T (.tup [x, y, z]) := ⟨show 3 ≤ sizeLine by decide, [v1, v2, v3], .cons ru (.cons ru2 (.cons ru3 .nil)), hN⟩
    have I1 : Inv X pins σ (upd H T (.tup [x, y, z])) { s with heap := h', toks := tk } := I.turnedNew (t' := tk) (ch := [n + 5, n + 3, n + 4, n, n + 1, n + 2]) (fun c o hb q => hk c o (fun q' => hb (mem_skip q')) q) hf hT new
    obtain ⟨hz', hTI', hTO', ⟨q1', _⟩, ⟨q2', _⟩, ⟨q3', _⟩⟩ := hS
    refine ⟨.ref T, _, I1, rfl, ⟨T, x, y, z, rfl, I.hok.fresh hT, rfl, fun l hl => ?_, fun l hl => ?_, fun l hl => ?_⟩, ⟨hz', hTI', hTO', q1', q2', q3'⟩, fun c hcm => ?_⟩
    · rw [srcInj k1 I hl hqx]; exact hx
    · rw [srcInj k2 I hl hqy]; exact hy
    · rw [srcInj k3 I hl hqz]; exact hzz
    · obtain ⟨x0, y0, z0, hTO0⟩ := hTO
      have hlt : c < s.heap.objs.size := by
        simp only [List.mem_cons, List.not_mem_nil, or_false] at hcm
        rcases hcm with rfl | rfl | rfl | rfl | rfl | rfl
        · exact Heap.lt_size hz
        · exact Heap.lt_size hTI
        · exact Heap.lt_size hTO0
        · obtain ⟨o, e, _⟩ := srcObj k1 q1; exact Heap.lt_size e
        · obtain ⟨o, e, _⟩ := srcObj k2 q2; exact Heap.lt_size e
        · obtain ⟨o, e, _⟩ := srcObj k3 q3; exact Heap.lt_size e
      rw [upd_ne (Nat.ne_of_lt (Nat.lt_of_lt_of_le hlt hT))]
      exact (hf c hcm).1
  done := by
    rintro X rfl rfl rfl hc i pins s σ H E I hf ⟨hz, hTI, hTO, q1, q2, q3⟩ ⟨xs, ys, zs, hqx, hqy, hqz, hi⟩
    obtain ⟨l1, r1, p1⟩ := srcGet k1 I hqx
    obtain ⟨l2, r2, p2⟩ := srcGet k2 I hqy
    obtain ⟨l3, r3, p3⟩ := srcGet k3 I hqz
    have hh : X.A.in1.handled = none := I.ok.hd hc
    have W := GoesN.zip3 (elts := elts) (x1 := kk) (pos := tpos) (sep3_of n a b c ha hb hc3) (srcDraws (P := X.prog) (w := X.w) k1 hh n a (Nat.ne_of_lt ha) l1.toArray) (srcDraws (P := X.prog) (w := X.w) k2 hh (n + 1) b (Nat.ne_of_lt (Nat.lt_succ_of_lt hb)) l2.toArray) (srcDraws (P := X.prog) (w := X.w) k3 hh (n + 2) c (Nat.ne_of_lt (Nat.lt_succ_of_lt (Nat.lt_succ_of_lt hc3))) l3.toArray)
    have en : min (min l1.toArray.size l2.toArray.size) l3.toArray.size = i := by
      have e1 := r1.length
      have e2 := r2.length
      have e3 := r3.length
      simp only [List.size_toArray]; omega
    rw [en] at W
    refine (W.stops s (fun s1 => Inv X pins σ H s1) E ⟨hz, hTI, hTO, ⟨q1, p1⟩, ⟨q2, p2⟩, ⟨q3, p3⟩⟩ fun h' tk hk ht => ?_)
    exact I.turnedL (t' := tk) (ch := [n + 5, n + 3, n + 4, n, n + 1, n + 2]) (fun c o hb q => hk c o (fun q' => hb (mem_skip q')) q) hf
  self := fun A i s Q E st h => wpAny_pyIter_zip st.1 h
def iZipT (K : PySem.W.Frag) (ta : TA) : TI := fun σ H R => ta σ H fun vs H1 => ∃ (k1 k2 k3 : Bool) (a b c : Addr) (xs ys zs : List V), vs = [.ref a, .ref b, .ref c] ∧ SqB K k1 H1 a xs ∧ SqB K k2 H1 b ys ∧ SqB K k3 H1 c zs ∧ R (ItzT K k1 k2 k3 a b c) H1
theorem pi_zipT {X : Cx} {e e2 e3 : Expr} {ta : TA} {p pos tpos : Pos} {elts : List Expr} {kk : Nat} (hg : Gl X "zip") (hm : X.mg "zip" = none) (ha : PA X [e, e2, e3] ta)
    (hs : starEach [e, e2, e3] X.env = (false, eval e X.env) :: starEach [e2, e3] X.env := by rfl) (hpl : (backTo pos (starEach [e2, e3] X.env)).any (·.1) = false := by rfl) :
    PI X (.Tuple elts kk tpos) (.Call (.Name "zip" p) [e, e2, e3] [] pos) (iZipT X.K ta) := by
  constructor
  intro pins s σ H R I h
  refine Call_ (ld_blt I hg hm PyProof.Rows.boot_zip (PyProof.Rows.callWith_type1 (thn (ha.run pos pins s σ H _ I h) ?_) hs hpl))
  rintro us s1 ⟨vs, H1, I1, r1, k1, k2, k3, a, b, c, xs, ys, zs, rfl, hqx, hqy, hqz, q⟩
  obtain ⟨u, us', rfl, ru, r1⟩ : ∃ u us', us = u :: us' ∧ RelV (.ref a) u ∧ Vals [.ref b, .ref c] us' := by cases r1 with | cons r rr => exact ⟨_, _, rfl, r, rr⟩
  obtain ⟨u2, us2, rfl, ru2, r1⟩ : ∃ u us2, us' = u :: us2 ∧ RelV (.ref b) u ∧ Vals [.ref c] us2 := by cases r1 with | cons r rr => exact ⟨_, _, rfl, r, rr⟩
  obtain ⟨u3, rfl, ru3⟩ : ∃ u3, us2 = [u3] ∧ RelV (.ref c) u3 := by
    cases r1 with
    | cons r rr => cases rr; exact ⟨_, rfl, r⟩
  cases ru
  cases ru2
  cases ru3
  obtain ⟨l1, _, p1⟩ := srcGet k1 I1 hqx
  obtain ⟨l2, _, p2⟩ := srcGet k2 I1 hqy
  obtain ⟨l3, _, p3⟩ := srcGet k3 I1 hqz
  refine zip_begins3 (srcBegins k1 a l1.toArray) (srcBegins k2 b l2.toArray) (srcBegins k3 c l3.toArray) p1 p2 p3 fun h' hz hTI hTO g1 g2 g3 hsz hk => ?_
  refine wpAny_pyIter_zip hz ?_
  have I2 : Inv X pins σ H1 { s1 with heap := h' } := I1.kept (t' := s1.toks) hk
  refine ⟨s1.heap.objs.size + 5, [s1.heap.objs.size + 5, s1.heap.objs.size + 3, s1.heap.objs.size + 4, s1.heap.objs.size, s1.heap.objs.size + 1, s1.heap.objs.size + 2], _, _, H1, rfl, I2, turn_zipT s1.heap.objs.size a b c (srcLt k1 p1) (srcLt k2 p2) (srcLt k3 p3), ⟨hz, hTI, ⟨_, _, _, hTO⟩, srcStart k1 g1, srcStart k2 g2, srcStart k3 g3⟩, fun c hcm => ?_, q⟩
  have hle : s1.heap.objs.size ≤ c := by
    simp only [List.mem_cons, List.not_mem_nil, or_false] at hcm
    rcases hcm with rfl | rfl | rfl | rfl | rfl | rfl
    · exact Nat.le_add_right _ _
    · exact Nat.le_add_right _ _
    · exact Nat.le_add_right _ _
    · exact Nat.le_refl _
    · exact Nat.le_add_right _ _
    · exact Nat.le_add_right _ _
  exact I1.fpOk hle (I1.hok.fresh hle)
def zipT (ds es fs : List D) : List D := (ds.zip (es.zip fs)).map fun p => .tup [p.1, p.2.1, p.2.2]
theorem j_zipT {K : Frag} {H : Hp} {F : Fz} {k1 k2 k3 : Bool} {a b c : Addr} {vs ws ts : List V} {ds es fs : List D} (s : StB K F k1 H a vs) (r : RepL K H F vs ds []) (s2 : StB K F k2 H b ws) (r2 : RepL K H F ws es []) (s3 : StB K F k3 H c ts) (r3 : RepL K H F ts fs [])
    (hf : ∀ d ∈ ds, frz d = d) (hf2 : ∀ d ∈ es, frz d = d) (hf3 : ∀ d ∈ fs, frz d = d) : JRep K (ItzT K k1 k2 k3 a b c) H F (zipT ds es fs) where
  go := fun H' i k h => by
    have h : i < ds.length ∧ i < es.length ∧ i < fs.length := by
      unfold zipT at h
      rw [List.length_map, List.length_zip, List.length_zip] at h
      omega
    exact ⟨vs, ws, ts, vs[i]'(by rw [r.length]; exact h.1), ws[i]'(by rw [r2.length]; exact h.2.1), ts[i]'(by rw [r3.length]; exact h.2.2), keepB s k, keepB s2 k, keepB s3 k, List.getElem?_eq_getElem _, List.getElem?_eq_getElem _, List.getElem?_eq_getElem _⟩
  stop := fun H' k => ⟨vs, ws, ts, keepB s k, keepB s2 k, keepB s3 k, by
    unfold zipT
    rw [List.length_map, List.length_zip, List.length_zip, r.length, r2.length, r3.length]
    omega⟩
  fz := fun d h => by
    obtain ⟨⟨a, b, c⟩, hp, rfl⟩ := List.mem_map.mp h
    obtain ⟨p1, p2⟩ := List.of_mem_zip hp
    obtain ⟨p2, p3⟩ := List.of_mem_zip p2
    simp only [frz, frzL, hf _ p1, hf2 _ p2, hf3 _ p3]
  yld := fun H' F' i x H2 k f w y d hd => by
    obtain ⟨T, x', y', z', rfl, hn, rfl, y, z, z3⟩ := y
    unfold zipT at hd
    rw [List.getElem?_map] at hd
    obtain ⟨p, h0, rfl⟩ := Option.map_eq_some_iff.mp hd
    obtain ⟨p1, p2, p3⟩ := p
    obtain ⟨q1, q2⟩ := List.getElem?_zip_eq_some.mp h0
    obtain ⟨q2, q3⟩ := List.getElem?_zip_eq_some.mp q2
    obtain ⟨v, u, h1, h2, h3⟩ := r.get q1
    obtain ⟨v', u', h1', h2', h3'⟩ := r2.get q2
    obtain ⟨v3, u3, g1, g2, g3⟩ := r3.get q3
    have e := y vs (keepB s k)
    rw [h1] at e
    cases e
    have e := z ws (keepB s2 k)
    rw [h1'] at e
    cases e
    have e := z3 ts (keepB s3 k)
    rw [g1] at e
    cases e
    have e2 : u = [] := List.eq_nil_iff_forall_not_mem.mpr fun a ha => nomatch h3.sub a ha
    have e3 : u' = [] := List.eq_nil_iff_forall_not_mem.mpr fun a ha => nomatch h3'.sub a ha
    have e4 : u3 = [] := List.eq_nil_iff_forall_not_mem.mpr fun a ha => nomatch g3.sub a ha
    subst e2 e3 e4
    have sm := same_new (o := HO.tup [x', y', z']) hn
    exact ⟨sm, .tup (SqT.of upd_same) (.cons (u := []) (us := []) ((h2.keep k f).same sm fun _ h => h) (.cons (u := []) (us := []) ((h2'.keep k f).same sm fun _ h => h) (.cons (u := []) (us := []) ((g2.keep k f).same sm fun _ h => h) .nil)))⟩
def zip3D : List D → R (List D)
  | [x, y, z] => (match sqD x, sqD y, sqD z with
    | some ds, some es, some fs => .ok (zipT (frzL ds) (frzL es) (frzL fs))
    | _, _, _ => .bad)
  | _ => .bad
theorem zip3_sq {as : List D} {zs : List D} (h : zip3D as = .ok zs) : ∃ x y z ds es fs, as = [x, y, z] ∧ sqD x = some ds ∧ sqD y = some es ∧ sqD z = some fs ∧ zs = zipT (frzL ds) (frzL es) (frzL fs) := by
  unfold zip3D at h
  split at h
  · split at h
    · rename_i h1 h2 h3
      cases h; exact ⟨_, _, _, _, _, _, rfl, h1, h2, h3, rfl⟩
    · cases h
  · cases h
theorem zip3_no (as : List D) : (∃ zs, zip3D as = .ok zs) ∨ zip3D as = .bad := by
  unfold zip3D
  split
  · split
    · exact .inl ⟨_, rfl⟩
    · exact .inr rfl
  · exact .inr rfl
theorem RepL.three {K : Frag} {H : Hp} {F : Fz} {vs : List V} {d e f : D} {us : List Addr} (r : RepL K H F vs [d, e, f] us) : ∃ v w t u1 u2 u3, vs = [v, w, t] ∧ us = u1 ++ (u2 ++ u3) ∧ Rep K H F v d u1 ∧ Rep K H F w e u2 ∧ Rep K H F t f u3 := by
  cases r with
  | cons a l => obtain ⟨w, t, u1, u2, rfl, rfl, r2, r3⟩ := l.two; exact ⟨_, _, _, _, _, _, rfl, rfl, a, r2, r3⟩
section
variable {X : Cx} {W : Option WX} {a b c : Expr} {pos : Pos} {ms : Env → R (List D)} {p : Pos} {elts : List Expr} {kk : Nat} {tpos : Pos}
theorem vi_zip3 (hm : X.mg "zip" = none) (ha : VA X W [a, b, c] ms) (hg : Gl X "zip" := by rfl) (hs : starEach [a, b, c] X.env = (false, eval a X.env) :: starEach [b, c] X.env := by rfl) (hpl : (backTo pos (starEach [b, c] X.env)).any (·.1) = false := by rfl) :
    VI X W (.Tuple elts kk tpos) (.Call (.Name "zip" p) [a, b, c] [] pos) (fun env => (ms env).bind zip3D) := by
  refine PI.to (pi_zipT hg hm ha hs hpl) fun σ H Q h => ?_
  refine tT_first h fun F env d v H1 F1 us1 he s1 g1 w1 r1 n1 f1 hp1 => ?_
  rcases zip3_no d with ⟨zs, hz⟩ | hz
  · rw [hz] at hp1
    obtain ⟨x, y, z, ds, es, fs, rfl, h1, h2, h3, rfl⟩ := zip3_sq hz
    obtain ⟨vx, vy, vz, u1, u2, u3, rfl, rfl, r, r', r''⟩ := RepL.three r1
    obtain ⟨k1, a, vs, rfl, q1, q2⟩ := rep_sqD h1 (r.frz (F' := fun a => F1 a ∨ a ∈ u1 ++ (u2 ++ u3)) (fun _ h => .inl h) fun _ h => .inr (List.mem_append_left _ h))
    obtain ⟨k2, b, ws, rfl, q3, q4⟩ := rep_sqD h2 (r'.frz (F' := fun a => F1 a ∨ a ∈ u1 ++ (u2 ++ u3)) (fun _ h => .inl h) fun _ h => .inr (List.mem_append_right _ (List.mem_append_left _ h)))
    obtain ⟨k3, c, ts, rfl, q5, q6⟩ := rep_sqD h3 (r''.frz (F' := fun a => F1 a ∨ a ∈ u1 ++ (u2 ++ u3)) (fun _ h => .inl h) fun _ h => .inr (List.mem_append_right _ (List.mem_append_right _ h)))
    exact ⟨k1, k2, k3, a, b, c, vs, ws, ts, rfl, stB_sq q1, stB_sq q3, stB_sq q5, post_itr hp1 w1 (fun a ha => (List.mem_append.mp ha).elim (nn r a) fun ha => (List.mem_append.mp ha).elim (nn r' a) (nn r'' a)) (j_zipT q1 q2 q3 q4 q5 q6 (frzL_fz _) (frzL_fz _) (frzL_fz _))⟩
  · rw [hz] at hp1; exact hp1.elim
end
end VL
end

section
set_option Elab.async false
set_option linter.all false
set_option maxRecDepth 100000
set_option maxHeartbeats 2000000
namespace VL
open PySem PySem.W PySem.Spec PyProof.Rows L2

/-- cells P of H beside those of H0 -/
noncomputable def baseP (H0 : Hp) (P : List Addr) (H : Hp) : Hp := by
  classical exact fun b => if b ∈ P then H b else H0 b
section
variable {K : Frag} {H0 H H' : Hp} {F0 : Ent} {F : Fz} {P : List Addr} {σ : L2.St} {env : Env} {us : List Addr}
theorem baseP_in {b : Addr} (h : b ∈ P) : baseP H0 P H b = H b := by unfold baseP; simp [h]
theorem baseP_out {b : Addr} (h : b ∉ P) : baseP H0 P H b = H0 b := by unfold baseP; simp [h]
/-- what waits: owned cells beside those of the slots -/
structure Wait (H0 : Hp) (F : Fz) (H : Hp) (us P : List Addr) : Prop where
  nod : (P ++ us).Nodup
  fresh : ∀ a ∈ P, ¬ F a ∧ H0 a = none
  mt : ∀ a ∈ P, ∃ o, H a = some o ∧ Mut (some o)
theorem Wait.hole (p : Wait H0 F H us P) {a : Addr} (ha : a ∈ P) : baseH H0 F H a = none := by
  obtain ⟨o, e, m⟩ := p.mt a ha
  unfold baseH
  rw [if_neg]
  rintro (z | z | z)
  · exact (p.fresh a ha).1 z
  · exact z (p.fresh a ha).2
  · rw [e] at z; exact z m
theorem Good.baseW (g : Good K H0 F0 H F σ env us) (p : Wait H0 F H us P) : Good K (baseP (baseH H0 F H) P H) ⟨F, F0.ix⟩ H F σ env us := by
  have g1 := g.base (F1 := F) fun _ h => h
  refine ⟨fun b o h => ?_, fun _ h => h, fun _ h => .inl h, g.wf, g.sl, g.nod, fun a ha => ⟨(g.fresh a ha).1, ?_⟩, g.pin⟩
  · by_cases hb : b ∈ P
    · rw [baseP_in hb] at h; exact h
    · rw [baseP_out hb] at h; exact g1.same b o h
  · have : a ∉ P := fun z => (List.nodup_append.mp p.nod).2.2 a z a ha rfl
    rw [baseP_out this]; exact (g1.fresh a ha).2
theorem unW_none {b : Addr} (g : Good K H0 F0 H F σ env us) (p : Wait H0 F H us P) (h : VL.baseP (baseH H0 F H) P H b = none) : b ∉ P ∧ H0 b = none := by
  by_cases hb : b ∈ P
  · rw [baseP_in hb] at h
    obtain ⟨o, e, _⟩ := p.mt b hb
    rw [h] at e; cases e
  · rw [baseP_out hb] at h; exact ⟨hb, baseH_none h g.same⟩
theorem unW_some {b : Addr} {o : HO} (p : Wait H0 F H us P) (h : H b = some o) (k : F b ∨ b ∈ P ∨ H0 b ≠ none ∨ ¬ Mut (some o)) : VL.baseP (baseH H0 F H) P H b = some o := by
  by_cases hb : b ∈ P
  · rw [baseP_in hb]; exact h
  · rw [baseP_out hb]
    exact baseH_some h (k.imp id fun z => z.resolve_left hb)
theorem Good.unW {σ' : L2.St} {env' : Env} {us' : List Addr} {F' : Fz} (g : Good K H0 F0 H F σ env us) (p : Wait H0 F H us P) (g' : Good K (VL.baseP (baseH H0 F H) P H) ⟨F, F0.ix⟩ H' F' σ' env' us') :
    Good K H0 F0 H' F' σ' env' us' ∧ Wait H0 F' H' us' P ∧ Keep F P H H' ∧ (∀ a, F a → F' a) := by
  have kp : Keep F P H H' := fun b o h hk => g'.same b o (unW_some p h (hk.imp id fun z => z.imp id .inr))
  have pn := List.nodup_append.mp p.nod
  refine ⟨⟨fun b o h => g'.same b o (unW_some p (g.same b o h) (.inr (.inr (.inl (by rw [h]; exact fun z => by cases z))))), fun a q => g'.sub a (g.sub a q), fun a q => ?_, g'.wf, g'.sl, g'.nod, fun a ha => ⟨(g'.fresh a ha).1, (unW_none g p (g'.fresh a ha).2).2⟩, g'.pin⟩, ⟨?_, fun a ha => ?_, fun a ha => ?_⟩, kp, fun a q => g'.sub a q⟩
  · rcases g'.new a q with z | z
    · exact g.new a z
    · exact .inr (unW_none g p z).2
  · exact List.nodup_append.mpr ⟨pn.1, g'.nod, fun a ha b hb e => (unW_none g p (g'.fresh b hb).2).1 (e ▸ ha)⟩
  · have hf := p.fresh a ha
    refine ⟨fun z => ?_, hf.2⟩
    rcases g'.new a z with z | z
    · exact hf.1 z
    · exact (unW_none g p z).1 ha
  · obtain ⟨o, e, m⟩ := p.mt a ha
    exact ⟨o, kp a o e (.inr (.inl ha)), m⟩
/-- what is walked stands -/
def AlB (K : Frag) (F : Fz) (P : List Addr) : Bool → Hp → Addr → List V → Prop
  | false => fun H a vs => (a ∈ P ∧ H a = some (.lst vs)) ∨ StL K F H a vs
  | true => SqT K
theorem AlB.keep {k : Bool} {F F' : Fz} {a : Addr} {vs : List V} (s : AlB K F P k H a vs) (q : Keep F P H H') (f : ∀ a, F a → F' a) : AlB K F' P k H' a vs := by
  cases k with
  | false =>
    rcases s with ⟨h1, h2⟩ | s
    · exact .inl ⟨h1, q _ _ h2 (.inr (.inl h1))⟩
    · exact .inr (s.keep q f)
  | true => exact SqT.keep s q
theorem AlB.sq {k : Bool} {a : Addr} {vs : List V} (s : AlB K F P k H a vs) : SqB K k H a vs := by
  cases k with
  | false =>
    rcases s with ⟨h1, h2⟩ | s
    · exact .inl (.inl h2)
    · exact s.sq
  | true => exact s
def ItS (K : Frag) : Bool → Addr → It
  | false => Itl K
  | true => Itt K
theorem ItS.go {k : Bool} {a : Addr} {vs : List V} {i : Nat} {x : V} (s : SqB K k H a vs) (h : vs[i]? = some x) : (ItS K k a).go i H := by
  cases k with
  | false => exact ⟨vs, x, s, h⟩
  | true => exact ⟨vs, x, s, h⟩
theorem ItS.stop {k : Bool} {a : Addr} {vs : List V} {i : Nat} (s : SqB K k H a vs) (h : vs.length ≤ i) : (ItS K k a).stop i H := by
  cases k with
  | false => exact ⟨vs, s, h⟩
  | true => exact ⟨vs, s, h⟩
theorem ItS.yld {k : Bool} {a : Addr} {vs : List V} {i : Nat} {x : V} (s : SqB K k H a vs) (y : (ItS K k a).yld i H x H') : H' = H ∧ vs[i]? = some x := by
  cases k with
  | false => obtain ⟨rfl, y⟩ := y; exact ⟨rfl, y vs s⟩
  | true => obtain ⟨rfl, y⟩ := y; exact ⟨rfl, y vs s⟩
end
def forO (p : Pat) (mk : Env → RK D) (body : Env → Fl) (env : Env) : Fl := Fl.ofK (mk env) fun d e => match sqD d with
  | some ds => forD p body ds e
  | none => .bad
section
variable {X : Cx} {H0 : Hp} {F0 : Ent} {W : Option WX} {tg iter : Expr} {sb : List Stmt} {pos : Pos}
theorem forO_loop {p : Pat} {mb : Env → Fl} {Q : Ends} {kd : Bool} {a : Addr} {vs : List V} {ds : List D} {ah ur us1 : List Addr} {σ : L2.St} {H1 : Hp} {F1 : Fz} {e : Env} (hpn : noPinB F0.ix p.slots = true)
    (g1 : Good X.K H0 F0 H1 F1 σ e us1) (w1 : Wait H0 F1 H1 us1 (ah ++ ur)) (al : AlB X.K F1 ah kd H1 a vs) (rl : RepL X.K H1 F1 vs ds ur) (hp : PostS X.K X.mg H0 F0 W (forD p mb ds e) Q) :
    ∃ WW : Nat → Nat → L2.St → Hp → Prop, (∃ m, WW 0 m σ H1) ∧ ∀ i m σ H, WW i m σ H → ((ItS X.K kd a).stop i H ∧ Q.nx σ H) ∨ ((ItS X.K kd a).go i H ∧ ∃ N : L2.St → Hp → Prop, (∀ σ' H', N σ' H' → ∃ m', m' < m ∧ WW (i + 1) m' σ' H') ∧
      ∀ x H', (ItS X.K kd a).yld i H x H' → gP X.K p x σ H' fun σ2 H2 => tSx X.K X.mg F0.ix W mb { Q with nx := N, ct := N, bk := Q.nx } σ2 H2) := by
  refine ⟨fun i m σ' H' => m = ds.length - i ∧ i ≤ ds.length ∧ ∃ F' e us' ur', Good X.K H0 F0 H' F' σ' e us' ∧ Wait H0 F' H' us' (ah ++ ur') ∧ AlB X.K F' ah kd H' a vs ∧ RepL X.K H' F' (vs.drop i) (ds.drop i) ur' ∧ PostS X.K X.mg H0 F0 W (forD p mb (ds.drop i) e) Q, ⟨ds.length, by simp, Nat.zero_le _, F1, e, us1, ur, g1, w1, al, by simpa using rl, by simpa using hp⟩, ?_⟩
  have hvl := rl.length
  rintro i m σ2 H2 ⟨rfl, hil, F2, e2, us2, ur2, g2, w2, al2, rl2, hp2⟩
  by_cases hlt : i < ds.length
  · have hvi : vs[i]? = some (vs[i]'(by omega)) := List.getElem?_eq_getElem (by omega)
    refine .inr ⟨ItS.go al2.sq hvi, fun σ' H' => i + 1 ≤ ds.length ∧ ∃ F' e us' ur', Good X.K H0 F0 H' F' σ' e us' ∧ Wait H0 F' H' us' (ah ++ ur') ∧ AlB X.K F' ah kd H' a vs ∧ RepL X.K H' F' (vs.drop (i + 1)) (ds.drop (i + 1)) ur' ∧ PostS X.K X.mg H0 F0 W (forD p mb (ds.drop (i + 1)) e) Q, fun σ' H' z => ⟨ds.length - (i + 1), by omega, rfl, z⟩, fun x H3 y => ?_⟩
    obtain ⟨rfl, hx⟩ := ItS.yld al2.sq y
    rw [List.drop_eq_getElem_cons hlt, List.drop_eq_getElem_cons (by omega : i < vs.length)] at rl2
    rw [List.drop_eq_getElem_cons hlt] at hp2
    simp only [forD] at hp2
    obtain ⟨v', vs', u1, u2, hv, hu, ra, rr⟩ := rl2.cons_inv
    cases hv
    subst hu
    have hxe : x = vs[i]'(by omega) := by rw [hvi] at hx; exact (Option.some.inj hx).symm
    subst hxe
    obtain ⟨n1, n2, n3⟩ := List.nodup_append.mp w2.nod
    obtain ⟨n4, n5, n6⟩ := List.nodup_append.mp n1
    obtain ⟨n7, n8, n9⟩ := List.nodup_append.mp n5
    cases qb : bindP p ds[i] e2 with
    | bad => rw [qb] at hp2; exact hp2.elim
    | exc c d => rw [qb] at hp2; exact hp2.elim
    | ok e3 =>
      rw [qb] at hp2
      simp only at hp2
      obtain ⟨σ3, us3, st, g4, ls⟩ := bindP_S p _ _ σ2 e2 e3 us2 u1 g2 ra (List.nodup_append.mpr ⟨n7, n2, fun a ha b hb => n3 a (List.mem_append_right _ (List.mem_append_left _ ha)) b hb⟩) (fun a ha => w2.fresh a (List.mem_append_right _ (List.mem_append_left _ ha))) qb (noPin_of hpn)
      have w4 : Wait H0 F2 H3 us3 (ah ++ u2) := by
        refine ⟨?_, fun a ha => w2.fresh a ?_, fun a ha => w2.mt a ?_⟩
        · refine List.nodup_append.mpr ⟨List.nodup_append.mpr ⟨n4, n8, fun a ha b hb => n6 a ha b (List.mem_append_right _ hb)⟩, g4.nod, fun a ha b hb e => ?_⟩
          subst e
          rcases List.mem_append.mp (ls.sub a hb) with z | z
          · rcases List.mem_append.mp ha with q | q
            · exact n6 a q a (List.mem_append_left _ z) rfl
            · exact n9 a z a q rfl
          · exact n3 a ((List.mem_append.mp ha).elim (fun q => List.mem_append_left _ q) fun q => List.mem_append_right _ (List.mem_append_right _ q)) a z rfl
        · exact (List.mem_append.mp ha).elim (fun q => List.mem_append_left _ q) fun q => List.mem_append_right _ (List.mem_append_right _ q)
        · exact (List.mem_append.mp ha).elim (fun q => List.mem_append_left _ q) fun q => List.mem_append_right _ (List.mem_append_right _ q)
      refine gP_of p _ σ2 σ3 st ⟨baseP (baseH H0 F2 H3) (ah ++ u2) H3, F2, F2, e3, us3, g4.baseW w4, ?_⟩
      have nxt : ∀ {σ' H' F' us' e}, Good X.K (baseP (baseH H0 F2 H3) (ah ++ u2) H3) ⟨F2, F0.ix⟩ H' F' σ' e us' → PostS X.K X.mg H0 F0 W (forD p mb (ds.drop (i + 1)) e) Q → i + 1 ≤ ds.length ∧ ∃ F' e us' ur', Good X.K H0 F0 H' F' σ' e us' ∧ Wait H0 F' H' us' (ah ++ ur') ∧ AlB X.K F' ah kd H' a vs ∧ RepL X.K H' F' (vs.drop (i + 1)) (ds.drop (i + 1)) ur' ∧ PostS X.K X.mg H0 F0 W (forD p mb (ds.drop (i + 1)) e) Q := fun g h => by
        obtain ⟨q1, q2, q3, q4⟩ := g4.unW w4 g
        exact ⟨hlt, _, _, _, u2, q1, q2, al2.keep (q3.mono fun a ha => List.mem_append_left _ ha) q4, rr.keep (q3.mono fun a ha => List.mem_append_right _ ha) q4, h⟩
      cases qm : mb e3 with
      | nx e => rw [qm] at hp2; exact fun σ' H' F' us' g' => nxt g' hp2
      | ct e => rw [qm] at hp2; exact fun σ' H' F' us' g' => nxt g' hp2
      | bk e => rw [qm] at hp2; exact fun σ' H' F' us' g' => hp2 σ' H' F' us' (g4.unW w4 g').1
      | rt d =>
        rw [qm] at hp2
        intro v H' F' u s' sub new w' r n fr
        refine hp2 v H' F' u (fun b o h => s' b o (unW_some w4 (g4.same b o h) (.inr (.inr (.inl (by rw [h]; exact fun z => by cases z)))))) (fun a q => sub a (g4.sub a q)) (fun a q => (new a q).elim (g4.new a) fun z => .inr (unW_none g4 w4 z).2) w' r n fun a ha => ⟨(fr a ha).1, (unW_none g4 w4 (fr a ha).2).2⟩
      | exc c d e =>
        rw [qm] at hp2
        obtain ⟨W', e', h⟩ := hp2
        exact ⟨W', e', fun σ' H' F' us' C dx v g' mc x r => h σ' H' F' us' C dx v (g4.unW w4 g').1 mc x r⟩
      | bad => rw [qm] at hp2; exact hp2
  · have e : i = ds.length := by omega
    subst e
    refine .inl ⟨ItS.stop al2.sq (by omega), ?_⟩
    rw [List.drop_length] at hp2
    exact hp2 σ2 H2 F2 us2 g2
theorem vs_forO {p : Pat} {mk : Env → RK D} {mb : Env → Fl} (hpo : PassesOwn (model X.prog X.w) X.A X.env X.xe) (hc : X.calm = true) (he : KE X H0 F0 W iter mk) (hg : VG X tg p) (hb : ∀ H0 F, VSs X H0 ⟨F, F0.ix⟩ W sb mb)
    (hs : ∀ x, foldedSetIterable iter X.env x = pure x := by intro _; rfl) (hpn : noPinB F0.ix p.slots = true := by rfl) : VS X H0 F0 W (.For tg iter sb [] pos) (forO p mk mb) := by
  refine PS.to (ps_for hpo hc (PI.or (pi_list he) (pi_tup he)) hg (psx hb) hs) fun Q σ H h => ?_
  obtain ⟨F, env, us, g, hp⟩ := h
  replace hp : PostS X.K X.mg H0 F0 W (Fl.ofK (mk env) fun d e => match sqD d with
    | some ds => forD p mb ds e
    | none => .bad) Q := hp
  cases q : mk env with
  | bad => rw [q] at hp; exact hp.elim
  | exc c d e =>
    rw [q] at hp
    obtain ⟨W', e', h⟩ := hp
    exact .inl ⟨F, env, us, [], g, Pend.nil g.nod, by rw [q]; exact ⟨W', e', fun H' F' us' C dx v g mc x r => h σ H' F' us' C dx v g mc x r⟩⟩
  | ok d e =>
    rw [q] at hp
    replace hp : PostS X.K X.mg H0 F0 W (match sqD d with
      | some ds => forD p mb ds e
      | none => .bad) Q := hp
    have pw : ∀ {H' : Hp} {F' : Fz} {us' ux : List Addr} {v : V} {d : D}, Pend H0 F' H' us' ([] ++ ux) → Rep X.K H' F' v d ux → Wait H0 F' H' us' ux := fun p r => ⟨by simpa using p.nod, fun a ha => ⟨(p.fresh a (by simpa using ha)).1, (p.fresh a (by simpa using ha)).2.1⟩, r.there⟩
    cases d with
    | lst o ds =>
      refine .inl ⟨F, env, us, [], g, Pend.nil g.nod, ?_⟩
      rw [q]
      intro v H' F' us' ux g' r' p' kp f
      have w' := pw p' r'
      cases r' with
      | lstO hh ll =>
        rename_i a vs us0
        refine ⟨a, rfl, ⟨vs, .inl (.inl hh)⟩, ?_⟩
        exact forO_loop (kd := false) (ah := [a]) hpn g' w' (.inl ⟨by simp, hh⟩) ll hp
      | lstF hh ll => exact ⟨_, rfl, ⟨_, hh.sq⟩, forO_loop (kd := false) (ah := []) hpn g' w' (.inr hh) ll hp⟩
    | tup ds =>
      refine .inr ⟨F, env, us, [], g, Pend.nil g.nod, ?_⟩
      rw [q]
      intro v H' F' us' ux g' r' p' kp f
      have w' := pw p' r'
      cases r' with
      | tup hh ll => exact ⟨_, rfl, ⟨_, hh⟩, forO_loop (kd := true) (ah := []) hpn g' w' hh ll hp⟩
    | non => exact hp.elim
    | bl _ => exact hp.elim
    | int _ => exact hp.elim
    | str _ => exact hp.elim
    | dct _ _ => exact hp.elim
    | exn _ _ => exact hp.elim
end
end VL
end

section
set_option Elab.async false
set_option linter.all false
set_option maxRecDepth 100000
set_option maxHeartbeats 1000000
namespace VL
open PySem PySem.W PySem.Spec PyProof.Rows L2
section
variable {K : Frag} {mg : Str → Option Value}
theorem ofString_ok (s : String) : PyData.strOk (Str.ofString s) = true := by
  rw [Str.ofString_eq_toList]
  unfold PyData.strOk
  rw [Array.all_eq_true']
  intro x hx
  have hx : x ∈ s.toList.map Char.toNat := by simpa using hx
  obtain ⟨c, _, rfl⟩ := List.mem_map.mp hx
  refine decide_eq_true ?_
  have h := c.valid
  show c.val.toNat < _
  rcases h with h | h
  · have : c.val.toNat < 0xd800 := h
    omega
  · exact h.2
noncomputable def strD : List D → R D
  | [.int i] => if i.natAbs.log2 < 1000 then .ok (.str (toString i)) else .bad
  | _ => .bad
theorem str_v : CallV K mg (fun xs H Q => ∃ i, xs = [.int i] ∧ i.natAbs.log2 < 1920 ∧ Q (.str (toString i)) H) strD := by
  intro H F us ds vs Q E wf r n f hp
  unfold strD at hp
  split at hp
  · split at hp
    · rename_i hl
      obtain ⟨v, rfl, a⟩ := r.one
      cases a
      refine ⟨_, rfl, by omega, post_flat hp wf (.str _ ⟨int_text_fits (by omega), ofString_ok _⟩)⟩
    · exact hp.elim
  · exact hp.elim
end
section
variable {X : Cx} {H0 : Hp} {F0 : Ent} {W : Option WX} {o : Expr}
/-- f(x).clear() -/
def kTclr (mk : Env → RK D) : Env → RK D := fun env => (mk env).bind fun d e => match d with
  | .lst true _ => .ok .non e
  | _ => .bad
theorem ke_tclr {mk : Env → RK D} {apos cpos : Pos} (ho : KE X H0 F0 W o mk)
    (hbase : attributeBase o "clear" X.env (eval o X.env) = eval o X.env := by rfl) (hline : (apos.endLine == cpos.line) = true := by rfl) : KE X H0 F0 W (.Call (.Attribute o "clear" apos) [] [] cpos) (kTclr mk) := by
  refine PE.to (pe_bm0 PySem.F.plainAttrs_list PySem.F.slot_list_clear PySem.F.type_list_clear mt_clear ho hbase hline) fun σ H Q h => ?_
  obtain ⟨F, env, us, pd, g, p, hp⟩ := h
  refine ⟨F, env, us, pd, g, p, ?_⟩
  unfold kTclr at hp
  cases q : mk env with
  | bad => rw [q] at hp; exact hp.elim
  | exc c d e => rw [q] at hp; exact hp
  | ok d e =>
    rw [q] at hp
    intro v H' F' us' ux g' r' p' kp f
    cases d with
    | lst b ds =>
      cases b with
      | false => exact hp.elim
      | true =>
        cases r' with
        | @lstO a vs _ u2 hH rl =>
          have fa := p'.fresh a (by simp)
          have hdis : ∀ b ∈ us', b ≠ a := fun b hb e => by
            subst e
            exact (List.nodup_append.mp p'.nod).2.2 b (by simp) b hb rfl
          have hpd : ∀ b ∈ pd, b ≠ a := fun b hb e => by
            subst e
            have := (List.nodup_append.mp (List.nodup_append.mp p'.nod).1).2.2
            exact this b hb b (by simp) rfl
          have hk : ∀ (us : List Addr), (∀ b ∈ us, b ≠ a) → Keep F' us H' (upd H' a (.lst [])) := fun us hu b o hb z => by
            have : b ≠ a := by
              rintro rfl
              rcases z with z | z | z
              · exact fa.1 z
              · exact hu b z rfl
              · rw [hH] at hb; cases hb; exact z trivial
            rw [upd_ne this]; exact hb
          refine ⟨?_, a, vs, rfl, rfl, hH, ?_⟩
          · exact .inl ⟨rfl, vs, .inl (.inl hH)⟩
          refine hp .non _ F' us' [] ⟨fun b o hb => ?_, g'.sub, g'.new, fun b hb => ?_, g'.sl.keep (hk us' hdis) fun _ h => h, g'.nod, g'.fresh, g'.pin⟩ .non ⟨?_, fun b hb => ?_⟩ (fun b o hb z => ?_) f
          · have : b ≠ a := by rintro rfl; rw [fa.2.1] at hb; cases hb
            rw [upd_ne this]; exact g'.same b o hb
          · by_cases e : b = a
            · subst e; rw [upd_same]; simp
            · rw [upd_ne e]; exact g'.wf b hb
          · have := p'.nod
            rw [List.append_assoc] at this
            obtain ⟨n1, n2, n3⟩ := List.nodup_append.mp this
            rw [List.append_nil]
            exact List.nodup_append.mpr ⟨n1, (List.nodup_append.mp n2).2.1, fun x hx y hy => n3 x hx y (List.mem_append_right _ hy)⟩
          · have hb' : b ∈ pd := by simpa using hb
            have := p'.fresh b (List.mem_append_left _ hb')
            exact ⟨this.1, this.2.1, by rw [upd_ne (hpd b hb')]; exact this.2.2⟩
          · have h1 := kp b o hb z
            have : b ≠ a := by
              rintro rfl
              rcases z with z | z | z
              · exact fa.1 (f _ z)
              · exact hpd b z rfl
              · rw [hH] at h1; cases h1; exact z trivial
            rw [upd_ne this]; exact h1
    | _ => exact hp.elim
end
end VL
end

section
set_option Elab.async false
set_option linter.all false
set_option maxRecDepth 100000
set_option maxHeartbeats 2000000
namespace VL
open PySem PySem.W PySem.Spec PyProof.Rows L2
@[simp] theorem e_bind_ok {α β : Type} (a : α) (f : α → R β) : (R.ok a).bind f = f a := id rfl
@[simp] theorem e_bind_exc {α β : Type} (c : Str) (d : D) (f : α → R β) : (R.exc c d : R α).bind f = .exc c d := id rfl
@[simp] theorem e_look0 (d : D) (env : Env) : look 0 (some d :: env) = .ok (frz d) := id rfl
@[simp] theorem e_lookS (i : Nat) (o : Option D) (env : Env) : look (i + 1) (o :: env) = look i env := id rfl
@[simp] theorem e_mask_c (b : Bool) (bs : List Bool) (o : Option D) (env : Env) : mask (b :: bs) (o :: env) = (if b = true then o else none) :: mask bs env := id rfl
@[simp] theorem e_mask_n (o : Option D) (env : Env) : mask [] (o :: env) = none :: mask [] env := id rfl
@[simp] theorem e_mask_e (b : Bool) (bs : List Bool) : mask (b :: bs) [] = [] := id rfl
@[simp] theorem e_mask_e2 : mask [] [] = [] := id rfl
@[simp] theorem e_frzAt_c (b : Bool) (bs : List Bool) (o : Option D) (env : Env) : frzAt (b :: bs) (o :: env) = (if b = true then o.map VL.frz else o) :: frzAt bs env := id rfl
@[simp] theorem e_frzAt_n (env : Env) : frzAt [] env = env := id rfl
@[simp] theorem e_asB (b : Bool) : asB (.bl b) = .ok b := id rfl
@[simp] theorem e_truB_b (b : Bool) : truB (.bl b) = .ok b := id rfl
@[simp] theorem e_truB_i (i : Int) : truB (.int i) = .ok (i != 0) := id rfl
@[simp] theorem e_truB_l (o : Bool) (ds : List D) : truB (.lst o ds) = .ok (!ds.isEmpty) := id rfl
@[simp] theorem e_truB_t (ds : List D) : truB (.tup ds) = .ok (!ds.isEmpty) := id rfl
@[simp] theorem e_frz_n : frz .non = .non := id rfl
@[simp] theorem e_frz_b (b : Bool) : frz (.bl b) = .bl b := id rfl
@[simp] theorem e_frz_i (i : Int) : frz (.int i) = .int i := id rfl
@[simp] theorem e_frz_s (s : Str) : frz (.str s) = .str s := id rfl
@[simp] theorem e_frz_l (o : Bool) (ds : List D) : frz (.lst o ds) = .lst false (frzL ds) := id rfl
@[simp] theorem e_frz_t (ds : List D) : frz (.tup ds) = .tup (frzL ds) := id rfl
@[simp] theorem e_frz_d (o : Bool) (ds : List (Key × D)) : frz (.dct o ds) = .dct false (frzK ds) := id rfl
@[simp] theorem e_frzL_n : frzL [] = [] := id rfl
@[simp] theorem e_frzL_c (d : D) (ds : List D) : frzL (d :: ds) = frz d :: frzL ds := id rfl
@[simp] theorem e_frzK_n : frzK [] = [] := id rfl
@[simp] theorem e_frzK_c (k : Key) (d : D) (ds : List (Key × D)) : frzK ((k, d) :: ds) = (k, frz d) :: frzK ds := id rfl
@[simp] theorem e_cl_n : clean .non = true := id rfl
@[simp] theorem e_cl_b (b : Bool) : clean (.bl b) = true := id rfl
@[simp] theorem e_cl_i (i : Int) : clean (.int i) = true := id rfl
@[simp] theorem e_cl_s (s : Str) : clean (.str s) = true := id rfl
@[simp] theorem e_cl_l (o : Bool) (ds : List D) : clean (.lst o ds) = (o && cleanL ds) := id rfl
@[simp] theorem e_cl_t (ds : List D) : clean (.tup ds) = cleanL ds := id rfl
@[simp] theorem e_cl_d (o : Bool) (ds : List (Key × D)) : clean (.dct o ds) = (o && cleanK ds) := id rfl
@[simp] theorem e_clL_n : cleanL [] = true := id rfl
@[simp] theorem e_clL_c (d : D) (ds : List D) : cleanL (d :: ds) = (clean d && cleanL ds) := id rfl
@[simp] theorem e_clK_n : cleanK [] = true := id rfl
@[simp] theorem e_clK_c (k : Key) (d : D) (ds : List (Key × D)) : cleanK ((k, d) :: ds) = (clean d && cleanK ds) := id rfl
@[simp] theorem e_ownl (o : Bool) (ds : List D) : ownB (.lst o ds) = o := id rfl
@[simp] theorem e_ownd (o : Bool) (ds : List (Key × D)) : ownB (.dct o ds) = o := id rfl
@[simp] theorem e_add (i j : Int) : addD (.int i) (.int j) = .ok (.int (i + j)) := id rfl
@[simp] theorem e_adds (x y : Str) : addD (.str x) (.str y) = if x.length + y.length ≤ LIM then .ok (.str (x ++ y)) else .bad := id rfl
@[simp] theorem e_addl (o p : Bool) (x y : List D) : addD (.lst o x) (.lst p y) = if x.length + y.length ≤ LIM then .ok (.lst true (x ++ y)) else .bad := id rfl
@[simp] theorem e_sub (i j : Int) : subD (.int i) (.int j) = .ok (.int (i - j)) := id rfl
@[simp] theorem e_mod (i j : Int) : modD (.int i) (.int j) = if j ≠ 0 then .ok (.int (i.fmod j)) else .bad := id rfl
@[simp] theorem e_fdiv (i j : Int) : fdivD (.int i) (.int j) = if j ≠ 0 ∧ j.natAbs < 1073741824 then .ok (.int (i.fdiv j)) else .bad := id rfl
@[simp] theorem e_mul {i j : Int} (h : mulOk i j = true) : mulD (.int i) (.int j) = .ok (.int (i * j)) := by unfold mulD; simp [h]
@[simp] theorem e_muls (x : Str) (k : Int) : mulD (.str x) (.int k) = if 0 ≤ k ∧ k ≤ 1000 ∧ x.length ≤ 1000 then .ok (.str (repS x k.toNat)) else .bad := id rfl
@[simp] theorem e_pow {i j : Int} (h : 0 ≤ j ∧ j ≤ 1000 ∧ i.natAbs < 2 ^ 200) : powD (.int i) (.int j) = .ok (.int (i ^ j.toNat)) := by unfold powD; simp [h]
@[simp] theorem e_lenl (o : Bool) (ds : List D) : lenD [.lst o ds] = .ok (.int ds.length) := id rfl
@[simp] theorem e_lent (ds : List D) : lenD [.tup ds] = .ok (.int ds.length) := id rfl
@[simp] theorem e_lens (s : Str) : lenD [.str s] = .ok (.int s.length) := id rfl
@[simp] theorem e_lend (o : Bool) (ds : List (Key × D)) : lenD [.dct o ds] = .ok (.int ds.length) := id rfl
@[simp] theorem e_listl (o : Bool) (ds : List D) : listD [.lst o ds] = .ok (.lst true ds) := id rfl
@[simp] theorem e_listt (ds : List D) : listD [.tup ds] = .ok (.lst true ds) := id rfl
@[simp] theorem e_tupl (o : Bool) (ds : List D) : tupleD [.lst o ds] = .ok (.tup ds) := id rfl
@[simp] theorem e_tupt (ds : List D) : tupleD [.tup ds] = .ok (.tup ds) := id rfl
@[simp] theorem e_tupD (ds : List D) : tupD ds = if ds.length ≤ 1000 then .ok (.tup ds) else .bad := id rfl
@[simp] theorem e_lstD (ds : List D) : lstD ds = if ds.length ≤ 1000 then .ok (.lst true ds) else .bad := id rfl
@[simp] theorem e_min (i j : Int) : minD [.int i, .int j] = .ok (.int (if j < i then j else i)) := id rfl
@[simp] theorem e_seql (o : Bool) (ds : List D) : seqD (.lst o ds) = .ok (frzL ds) := id rfl
@[simp] theorem e_seqt (ds : List D) : seqD (.tup ds) = .ok (frzL ds) := id rfl
@[simp] theorem e_down0 (d : D) : downD d [] = some d := id rfl
@[simp] theorem e_put0 (d e : D) : putD d [] e = e := id rfl
@[simp] theorem e_lt (i j : Int) : ltD (.int i) (.int j) = .ok (.bl (decide (i < j))) := id rfl
@[simp] theorem e_le (i j : Int) : leD (.int i) (.int j) = .ok (.bl (decide (i ≤ j))) := id rfl
@[simp] theorem e_gt (i j : Int) : gtD (.int i) (.int j) = .ok (.bl (decide (j < i))) := id rfl
@[simp] theorem e_ge (i j : Int) : geD (.int i) (.int j) = .ok (.bl (decide (j ≤ i))) := id rfl
@[simp] theorem e_asInt (i : Int) : asInt (.int i) = .ok (some i) := id rfl
@[simp] theorem e_rng1 (j : Int) : rng1D [.int j] = if -1000000 ≤ j ∧ j ≤ 1000000 then .ok (rngD 0 j.toNat) else .bad := id rfl
@[simp] theorem e_enum1 (o : Bool) (ds : List D) : enum1D [.lst o ds] = .ok (enumD (frzL ds)) := id rfl
@[simp] theorem e_enum1t (ds : List D) : enum1D [.tup ds] = .ok (enumD (frzL ds)) := id rfl
@[simp] theorem frzK_idem (kvs : List (Key × D)) : frzK (frzK kvs) = frzK kvs := frzK_frz kvs
@[simp] theorem frzL_idem (ds : List D) : frzL (frzL ds) = frzL ds := frzL_frz ds
@[simp] theorem frz_idem (d : D) : frz (frz d) = frz d := frz_frz d
@[simp] theorem e_rev1 (o : Bool) (ds : List D) : rev1D [.lst o ds] = .ok (frzL ds).reverse := id rfl
@[simp] theorem e_xl (o : Bool) (ds : List D) : isExn (.lst o ds) = false := id rfl
@[simp] theorem e_xt (ds : List D) : isExn (.tup ds) = false := id rfl
@[simp] theorem e_xd (o : Bool) (ds : List (Key × D)) : isExn (.dct o ds) = false := id rfl
@[simp] theorem e_xs (s : Str) : isExn (.str s) = false := id rfl
@[simp] theorem e_xi (s : Int) : isExn (.int s) = false := id rfl
@[simp] theorem e_xb (s : Bool) : isExn (.bl s) = false := id rfl
@[simp] theorem e_xn : isExn .non = false := id rfl
@[simp] theorem e_isl (o : Bool) (ds : List D) : isD' .list (.lst o ds) = true := id rfl
@[simp] theorem e_ist (ds : List D) : isD' .tuple (.tup ds) = true := id rfl
@[simp] theorem e_isd (o : Bool) (ds : List (Key × D)) : isD' .dict (.dct o ds) = true := id rfl
@[simp] theorem e_iss (s : Str) : isD' .str (.str s) = true := id rfl
@[simp] theorem e_ist_s (s : Str) : isD' .tuple (.str s) = false := id rfl
@[simp] theorem e_ist_l (o : Bool) (ds : List D) : isD' .tuple (.lst o ds) = false := id rfl
@[simp] theorem e_isl_t (ds : List D) : isD' .list (.tup ds) = false := id rfl
@[simp] theorem e_app (ds : List D) (d : D) : appendF ds [d] = if ds.length < LIM then some (ds ++ [d], .non) else none := id rfl
@[simp] theorem e_pop0 (ds : List D) : popF ds [] = match ds[ds.length - 1]? with | some d => some (ds.dropLast, d) | none => none := id rfl
@[simp] theorem e_popi (ds : List D) (i : Int) : popF ds [.int i] = if -1000000 ≤ i ∧ i ≤ 1000000 then (match ixN ds.length i with | some j => (match ds[j]? with | some d => some (ds.eraseIdx j, d) | none => none) | none => none) else none := id rfl
@[simp] theorem e_muL (f : List D → List D → Option (List D × D)) (ds as : List D) : muL f (.lst true ds) as = (f ds as).map fun p => (.lst true p.1, p.2) := id rfl
@[simp] theorem e_rev (ds : List D) : revF ds [] = some (ds.reverse, .non) := id rfl
@[simp] theorem e_clr (ds : List D) : clrF ds [] = some ([], .non) := id rfl
@[simp] theorem e_ixl (o : Bool) (ds : List D) (i : Int) : ixD (.lst o ds) (.int i) = match atI ds i with | some d => .ok d | none => .bad := id rfl
@[simp] theorem e_ixt (ds : List D) (i : Int) : ixD (.tup ds) (.int i) = match atI ds i with | some d => .ok d | none => .bad := id rfl
@[simp] theorem e_ixs (z : Str) (i : Int) : ixD (.str z) (.int i) = match atI z.cps.toList i with | some c => .ok (.str ⟨#[c]⟩) | none => .bad := id rfl
@[simp] theorem e_ixdi (o : Bool) (ds : List (Key × D)) (i : Int) : ixD (.dct o ds) (.int i) = match getK ds (.inl i) with | some d => .ok d | none => .bad := id rfl
@[simp] theorem e_ixds (o : Bool) (ds : List (Key × D)) (i : Str) : ixD (.dct o ds) (.str i) = match getK ds (.inr i) with | some d => .ok d | none => .bad := id rfl
@[simp] theorem e_sll (o : Bool) (ds : List D) (l h : Option Int) : sliceD (.lst o ds) l h = .ok (.lst true (cutD ds l h)) := id rfl
@[simp] theorem e_slt (ds : List D) (l h : Option Int) : sliceD (.tup ds) l h = .ok (.tup (cutD ds l h)) := id rfl
@[simp] theorem e_addt (x y : List D) : addD (.tup x) (.tup y) = if x.length + y.length ≤ LIM then .ok (.tup (x ++ y)) else .bad := id rfl
@[simp] theorem e_sls (z : Str) (l h : Option Int) : sliceD (.str z) l h = .ok (.str (cutS z l h)) := id rfl
@[simp] theorem e_inds (x : Str) (o : Bool) (ds : List (Key × D)) : inD (.str x) (.dct o ds) = .ok (.bl (getK ds (.inr x)).isSome) := id rfl
@[simp] theorem e_ninds (x : Str) (o : Bool) (ds : List (Key × D)) : notinD (.str x) (.dct o ds) = .ok (.bl (!(getK ds (.inr x)).isSome)) := id rfl
@[simp] theorem e_kT (m : T) (o : Option D) (env : Env) : kT m (o :: env) = match m (o :: env) with | .ok d => if clean d = true then .ok d (o :: env) else .bad | .exc c d => .exc c d (frzE (o :: env)) | .bad => .bad := id rfl
@[simp] theorem e_kM (bs : List Bool) (m : T) (o : Option D) (env : Env) : kM bs m (o :: env) = match m (mask bs (o :: env)) with | .ok d => if clean d = true then .ok d (o :: env) else .ok d (frzAt bs (o :: env)) | .exc c d => .exc c d (frzE (o :: env)) | .bad => .bad := id rfl
@[simp] theorem e_kMv (i : Nat) (o : Option D) (env : Env) : kMv i (o :: env) = match (o :: env)[i]? with | some (some d) => .ok d ((o :: env).set i none) | _ => .bad := id rfl
@[simp] theorem e_asg (i : Nat) (m : Env → RK D) (o : Option D) (env : Env) : asgM i m (o :: env) = Fl.ofK (m (o :: env)) fun d e => if i < e.length then .nx (e.set i (some d)) else .bad := id rfl
@[simp] theorem e_ret (m : Env → RK D) (o : Option D) (env : Env) : retM m (o :: env) = Fl.ofK (m (o :: env)) fun d _ => .rt d := id rfl
@[simp] theorem e_drop (m : Env → RK D) (o : Option D) (env : Env) : dropM m (o :: env) = Fl.ofK (m (o :: env)) fun _ e => .nx e := id rfl
@[simp] theorem e_raise (c : Str) (m : T) (o : Option D) (env : Env) : raiseM c m (o :: env) = match m (o :: env) with | .ok d => .exc c (frz d) (frzE (o :: env)) | .exc c d => .exc c d (frzE (o :: env)) | .bad => .bad := id rfl
@[simp] theorem e_forM (p : Pat) (bs : List Bool) (mi : Env → R (List D)) (body : Env → Fl) (o : Option D) (env : Env) : forM p bs mi body (o :: env) = match mi (mask bs (o :: env)) with | .ok ds => forD p body ds (frzAt bs (o :: env)) | .exc c d => .exc c d (frzE (o :: env)) | .bad => .bad := id rfl
@[simp] theorem e_forR (p : Pat) (mi : Env → R (List D)) (body : Env → Fl) (o : Option D) (env : Env) : forR p mi body (o :: env) = Fl.ofR (mi (o :: env)) (o :: env) fun ds => forD p body ds (o :: env) := id rfl
@[simp] theorem e_mutA (T : Ty) (i : Nat) (mk : Env → R (List D)) (ms : Env → R (List D)) (μ : D → List D → Option (D × D)) (o : Option D) (env : Env) : mutA T i mk ms μ (o :: env) = match (o :: env)[i]? with
  | some (some d) => (match mk (o :: env) with
    | .ok ks => if kindD T d ks = true then (match ms (o :: env) with
      | .ok das => if cleanL das = true then mutD i ks μ das d (o :: env) else .bad
      | .exc c d => .exc c d (frzE (o :: env))
      | .bad => .bad) else .bad
    | .exc c d => .exc c d (frzE (o :: env))
    | .bad => .bad)
  | _ => .bad := id rfl
@[simp] theorem e_mutB (T : Ty) (i : Nat) (mk : Env → R (List D)) (ms : Env → RK (List D)) (μ : D → List D → Option (D × D)) (o : Option D) (env : Env) : mutB T i mk ms μ (o :: env) = match (o :: env)[i]? with
  | some (some d) => (match mk (o :: env) with
    | .ok ks => if kindD T d ks = true then (ms ((o :: env).set i none)).bind fun das e => (match e[i]? with
      | some none => mutD i ks μ das d e
      | _ => .bad) else .bad
    | .exc c d => .exc c d (frzE (o :: env))
    | .bad => .bad)
  | _ => .bad := id rfl
@[simp] theorem e_mutD (i : Nat) (ks : List D) (μ : D → List D → Option (D × D)) (das : List D) (dorig : D) (o : Option D) (env : Env) : mutD i ks μ das dorig (o :: env) = match downD dorig ks with
  | some dn => if ownB dn = true then (match μ dn das with
    | some (d1, dy) => .ok dy ((o :: env).set i (some (putD dorig ks d1)))
    | none => .bad) else .bad
  | none => .bad := id rfl
@[simp] theorem e_kind0 (T : Ty) (d : D) : kindD T d [] = (isD' T d && ownB d) := id rfl
@[simp] theorem frzL_str (l : List Str) : frzL (l.map D.str) = l.map D.str := by rw [frzL_map]; simp [frz]
@[simp] theorem frzL_int (l : List Int) : frzL (l.map D.int) = l.map D.int := by rw [frzL_map]; simp [frz]
theorem frzL_maps {α : Type} (g g' : α → D) (h : ∀ x, frz (g x) = g' x) (l : List α) : frzL (l.map g) = l.map g' := by rw [frzL_map]; simp [h]
@[simp] theorem cleanL_str : ∀ l : List Str, cleanL (l.map D.str) = true
  | [] => rfl
  | x :: l => by simp [cleanL_str l]
@[simp] theorem cleanL_int : ∀ l : List Int, cleanL (l.map D.int) = true
  | [] => rfl
  | x :: l => by simp [cleanL_int l]
theorem cleanL_maps {α : Type} (g : α → D) (h : ∀ x, clean (g x) = true) : ∀ l : List α, cleanL (l.map g) = true
  | [] => rfl
  | x :: l => by simp [cleanL_maps g h l, h]
@[simp] theorem cleanL_app : ∀ a b : List D, cleanL (a ++ b) = (cleanL a && cleanL b)
  | [], b => by simp
  | x :: a, b => by simp [cleanL_app a b, Bool.and_assoc]
@[simp] theorem frzL_app (a b : List D) : frzL (a ++ b) = frzL a ++ frzL b := by simp [frzL_map]
def Sat (f : Fl) (Q : Fl → Prop) : Prop := Q f
def St (J : Env → Prop) (P : Fl → Prop) (f : Fl) : Prop := match f with
  | .nx e => J e | .ct e => J e | .bk e => P (.nx e) | .rt d => P (.rt d) | .exc c d e => P (.exc c d e) | .bad => False
@[simp] theorem st_nx (e : Env) (J : Env → Prop) (P : Fl → Prop) : Sat (.nx e) (St J P) = J e := id rfl
@[simp] theorem st_rt (e : D) (J : Env → Prop) (P : Fl → Prop) : Sat (.rt e) (St J P) = P (.rt e) := id rfl
def fin : Fl → R D
  | .rt d => .ok d
  | .nx _ => .ok .non
  | .exc c d _ => .exc c d
  | _ => .bad
@[simp] theorem fin_rt (d : D) : fin (.rt d) = .ok d := id rfl
@[simp] theorem fin_nx (d : Env) : fin (.nx d) = .ok .non := id rfl
theorem run_of {n : Nat} {m : Env → Fl} {ds : List D} (P : R D → Prop) (h : Sat (m (ds.map some ++ List.replicate (n - ds.length) none)) fun f => P (fin f)) : P (runD n m ds) := by
  have e : runD n m ds = fin (m (ds.map some ++ List.replicate (n - ds.length) none)) := by
    unfold runD
    cases m (ds.map some ++ List.replicate (n - ds.length) none) <;> rfl
  rw [e]; exact h
def finR (js : List Nat) : Fl → R D
  | .rt d => .ok d
  | .nx e => (match grab js e with
    | some xs => .ok (.tup (.non :: xs))
    | none => .bad)
  | .exc c d _ => .exc c d
  | _ => .bad
theorem run_ofJ {n : Nat} {js : List Nat} {m : Env → Fl} {ds : List D} (P : R D → Prop) (h : Sat (m (ds.map some ++ List.replicate (n - ds.length) none)) fun f => P (finR js f)) : P (runJ n js m ds) := by
  have e : runJ n js m ds = finR js (m (ds.map some ++ List.replicate (n - ds.length) none)) := by
    unfold runJ
    cases m (ds.map some ++ List.replicate (n - ds.length) none) <;> rfl
  rw [e]; exact h
theorem sat_for0 {p : Pat} {mb K : Env → Fl} (I : List D → Env → Prop) (Q : Fl → Prop) (h : ∀ d ds env, I (d :: ds) env → ∃ e1, bindP p d env = .ok e1 ∧ Sat (mb e1) (St (I ds) fun f => Q (f.seq K))) (h0 : ∀ env, I [] env → Sat (K env) Q) :
    ∀ ds env, I ds env → Sat ((forD p mb ds env).seq K) Q
  | [], env, i => h0 env i
  | d :: ds, env, i => by
    obtain ⟨e1, b, st⟩ := h d ds env i
    unfold forD
    rw [b]
    simp only
    unfold Sat at st
    cases q : mb e1 with
    | nx e => rw [q] at st; exact sat_for0 I Q h h0 ds e st
    | ct e => rw [q] at st; exact sat_for0 I Q h h0 ds e st
    | bk e => rw [q] at st; exact st
    | rt e => rw [q] at st; exact st
    | exc c d e => rw [q] at st; exact st
    | bad => rw [q] at st; exact st.elim
theorem seq_nxs (f : Fl) : f.seq Fl.nx = f := by cases f <;> rfl
/-- over a list of things, with what is done and what is left -/
theorem sat_for {α : Type} {p : Pat} {mb K : Env → Fl} (g : α → D) (l : List α) (I : List α → List α → Env → Prop) {Q : Fl → Prop} {env : Env} (hI : I [] l env)
    (h : ∀ a x b env, l = a ++ x :: b → I a (x :: b) env → ∃ e1, bindP p (g x) env = .ok e1 ∧ Sat (mb e1) (St (I (a ++ [x]) b) fun f => Q (f.seq K))) (h0 : ∀ env, I l [] env → Sat (K env) Q) : Sat ((forD p mb (l.map g) env).seq K) Q := by
  refine sat_for0 (fun ds e => ∃ a b, l = a ++ b ∧ ds = b.map g ∧ I a b e) Q ?_ ?_ _ env ⟨[], l, rfl, rfl, hI⟩
  · rintro d ds e ⟨a, b, hl, hb, hi⟩
    cases b with
    | nil => cases hb
    | cons x b =>
      cases hb
      obtain ⟨e1, q, st⟩ := h a x b e hl hi
      refine ⟨e1, q, ?_⟩
      unfold Sat at st ⊢
      cases q2 : mb e1 with
      | nx e => rw [q2] at st; exact ⟨a ++ [x], b, by simp [hl], rfl, st⟩
      | ct e => rw [q2] at st; exact ⟨a ++ [x], b, by simp [hl], rfl, st⟩
      | bk e => rw [q2] at st; exact st
      | rt e => rw [q2] at st; exact st
      | exc c d e => rw [q2] at st; exact st
      | bad => rw [q2] at st; exact st
  · rintro e ⟨a, b, hl, hb, hi⟩
    cases b with
    | nil => simp at hl; subst hl; exact h0 e hi
    | cons x b => cases hb
theorem sat_forE {α : Type} {p : Pat} {mb : Env → Fl} (g : α → D) (l : List α) (I : List α → List α → Env → Prop) {Q : Fl → Prop} {env : Env} (hI : I [] l env)
    (h : ∀ a x b env, l = a ++ x :: b → I a (x :: b) env → ∃ e1, bindP p (g x) env = .ok e1 ∧ Sat (mb e1) (St (I (a ++ [x]) b) Q)) (h0 : ∀ env, I l [] env → Q (.nx env)) : Sat (forD p mb (l.map g) env) Q := by
  rw [← seq_nxs (forD p mb (l.map g) env)]
  exact sat_for g l I hI (fun a x b e h1 h2 => by obtain ⟨e1, q, st⟩ := h a x b e h1 h2; exact ⟨e1, q, by simpa only [seq_nxs] using st⟩) h0
/-- over range -/
theorem sat_rng {p : Pat} {mb K : Env → Fl} (n : Nat) (I : Nat → Env → Prop) {Q : Fl → Prop} {env : Env} (hI : I 0 env)
    (h : ∀ k env, k < n → I k env → ∃ e1, bindP p (.int k) env = .ok e1 ∧ Sat (mb e1) (St (I (k + 1)) fun f => Q (f.seq K))) (h0 : ∀ env, I n env → Sat (K env) Q) : Sat ((forD p mb (rngD 0 n) env).seq K) Q := by
  refine sat_for (fun i : Nat => D.int (0 + (i : Int))) (List.range n) (fun a b e => I a.length e) hI ?_ ?_
  · intro a x b e hl hi
    have hx : a.length = x ∧ x < n := by
      have h1 : (List.range n)[a.length]? = some x := by rw [hl]; simp
      have h2 : a.length < n := by
        have := congrArg List.length hl
        simp at this; omega
      rw [List.getElem?_range h2] at h1
      cases h1
      exact ⟨rfl, h2⟩
    obtain ⟨e1, q, st⟩ := h x e hx.2 (hx.1 ▸ hi)
    refine ⟨e1, by simpa using q, ?_⟩
    simpa [hx.1] using st
  · intro e hi
    exact h0 e (by simpa using hi)
theorem lcD_map {α : Type} {p : Pat} {vs : List Nat} {mt : Env → R Bool} {me : T} {env : Env} (g : α → D) (c : α → Bool) (f : α → D) : ∀ l : List α,
    (∀ x ∈ l, ∃ e1, bindP p (g x) (wipeD env vs) = .ok e1 ∧ mt e1 = .ok (c x) ∧ (c x = true → me e1 = .ok (f x))) → lcD p vs mt me env (l.map g) = .ok ((l.filter c).map f)
  | [], _ => rfl
  | x :: l, h => by
    obtain ⟨e1, q, a, b⟩ := h x (by simp)
    have ih := lcD_map g c f l fun y hy => h y (by simp [hy])
    rw [List.map_cons, lcD, q]
    simp only [noexc, R.bind, a]
    by_cases hc : c x = true
    · rw [if_pos hc, b hc, ih]
      simp [noexc, hc]
    · rw [if_neg hc, ih]
      simp [hc]
@[simp] theorem eqvD_str (a b : Str) : eqvD (.str a) (.str b) = (a == b) := by simp [eqvD, py, PD.eqv]
@[simp] theorem eqvD_int (a b : Int) : eqvD (.int a) (.int b) = (a == b) := by simp [eqvD, py, PD.eqv]
theorem okC_of {a b : D} (h1 : cmpD a = true) (h2 : cmpD b = true) : okC a b := .inl ⟨h1, h2⟩
@[simp] theorem okC_iff {a b : D} : okC a b = ((cmpD a = true ∧ cmpD b = true) ∨ (cmpP a = true ∧ cmpW b = true) ∨ (cmpW a = true ∧ cmpP b = true)) := rfl
@[simp] theorem cmpD_str (a : Str) : cmpD (.str a) = true := id rfl
@[simp] theorem cmpD_int (a : Int) : cmpD (.int a) = true := id rfl
theorem noDctL_maps {α : Type} (g : α → D) (h : ∀ x, noDct (g x) = true) : ∀ l : List α, noDctL (l.map g) = true
  | [] => rfl
  | x :: l => by simp [noDctL, h, noDctL_maps g h l]
theorem depL_maps {α : Type} (g : α → D) (n : Nat) (h : ∀ x, depD (g x) ≤ n) : ∀ l : List α, depL (l.map g) ≤ n
  | [] => Nat.zero_le _
  | x :: l => by
    have := depL_maps g n h l
    have := h x
    simp only [List.map_cons, depL]; omega
@[simp] theorem cmpD_strs (o : Bool) (l : List Str) : cmpD (.lst o (l.map .str)) = true := by
  have h1 := noDctL_maps D.str (fun _ => rfl) l
  have h2 := depL_maps D.str 0 (fun _ => Nat.le_refl _) l
  have h3 : depD (.lst o (l.map .str)) ≤ 60 := by simp only [depD]; omega
  have h4 : noDct (.lst o (l.map .str)) = true := h1
  rw [cmpD, h4, decide_eq_true h3]; rfl
theorem pyL_refl_str : ∀ l : List Str, PD.eqvAll (pyL (l.map .str)) (pyL (l.map .str)) = true
  | [] => rfl
  | x :: l => by simp [pyL, py, PD.eqvAll, PD.eqv, pyL_refl_str l]
@[simp] theorem inD_strs (x : Str) (o : Bool) (l : List Str) : inD (.str x) (.lst o (l.map .str)) = .ok (.bl (decide (x ∈ l))) := by
  have h : (inB (.str x) (.lst o (l.map .str))) = some (decide (x ∈ l)) := by
    unfold inB
    simp [List.any_map]
    rw [Bool.eq_iff_iff]
    simp
  rw [inD, h]
@[simp] theorem notinD_strs (x : Str) (o : Bool) (l : List Str) : notinD (.str x) (.lst o (l.map .str)) = .ok (.bl (!decide (x ∈ l))) := by
  have h : (inB (.str x) (.lst o (l.map .str))) = some (decide (x ∈ l)) := by
    unfold inB
    simp [List.any_map]
    rw [Bool.eq_iff_iff]
    simp
  rw [notinD, h]
@[simp] theorem atI_nat {α : Type} (l : List α) (k : Nat) : atI l (k : Int) = l[k]? := by
  unfold atI ixN
  by_cases h : k < l.length
  · simp [h]
  · simp [h]
theorem atI_lt {α : Type} (l : List α) (k : Int) (h : 0 ≤ k) : atI l k = l[k.toNat]? := by
  obtain ⟨n, rfl⟩ := Int.eq_ofNat_of_zero_le h
  simp
@[simp] theorem neD_int (a b : Int) : neD (.int a) (.int b) = .ok (.bl (!(a == b))) := by simp [neD]
@[simp] theorem neD_str (a b : Str) : neD (.str a) (.str b) = .ok (.bl (!(a == b))) := by simp [neD]
@[simp] theorem eqD_int (a b : Int) : eqD (.int a) (.int b) = .ok (.bl (a == b)) := by simp [eqD]
@[simp] theorem eqD_str (a b : Str) : eqD (.str a) (.str b) = .ok (.bl (a == b)) := by simp [eqD]
theorem enumD_map {α : Type} (g : α → D) (l : List α) : enumD (l.map g) = (l.mapIdx fun i x => (i, x)).map fun p => .tup [.int (p.1 : Nat), g p.2] := by
  unfold enumD
  apply List.ext_getElem?
  intro i
  rw [List.getElem?_mapIdx, List.getElem?_map, List.getElem?_map, List.getElem?_mapIdx]
  cases l[i]? <;> rfl
theorem mapIdx_snd {α : Type} (l : List α) : l = (l.mapIdx fun i x => (i, x)).map (·.2) := by
  apply List.ext_getElem?
  intro i
  rw [List.getElem?_map, List.getElem?_mapIdx]
  cases l[i]? <;> rfl
theorem mapIdx_split {α : Type} (l : List α) (a : List (Nat × α)) (x : Nat × α) (b : List (Nat × α)) (h : (l.mapIdx fun i x => (i, x)) = a ++ x :: b) : x.1 = a.length ∧ l = a.map (·.2) ++ x.2 :: b.map (·.2) := by
  have h1 : (l.mapIdx fun i x => (i, x))[a.length]? = some x := by rw [h]; simp
  rw [List.getElem?_mapIdx] at h1
  have h2 : l = (l.mapIdx fun i x => (i, x)).map (·.2) := mapIdx_snd l
  constructor
  · cases q : l[a.length]? with
    | none => rw [q] at h1; cases h1
    | some y => rw [q] at h1; cases h1; rfl
  · rw [h] at h2; simpa using h2
theorem sat_enum {α : Type} {p : Pat} {mb K : Env → Fl} (g : α → D) (l : List α) (I : List α → List α → Env → Prop) {Q : Fl → Prop} {env : Env} (hI : I [] l env)
    (h : ∀ a x b env, l = a ++ x :: b → I a (x :: b) env → ∃ e1, bindP p (.tup [.int (a.length : Nat), g x]) env = .ok e1 ∧ Sat (mb e1) (St (I (a ++ [x]) b) fun f => Q (f.seq K))) (h0 : ∀ env, I l [] env → Sat (K env) Q) : Sat ((forD p mb (enumD (l.map g)) env).seq K) Q := by
  have h2 : l = (l.mapIdx fun i x => (i, x)).map (·.2) := mapIdx_snd l
  rw [enumD_map]
  refine sat_for (fun p : Nat × α => .tup [.int (p.1 : Nat), g p.2]) _ (fun a b e => I (a.map (·.2)) (b.map (·.2)) e) (h2 ▸ hI) ?_ (fun e hi => h0 e (by rw [← h2] at hi; exact hi))
  intro a x b e hl hi
  obtain ⟨h3, h4⟩ := mapIdx_split l a x b hl
  obtain ⟨e1, q, st⟩ := h (a.map (·.2)) x.2 (b.map (·.2)) e h4 hi
  exact ⟨e1, by simpa [h3] using q, by simpa using st⟩
@[simp] theorem e_store (i : Nat) (mk : Env → R (List D)) (mi : T) (mv : Env → RK D) (o : Option D) (env : Env) : storeM i mk mi mv (o :: env) = Fl.ofK (mv (o :: env)) fun dv e1 => match e1[i]? with
  | some (some d) => Fl.ofR (mk e1) e1 fun ks => Fl.ofR (mi e1) e1 fun k => if isFlat k = true then Fl.ofK (mutD i ks storeF [k, dv] d e1) fun _ e => .nx e else .bad
  | _ => .bad := id rfl
@[simp] theorem e_storeF (kvs : List (Key × D)) (s : Str) (e : D) : storeF (.dct true kvs) [.str s, e] = putF kvs (.inr s) e := id rfl
@[simp] theorem isFlat_s (s : Str) : isFlat (.str s) = true := id rfl
@[simp] theorem isFlat_i (s : Int) : isFlat (.int s) = true := id rfl
theorem getK_any (kvs : List (Key × D)) (k : Key) : (getK kvs k).isSome = kvs.any fun kv => decide (kv.1 = k) := by
  unfold getK
  rw [Option.isSome_map]
  induction kvs with
  | nil => rfl
  | cons z l ih =>
    rw [List.find?_cons, List.any_cons]
    cases decide (z.1 = k) with
    | true => rfl
    | false => simpa using ih
theorem anyK_put (kvs : List (Key × D)) (k k' : Key) (e : D) : (putKD kvs k e).any (fun kv => decide (kv.1 = k')) = (decide (k = k') || kvs.any fun kv => decide (kv.1 = k')) := by
  unfold putKD
  split
  · rename_i h
    have h1 : (kvs.map fun kv => if kv.1 = k then (kv.1, e) else kv).any (fun kv => decide (kv.1 = k')) = kvs.any fun kv => decide (kv.1 = k') := by
      rw [List.any_map]
      congr 1
      funext kv
      simp only [Function.comp]
      split <;> rfl
    rw [h1]
    by_cases hk : k = k'
    · subst hk; rw [h]; simp
    · simp [hk]
  · rw [List.any_append]
    simp [Bool.or_comm]
theorem len_put (kvs : List (Key × D)) (k : Key) (e : D) : (putKD kvs k e).length ≤ kvs.length + 1 := by
  unfold putKD
  split <;> simp
theorem put_new (kvs : List (Key × D)) (k : Key) (e : D) (h : kvs.any (fun kv => decide (kv.1 = k)) = false) : putKD kvs k e = kvs ++ [(k, e)] := by
  unfold putKD
  rw [if_neg (by simp [h])]
@[simp] theorem getK_frz (kvs : List (Key × D)) (k : Key) : getK (frzK kvs) k = (getK kvs k).map frz := by
  unfold getK
  induction kvs with
  | nil => rfl
  | cons z l ih =>
    obtain ⟨k2, d⟩ := z
    rw [frzK, List.find?_cons, List.find?_cons]
    cases q : decide (k2 = k) with
    | true => rfl
    | false => simpa using ih
@[simp] theorem wipe_n (env : Env) : wipeD env [] = env := id rfl
@[simp] theorem wipe_c (env : Env) (v : Nat) (vs : List Nat) : wipeD env (v :: vs) = (wipeD env vs).set v none := id rfl
@[simp] theorem e_forP (p : Pat) (i : Nat) (mk : Env → R (List D)) (body : Env → Fl) (o : Option D) (env : Env) : forP p i mk body (o :: env) = match (o :: env)[i]? with
  | some (some d) => (match mk (o :: env) with
    | .ok ks => (match downD d ks with
      | some (.lst false ds) => forD p body (frzL ds) (o :: env)
      | _ => .bad)
    | .exc c d => .exc c d (frzE (o :: env))
    | .bad => .bad)
  | _ => .bad := id rfl
@[simp] theorem e_stepK (i : Nat) (ks : List D) (k : D) (o : Option D) (env : Env) : stepK i (o :: env) ks k = match (o :: env)[i]? with
  | some (some d) => if (downD d (ks ++ [k])).isSome = true ∧ isFlat k = true then .ok (ks ++ [k]) else .bad
  | _ => .bad := id rfl
@[simp] theorem e_downc (d k : D) (ks : List D) : downD d (k :: ks) = (stepD d k).bind fun e => downD e ks := id rfl
@[simp] theorem e_stepl (ds : List D) (i : Int) : stepD (.lst true ds) (.int i) = atI ds i := id rfl
@[simp] theorem e_stept (ds : List D) (i : Int) : stepD (.tup ds) (.int i) = atI ds i := id rfl
@[simp] theorem e_stepd (ds : List (Key × D)) (i : Int) : stepD (.dct true ds) (.int i) = getK ds (.inl i) := id rfl
@[simp] theorem e_stepds (ds : List (Key × D)) (i : Str) : stepD (.dct true ds) (.str i) = getK ds (.inr i) := id rfl
def cutL {α : Type} (l : List α) (lo hi : Option Int) : List α := (l.drop (HT.sIx l.length 0 lo)).take (HT.sIx l.length l.length hi - HT.sIx l.length 0 lo)
theorem cutD_map {α : Type} (g : α → D) (l : List α) (lo hi : Option Int) : cutD (l.map g) lo hi = (cutL l lo hi).map g := by
  simp only [cutD, cutL, List.map_take, List.map_drop, List.length_map]
theorem cutL_nat {α : Type} (l : List α) (a b : Nat) : cutL l (some (a : Int)) (some (b : Int)) = (l.drop (min a l.length)).take (min b l.length - min a l.length) := by
  unfold cutL; rw [HT.sIx_nat, HT.sIx_nat]
theorem cutL_to {α : Type} (l : List α) (b : Nat) : cutL l none (some (b : Int)) = l.take b := by
  unfold cutL; rw [HT.sIx_nat, HT.sIx_none]
  simp [List.take_eq_take_iff]
@[simp] theorem e_mutU (T : Ty) (i : Nat) (mk : Env → R (List D)) (ms : Env → R (List D)) (μ : D → List D → Option (D × D)) (o : Option D) (env : Env) : mutU T i mk ms μ (o :: env) = match (o :: env)[i]? with
  | some (some d) => (match mk (o :: env) with
    | .ok ks => if kindD T d ks = true then (match ms ((o :: env).set i none) with
      | .ok das => mutD i ks μ das d (o :: env)
      | .exc c dd => .exc c dd (frzE ((o :: env).set i none))
      | .bad => .bad) else .bad
    | .exc c dd => .exc c dd (frzE (o :: env))
    | .bad => .bad)
  | _ => .bad := id rfl
@[simp] theorem e_updF (kvs : List (Key × D)) (o : Bool) (more : List (Key × D)) : updF (.dct true kvs) [.dct o more] = if kvs.length + more.length ≤ LIM ∧ (more.all fun kv => isFlat kv.2) = true then some (.dct true (mergeKD kvs more), .non) else none := id rfl
@[simp] theorem e_disp1s (s : Str) (y : D) : disp1 (.str s) y = .ok (.dct true [(.inr s, y)]) := id rfl
@[simp] theorem e_disp1i (s : Int) (y : D) : disp1 (.int s) y = .ok (.dct true [(.inl s, y)]) := id rfl
@[simp] theorem e_revLD (o : Bool) (ds : List D) : revLD (.lst o ds) = .ok (.lst true ds.reverse) := id rfl
@[simp] theorem permL_n {α : Type} (l : List α) : permL [] l = [] := id rfl
theorem permL_c {α : Type} (i : Nat) (π : List Nat) (l : List α) : permL (i :: π) l = (match l[i]? with
  | some x => x :: permL π l
  | none => permL π l) := by
  unfold permL
  rw [List.filterMap_cons]
  cases l[i]? <;> rfl
end VL
end

section
set_option Elab.async false
set_option linter.all false
set_option maxRecDepth 100000
set_option maxHeartbeats 1000000
namespace Gn
open PySem PySem.W VL
open L2 (cutS)
theorem fmod_bd (i j : Int) (h : 0 < j) : 0 ≤ i.fmod j ∧ i.fmod j < j := ⟨Int.fmod_nonneg_of_pos i h, Int.fmod_lt_of_pos i h⟩
theorem mul_small (i j : Int) (h : -1000000000000 < j) (h2 : j < 1000000000000) : mulOk i j = true := by
  unfold mulOk
  rw [decide_eq_true (show -(2 ^ 64) < j by omega), decide_eq_true (show j < 2 ^ 64 by omega)]; simp
theorem snoc_map (cells : List Int) (x : Int) (k : Nat) (h : cells.length = k) : ∃ c : List Int, c.length = k + 1 ∧ cells.map D.int ++ [D.int x] = c.map D.int := ⟨cells ++ [x], by simp [h], by simp⟩
theorem pow_bd (s : Int) (k : Nat) (h1 : 0 ≤ s) (h2 : s < 2147483647) (hk : k ≤ 100000) : (s * (k + 2) + 7919 * k * k + 11).natAbs < 18446744073709551616 := by
  have a1 : s * (k + 2) ≤ 2147483647 * 100002 := Int.mul_le_mul (by omega) (by omega) (by omega) (by omega)
  have a2 : 0 ≤ s * (k + 2) := Int.mul_nonneg h1 (by omega)
  have a3 : 7919 * (k : Int) * k ≤ 791900000 * 100000 := Int.mul_le_mul (by omega) (by omega) (by omega) (by omega)
  have a4 : 0 ≤ 7919 * (k : Int) * k := Int.mul_nonneg (by omega) (by omega)
  omega
theorem pop_lt (ds : List D) (j : Nat) (h : j < ds.length) (h2 : ds.length ≤ 1000) : popF ds [.int (j : Nat)] = some (ds.eraseIdx j, ds[j]) := by
  have h3 : ds[j]? = some ds[j] := List.getElem?_eq_getElem h
  have h4 : (-1000000 : Int) ≤ j ∧ (j : Int) ≤ 1000000 := by omega
  simp [L2.ixN, h, h3, h4]
theorem er_map {α β : Type} (g : α → β) : ∀ (l : List α) (j : Nat), (l.map g).eraseIdx j = (l.eraseIdx j).map g
  | [], _ => rfl
  | x :: l, 0 => rfl
  | x :: l, j + 1 => by simp [er_map g l j]
theorem mem_er {α : Type} (l : List α) (j : Nat) : ∀ x ∈ l.eraseIdx j, x ∈ l := fun x h => List.mem_of_mem_eraseIdx h
def ch (n : Nat) : Str := ⟨#[n]⟩
theorem rep_list (c n : Nat) : (repS (ch c) n).cps.toList = List.replicate n c := by
  unfold repS ch
  induction n with
  | zero => rfl
  | succ n ih => simp [List.replicate_succ]
theorem rep_len (c n : Nat) : (repS (ch c) n).length = n := by
  have := congrArg List.length (rep_list c n)
  simpa [Str.length] using this
theorem app_list (x y : Str) : (x ++ y).cps.toList = x.cps.toList ++ y.cps.toList := by
  show (x.cps ++ y.cps).toList = _
  simp
theorem app_len (x y : Str) : (x ++ y).length = x.length + y.length := by
  show (x.cps ++ y.cps).size = _
  simp [Str.length]
theorem ch_len (n : Nat) : (ch n).length = 1 := rfl
theorem nod_rng (f : Nat → Str) (n : Nat) (h : ∀ i j, i < n → j < n → f i = f j → i = j) : ((List.range n).map f).Nodup := by
  unfold List.Nodup
  rw [List.pairwise_map]
  refine List.Pairwise.imp_of_mem ?_ (List.nodup_range (n := n))
  intro a b ha hb hne e
  exact hne (h a b (List.mem_range.mp ha) (List.mem_range.mp hb) e)
def LetOk (c : Nat) : Prop := 97 ≤ c ∧ c < 123
def NameOk (x : Str) : Prop := 1 ≤ x.length ∧ x.length ≤ 8 ∧ ∀ c ∈ x.cps.toList, LetOk c
theorem nod_of (R : Nat → Str → Prop) (l : List Str) (inj : ∀ i j x, i < l.length → j < l.length → R i x → R j x → i = j) (h : ∀ i x, l[i]? = some x → R i x) : l.Nodup := by
  unfold List.Nodup
  rw [List.pairwise_iff_getElem]
  intro i j hi hj hij e
  have h1 := h i l[i] (List.getElem?_eq_getElem hi)
  have h2 := h j l[j] (List.getElem?_eq_getElem hj)
  rw [← e] at h2
  have := inj i j _ hi hj h1 h2
  omega
theorem len_list (z : Str) : z.length = z.cps.toList.length := by simp [Str.length]
theorem cut_to (z : Str) (n : Nat) : (cutS z none (some (n : Int))).cps.toList = z.cps.toList.take n := by
  unfold cutS
  simp only [HT.sIx_nat, HT.sIx_none]
  simp [Str.length, List.take_eq_take_iff]
theorem cut_from (z : Str) (n : Nat) : (cutS z (some (n : Int)) none).cps.toList = z.cps.toList.drop n := by
  unfold cutS
  simp only [HT.sIx_nat, HT.sIx_none]
  rw [len_list]
  generalize z.cps.toList = l
  by_cases h : n ≤ l.length
  · rw [Nat.min_eq_left h, List.take_of_length_le (by simp)]
  · have h1 : min n l.length = l.length := by omega
    simp [h1, List.drop_eq_nil_of_le (show l.length ≤ n by omega)]
theorem app_inj {A B : List Nat} {a b : Nat} (h : A ++ [a] = B ++ [b]) : a = b := by
  have := congrArg List.getLast? h
  simpa using this
theorem mul_i (i j : Int) (h : (-1000000000000 < i ∧ i < 1000000000000) ∨ (-1000000000000 < j ∧ j < 1000000000000)) : mulOk i j = true := by
  unfold mulOk
  rcases h with h | h
  · rw [decide_eq_true (show -(2 ^ 64) < i by omega), decide_eq_true (show i < 2 ^ 64 by omega)]; simp
  · rw [decide_eq_true (show -(2 ^ 64) < j by omega), decide_eq_true (show j < 2 ^ 64 by omega)]; simp
theorem blsOf_map {α : Type} (g : α → Bool) : ∀ l : List α, blsOf (l.map fun x => D.bl (g x)) = some (l.map g)
  | [] => rfl
  | x :: l => by simp [blsOf, blsOf_map g l]
theorem frzAt_c2 (b : Bool) (bs : List Bool) (o : Option D) (env : VL.Env) : frzAt (b :: bs) (o :: env) = (bif b then o.map VL.frz else o) :: frzAt bs env := by cases b <;> rfl
@[simp] theorem atI_lit {α : Type} (l : List α) (n : Nat) : L2.atI l (no_index (@OfNat.ofNat Int n _)) = l[(@OfNat.ofNat Nat n _)]? := VL.atI_nat l n
theorem eqvAll_refl0 : ∀ l : List PD, (∀ x ∈ l, PD.eqv x x = true) → PD.eqvAll l l = true
  | [], _ => rfl
  | x :: l, h => by simp [PD.eqvAll, h x (by simp), eqvAll_refl0 l fun y hy => h y (by simp [hy])]
theorem eqv_reflD (d : D) (h : noDct d = true) : PD.eqv (py d) (py d) = true := PD.eqv_refl _ (noN_py d h)
mutual
theorem py_frz : ∀ d : D, noDct d = true → py (frz d) = py d
  | .non, _ => rfl
  | .bl b, _ => rfl
  | .int i, _ => rfl
  | .str s, _ => rfl
  | .lst o ds, h => by simp only [frz, py]; rw [pyL_frz ds h]
  | .tup ds, h => by simp only [frz, py]; rw [pyL_frz ds h]
  | .dct o kvs, h => by simp only [noDct, List.isEmpty_iff] at h; subst h; rfl
theorem pyL_frz : ∀ ds : List D, noDctL ds = true → pyL (frzL ds) = pyL ds
  | [], _ => rfl
  | d :: ds, h => by
    have h := Bool.and_eq_true_iff.mp (by simpa only [noDctL] using h)
    simp only [frzL, pyL]; rw [py_frz d h.1, pyL_frz ds h.2]
end
theorem eqD_same (d : D) (h : cmpD d = true) : eqD d d = .ok (.bl true) := by
  have h2 := (Bool.and_eq_true_iff.mp h).1
  unfold eqD eqvD
  simp [h, eqv_reflD d h2]
theorem neD_same (d : D) (h : cmpD d = true) : neD d d = .ok (.bl false) := by
  have h2 := (Bool.and_eq_true_iff.mp h).1
  unfold neD eqvD
  simp [h, eqv_reflD d h2]
@[simp] theorem noDctL_str (l : List Str) : noDctL (l.map D.str) = true := noDctL_maps _ (fun _ => rfl) l
@[simp] theorem noDctL_int (l : List Int) : noDctL (l.map D.int) = true := noDctL_maps _ (fun _ => rfl) l
@[simp] theorem atI_m1 {α : Type} (l : List α) : L2.atI l (-1) = l[l.length - 1]? := by
  unfold L2.atI L2.ixN
  cases l with
  | nil => simp
  | cons x l =>
    rw [if_neg (by omega), if_pos (by simp; omega)]
    have : (-1 + ((x :: l).length : Int)).toNat = (x :: l).length - 1 := by simp; omega
    rw [this]; rfl
@[simp] theorem cutL_m1 {α : Type} (l : List α) : cutL l none (some (-1)) = l.dropLast := by
  unfold cutL
  rw [HT.sIx_none]
  have : HT.sIx l.length l.length (some (-1)) = l.length - 1 := by
    unfold HT.sIx
    simp only
    rw [if_pos (by omega)]; omega
  rw [this, List.dropLast_eq_take]; simp
@[simp] theorem is_int_non : isD' .int .non = false := id rfl
@[simp] theorem is_int_bl (b : Bool) : isD' .int (.bl b) = true := id rfl
@[simp] theorem is_int_int (i : Int) : isD' .int (.int i) = true := id rfl
@[simp] theorem is_int_str (s : Str) : isD' .int (.str s) = false := id rfl
@[simp] theorem is_int_lst (o : Bool) (ds : List D) : isD' .int (.lst o ds) = false := id rfl
@[simp] theorem is_int_tup (ds : List D) : isD' .int (.tup ds) = false := id rfl
@[simp] theorem is_int_dct (o : Bool) (ds : List (L2.Key × D)) : isD' .int (.dct o ds) = false := id rfl
@[simp] theorem is_bool_non : isD' .bool .non = false := id rfl
@[simp] theorem is_bool_bl (b : Bool) : isD' .bool (.bl b) = true := id rfl
@[simp] theorem is_bool_int (i : Int) : isD' .bool (.int i) = false := id rfl
@[simp] theorem is_bool_str (s : Str) : isD' .bool (.str s) = false := id rfl
@[simp] theorem is_bool_lst (o : Bool) (ds : List D) : isD' .bool (.lst o ds) = false := id rfl
@[simp] theorem is_bool_tup (ds : List D) : isD' .bool (.tup ds) = false := id rfl
@[simp] theorem is_bool_dct (o : Bool) (ds : List (L2.Key × D)) : isD' .bool (.dct o ds) = false := id rfl
@[simp] theorem is_str_non : isD' .str .non = false := id rfl
@[simp] theorem is_str_bl (b : Bool) : isD' .str (.bl b) = false := id rfl
@[simp] theorem is_str_int (i : Int) : isD' .str (.int i) = false := id rfl
@[simp] theorem is_str_str (s : Str) : isD' .str (.str s) = true := id rfl
@[simp] theorem is_str_lst (o : Bool) (ds : List D) : isD' .str (.lst o ds) = false := id rfl
@[simp] theorem is_str_tup (ds : List D) : isD' .str (.tup ds) = false := id rfl
@[simp] theorem is_str_dct (o : Bool) (ds : List (L2.Key × D)) : isD' .str (.dct o ds) = false := id rfl
@[simp] theorem is_list_non : isD' .list .non = false := id rfl
@[simp] theorem is_list_bl (b : Bool) : isD' .list (.bl b) = false := id rfl
@[simp] theorem is_list_int (i : Int) : isD' .list (.int i) = false := id rfl
@[simp] theorem is_list_str (s : Str) : isD' .list (.str s) = false := id rfl
@[simp] theorem is_list_lst (o : Bool) (ds : List D) : isD' .list (.lst o ds) = true := id rfl
@[simp] theorem is_list_tup (ds : List D) : isD' .list (.tup ds) = false := id rfl
@[simp] theorem is_list_dct (o : Bool) (ds : List (L2.Key × D)) : isD' .list (.dct o ds) = false := id rfl
@[simp] theorem is_tuple_non : isD' .tuple .non = false := id rfl
@[simp] theorem is_tuple_bl (b : Bool) : isD' .tuple (.bl b) = false := id rfl
@[simp] theorem is_tuple_int (i : Int) : isD' .tuple (.int i) = false := id rfl
@[simp] theorem is_tuple_str (s : Str) : isD' .tuple (.str s) = false := id rfl
@[simp] theorem is_tuple_lst (o : Bool) (ds : List D) : isD' .tuple (.lst o ds) = false := id rfl
@[simp] theorem is_tuple_tup (ds : List D) : isD' .tuple (.tup ds) = true := id rfl
@[simp] theorem is_tuple_dct (o : Bool) (ds : List (L2.Key × D)) : isD' .tuple (.dct o ds) = false := id rfl
@[simp] theorem is_dict_non : isD' .dict .non = false := id rfl
@[simp] theorem is_dict_bl (b : Bool) : isD' .dict (.bl b) = false := id rfl
@[simp] theorem is_dict_int (i : Int) : isD' .dict (.int i) = false := id rfl
@[simp] theorem is_dict_str (s : Str) : isD' .dict (.str s) = false := id rfl
@[simp] theorem is_dict_lst (o : Bool) (ds : List D) : isD' .dict (.lst o ds) = false := id rfl
@[simp] theorem is_dict_tup (ds : List D) : isD' .dict (.tup ds) = false := id rfl
@[simp] theorem is_dict_dct (o : Bool) (ds : List (L2.Key × D)) : isD' .dict (.dct o ds) = true := id rfl
theorem eqvAll_str : ∀ l m : List Str, PD.eqvAll (pyL (l.map .str)) (pyL (m.map .str)) = decide (l = m)
  | [], [] => rfl
  | [], y :: m => by simp [pyL, PD.eqvAll]
  | x :: l, [] => by simp [pyL, PD.eqvAll]
  | x :: l, y :: m => by
    simp only [List.map_cons, pyL, py, PD.eqvAll, PD.eqv, eqvAll_str l m, List.cons.injEq]
    rw [Bool.eq_iff_iff]; simp
theorem eqvAll_int : ∀ l m : List Int, PD.eqvAll (pyL (l.map .int)) (pyL (m.map .int)) = decide (l = m)
  | [], [] => rfl
  | [], y :: m => by simp [pyL, PD.eqvAll]
  | x :: l, [] => by simp [pyL, PD.eqvAll]
  | x :: l, y :: m => by
    simp only [List.map_cons, pyL, py, PD.eqvAll, PD.eqv, eqvAll_int l m, List.cons.injEq]
    rw [Bool.eq_iff_iff]; simp
@[simp] theorem eqvD_strs (o o' : Bool) (l m : List Str) : eqvD (.lst o (l.map .str)) (.lst o' (m.map .str)) = decide (l = m) := by simp only [eqvD, py, PD.eqv, eqvAll_str]
@[simp] theorem eqvD_tstrs (l m : List Str) : eqvD (.tup (l.map .str)) (.tup (m.map .str)) = decide (l = m) := by simp only [eqvD, py, PD.eqv, eqvAll_str]
@[simp] theorem eqvD_ints (o o' : Bool) (l m : List Int) : eqvD (.lst o (l.map .int)) (.lst o' (m.map .int)) = decide (l = m) := by simp only [eqvD, py, PD.eqv, eqvAll_int]
@[simp] theorem eqvD_bl (a b : Bool) : eqvD (.bl a) (.bl b) = (a == b) := by simp [eqvD, py, PD.eqv]
@[simp] theorem cmpD_bl (a : Bool) : cmpD (.bl a) = true := id rfl
@[simp] theorem cmpD_non : cmpD .non = true := id rfl
@[simp] theorem cmpD_tstrs (l : List Str) : cmpD (.tup (l.map .str)) = true := cmpD_strs true l
@[simp] theorem cmpD_ints (o : Bool) (l : List Int) : cmpD (.lst o (l.map .int)) = true := by
  have h1 := noDctL_maps D.int (fun _ => rfl) l
  have h2 := depL_maps D.int 0 (fun _ => Nat.le_refl _) l
  have h3 : depD (.lst o (l.map .int)) ≤ 60 := by simp only [depD]; omega
  have h4 : noDct (.lst o (l.map .int)) = true := h1
  rw [cmpD, h4, decide_eq_true h3]; rfl
@[simp] theorem eqD_strs (o o' : Bool) (l m : List Str) : eqD (.lst o (l.map .str)) (.lst o' (m.map .str)) = .ok (.bl (decide (l = m))) := by simp [eqD]
@[simp] theorem neD_strs (o o' : Bool) (l m : List Str) : neD (.lst o (l.map .str)) (.lst o' (m.map .str)) = .ok (.bl (!decide (l = m))) := by simp [neD]
@[simp] theorem eqD_bl (a b : Bool) : eqD (.bl a) (.bl b) = .ok (.bl (a == b)) := by simp [eqD]
@[simp] theorem neD_bl (a b : Bool) : neD (.bl a) (.bl b) = .ok (.bl (!(a == b))) := by simp [neD]
@[simp] theorem neD_tstrs (l m : List Str) : neD (.tup (l.map .str)) (.tup (m.map .str)) = .ok (.bl (!decide (l = m))) := by simp [neD]
@[simp] theorem eqD_tstrs (l m : List Str) : eqD (.tup (l.map .str)) (.tup (m.map .str)) = .ok (.bl (decide (l = m))) := by simp [eqD]
@[simp] theorem e_neg (i : Int) : negD (.int i) = .ok (.int (-i)) := id rfl
theorem snoc_of {α : Type} (l : List α) (h : l ≠ []) : ∃ v z, l = v ++ [z] ∧ l.dropLast = v ∧ l[l.length - 1]? = some z := by
  refine ⟨l.dropLast, l.getLast h, (List.dropLast_concat_getLast h).symm, rfl, ?_⟩
  rw [← List.getLast?_eq_getElem?, List.getLast?_eq_some_getLast h]
@[simp] theorem isD_nn : isD .non .non = .ok (.bl true) := id rfl
@[simp] theorem isD_ln (o : Bool) (ds : List D) : isD (.lst o ds) .non = .ok (.bl false) := id rfl
@[simp] theorem isD_tn (ds : List D) : isD (.tup ds) .non = .ok (.bl false) := id rfl
@[simp] theorem isD_sn (s : Str) : isD (.str s) .non = .ok (.bl false) := id rfl
@[simp] theorem isD_in (s : Int) : isD (.int s) .non = .ok (.bl false) := id rfl
@[simp] theorem isD_bb (a b : Bool) : isD (.bl a) (.bl b) = .ok (.bl (a == b)) := by cases a <;> cases b <;> rfl
@[simp] theorem notisD_nn : notisD .non .non = .ok (.bl false) := id rfl
@[simp] theorem notisD_ln (o : Bool) (ds : List D) : notisD (.lst o ds) .non = .ok (.bl true) := id rfl
@[simp] theorem notisD_tn (ds : List D) : notisD (.tup ds) .non = .ok (.bl true) := id rfl
@[simp] theorem notisD_sn (s : Str) : notisD (.str s) .non = .ok (.bl true) := id rfl
@[simp] theorem notisD_in (s : Int) : notisD (.int s) .non = .ok (.bl true) := id rfl
@[simp] theorem notisD_bb (a b : Bool) : notisD (.bl a) (.bl b) = .ok (.bl (!(a == b))) := by cases a <;> cases b <;> rfl
@[simp] theorem e_all {α : Type} (o : Bool) (g : α → Bool) (l : List α) : allD [.lst o (l.map fun x => D.bl (g x))] = .ok (.bl (l.all g)) := by simp [allD, blsOf_map, List.all_map]
@[simp] theorem e_any {α : Type} (o : Bool) (g : α → Bool) (l : List α) : anyD [.lst o (l.map fun x => D.bl (g x))] = .ok (.bl (l.any g)) := by simp [anyD, blsOf_map, List.any_map]
@[simp] theorem isD_dn (o : Bool) (ds : List (L2.Key × D)) : isD (.dct o ds) .non = .ok (.bl false) := id rfl
@[simp] theorem notisD_dn (o : Bool) (ds : List (L2.Key × D)) : notisD (.dct o ds) .non = .ok (.bl true) := id rfl
theorem cut_L1 {α : Type} (l : List α) (n : Nat) : cutL l (some (n : Int)) none = l.drop n := by
  unfold cutL
  simp only [HT.sIx_nat, HT.sIx_none]
  by_cases h : n ≤ l.length
  · rw [Nat.min_eq_left h, List.take_of_length_le (by simp)]
  · have h1 : min n l.length = l.length := by omega
    simp [h1, List.drop_eq_nil_of_le (show l.length ≤ n by omega)]
@[simp] theorem cutL_1 {α : Type} (l : List α) : cutL l (some 1) none = l.drop 1 := cut_L1 l 1
@[simp] theorem e_chain_le_lt (a b n : Int) : chainD leD ltD (.ok (.int n)) (.int a) (.int b) = .ok (.bl (decide (a ≤ b) && decide (b < n))) := by
  show (leD (.int a) (.int b)).bind (chain2 ltD (.ok (.int n)) (.int b)) = _
  rw [e_le]
  cases h : decide (a ≤ b) with
  | true => show (R.ok (D.int n)).bind (fun k => ltD (.int b) k) = _; simp
  | false => rfl
@[simp] theorem e_chain_le_le (a b n : Int) : chainD leD leD (.ok (.int n)) (.int a) (.int b) = .ok (.bl (decide (a ≤ b) && decide (b ≤ n))) := by
  show (leD (.int a) (.int b)).bind (chain2 leD (.ok (.int n)) (.int b)) = _
  rw [e_le]
  cases h : decide (a ≤ b) with
  | true => show (R.ok (D.int n)).bind (fun k => leD (.int b) k) = _; simp
  | false => rfl
@[simp] theorem e_chain_lt_lt (a b n : Int) : chainD ltD ltD (.ok (.int n)) (.int a) (.int b) = .ok (.bl (decide (a < b) && decide (b < n))) := by
  show (ltD (.int a) (.int b)).bind (chain2 ltD (.ok (.int n)) (.int b)) = _
  rw [e_lt]
  cases h : decide (a < b) with
  | true => show (R.ok (D.int n)).bind (fun k => ltD (.int b) k) = _; simp
  | false => rfl
@[simp] theorem e_zip2lt (o : Bool) (xs ys : List D) : zip2D [.lst o xs, .tup ys] = .ok (zipD (frzL xs) (frzL ys)) := id rfl
@[simp] theorem e_zip2tl (o : Bool) (xs ys : List D) : zip2D [.tup xs, .lst o ys] = .ok (zipD (frzL xs) (frzL ys)) := id rfl
@[simp] theorem e_zip2t (xs ys : List D) : zip2D [.tup xs, .tup ys] = .ok (zipD (frzL xs) (frzL ys)) := id rfl
@[simp] theorem e_zip2 (o p : Bool) (xs ys : List D) : zip2D [.lst o xs, .lst p ys] = .ok (zipD (frzL xs) (frzL ys)) := id rfl
theorem run_eq {n : Nat} {m : VL.Env → Fl} {ds : List D} {r : R D} (h : Sat (m (ds.map some ++ List.replicate (n - ds.length) none)) fun f => fin f = r) : runD n m ds = r := run_of (P := fun x => x = r) h
theorem sat_asg {i : Nat} {m : VL.Env → RK D} {b : VL.Env → Fl} {env e : VL.Env} {d : D} {Q : Fl → Prop} (h : m env = .ok d e) (hi : i < e.length) (k : Sat (b (e.set i (some d))) Q) : Sat (seqM (asgM i m) b env) Q := by
  show Sat ((asgM i m env).seq b) Q
  unfold asgM
  rw [h]
  show Sat ((if i < e.length then Fl.nx (e.set i (some d)) else .bad).seq b) Q
  rw [if_pos hi]; exact k
theorem sat_drop {m : VL.Env → RK D} {b : VL.Env → Fl} {env e : VL.Env} {d : D} {Q : Fl → Prop} (h : m env = .ok d e) (k : Sat (b e) Q) : Sat (seqM (dropM m) b env) Q := by
  show Sat ((dropM m env).seq b) Q
  unfold dropM
  rw [h]; exact k
theorem sat_ret {m : VL.Env → RK D} {env e : VL.Env} {d : D} {Q : Fl → Prop} (h : m env = .ok d e) (k : Q (.rt d)) : Sat (retM m env) Q := by
  unfold Sat retM
  rw [h]; exact k
theorem sat_ifT {c : VL.Env → R Bool} {a b k : VL.Env → Fl} {env : VL.Env} {Q : Fl → Prop} (h : c env = .ok true) (q : Sat ((a env).seq k) Q) : Sat (seqM (ifM c a b) k env) Q := by
  show Sat ((Fl.ofR (c env) env fun k => if k = true then a env else b env).seq k) Q
  rw [h]; exact q
theorem sat_ifF {c : VL.Env → R Bool} {a b k : VL.Env → Fl} {env : VL.Env} {Q : Fl → Prop} (h : c env = .ok false) (q : Sat ((b env).seq k) Q) : Sat (seqM (ifM c a b) k env) Q := by
  show Sat ((Fl.ofR (c env) env fun k => if k = true then a env else b env).seq k) Q
  rw [h]; exact q
theorem sat_if0 {c : VL.Env → R Bool} {a k : VL.Env → Fl} {env : VL.Env} {Q : Fl → Prop} (h : c env = .ok false) (q : Sat (k env) Q) : Sat (seqM (ifM c a Fl.nx) k env) Q := sat_ifF h q
theorem sat_ifE {c : VL.Env → R Bool} {a b : VL.Env → Fl} {env : VL.Env} {Q : Fl → Prop} {v : Bool} (h : c env = .ok v) (q : Sat (if v = true then a env else b env) Q) : Sat (ifM c a b env) Q := by
  show Sat (Fl.ofR (c env) env fun k => if k = true then a env else b env) Q
  rw [h]; exact q
theorem sat_loop {p : Pat} {bs : List Bool} {mi : VL.Env → R (List D)} {body k : VL.Env → Fl} {env : VL.Env} {ds : List D} {Q : Fl → Prop} (h : mi (mask bs env) = .ok ds) (q : Sat ((forD p body ds (frzAt bs env)).seq k) Q) : Sat (seqM (VL.forM p bs mi body) k env) Q := by
  show Sat ((VL.forM p bs mi body env).seq k) Q
  unfold VL.forM
  rw [h]; exact q
theorem sat_loopR {p : Pat} {mi : VL.Env → R (List D)} {body k : VL.Env → Fl} {env : VL.Env} {ds : List D} {Q : Fl → Prop} (h : mi env = .ok ds) (q : Sat ((forD p body ds env).seq k) Q) : Sat (seqM (forR p mi body) k env) Q := by
  show Sat ((forR p mi body env).seq k) Q
  unfold forR
  rw [h]; exact q
theorem sat_aM {i : Nat} {m : T} {bs : List Bool} {b : VL.Env → Fl} {env : VL.Env} {d : D} {Q : Fl → Prop} (h : m (mask bs env) = .ok d) (hc : clean d = true) (hi : i < env.length) (k : Sat (b (env.set i (some d))) Q) : Sat (seqM (asgM i (kM bs m)) b env) Q :=
  sat_asg (by unfold kM; rw [h]; simp only [hc]; rfl) hi k
theorem sat_aMf {i : Nat} {m : T} {bs : List Bool} {b : VL.Env → Fl} {env : VL.Env} {d : D} {Q : Fl → Prop} (h : m (mask bs env) = .ok d) (hc : clean d = false) (hi : i < (frzAt bs env).length) (k : Sat (b ((frzAt bs env).set i (some d))) Q) : Sat (seqM (asgM i (kM bs m)) b env) Q :=
  sat_asg (by unfold kM; rw [h]; simp only [hc]; rfl) hi k
theorem sat_aT {i : Nat} {m : T} {b : VL.Env → Fl} {env : VL.Env} {d : D} {Q : Fl → Prop} (h : m env = .ok d) (hc : clean d = true) (hi : i < env.length) (k : Sat (b (env.set i (some d))) Q) : Sat (seqM (asgM i (kT m)) b env) Q :=
  sat_asg (by unfold kT; rw [h]; simp only [hc]; rfl) hi k
theorem sat_rM {m : T} {bs : List Bool} {env : VL.Env} {d : D} {Q : Fl → Prop} (h : m (mask bs env) = .ok d) (k : Q (.rt d)) : Sat (retM (kM bs m) env) Q := by
  cases hc : clean d with
  | true => exact sat_ret (e := env) (by unfold kM; rw [h]; simp only [hc]; rfl) k
  | false => exact sat_ret (e := frzAt bs env) (by unfold kM; rw [h]; simp only [hc]; rfl) k
theorem sat_rT {m : T} {env : VL.Env} {d : D} {Q : Fl → Prop} (h : m env = .ok d) (hc : clean d = true) (k : Q (.rt d)) : Sat (retM (kT m) env) Q :=
  sat_ret (e := env) (by unfold kT; rw [h]; simp only [hc]; rfl) k
theorem tLc_eq {α : Type} {mi : VL.Env → R (List D)} {p : Pat} {vs : List Nat} {mt : VL.Env → R Bool} {me : T} {env : VL.Env} (g : α → D) (c : α → Bool) (f : α → D) (l : List α) (h0 : mi env = .ok (l.map g))
    (h : ∀ x ∈ l, ∃ e1, bindP p (g x) (wipeD env vs) = .ok e1 ∧ mt e1 = .ok (c x) ∧ (c x = true → me e1 = .ok (f x))) (hl : l.length ≤ LIM) : tLc' mi p vs mt me env = .ok (.lst true ((l.filter c).map f)) := by
  show (mi env).bind (fun ds => (lcD p vs mt me env ds).bind lcFin) = _
  rw [h0]
  show (lcD p vs mt me env (l.map g)).bind lcFin = _
  rw [lcD_map g c f l h]
  have : ((l.filter c).map f).length ≤ LIM := by rw [List.length_map]; exact Nat.le_trans (List.length_filter_le _ _) hl
  show (if ((l.filter c).map f).length ≤ LIM then R.ok (D.lst true ((l.filter c).map f)) else .bad) = _
  rw [if_pos this]
theorem filtT {α : Type} (l : List α) : l.filter (fun _ => true) = l := List.filter_eq_self.mpr (by simp)
/-- all of them -/
theorem tLc_all {α : Type} {mi : VL.Env → R (List D)} {p : Pat} {vs : List Nat} {mt : VL.Env → R Bool} {me : T} {env : VL.Env} (g : α → D) (f : α → D) (l : List α) (h0 : mi env = .ok (l.map g))
    (h : ∀ x ∈ l, ∃ e1, bindP p (g x) (wipeD env vs) = .ok e1 ∧ mt e1 = .ok true ∧ me e1 = .ok (f x)) (hl : l.length ≤ LIM) : tLc' mi p vs mt me env = .ok (.lst true (l.map f)) := by
  have := tLc_eq g (fun _ => true) f l h0 (fun x hx => by obtain ⟨e1, a, b, c⟩ := h x hx; exact ⟨e1, a, b, fun _ => c⟩) hl
  rw [filtT] at this; exact this
theorem sat_aLc {α : Type} {i : Nat} {bs : List Bool} {b : VL.Env → Fl} {mi : VL.Env → R (List D)} {p : Pat} {vs : List Nat} {mt : VL.Env → R Bool} {me : T} {env : VL.Env} {Q : Fl → Prop} (g : α → D) (c : α → Bool) (f : α → D) (l : List α) (h0 : mi (mask bs env) = .ok (l.map g))
    (h : ∀ x ∈ l, ∃ e1, bindP p (g x) (wipeD (mask bs env) vs) = .ok e1 ∧ mt e1 = .ok (c x) ∧ (c x = true → me e1 = .ok (f x))) (hl : l.length ≤ LIM) (hc : cleanL ((l.filter c).map f) = true) (hi : i < env.length)
    (k : Sat (b (env.set i (some (.lst true ((l.filter c).map f))))) Q) : Sat (seqM (asgM i (kM bs (tLc' mi p vs mt me))) b env) Q :=
  sat_aM (tLc_eq g c f l h0 h hl) (by simpa using hc) hi k
theorem sat_aLcA {α : Type} {i : Nat} {bs : List Bool} {b : VL.Env → Fl} {mi : VL.Env → R (List D)} {p : Pat} {vs : List Nat} {mt : VL.Env → R Bool} {me : T} {env : VL.Env} {Q : Fl → Prop} (g : α → D) (f : α → D) (l : List α) (h0 : mi (mask bs env) = .ok (l.map g))
    (h : ∀ x ∈ l, ∃ e1, bindP p (g x) (wipeD (mask bs env) vs) = .ok e1 ∧ mt e1 = .ok true ∧ me e1 = .ok (f x)) (hl : l.length ≤ LIM) (hc : cleanL (l.map f) = true) (hi : i < env.length)
    (k : Sat (b (env.set i (some (.lst true (l.map f))))) Q) : Sat (seqM (asgM i (kM bs (tLc' mi p vs mt me))) b env) Q :=
  sat_aM (tLc_all g f l h0 h hl) (by simpa using hc) hi k
/-- a while loop with a measure -/
theorem sat_while0 {c : VL.Env → R Bool} {body K : VL.Env → Fl} (I : Nat → VL.Env → Prop) (Q : Fl → Prop)
    (h : ∀ m env, I m env → (c env = .ok false ∧ Sat (K env) Q) ∨ (c env = .ok true ∧ Sat (body env) (St (fun e => ∃ m2, m2 < m ∧ I m2 e) fun f => Q (f.seq K)))) :
    ∀ (n m : Nat) (env : VL.Env), m < n → I m env → Sat ((whileD c body n env).seq K) Q
  | 0, m, env, hm, _ => by omega
  | n + 1, m, env, hm, hi => by
    unfold whileD
    rcases h m env hi with ⟨h1, h2⟩ | ⟨h1, h2⟩
    · rw [h1]; exact h2
    · rw [h1]
      unfold Sat at h2
      show Sat ((match body env with
        | .nx e => whileD c body n e
        | .ct e => whileD c body n e
        | .bk e => .nx e
        | r => r).seq K) Q
      cases q : body env with
      | nx e => rw [q] at h2; obtain ⟨m2, h3, h4⟩ := h2; exact sat_while0 I Q h n m2 e (by omega) h4
      | ct e => rw [q] at h2; obtain ⟨m2, h3, h4⟩ := h2; exact sat_while0 I Q h n m2 e (by omega) h4
      | bk e => rw [q] at h2; exact h2
      | rt e => rw [q] at h2; exact h2
      | exc c d e => rw [q] at h2; exact h2
      | bad => rw [q] at h2; exact h2.elim
theorem sat_while {c : VL.Env → R Bool} {body K : VL.Env → Fl} {n : Nat} {env : VL.Env} (I : Nat → VL.Env → Prop) {Q : Fl → Prop} (m : Nat) (hm : m < n) (hI : I m env)
    (h : ∀ m env, I m env → (c env = .ok false ∧ Sat (K env) Q) ∨ (c env = .ok true ∧ Sat (body env) (St (fun e => ∃ m2, m2 < m ∧ I m2 e) fun f => Q (f.seq K)))) : Sat (seqM (whileD c body n) K env) Q := sat_while0 I Q h n m env hm hI
theorem sat_loopE {p : Pat} {bs : List Bool} {mi : VL.Env → R (List D)} {body : VL.Env → Fl} {env : VL.Env} {ds : List D} {Q : Fl → Prop} (h : mi (mask bs env) = .ok ds) (q : Sat (forD p body ds (frzAt bs env)) Q) : Sat (VL.forM p bs mi body env) Q := by
  unfold VL.forM
  rw [h]; exact q
theorem sat_dropE {m : VL.Env → RK D} {env e : VL.Env} {d : D} {Q : Fl → Prop} (h : m env = .ok d e) (k : Q (.nx e)) : Sat (dropM m env) Q := by
  unfold Sat dropM
  rw [h]; exact k
theorem chain_snoc {R : Str → Str → Prop} {p : List Str} {x e : Str} (h : ∀ i a b, (p ++ [x])[i]? = some a → (p ++ [x])[i + 1]? = some b → R a b) (g : R x e) : ∀ i a b, ((p ++ [x]) ++ [e])[i]? = some a → ((p ++ [x]) ++ [e])[i + 1]? = some b → R a b := by
  intro i a b h1 h2
  by_cases hi : i + 1 < (p ++ [x]).length
  · rw [List.getElem?_append_left (by omega)] at h1
    rw [List.getElem?_append_left hi] at h2
    exact h i a b h1 h2
  · by_cases hj : i + 1 = (p ++ [x]).length
    · rw [hj, List.getElem?_append_right (by omega)] at h2
      simp at h2 hj
      subst h2
      rw [List.getElem?_append_left (by simp; omega), hj] at h1
      simp at h1
      subst h1
      exact g
    · rw [List.getElem?_eq_none (by simp at *; omega)] at h2
      cases h2
theorem sat_asgE {i : Nat} {m : VL.Env → RK D} {env e : VL.Env} {d : D} {Q : Fl → Prop} (h : m env = .ok d e) (hi : i < e.length) (k : Q (.nx (e.set i (some d)))) : Sat (asgM i m env) Q := by
  unfold Sat asgM
  rw [h]
  show Q (if i < e.length then Fl.nx (e.set i (some d)) else .bad)
  rw [if_pos hi]; exact k
/-- over range(a, b) -/
theorem sat_rngL {p : Pat} {mb K : VL.Env → Fl} (lo : Int) (n : Nat) (I : Nat → VL.Env → Prop) {Q : Fl → Prop} {env : VL.Env} (hI : I 0 env)
    (h : ∀ k env, k < n → I k env → ∃ e1, bindP p (.int (lo + (k : Int))) env = .ok e1 ∧ Sat (mb e1) (St (I (k + 1)) fun f => Q (f.seq K))) (h0 : ∀ env, I n env → Sat (K env) Q) : Sat ((forD p mb (rngD lo n) env).seq K) Q := by
  refine sat_for (fun i : Nat => D.int (lo + (i : Int))) (List.range n) (fun a b e => I a.length e) hI ?_ ?_
  · intro a x b e hl hi
    have hx : a.length = x ∧ x < n := by
      have h1 : (List.range n)[a.length]? = some x := by rw [hl]; simp
      have h2 : a.length < n := by
        have := congrArg List.length hl
        simp at this; omega
      rw [List.getElem?_range h2] at h1
      cases h1
      exact ⟨rfl, h2⟩
    obtain ⟨e1, q, st⟩ := h x e hx.2 (hx.1 ▸ hi)
    refine ⟨e1, by simpa using q, ?_⟩
    simpa [hx.1] using st
  · intro e hi
    exact h0 e (by simpa using hi)
@[simp] theorem e_rng2 (i j : Int) : rng2D [.int i, .int j] = if -1000000 ≤ i ∧ i ≤ 1000000 ∧ -1000000 ≤ j ∧ j ≤ 1000000 then .ok (rngD i (j - i).toNat) else .bad := id rfl
theorem store_eq {i : Nat} {mi : T} {mv : VL.Env → RK D} {env e1 : VL.Env} {kvs : List (L2.Key × D)} {s : Str} {dv d1 dy : D} (hv : mv env = .ok dv e1) (h1 : e1[i]? = some (some (.dct true kvs))) (hk : mi e1 = .ok (.str s)) (hp : putF kvs (.inr s) dv = some (d1, dy)) :
    storeM i (fun _ => .ok []) mi mv env = .nx (e1.set i (some d1)) := by
  unfold storeM
  rw [hv]
  show (match e1[i]? with
    | some (some d) => Fl.ofR (R.ok []) e1 fun ks => Fl.ofR (mi e1) e1 fun k => if isFlat k = true then Fl.ofK (mutD i ks storeF [k, dv] d e1) fun _ e => .nx e else .bad
    | _ => .bad) = _
  rw [h1, hk]
  show Fl.ofK (mutD i [] storeF [.str s, dv] (.dct true kvs) e1) (fun _ e => .nx e) = _
  unfold mutD
  show Fl.ofK (match storeF (.dct true kvs) [.str s, dv] with
    | some (d1, dy) => .ok dy (e1.set i (some (putD (.dct true kvs) [] d1)))
    | none => .bad) (fun _ e => .nx e) = _
  rw [show storeF (.dct true kvs) [.str s, dv] = putF kvs (.inr s) dv from rfl, hp]
  rfl
/-- d[k] = v for a new k, at a block's end -/
theorem sat_storeE {i : Nat} {mi : T} {mv : VL.Env → RK D} {env e1 : VL.Env} {kvs : List (L2.Key × D)} {s : Str} {dv : D} {Q : Fl → Prop} (hv : mv env = .ok dv e1) (h1 : e1[i]? = some (some (.dct true kvs))) (hk : mi e1 = .ok (.str s)) (hl : kvs.length < LIM) (hn : getK kvs (.inr s) = none)
    (q : Q (.nx (e1.set i (some (.dct true (kvs ++ [(.inr s, dv)])))))) : Sat (storeM i (fun _ => .ok []) mi mv env) Q := by
  have hnew : kvs.any (fun kv => decide (kv.1 = .inr s)) = false := by rw [← getK_any, hn]; rfl
  unfold Sat
  rw [store_eq (d1 := .dct true (kvs ++ [(.inr s, dv)])) (dy := .non) hv h1 hk (by unfold putF; rw [if_pos ⟨hl, .inl hnew⟩, put_new _ _ _ hnew])]
  exact q
theorem sat_store {i : Nat} {mi : T} {mv : VL.Env → RK D} {b : VL.Env → Fl} {env e1 : VL.Env} {kvs : List (L2.Key × D)} {s : Str} {dv : D} {Q : Fl → Prop} (hv : mv env = .ok dv e1) (h1 : e1[i]? = some (some (.dct true kvs))) (hk : mi e1 = .ok (.str s)) (hl : kvs.length < LIM) (hn : getK kvs (.inr s) = none)
    (q : Sat (b (e1.set i (some (.dct true (kvs ++ [(.inr s, dv)]))))) Q) : Sat (seqM (storeM i (fun _ => .ok []) mi mv) b env) Q := by
  have hnew : kvs.any (fun kv => decide (kv.1 = .inr s)) = false := by rw [← getK_any, hn]; rfl
  show Sat ((storeM i (fun _ => .ok []) mi mv env).seq b) Q
  rw [store_eq (d1 := .dct true (kvs ++ [(.inr s, dv)])) (dy := .non) hv h1 hk (by unfold putF; rw [if_pos ⟨hl, .inl hnew⟩, put_new _ _ _ hnew])]
  exact q
theorem seq_assoc (f : Fl) (a b : VL.Env → Fl) : (f.seq a).seq b = f.seq fun e => (a e).seq b := by cases f <;> rfl
theorem sat_assoc {a b k : VL.Env → Fl} {env : VL.Env} {Q : Fl → Prop} (h : Sat (seqM a (seqM b k) env) Q) : Sat ((seqM a b env).seq k) Q := by
  show Sat (((a env).seq b).seq k) Q
  rw [seq_assoc]; exact h
@[simp] theorem e_notin_t2 (x a b : Str) : notinD (.str x) (.tup [.str a, .str b]) = .ok (.bl (!(a == x || b == x))) := by
  have : inB (.str x) (.tup [.str a, .str b]) = some (a == x || b == x) := by
    show (if isFlat (.str x) = true ∧ ([D.str a, D.str b].all isFlat) = true then some ([D.str a, D.str b].any fun z => eqvD z (.str x)) else none) = _
    rw [if_pos ⟨rfl, rfl⟩]
    simp
  unfold notinD
  rw [this]
@[simp] theorem e_in_t2 (x a b : Str) : inD (.str x) (.tup [.str a, .str b]) = .ok (.bl (a == x || b == x)) := by
  have : inB (.str x) (.tup [.str a, .str b]) = some (a == x || b == x) := by
    show (if isFlat (.str x) = true ∧ ([D.str a, D.str b].all isFlat) = true then some ([D.str a, D.str b].any fun z => eqvD z (.str x)) else none) = _
    rw [if_pos ⟨rfl, rfl⟩]
    simp
  unfold inD
  rw [this]
theorem cutL_sub {α : Type} (l : List α) (a b : Option Int) : ∀ x ∈ cutL l a b, x ∈ l := fun x h => List.mem_of_mem_drop (List.mem_of_mem_take h)
theorem cutL_len {α : Type} (l : List α) (a b : Option Int) : (cutL l a b).length ≤ l.length := by
  unfold cutL
  rw [List.length_take, List.length_drop]
  omega
theorem sat_ifE2 {c : VL.Env → R Bool} {a b k : VL.Env → Fl} {env : VL.Env} {Q : Fl → Prop} {v : Bool} (h : c env = .ok v) (q : Sat ((if v = true then a env else b env).seq k) Q) : Sat ((ifM c a b env).seq k) Q := by
  show Sat ((Fl.ofR (c env) env fun k => if k = true then a env else b env).seq k) Q
  rw [h]; exact q
/-- a statement that always goes on, by what holds behind it -/
def Nx (J : VL.Env → Prop) (f : Fl) : Prop := ∃ e, f = .nx e ∧ J e
theorem sat_mid {a b : VL.Env → Fl} {env : VL.Env} {Q : Fl → Prop} (J : VL.Env → Prop) (h : Sat (a env) (Nx J)) (g : ∀ e, J e → Sat (b e) Q) : Sat (seqM a b env) Q := by
  obtain ⟨e, h1, h2⟩ := h
  show Sat ((a env).seq b) Q
  rw [h1]; exact g e h2
theorem nx_of {J : VL.Env → Prop} {e : VL.Env} (h : J e) : Nx J (.nx e) := ⟨e, rfl, h⟩
theorem sat_nxE {e : VL.Env} {Q : Fl → Prop} (h : Q (.nx e)) : Sat (Fl.nx e) Q := h
theorem kM_ok {bs : List Bool} {m : T} {env : VL.Env} {d : D} (h : m (mask bs env) = .ok d) (hc : clean d = true) : kM bs m env = .ok d env := by
  unfold kM
  rw [h]
  simp only [hc, if_true]
theorem kM_okf {bs : List Bool} {m : T} {env : VL.Env} {d : D} (h : m (mask bs env) = .ok d) (hc : clean d = false) : kM bs m env = .ok d (frzAt bs env) := by
  unfold kM
  rw [h]
  simp only [hc, Bool.false_eq_true, if_false]
theorem ret_seq (m : VL.Env → RK D) (env : VL.Env) (k : VL.Env → Fl) : (retM m env).seq k = retM m env := by
  unfold retM
  cases m env <;> rfl
/-- an if that returns -/
theorem sat_ifR {c : VL.Env → R Bool} {m : VL.Env → RK D} {b k : VL.Env → Fl} {env : VL.Env} {Q : Fl → Prop} (h : c env = .ok true) (q : Sat (retM m env) Q) : Sat (seqM (ifM c (retM m) b) k env) Q :=
  sat_ifT h (by rw [ret_seq]; exact q)
/-- any bools that are all true -/
theorem atI_some {α : Type} (l : List α) (k : Nat) (h : k < l.length) : ∃ c, l[k]? = some c := ⟨_, List.getElem?_eq_getElem h⟩
theorem sat_midS {f : Fl} {b : VL.Env → Fl} {Q : Fl → Prop} (J : VL.Env → Prop) (h : Nx J f) (g : ∀ e, J e → Sat (b e) Q) : Sat (f.seq b) Q := by
  obtain ⟨e, rfl, he⟩ := h
  exact g e he
@[simp] theorem e_frz_x (c : Str) (d : D) : frz (.exn c d) = .exn c (frz d) := id rfl
@[simp] theorem e_cl_x (c : Str) (d : D) : clean (.exn c d) = clean d := id rfl
@[simp] theorem e_isExn (c : Str) (d : D) : isExn (.exn c d) = true := id rfl
@[simp] theorem e_atD (names : List Str) (c : Str) (d : D) : atD names (.exn c d) = if c ∈ names then .ok d else .bad := id rfl
@[simp] theorem e_isxD (names xs : List Str) (c : Str) (d : D) : isxD names xs (.exn c d) = if c ∈ names then .ok (.bl (xs.any (subC c))) else .bad := id rfl
@[simp] theorem e_off_nx (i : Nat) (e : VL.Env) : offAt i (.nx e) = .nx (e.set i none) := id rfl
@[simp] theorem e_off_rt (i : Nat) (d : D) : offAt i (.rt d) = .rt d := id rfl
theorem sat_tryX {names : List Str} {x : Str} {i : Nat} {mb ms K : VL.Env → Fl} {env e : VL.Env} {c : Str} {d : D} {Q : Fl → Prop} (h : mb env = .exc c d e) (hc : c ∈ names) (hs : subC c x = true) (hi : i < e.length)
    (k : Sat ((offAt i (ms (e.set i (some (.exn c d))))).seq K) Q) : Sat (seqM (tryM names x i mb ms) K env) Q := by
  have q : tryM names x i mb ms env = offAt i (ms (e.set i (some (.exn c d)))) := by unfold tryM; rw [h]; simp [hc, hs, hi]
  show Sat ((tryM names x i mb ms env).seq K) Q
  rw [q]; exact k
theorem sat_tryO {names : List Str} {x : Str} {i : Nat} {mb ms K : VL.Env → Fl} {env e : VL.Env} {Q : Fl → Prop} (h : mb env = .nx e) (k : Sat (K e) Q) : Sat (seqM (tryM names x i mb ms) K env) Q := by
  have q : tryM names x i mb ms env = .nx e := by unfold tryM; rw [h]
  show Sat ((tryM names x i mb ms env).seq K) Q
  rw [q]; exact k
end Gn
end

section
set_option Elab.async false
set_option linter.all false
set_option maxRecDepth 100000
set_option maxHeartbeats 1000000
namespace Gn
open PySem PySem.W VL
abbrev sL (o : Bool) (l : List Str) : D := .lst o (l.map D.str)
abbrev Web := List (Str × List Str)
def wD (o : Bool) (x : Str × List Str) : D := .tup [.str x.1, .lst o (x.2.map .str)]
def fst (w : Web) : List Str := w.map (·.1)
theorem filt {α : Type} (l : List α) : l.filter (fun _ => true) = l := List.filter_eq_self.mpr (by simp)
@[simp] theorem frz_wD (o : Bool) (x : Str × List Str) : frz (wD o x) = wD false x := by simp [wD]
@[simp] theorem frzL_wD (o : Bool) (w : Web) : frzL (w.map (wD o)) = w.map (wD false) := frzL_maps _ _ (frz_wD o) w
theorem len_sub {α : Type} [DecidableEq α] : ∀ (l m : List α), l.Nodup → (∀ x ∈ l, x ∈ m) → l.length ≤ m.length
  | [], _, _, _ => Nat.zero_le _
  | x :: l, m, nd, h => by
    have hx : x ∈ m := h x (by simp)
    have n2 := List.nodup_cons.mp nd
    have := len_sub l (m.erase x) n2.2 fun y hy => by
      have hne : y ≠ x := fun e => n2.1 (e ▸ hy)
      exact (List.mem_erase_of_ne hne).mpr (h y (by simp [hy]))
    rw [List.length_erase_of_mem hx] at this
    have : 0 < m.length := List.length_pos_of_mem hx
    simp only [List.length_cons]; omega
def addN (own : List Str) (x : Str) : List Str := if x ∈ own then own else own ++ [x]
theorem mem_addN (own : List Str) (x y : Str) : y ∈ addN own x ↔ y ∈ own ∨ y = x := by
  unfold addN
  split
  · constructor
    · exact .inl
    · rintro (h | rfl) <;> assumption
  · simp
theorem nod_addN (own : List Str) (x : Str) (h : own.Nodup) : (addN own x).Nodup := by
  unfold addN
  split
  · exact h
  · rename_i hx
    exact List.nodup_append.mpr ⟨h, by simp, fun a ha b hb e => hx (by simp at hb; subst hb; exact e ▸ ha)⟩
theorem mem_addNs : ∀ (l own : List Str) (y : Str), y ∈ l.foldl addN own ↔ y ∈ own ∨ y ∈ l
  | [], own, y => by simp
  | x :: l, own, y => by rw [List.foldl_cons, mem_addNs l, mem_addN]; simp [or_assoc]
theorem nod_addNs : ∀ (l own : List Str), own.Nodup → (l.foldl addN own).Nodup
  | [], own, h => h
  | x :: l, own, h => nod_addNs l _ (nod_addN own x h)
abbrev Ups := List (Str × List Str)
def upG (u : Ups) (e : Str) : List Str := (u.lookup e).getD []
def ownOf (u : Ups) (n : Str) (es : List Str) : List Str := es.foldl (fun own e => (upG u e).foldl addN own) [n]
def upS (u : Ups) (x : Str × List Str) : Ups := u ++ [(x.1, ownOf u x.1 x.2)]
theorem mem_own (u : Ups) : ∀ (es own : List Str) (y : Str), y ∈ es.foldl (fun own e => (upG u e).foldl addN own) own ↔ y ∈ own ∨ ∃ e ∈ es, y ∈ upG u e
  | [], own, y => by simp
  | e :: es, own, y => by rw [List.foldl_cons, mem_own u es, mem_addNs]; simp [or_assoc]
theorem nod_own (u : Ups) : ∀ (es own : List Str), own.Nodup → (es.foldl (fun own e => (upG u e).foldl addN own) own).Nodup
  | [], own, h => h
  | e :: es, own, h => nod_own u es _ (nod_addNs _ _ h)
/-- of the web in reverse -/
def upR : Web → Ups
  | [] => []
  | x :: r => upS (upR r) x
def Top : Web → Prop
  | [] => True
  | x :: r => x.1 ∉ fst r ∧ (∀ e ∈ x.2, e ∈ fst r) ∧ Top r
def clF (S : List Str) (x : Str × List Str) : List Str := if x.1 ∈ S then S ++ x.2 else S
theorem keys_upR : ∀ r : Web, (upR r).map (·.1) = (fst r).reverse
  | [] => rfl
  | x :: r => by simp [upR, upS, keys_upR r, fst]
theorem lookup_app (u : Ups) (n : Str) (o : List Str) (e : Str) : (u ++ [(n, o)]).lookup e = if e ∈ u.map (·.1) then u.lookup e else if e = n then some o else none := by
  induction u with
  | nil => by_cases h : e = n <;> simp [List.lookup, h]
           · have : (e == n) = false := by simpa using h
             simp [this]
  | cons z u ih =>
    obtain ⟨k, v⟩ := z
    by_cases h : e = k
    · subst h; simp [List.lookup]
    · have : (e == k) = false := by simpa using h
      simp only [List.cons_append, List.lookup_cons, this, ih, List.map_cons, List.mem_cons, h, false_or]
theorem lookup_none (u : Ups) (e : Str) (h : e ∉ u.map (·.1)) : u.lookup e = none := by
  induction u with
  | nil => rfl
  | cons z u ih =>
    obtain ⟨k, v⟩ := z
    rw [List.map_cons, List.mem_cons, not_or] at h
    have : (e == k) = false := by simpa using h.1
    rw [List.lookup_cons, this]
    exact ih h.2
theorem lookup_some (u : Ups) (e : Str) (h : e ∈ u.map (·.1)) : ∃ o, u.lookup e = some o := by
  induction u with
  | nil => simp at h
  | cons z u ih =>
    obtain ⟨k, v⟩ := z
    by_cases hk : e = k
    · subst hk; exact ⟨v, by simp [List.lookup]⟩
    · have : (e == k) = false := by simpa using hk
      simp [List.lookup, this]
      exact ih (by simpa [hk] using h)
theorem mem_keysR (r : Web) (e : Str) : e ∈ (upR r).map (·.1) ↔ e ∈ fst r := by rw [keys_upR]; simp
theorem upG_old (x : Str × List Str) (r : Web) (h : x.1 ∉ fst r) (e : Str) (he : e ∈ fst r) : upG (upR (x :: r)) e = upG (upR r) e := by
  show (List.lookup e (upR r ++ [(x.1, ownOf (upR r) x.1 x.2)])).getD [] = _
  rw [lookup_app, if_pos ((mem_keysR r e).mpr he)]
  rfl
theorem upG_new (x : Str × List Str) (r : Web) (h : x.1 ∉ fst r) : upG (upR (x :: r)) x.1 = ownOf (upR r) x.1 x.2 := by
  show (List.lookup x.1 (upR r ++ [(x.1, ownOf (upR r) x.1 x.2)])).getD [] = _
  rw [lookup_app, if_neg (fun z => h ((mem_keysR r _).mp z)), if_pos rfl]; rfl
theorem up_self : ∀ (r : Web), Top r → ∀ e ∈ fst r, e ∈ upG (upR r) e
  | [], _, e, he => by simp [fst] at he
  | x :: r, t, e, he => by
    by_cases h : e ∈ fst r
    · rw [upG_old x r t.1 e h]; exact up_self r t.2.2 e h
    · have : e = x.1 := by simpa [fst, List.mem_cons] using Or.resolve_right (List.mem_cons.mp he) h
      subst this
      rw [upG_new x r t.1, ownOf, mem_own]; simp
theorem up_in : ∀ (r : Web), Top r → ∀ e y, y ∈ upG (upR r) e → y ∈ fst r
  | [], _, e, y, h => by simp [upG, upR] at h
  | x :: r, t, e, y, h => by
    by_cases he : e ∈ fst r
    · rw [upG_old x r t.1 e he] at h
      exact List.mem_cons_of_mem _ (up_in r t.2.2 e y h)
    · by_cases hx : e = x.1
      · subst hx
        rw [upG_new x r t.1, ownOf, mem_own] at h
        rcases h with h | ⟨e', _, h⟩
        · simp at h; subst h; simp [fst]
        · exact List.mem_cons_of_mem _ (up_in r t.2.2 e' y h)
      · exfalso
        have : e ∉ (upR (x :: r)).map (·.1) := fun z => by
          have := (mem_keysR _ _).mp z
          simp [fst] at this he
          rcases this with z | ⟨a, z⟩
          · exact hx z
          · exact he _ z
        simp [upG, lookup_none _ _ this] at h
theorem close_up : ∀ (r : Web), Top r → ∀ (S : List Str) (y : Str), y ∈ r.foldl clF S ↔ y ∈ S ∨ ∃ one ∈ S, one ∈ fst r ∧ y ∈ upG (upR r) one
  | [], _, S, y => by simp [fst]
  | x :: r, t, S, y => by
    rw [List.foldl_cons, close_up r t.2.2]
    by_cases hn : x.1 ∈ S
    · have e : clF S x = S ++ x.2 := by simp [clF, hn]
      rw [e]
      constructor
      · rintro (h | ⟨one, h1, h2, h3⟩)
        · rcases List.mem_append.mp h with h | h
          · exact .inl h
          · refine .inr ⟨x.1, hn, by simp [fst], ?_⟩
            rw [upG_new x r t.1, ownOf, mem_own]
            exact .inr ⟨y, h, up_self r t.2.2 y (t.2.1 y h)⟩
        · rcases List.mem_append.mp h1 with h | h
          · exact .inr ⟨one, h, List.mem_cons_of_mem _ h2, by rw [upG_old x r t.1 one h2]; exact h3⟩
          · refine .inr ⟨x.1, hn, by simp [fst], ?_⟩
            rw [upG_new x r t.1, ownOf, mem_own]
            exact .inr ⟨one, h, h3⟩
      · rintro (h | ⟨one, h1, h2, h3⟩)
        · exact .inl (by simp [h])
        · by_cases ho : one ∈ fst r
          · rw [upG_old x r t.1 one ho] at h3
            exact .inr ⟨one, by simp [h1], ho, h3⟩
          · have : one = x.1 := by simpa [fst] using Or.resolve_right (List.mem_cons.mp h2) ho
            subst this
            rw [upG_new x r t.1, ownOf, mem_own] at h3
            rcases h3 with h3 | ⟨e', he, h3⟩
            · simp at h3; subst h3; exact .inl (by simp [h1])
            · exact .inr ⟨e', by simp [he], t.2.1 e' he, h3⟩
    · have e : clF S x = S := by simp [clF, hn]
      rw [e]
      constructor
      · rintro (h | ⟨one, h1, h2, h3⟩)
        · exact .inl h
        · exact .inr ⟨one, h1, List.mem_cons_of_mem _ h2, by rw [upG_old x r t.1 one h2]; exact h3⟩
      · rintro (h | ⟨one, h1, h2, h3⟩)
        · exact .inl h
        · have ho : one ∈ fst r := by
            rcases List.mem_cons.mp h2 with z | z
            · exact absurd (show x.1 ∈ S from (show one = x.1 from z) ▸ h1) hn
            · exact z
          rw [upG_old x r t.1 one ho] at h3
          exact .inr ⟨one, h1, ho, h3⟩
/-- what is above -/
def dueOf (w : Web) (arm : List Str) : List Str := (fst w).filter fun n => arm.any fun one => decide (n ∈ upG (upR w.reverse) one)
theorem due_eq (w : Web) (t : Top w.reverse) (arm : List Str) (ha : ∀ x ∈ arm, x ∈ fst w) : (fst w).filter (fun n => decide (n ∈ w.reverse.foldl clF arm)) = dueOf w arm := by
  unfold dueOf
  congr 1
  funext n
  rw [Bool.eq_iff_iff]
  simp only [decide_eq_true_eq, List.any_eq_true]
  rw [close_up _ t]
  have hr : ∀ x, x ∈ fst w → x ∈ fst w.reverse := fun x hx => by simp [fst] at hx ⊢; exact hx
  constructor
  · rintro (h | ⟨one, h1, _, h3⟩)
    · exact ⟨n, h, up_self _ t n (hr n (ha n h))⟩
    · exact ⟨one, h1, h3⟩
  · rintro ⟨one, h1, h3⟩
    exact .inr ⟨one, h1, hr one (ha one h1), h3⟩
/-- the keys of a dict of names -/
def Has (kvs : List (L2.Key × D)) (S : List Str) : Prop := ∀ x : Str, (getK kvs (.inr x)).isSome = decide (x ∈ S)
theorem Has.put {kvs : List (L2.Key × D)} {S : List Str} (h : Has kvs S) (x : Str) (e : D) : Has (putKD kvs (.inr x) e) (S ++ [x]) := fun y => by
  rw [getK_any, anyK_put, ← getK_any, h y, Bool.eq_iff_iff]
  simp only [Bool.or_eq_true, decide_eq_true_eq, List.mem_append, List.mem_singleton]
  constructor
  · rintro (z | z)
    · cases z; exact .inr rfl
    · exact .inl z
  · rintro (z | z)
    · exact .inr z
    · subst z; exact .inl rfl
theorem Has.congr {kvs : List (L2.Key × D)} {S S' : List Str} (h : Has kvs S) (e : ∀ x, x ∈ S ↔ x ∈ S') : Has kvs S' := fun y => by rw [h y, Bool.eq_iff_iff]; simp [e y]
/-- what arms are -/
inductive ArmD : D → List Str → Prop
  | one (x : Str) : ArmD (.str x) [x]
  | many (l : List Str) : ArmD (.tup (l.map .str)) l
theorem ArmD.frz {d : D} {l : List Str} (h : ArmD d l) : frz d = d := by cases h <;> simp
structure WebOk (w : Web) : Prop where
  top : Top w.reverse
  len : w.length ≤ 50
  few : ∀ x ∈ w, x.2.length ≤ 1000
/-- the dict of those above -/
def upK (u : Ups) : List (L2.Key × D) := u.map fun x => (.inr x.1, .lst false (x.2.map .str))
theorem getK_up (u : Ups) (e : Str) : getK (upK u) (.inr e) = (u.lookup e).map fun o => .lst false (o.map .str) := by
  unfold getK upK
  induction u with
  | nil => rfl
  | cons z u ih =>
    obtain ⟨k, v⟩ := z
    rw [List.map_cons, List.find?_cons, List.lookup_cons]
    by_cases h : e = k
    · subst h; simp
    · have h1 : (e == k) = false := by simpa using h
      have h2 : decide ((Sum.inr k : L2.Key) = Sum.inr e) = false := by simpa using fun z => h z.symm
      rw [h1]
      simp only [h2]
      exact ih
theorem top_suf : ∀ (c r : Web), Top (c ++ r) → Top r
  | [], r, h => h
  | x :: c, r, h => top_suf c r h.2.2
theorem frzK_up (u : Ups) : frzK (upK u) = upK u := by
  unfold upK
  induction u with
  | nil => rfl
  | cons z u ih => simp [ih]
@[simp] theorem cleanL_wD (w : Web) : cleanL (w.map (wD true)) = true := cleanL_maps _ (fun x => by simp [wD]) w
theorem cleanK_up (u : Ups) (h : u ≠ []) : cleanK (upK u) = false := by
  cases u with
  | nil => exact absurd rfl h
  | cons z u => simp [upK]
theorem upR_ne (w : Web) (h : w ≠ []) : upR w.reverse ≠ [] := fun z => by
  have h2 := congrArg List.length (keys_upR w.reverse)
  rw [z] at h2
  simp [fst] at h2
  exact h (List.length_eq_zero_iff.mp h2.symm)
@[simp] theorem cmpD_web (o o' : Bool) (w : Web) : cmpD (.lst o (w.map (wD o'))) = true := by
  have a1 : noDctL (w.map (wD o')) = true := noDctL_maps _ (fun x => by simp [wD, noDct, noDctL]) w
  have a2 : depL (w.map (wD o')) ≤ 10 := depL_maps _ _ (fun x => by
    have := depL_maps D.str 0 (fun _ => Nat.le_refl _) x.2
    simp only [wD, depD, depL]; omega) w
  have a3 : depD (.lst o (w.map (wD o'))) ≤ 60 := by simp only [depD]; omega
  have a4 : noDct (.lst o (w.map (wD o'))) = true := a1
  rw [cmpD, a4, decide_eq_true a3]; rfl
theorem due_len (w : Web) (l : List Str) : (dueOf w l).length ≤ w.length := by
  refine Nat.le_trans (List.length_filter_le _ _) (by simp [fst])
/-- the same names, elders taken away -/
inductive Sub2 : Web → Web → Prop
  | nil : Sub2 [] []
  | cons {x y : Str × List Str} {r s : Web} : y.1 = x.1 → y.2.Sublist x.2 → Sub2 r s → Sub2 (x :: r) (y :: s)
theorem Sub2.refl : ∀ w : Web, Sub2 w w
  | [] => .nil
  | _ :: w => .cons rfl (List.Sublist.refl _) (Sub2.refl w)
theorem Sub2.app {a b c d : Web} (h : Sub2 a b) (g : Sub2 c d) : Sub2 (a ++ c) (b ++ d) := by
  induction h with
  | nil => exact g
  | cons h1 h2 _ ih => exact .cons h1 h2 ih
theorem Sub2.rev {a b : Web} (h : Sub2 a b) : Sub2 a.reverse b.reverse := by
  induction h with
  | nil => exact .nil
  | cons h1 h2 _ ih => rw [List.reverse_cons, List.reverse_cons]; exact ih.app (.cons h1 h2 .nil)
theorem Sub2.fst {a b : Web} (h : Sub2 a b) : fst b = fst a := by
  induction h with
  | nil => rfl
  | cons h1 h2 _ ih => simp only [Gn.fst, List.map_cons] at ih ⊢; rw [h1, ih]
theorem Sub2.set : ∀ (w : Web) (j : Nat) (x y : Str × List Str), w[j]? = some x → y.1 = x.1 → y.2.Sublist x.2 → Sub2 w (w.set j y)
  | [], j, x, y, h, _, _ => by simp at h
  | z :: w, 0, x, y, h, e, s => by simp at h; subst h; exact .cons e s (Sub2.refl w)
  | z :: w, j + 1, x, y, h, e, s => by simp at h; exact .cons rfl (List.Sublist.refl _) (Sub2.set w j x y h e s)
theorem Sub2.top {a b : Web} (h : Sub2 a b) (t : Top a) : Top b := by
  induction h with
  | nil => exact t
  | cons h1 h2 h3 ih =>
    refine ⟨?_, fun e he => ?_, ih t.2.2⟩
    · rw [h1, h3.fst]; exact t.1
    · rw [h3.fst]; exact t.2.1 e (h2.subset he)
theorem Sub2.len {a b : Web} (h : Sub2 a b) : b.length = a.length := by
  induction h with
  | nil => rfl
  | cons h1 h2 h3 ih => simp [ih]
theorem Sub2.few {a b : Web} (h : Sub2 a b) (n : Nat) (t : ∀ x ∈ a, x.2.length ≤ n) : ∀ x ∈ b, x.2.length ≤ n := by
  induction h with
  | nil => exact t
  | cons h1 h2 h3 ih =>
    intro x hx
    rcases List.mem_cons.mp hx with rfl | hx
    · exact Nat.le_trans h2.length_le (t _ (by simp))
    · exact ih (fun y hy => t y (by simp [hy])) x hx
theorem Sub2.ok {a b : Web} (h : Sub2 a b) (t : WebOk a) : WebOk b := ⟨h.rev.top t.top, by rw [h.len]; exact t.len, h.few _ t.few⟩
def eldersOf (w : Web) (k : Str) : List Str := (w.lookup k).getD []
theorem mem_fst {w : Web} {x : Str × List Str} (h : x ∈ w) : x.1 ∈ fst w := List.mem_map.mpr ⟨x, h, rfl⟩
theorem up_none (r : Web) (e : Str) (h : e ∉ fst r) : upG (upR r) e = [] := by
  rw [upG, lookup_none _ _ fun z => h ((mem_keysR _ _).mp z)]; rfl
theorem top_uniq : ∀ {r : Web}, Top r → ∀ {x y : Str × List Str}, x ∈ r → y ∈ r → x.1 = y.1 → x = y
  | [], _, _, _, h, _, _ => by simp at h
  | z :: r, t, x, y, hx, hy, e => by
    rcases List.mem_cons.mp hx with h1 | h1 <;> rcases List.mem_cons.mp hy with h2 | h2
    · rw [h1, h2]
    · exact absurd (h1 ▸ e ▸ mem_fst h2) t.1
    · exact absurd (h2 ▸ e.symm ▸ mem_fst h1) t.1
    · exact top_uniq t.2.2 h1 h2 e
theorem up_elder : ∀ (r : Web), Top r → ∀ x ∈ r, ∀ e ∈ x.2, ∀ a, x.1 ∈ upG (upR r) a → e ∈ upG (upR r) a
  | [], _, x, hx, _, _, _, _ => by simp at hx
  | z :: r, t, x, hx, e, he, a, ha => by
    by_cases h1 : a ∈ fst r
    · rw [upG_old z r t.1 a h1] at ha ⊢
      have hx1 : x ∈ r := by
        rcases List.mem_cons.mp hx with rfl | h
        · exact absurd (up_in r t.2.2 a _ ha) t.1
        · exact h
      exact up_elder r t.2.2 x hx1 e he a ha
    · by_cases h2 : a = z.1
      · subst h2
        rw [upG_new z r t.1, ownOf, mem_own] at ha ⊢
        rcases ha with ha | ⟨e', h3, h4⟩
        · have hxz : x = z := top_uniq t hx (by simp) (by simpa using ha)
          subst hxz
          exact .inr ⟨e, he, up_self r t.2.2 e (t.2.1 e he)⟩
        · have hx1 : x ∈ r := by
            rcases List.mem_cons.mp hx with rfl | h
            · exact absurd (up_in r t.2.2 e' _ h4) t.1
            · exact h
          exact .inr ⟨e', h3, up_elder r t.2.2 x hx1 e he e' h4⟩
      · rw [up_none] at ha
        · simp at ha
        · intro h
          rcases List.mem_cons.mp h with h | h
          · exact h2 h
          · exact h1 h
theorem top_nodup : ∀ {r : Web}, Top r → (fst r).Nodup
  | [], _ => by simp [fst]
  | z :: r, t => List.nodup_cons.mpr ⟨t.1, top_nodup t.2.2⟩
theorem WebOk.nd {w : Web} (h : WebOk w) : (fst w).Nodup := by
  have := top_nodup h.top
  rw [fst, List.map_reverse] at this
  exact (List.reverse_perm _).nodup_iff.mp this
theorem lookup_mem : ∀ {w : Web} {k : Str} {es : List Str}, w.lookup k = some es → (k, es) ∈ w
  | [], k, es, h => by simp at h
  | z :: w, k, es, h => by
    rw [List.lookup_cons] at h
    by_cases hk : k = z.1
    · subst hk; simp at h; subst h; simp
    · have : (k == z.1) = false := by simpa using hk
      rw [this] at h
      exact List.mem_cons_of_mem _ (lookup_mem h)
theorem elders_mem {w : Web} {k e : Str} (h : e ∈ eldersOf w k) : (k, eldersOf w k) ∈ w := by
  unfold eldersOf at h ⊢
  cases q : w.lookup k with
  | none => rw [q] at h; simp at h
  | some es => exact lookup_mem q
theorem WebOk.elders {w : Web} (hw : WebOk w) {x : Str × List Str} (h : x ∈ w) : eldersOf w x.1 = x.2 := by
  have h1 : ∃ es, w.lookup x.1 = some es := lookup_some w x.1 (mem_fst h)
  obtain ⟨es, h1⟩ := h1
  have h2 := lookup_mem h1
  have := top_uniq hw.top (x := x) (y := (x.1, es)) (by simpa using h) (by simpa using h2) rfl
  rw [eldersOf, h1, this]; rfl
theorem top_ne : ∀ {r : Web}, Top r → ∀ {x : Str × List Str}, x ∈ r → x.1 ∉ x.2
  | [], _, _, h, _ => by simp at h
  | z :: r, t, x, h, h2 => by
    rcases List.mem_cons.mp h with rfl | h
    · exact t.1 (t.2.1 _ h2)
    · exact top_ne t.2.2 h h2
theorem WebOk.up_elder {w : Web} (hw : WebOk w) {x : Str × List Str} (hx : x ∈ w) {e : Str} (he : e ∈ x.2) {a : Str} (h : x.1 ∈ upG (upR w.reverse) a) : e ∈ upG (upR w.reverse) a := Gn.up_elder _ hw.top x (by simpa using hx) e he a h
theorem WebOk.self {w : Web} (hw : WebOk w) {k : Str} (hk : k ∈ fst w) : k ∈ upG (upR w.reverse) k := up_self _ hw.top k (by simp [fst] at hk ⊢; exact hk)
theorem WebOk.up_in {w : Web} (hw : WebOk w) {k e : Str} (h : e ∈ upG (upR w.reverse) k) : e ∈ fst w := by
  have := Gn.up_in _ hw.top k e h
  simp [fst] at this ⊢; exact this
theorem WebOk.elder_in {w : Web} (hw : WebOk w) {x : Str × List Str} (hx : x ∈ w) {e : Str} (he : e ∈ x.2) : e ∈ fst w := hw.up_in (hw.up_elder hx he (hw.self (mem_fst hx)))
theorem mem_due1 {w : Web} {k n : Str} : n ∈ dueOf w [k] ↔ n ∈ fst w ∧ n ∈ upG (upR w.reverse) k := by simp [dueOf]
/-- the place in the web -/
def rk : Web → Str → Nat
  | [], _ => 0
  | z :: r, x => if x = z.1 then r.length else rk r x
theorem rk_len : ∀ (r : Web) (x : Str), x ∈ fst r → rk r x < r.length
  | [], _, h => by simp [fst] at h
  | z :: r, x, h => by
    unfold rk
    split
    · simp
    · rename_i hne
      have : x ∈ fst r := by
        rcases List.mem_cons.mp h with h | h
        · exact absurd h hne
        · exact h
      have := rk_len r x this
      simp; omega
theorem rk_lt : ∀ (r : Web), Top r → ∀ x ∈ r, ∀ e ∈ x.2, rk r e < rk r x.1
  | [], _, x, hx, _, _ => by simp at hx
  | z :: r, t, x, hx, e, he => by
    have hef : e ∈ fst r := by
      rcases List.mem_cons.mp hx with rfl | h
      · exact t.2.1 e he
      · have h1 : ∀ (r : Web), Top r → ∀ x ∈ r, ∀ e ∈ x.2, e ∈ fst r := by
          intro r
          induction r with
          | nil => intro _ x hx; simp at hx
          | cons z r ih =>
            intro t x hx e he
            rcases List.mem_cons.mp hx with rfl | h
            · exact List.mem_cons_of_mem _ (t.2.1 e he)
            · exact List.mem_cons_of_mem _ (ih t.2.2 x h e he)
        exact h1 r t.2.2 x h e he
    have hne : e ≠ z.1 := fun q => t.1 (q ▸ hef)
    have h2 : rk (z :: r) e = rk r e := by rw [rk, if_neg hne]
    rw [h2]
    rcases List.mem_cons.mp hx with rfl | h
    · rw [rk, if_pos rfl]; exact rk_len r e hef
    · have : x.1 ≠ z.1 := fun q => t.1 (q ▸ mem_fst h)
      rw [rk, if_neg this]
      exact rk_lt r t.2.2 x h e he
theorem WebOk.rk {w : Web} (hw : WebOk w) {k e : Str} (h : e ∈ eldersOf w k) : Gn.rk w.reverse e < Gn.rk w.reverse k := rk_lt _ hw.top (k, eldersOf w k) (by simpa using elders_mem h) e h
theorem up_split : ∀ (r : Web), Top r → ∀ x ∈ r, ∀ o, o ∈ upG (upR r) x.1 → o = x.1 ∨ ∃ e ∈ x.2, o ∈ upG (upR r) e
  | [], _, x, hx, _, _ => by simp at hx
  | z :: r, t, x, hx, o, ho => by
    rcases List.mem_cons.mp hx with rfl | h
    · rw [upG_new x r t.1, ownOf, mem_own] at ho
      rcases ho with ho | ⟨e, h1, h2⟩
      · exact .inl (by simpa using ho)
      · exact .inr ⟨e, h1, by rw [upG_old x r t.1 e (t.2.1 e h1)]; exact h2⟩
    · rw [upG_old z r t.1 x.1 (mem_fst h)] at ho
      rcases up_split r t.2.2 x h o ho with h1 | ⟨e, h1, h2⟩
      · exact .inl h1
      · have : e ∈ fst r := by
          have := (Gn.up_in r t.2.2 x.1 e (Gn.up_elder r t.2.2 x h e h1 x.1 (up_self r t.2.2 _ (mem_fst h))))
          exact this
        exact .inr ⟨e, h1, by rw [upG_old z r t.1 e this]; exact h2⟩
theorem WebOk.up_split {w : Web} (hw : WebOk w) {k o : Str} (hk : k ∈ fst w) (h : o ∈ upG (upR w.reverse) k) (hne : o ≠ k) : ∃ e ∈ eldersOf w k, o ∈ upG (upR w.reverse) e := by
  obtain ⟨x, hx, rfl⟩ := List.mem_map.mp hk
  rcases Gn.up_split _ hw.top x (by simpa using hx) o h with h | ⟨e, h1, h2⟩
  · exact absurd h hne
  · exact ⟨e, by rw [hw.elders hx]; exact h1, h2⟩
theorem WebOk.elders_in {w : Web} (hw : WebOk w) {k e : Str} (h : e ∈ eldersOf w k) : e ∈ fst w := hw.elder_in (elders_mem h) h
theorem WebOk.elders_up {w : Web} (hw : WebOk w) {k e a : Str} (h : e ∈ eldersOf w k) (ha : k ∈ upG (upR w.reverse) a) : e ∈ upG (upR w.reverse) a := hw.up_elder (elders_mem h) h ha
/-- a way from elder to elder -/
structure Way (w : Web) (k o : Str) (l : List Str) : Prop where
  hd : l.head? = some k
  la : l.getLast? = some o
  st : ∀ i a b, l[i]? = some a → l[i + 1]? = some b → b ∈ eldersOf w a
  len : l.length ≤ w.length
theorem WebOk.up_rk {w : Web} (hw : WebOk w) : ∀ (n : Nat) (k o : Str), Gn.rk w.reverse k < n → k ∈ fst w → o ∈ upG (upR w.reverse) k → o = k ∨ Gn.rk w.reverse o < Gn.rk w.reverse k
  | 0, _, _, h, _, _ => by omega
  | n + 1, k, o, h, hk, ho => by
    by_cases e : o = k
    · exact .inl e
    · obtain ⟨e, h1, h2⟩ := hw.up_split hk ho e
      have h3 := hw.rk h1
      rcases hw.up_rk n e o (by omega) (hw.elders_in h1) h2 with h4 | h4
      · subst h4; exact .inr h3
      · exact .inr (by omega)
theorem WebOk.up_anti {w : Web} (hw : WebOk w) {k o : Str} (hk : k ∈ fst w) (ho : o ∈ upG (upR w.reverse) k) (h : k ∈ upG (upR w.reverse) o) : k = o := by
  rcases hw.up_rk _ k o (Nat.lt_succ_self _) hk ho with h1 | h1
  · exact h1.symm
  · rcases hw.up_rk _ o k (Nat.lt_succ_self _) (hw.up_in ho) h with h2 | h2
    · exact h2
    · omega
theorem WebOk.up_trans {w : Web} (hw : WebOk w) {k : Str} : ∀ (n : Nat) (o x : Str), Gn.rk w.reverse o < n → o ∈ upG (upR w.reverse) k → x ∈ upG (upR w.reverse) o → x ∈ upG (upR w.reverse) k
  | 0, _, _, h, _, _ => by omega
  | n + 1, o, x, h, ho, hx => by
    by_cases e : x = o
    · subst e; exact ho
    · obtain ⟨e, h1, h2⟩ := hw.up_split (hw.up_in ho) hx e
      have h3 := hw.rk h1
      exact hw.up_trans n e x (by omega) (hw.elders_up h1 ho) h2
/-- a dict of lists of names -/
def undK (o : Bool) (f : Str → List Str) (l : List Str) : List (L2.Key × D) := l.map fun k => (.inr k, .lst o ((f k).map .str))
theorem getK_und (o : Bool) (f : Str → List Str) : ∀ (l : List Str) (k : Str), getK (undK o f l) (.inr k) = if k ∈ l then some (.lst o ((f k).map .str)) else none
  | [], k => rfl
  | x :: l, k => by
    have ih := getK_und o f l k
    unfold getK undK at ih ⊢
    rw [List.map_cons, List.find?_cons]
    by_cases h : x = k
    · subst h; simp
    · have h1 : decide ((Sum.inr x : L2.Key) = Sum.inr k) = false := by simpa using h
      simp only [h1]
      rw [ih]
      simp [Ne.symm h]
theorem frzK_und (o : Bool) (f : Str → List Str) (l : List Str) : frzK (undK o f l) = undK false f l := by
  unfold undK
  induction l with
  | nil => rfl
  | cons z l ih => simp [ih]
theorem cleanK_und (f : Str → List Str) (l : List Str) : cleanK (undK true f l) = true := by
  unfold undK
  induction l with
  | nil => rfl
  | cons z l ih => simp [ih]
theorem getK_app (a b : List (L2.Key × D)) (k : L2.Key) : getK (a ++ b) k = (getK a k).or (getK b k) := by
  unfold getK
  rw [List.find?_append]
  cases a.find? fun kv => decide (kv.1 = k) <;> rfl
theorem setK_last (a : List (L2.Key × D)) (k : L2.Key) (d e : D) (h : getK a k = none) : setK (a ++ [(k, d)]) k e = a ++ [(k, e)] := by
  induction a with
  | nil => simp [setK]
  | cons z a ih =>
    obtain ⟨k2, d2⟩ := z
    have hne : k2 ≠ k := fun q => by subst q; simp [getK] at h
    have h2 : getK a k = none := by
      unfold getK at h ⊢
      rw [List.find?_cons] at h
      simpa [hne] using h
    simp [setK, hne, ih h2]
theorem getK_last (a : List (L2.Key × D)) (k : L2.Key) (d : D) (h : getK a k = none) : getK (a ++ [(k, d)]) k = some d := by
  rw [getK_app, h]
  simp [getK]
theorem undK_snoc (o : Bool) (f : Str → List Str) (l : List Str) (k : Str) : undK o f (l ++ [k]) = undK o f l ++ [(.inr k, .lst o ((f k).map .str))] := by simp [undK]
def HedgeOk (w : Web) (k m : Str) (l : List Str) : Prop := k ∈ l ∧ m ∉ l ∧ (∀ x ∈ l, x ∈ fst w) ∧ l.Nodup ∧ ∀ x ∈ l, ∀ e ∈ eldersOf w x, e ∈ l
theorem fst_snoc (w : Web) (x : Str × List Str) : fst (w ++ [x]) = fst w ++ [x.1] := by simp [fst]
theorem WebOk.snoc {w : Web} (hw : WebOk w) {x : Str × List Str} (hx : x.1 ∉ fst w) (he : ∀ e ∈ x.2, e ∈ fst w) (hl : w.length < 50) (h2 : x.2.length ≤ 1000) : WebOk (w ++ [x]) := by
  refine ⟨?_, by simp; omega, fun y hy => ?_⟩
  · rw [List.reverse_append]
    exact ⟨fun z => hx (by simpa [fst] using z), fun e h => by simpa [fst] using he e h, hw.top⟩
  · rcases List.mem_append.mp hy with h | h
    · exact hw.few y h
    · simp at h; subst h; exact h2
theorem up_snoc_old {w : Web} {x : Str × List Str} (hx : x.1 ∉ fst w) {e : Str} (he : e ∈ fst w) : upG (upR (w ++ [x]).reverse) e = upG (upR w.reverse) e := by
  rw [List.reverse_append]
  exact upG_old x w.reverse (fun z => hx (by simpa [fst] using z)) e (by simpa [fst] using he)
theorem up_snoc_new {w : Web} {x : Str × List Str} (hx : x.1 ∉ fst w) (y : Str) : y ∈ upG (upR (w ++ [x]).reverse) x.1 ↔ y = x.1 ∨ ∃ e ∈ x.2, y ∈ upG (upR w.reverse) e := by
  rw [List.reverse_append]
  show y ∈ upG (upR (x :: w.reverse)) x.1 ↔ _
  rw [upG_new x w.reverse (fun z => hx (by simpa [fst] using z)), ownOf, mem_own]
  simp
theorem due_snoc_old {w : Web} (hw : WebOk w) {x : Str × List Str} (hx : x.1 ∉ fst w) {k : Str} (hk : k ∈ fst w) : dueOf (w ++ [x]) [k] = dueOf w [k] := by
  unfold dueOf
  rw [fst_snoc, List.filter_append]
  have h1 : ([x.1].filter fun n => [k].any fun one => decide (n ∈ upG (upR (w ++ [x]).reverse) one)) = [] := by
    have e := up_snoc_old hx hk
    rw [List.reverse_append] at e ⊢
    rw [show [x].reverse ++ w.reverse = x :: w.reverse from rfl] at e ⊢
    simp [e]
    exact fun z => hx (hw.up_in z)
  rw [h1, List.append_nil]
  refine List.filter_congr fun n hn => ?_
  have e := up_snoc_old hx hk
  simp only [List.any_cons, List.any_nil, Bool.or_false]
  rw [e]
theorem due_snoc_new {w : Web} (hw : WebOk w) {x : Str × List Str} (hx : x.1 ∉ fst w) : dueOf (w ++ [x]) [x.1] = dueOf w x.2 ++ [x.1] := by
  unfold dueOf
  rw [fst_snoc, List.filter_append]
  have h1 : ([x.1].filter fun n => [x.1].any fun one => decide (n ∈ upG (upR (w ++ [x]).reverse) one)) = [x.1] := by
    have : x.1 ∈ upG (upR (w ++ [x]).reverse) x.1 := (up_snoc_new hx x.1).mpr (.inl rfl)
    rw [List.filter_cons_of_pos (by simp only [List.any_cons, List.any_nil, Bool.or_false]; exact decide_eq_true this)]; rfl
  rw [h1]
  congr 1
  refine List.filter_congr fun n hn => ?_
  rw [Bool.eq_iff_iff]
  simp only [List.any_cons, List.any_nil, Bool.or_false, decide_eq_true_eq, List.any_eq_true]
  rw [up_snoc_new hx]
  constructor
  · rintro (h | h)
    · exact absurd (h ▸ hn) hx
    · exact h
  · exact .inr
def RoadOk (w : Web) (k o : Str) (l : List Str) : Prop := l.head? = some k ∧ l.getLast? = some o ∧ ∀ i a b, l[i]? = some a → l[i + 1]? = some b → b ∈ eldersOf w a
end Gn
end

section
set_option Elab.async false
set_option linter.all false
set_option maxRecDepth 100000
set_option maxHeartbeats 2000000
namespace VL
open PySem PySem.W PySem.Spec PyProof.Rows L2
/-- what makes an error gives it as a thing -/
theorem pe_mkx {X : Cx} {e : Expr} {t : L2.St → Hp → XK → Prop} (h : PMk X e t) :
    PE X e (fun σ H Q => t σ H fun cls d H' => ∀ a oe, H' a = Option.none → Zc cls d oe → (∃ vs, oe.data = .fields vs) → Q (.ref a) (upd H' a (.frz oe exU))) := by
  refine ⟨fun pins s σ H Q I q => wpAny_mono (h pins s σ H _ I q) (fun u s1 hu => ?_) fun _ _ x => x⟩
  obtain ⟨a, oe, vs, sI, H', cls, d, rfl, J, k, hne, ha, hz, hd, h1, na, os, ag, r, q⟩ := hu
  have new : ObjOk X.prog X.w (upd H' a (.frz oe exU)) s1.heap a (.frz oe exU) := ⟨ha, trivial, ⟨_, ha⟩, fun _ _ _ _ => trivial⟩
  exact ⟨.ref a, upd H' a (.frz oe exU), J.call' (ch := []) os (Un.laidN k hne na) (J.hok.laidN k na new) ag (fun b z => absurd z (by simp)), rfl, q a oe na hz ⟨vs, hd⟩⟩
def excD (x : Str) : List D → R D
  | [d] => .ok (.exn x d)
  | _ => .bad
section
variable {X : Cx} {W : Option WX} {e : Expr} {ms : Env → R (List D)}
theorem ve_mkx {CX : CXT} {x : Str} {fI : Addr} {k : Nat} {fd : FuncData} {p pos : Pos} (T : ErrC X.K X.mg x fI) (tI : PySem.W.typeIn X.K (.ref fI) = some (.type "function"))
    (F1 : FnOk X.prog X.w X.K X.mg X.base CX k fI fd ["self", "at"] (spInit X.K)) (hb : Binds X.K fd ["self", "at"] []) (hr : Room (k + 1) X.A) (hx : Passes CX X (fun _ _ _ => False)) (he : VA X W [e] ms)
    (hg : Gl X x := by rfl) (hdb : (x == ("__debug__" : Str)) = false := by decide) (hs : starEach [e] X.env = (false, eval e X.env) :: starEach [] X.env := by rfl) (hpl : (backTo pos (starEach [] X.env)).any (·.1) = false := by rfl) :
    VE X W (.Call (.Name x p) [e] [] pos) (fun env => (ms env).bind (excD x)) := by
  obtain ⟨C, hm, hmK, oc, hat, iC⟩ := T.ex
  refine PE.to (pe_mkx (pmk_oex oc iC tI F1 hr hb .nil hx hg hm he hdb hs hpl)) fun σ H Q h => ?_
  refine tT_first h fun F env ds vs H1 F1 us1 he s1 g1 w1 r1 n1 f1 hp1 => ?_
  unfold excD at hp1
  split at hp1
  · rename_i d
    obtain ⟨v, rfl, rv⟩ := RepL.one r1
    refine ⟨by show 1 ≤ 1000; decide, fun a ha => ⟨a, C, v, rfl, oc, hat, upd_same, fun dx hdx ne => ⟨rfl, dx, [("at", v)], upd_same, by rw [upd_ne ne]; exact upd_same, ?_, fun a' oe ha' hz hd => ?_⟩⟩⟩
    · rw [upd_ne ne] at hdx; exact hdx
    · have hdx' : H1 dx = none := by rw [upd_ne ne] at hdx; exact hdx
      have s2 : Same H1 (upd (del (upd (upd (upd H1 a (exo a C none)) dx (exd dx [("at", v)])) a (exo a C (some dx))) a) dx (.xd [("at", v)])) := fun b o hb => by
        have n1 : b ≠ a := ne_of_none hb ha
        have n2 : b ≠ dx := ne_of_none hb hdx'
        rw [upd_ne n2, del_ne n1, upd_ne n1, upd_ne n2, upd_ne n1]
        exact hb
      have s3 := s2.trans (same_new (o := HO.frz oe exU) ha')
      have hdd : upd (upd (del (upd (upd (upd H1 a (exo a C none)) dx (exd dx [("at", v)])) a (exo a C (some dx))) a) dx (.xd [("at", v)])) a' (.frz oe exU) dx = some (.xd [("at", v)]) := same_new (o := HO.frz oe exU) ha' _ _ upd_same
      exact hp1 (.ref a') _ F1 us1 s3 Grow.refl (w1.same s3) (.exn ⟨C, dx, oe, exU, upd_same, hz, hd, hmK, hdd⟩ (rv.same s3 fun _ h => h)) n1 fun b hb => ⟨(f1 b hb).1, .inl hb⟩
  · exact hp1.elim
end
theorem ve_mkF {X : Cx} {W : Option WX} {e : Expr} {ms : Env → R (List D)} {x : Str} {p pos : Pos} (E : Er X.prog X.w X.K X.mg X.base x) (hr : Room 2 X.A) (he : VA X W [e] ms)
    (hg : Gl X x := by rfl) (hdb : (x == ("__debug__" : Str)) = false := by decide) (hs : starEach [e] X.env = (false, eval e X.env) :: starEach [] X.env := by rfl) (hpl : (backTo pos (starEach [] X.env)).any (·.1) = false := by rfl) :
    VE X W (.Call (.Name x p) [e] [] pos) (fun env => (ms env).bind (excD x)) := by
  obtain ⟨fI, fd, T, tI, F1, hb⟩ := E.ex
  exact ve_mkx T tI F1 hb hr (CX := CX0) (fun _ _ _ _ _ _ _ z => z.elim) he hg hdb hs hpl
end VL
end

section
set_option Elab.async false
set_option linter.all false
set_option maxRecDepth 100000
set_option maxHeartbeats 4000000
namespace Gn
open PySem PySem.W PySem.Spec PyProof.Rows L2 VL
def top (i : Nat) : Stmt := PySem.Challenge.pw_bestcalls_k98_each_refusal_of_one_class.main.body.getD i (.Pass ⟨0, 0, 0, 0⟩)
abbrev s__law_value : Stmt := top 22
abbrev N__law_value : List Str := ["_law_script", "_law_cell", "_law_number", "_law_word"]
abbrev s__law_first : Stmt := top 23
abbrev N__law_first : List Str := ["_law_error", "_law_found"]
abbrev s__law_rest : Stmt := top 24
abbrev N__law_rest : List Str := ["_law_error", "_law_found"]
abbrev s_law : Stmt := top 25
abbrev N_law : List Str := ["_law_script", "_law_at", "_law_made", "_law_k", "_law_j", "_law_plain"]
abbrev errTab : List Str := ["CallError", "NoWeb", "NoKind", "NoBook", "NoCall", "NoRule", "NoFit", "Quarrel", "NoProgram", "NoDeed", "TooDeep", "TooLong", "NoName", "Taken", "Full", "Twice", "NoStep", "Needed", "NoText", "NoRow"]
structure Bl (mg : Str → Option Value) : Prop where
  z_ValueError : mg "ValueError" = none
  z_any : mg "any" = none
  z_isinstance : mg "isinstance" = none
  z_range : mg "range" = none
noncomputable def b__law_value : VL.Env → Fl := (seqM (asgM 1 (kT (cst (.int 0))))
    (seqM (ifM (cB (tB neD (look 0) (tF lstD a0))) (asgM 1 (kM [true] (tB ixD (look 0) (cst (.int 0))))) Fl.nx)
    (seqM (asgM 2 (kT (tB subD (tB modD (look 1) (tB mulD (cst (.int 2)) (tB powD (cst (.int 10)) (cst (.int 60))))) (tB powD (cst (.int 10)) (cst (.int 60))))))
    (seqM (asgM 3 (kM [false, true] (tB mulD (tB ixD (cst (.str "abcdefghijklmnopqrstuvwxyz")) (tB modD (look 1) (cst (.int 26)))) (tB addD (cst (.int 1)) (tB modD (tB fdivD (look 1) (cst (.int 26))) (cst (.int 8)))))))
    (retM (kM [false, true, true, true] (tB ixD (tF lstD (aC (cst .non) (aC (look 3) (aC (look 2) (aC (tF tupD (aC (look 3) (aC (cst .non) a0))) (aC (tF tupD (aC (look 2) (aC (tF tupD (aC (look 3) (aC (look 3) a0))) (aC (tF lstD (aC (look 2) a0)) a0)))) a0)))))) (tB modD (tB fdivD (look 1) (cst (.int 208))) (cst (.int 5))))))))))
noncomputable def m__law_value : List D → R D := runD N__law_value.length b__law_value
theorem sc__law_value : FnScope N__law_value ["_law_script"] (defScope s__law_value) := ⟨rfl, rfl, rfl, by decide +kernel, rfl, by decide +kernel, by decide +kernel⟩
theorem ok__law_value {P : Program} {w : World} {K : Frag} {mg : Str → Option Value} {base : Heap} {f : Addr} {fd : FuncData} (F : Fun K "_law_value" "_law_value" s__law_value f fd) (B : Bl mg) :
    FnOk P w K mg base (L2.CX P w) 2 f fd ["_law_script"] (spD K mg 1 m__law_value) := by
  refine fn_ok (m := b__law_value) F sc__law_value rfl (fun cdv A outer s H E hr H0 F0 => ?_)
  have hu5 : (A.deeper (envOfC "_law_value" (defScope s__law_value) s.heap.objs.size f cdv)).units + 65 < cLine := by have := hr.un; omega
  have hu : (A.deeper (envOfC "_law_value" (defScope s__law_value) s.heap.objs.size f cdv)).units + 64 < cLine := by omega
  have hu1 : (A.deeper (envOfC "_law_value" (defScope s__law_value) s.heap.objs.size f cdv)).units + 1 < cLine := by omega
  have nd := sc__law_value.nd
  have tk : Takes (cxOf (L2.CX P w) P w K mg base N__law_value "_law_value" (defScope s__law_value) f cdv A outer s H E) (fun cls d _ H' => E cls d H') := takes_of rfl rfl rfl rfl
  exact (vss_cons (vs_asg 1 nd (vk_t ve_int))
    (vss_cons (vs_if (vt_cmp (op_neQ hu) ne_v (ve_look 0) (ve_lst va_nil)) (vss_one (vs_asg 1 nd (vk_m [true] (ve_ix (ix_all hu1) ix_v (ve_look 0) ve_int)))) vss_nil)
    (vss_cons (vs_asg 2 nd (vk_t (ve_op op_sub sub_v (ve_op op_modN mod_v (ve_look 1) (ve_op op_mulA mul_v ve_int (ve_op op_powL pow_v ve_int ve_int))) (ve_op op_powL pow_v ve_int ve_int))))
    (vss_cons (vs_asg 3 nd (vk_m [false, true] (ve_op op_mulA mul_v (ve_ix (ix_all hu1) ix_v ve_str (ve_op op_modN mod_v (ve_look 1) ve_int)) (ve_op op_addA add_v ve_int (ve_op op_modN mod_v (ve_op op_fdivN fdiv_v (ve_look 1) ve_int) ve_int)))))
    (vss_one (vs_ret (vk_m [false, true, true, true] (ve_ix (ix_all hu1) ix_v (ve_lst (va_cons ve_non (va_cons (ve_look 3) (va_cons (ve_look 2) (va_cons (ve_tup (va_cons (ve_look 3) (va_cons ve_non va_nil))) (va_cons (ve_tup (va_cons (ve_look 2) (va_cons (ve_tup (va_cons (ve_look 3) (va_cons (ve_look 3) va_nil))) (va_cons (ve_lst (va_cons (ve_look 2) va_nil)) va_nil)))) va_nil)))))) (ve_op op_modN mod_v (ve_op op_fdivN fdiv_v (ve_look 1) ve_int) ve_int)))))))))
noncomputable def b__law_first : VL.Env → Fl := (seqM (asgM 1 (kT (tF lstD (aC (tIsx errTab ["NoWeb"] (look 0)) (aC (tIsx errTab ["NoKind"] (look 0)) (aC (tIsx errTab ["NoBook"] (look 0)) (aC (tIsx errTab ["NoCall"] (look 0)) a0)))))))
    (seqM (asgM 1 (kM [true, true] (tB addD (look 1) (tF lstD (aC (tIsx errTab ["NoRule"] (look 0)) (aC (tIsx errTab ["NoFit"] (look 0)) (aC (tIsx errTab ["Quarrel"] (look 0)) a0)))))))
    (retM (kM [true, true] (tB addD (look 1) (tF lstD (aC (tIsx errTab ["NoProgram"] (look 0)) (aC (tIsx errTab ["NoDeed"] (look 0)) (aC (tIsx errTab ["TooDeep"] (look 0)) a0)))))))))
noncomputable def m__law_first : List D → R D := runD N__law_first.length b__law_first
theorem sc__law_first : FnScope N__law_first ["_law_error"] (defScope s__law_first) := ⟨rfl, rfl, rfl, by decide +kernel, rfl, by decide +kernel, by decide +kernel⟩
theorem ok__law_first {P : Program} {w : World} {K : Frag} {mg : Str → Option Value} {base : Heap} {f : Addr} {fd : FuncData} (F : Fun K "_law_first" "_law_first" s__law_first f fd) (B : Bl mg) (TB : Tb K mg errTab) :
    FnOk P w K mg base (L2.CX P w) 2 f fd ["_law_error"] (spD K mg 1 m__law_first) := by
  refine fn_ok (m := b__law_first) F sc__law_first rfl (fun cdv A outer s H E hr H0 F0 => ?_)
  have hu5 : (A.deeper (envOfC "_law_first" (defScope s__law_first) s.heap.objs.size f cdv)).units + 65 < cLine := by have := hr.un; omega
  have hu : (A.deeper (envOfC "_law_first" (defScope s__law_first) s.heap.objs.size f cdv)).units + 64 < cLine := by omega
  have hu1 : (A.deeper (envOfC "_law_first" (defScope s__law_first) s.heap.objs.size f cdv)).units + 1 < cLine := by omega
  have nd := sc__law_first.nd
  have tk : Takes (cxOf (L2.CX P w) P w K mg base N__law_first "_law_first" (defScope s__law_first) f cdv A outer s H E) (fun cls d _ H' => E cls d H') := takes_of rfl rfl rfl rfl
  exact (vss_cons (vs_asg 1 nd (vk_t (ve_lst (va_cons (ve_isX TB B.z_isinstance (ve_look 0) (cls_own (y := "NoWeb") cls_nil)) (va_cons (ve_isX TB B.z_isinstance (ve_look 0) (cls_own (y := "NoKind") cls_nil)) (va_cons (ve_isX TB B.z_isinstance (ve_look 0) (cls_own (y := "NoBook") cls_nil)) (va_cons (ve_isX TB B.z_isinstance (ve_look 0) (cls_own (y := "NoCall") cls_nil)) va_nil)))))))
    (vss_cons (vs_asg 1 nd (vk_m [true, true] (ve_op op_addA add_v (ve_look 1) (ve_lst (va_cons (ve_isX TB B.z_isinstance (ve_look 0) (cls_own (y := "NoRule") cls_nil)) (va_cons (ve_isX TB B.z_isinstance (ve_look 0) (cls_own (y := "NoFit") cls_nil)) (va_cons (ve_isX TB B.z_isinstance (ve_look 0) (cls_own (y := "Quarrel") cls_nil)) va_nil)))))))
    (vss_one (vs_ret (vk_m [true, true] (ve_op op_addA add_v (ve_look 1) (ve_lst (va_cons (ve_isX TB B.z_isinstance (ve_look 0) (cls_own (y := "NoProgram") cls_nil)) (va_cons (ve_isX TB B.z_isinstance (ve_look 0) (cls_own (y := "NoDeed") cls_nil)) (va_cons (ve_isX TB B.z_isinstance (ve_look 0) (cls_own (y := "TooDeep") cls_nil)) va_nil))))))))))
noncomputable def b__law_rest : VL.Env → Fl := (seqM (asgM 1 (kT (tF lstD (aC (tIsx errTab ["TooLong"] (look 0)) (aC (tIsx errTab ["NoName"] (look 0)) (aC (tIsx errTab ["Taken"] (look 0)) (aC (tIsx errTab ["Full"] (look 0)) a0)))))))
    (seqM (asgM 1 (kM [true, true] (tB addD (look 1) (tF lstD (aC (tIsx errTab ["Twice"] (look 0)) (aC (tIsx errTab ["NoStep"] (look 0)) (aC (tIsx errTab ["Needed"] (look 0)) a0)))))))
    (retM (kM [true, true] (tB addD (look 1) (tF lstD (aC (tIsx errTab ["NoText"] (look 0)) (aC (tIsx errTab ["NoRow"] (look 0)) a0))))))))
noncomputable def m__law_rest : List D → R D := runD N__law_rest.length b__law_rest
theorem sc__law_rest : FnScope N__law_rest ["_law_error"] (defScope s__law_rest) := ⟨rfl, rfl, rfl, by decide +kernel, rfl, by decide +kernel, by decide +kernel⟩
theorem ok__law_rest {P : Program} {w : World} {K : Frag} {mg : Str → Option Value} {base : Heap} {f : Addr} {fd : FuncData} (F : Fun K "_law_rest" "_law_rest" s__law_rest f fd) (B : Bl mg) (TB : Tb K mg errTab) :
    FnOk P w K mg base (L2.CX P w) 2 f fd ["_law_error"] (spD K mg 1 m__law_rest) := by
  refine fn_ok (m := b__law_rest) F sc__law_rest rfl (fun cdv A outer s H E hr H0 F0 => ?_)
  have hu5 : (A.deeper (envOfC "_law_rest" (defScope s__law_rest) s.heap.objs.size f cdv)).units + 65 < cLine := by have := hr.un; omega
  have hu : (A.deeper (envOfC "_law_rest" (defScope s__law_rest) s.heap.objs.size f cdv)).units + 64 < cLine := by omega
  have hu1 : (A.deeper (envOfC "_law_rest" (defScope s__law_rest) s.heap.objs.size f cdv)).units + 1 < cLine := by omega
  have nd := sc__law_rest.nd
  have tk : Takes (cxOf (L2.CX P w) P w K mg base N__law_rest "_law_rest" (defScope s__law_rest) f cdv A outer s H E) (fun cls d _ H' => E cls d H') := takes_of rfl rfl rfl rfl
  exact (vss_cons (vs_asg 1 nd (vk_t (ve_lst (va_cons (ve_isX TB B.z_isinstance (ve_look 0) (cls_own (y := "TooLong") cls_nil)) (va_cons (ve_isX TB B.z_isinstance (ve_look 0) (cls_own (y := "NoName") cls_nil)) (va_cons (ve_isX TB B.z_isinstance (ve_look 0) (cls_own (y := "Taken") cls_nil)) (va_cons (ve_isX TB B.z_isinstance (ve_look 0) (cls_own (y := "Full") cls_nil)) va_nil)))))))
    (vss_cons (vs_asg 1 nd (vk_m [true, true] (ve_op op_addA add_v (ve_look 1) (ve_lst (va_cons (ve_isX TB B.z_isinstance (ve_look 0) (cls_own (y := "Twice") cls_nil)) (va_cons (ve_isX TB B.z_isinstance (ve_look 0) (cls_own (y := "NoStep") cls_nil)) (va_cons (ve_isX TB B.z_isinstance (ve_look 0) (cls_own (y := "Needed") cls_nil)) va_nil)))))))
    (vss_one (vs_ret (vk_m [true, true] (ve_op op_addA add_v (ve_look 1) (ve_lst (va_cons (ve_isX TB B.z_isinstance (ve_look 0) (cls_own (y := "NoText") cls_nil)) (va_cons (ve_isX TB B.z_isinstance (ve_look 0) (cls_own (y := "NoRow") cls_nil)) va_nil)))))))))
noncomputable def b_law : VL.Env → Fl := (seqM (asgM 1 (kM [true] (tCall 1 m__law_value (aC (look 0) a0))))
    (seqM (asgM 2 (kM [false, true] (tF lstD (aC (tF (excD "NoWeb") (aC (look 1) a0)) (aC (tF (excD "NoKind") (aC (look 1) a0)) (aC (tF (excD "NoBook") (aC (look 1) a0)) (aC (tF (excD "NoCall") (aC (look 1) a0)) (aC (tF (excD "NoRule") (aC (look 1) a0)) (aC (tF (excD "NoFit") (aC (look 1) a0)) (aC (tF (excD "Quarrel") (aC (look 1) a0)) (aC (tF (excD "NoProgram") (aC (look 1) a0)) a0)))))))))))
    (seqM (asgM 2 (kM [false, true, true] (tB addD (look 2) (tF lstD (aC (tF (excD "NoDeed") (aC (look 1) a0)) (aC (tF (excD "TooDeep") (aC (look 1) a0)) (aC (tF (excD "TooLong") (aC (look 1) a0)) (aC (tF (excD "NoName") (aC (look 1) a0)) (aC (tF (excD "Taken") (aC (look 1) a0)) (aC (tF (excD "Full") (aC (look 1) a0)) (aC (tF (excD "Twice") (aC (look 1) a0)) (aC (tF (excD "NoStep") (aC (look 1) a0)) a0))))))))))))
    (seqM (asgM 2 (kM [false, true, true] (tB addD (look 2) (tF lstD (aC (tF (excD "Needed") (aC (look 1) a0)) (aC (tF (excD "NoText") (aC (look 1) a0)) (aC (tF (excD "NoRow") (aC (look 1) a0)) a0)))))))
    (seqM (forR (.name 3) (iA rng1D (aC (cst (.int 19)) a0))
    (seqM (ifM (cB (tB neD (tB addD (tCall 1 m__law_first (aC (tB ixD (look 2) (look 3)) a0)) (tCall 1 m__law_rest (aC (tB ixD (look 2) (look 3)) a0))) (tLc' (iA rng1D (aC (cst (.int 19)) a0)) (.name 4) [4] cYes (tB eqD (look 4) (look 3))))) (retM (kT (cst (.bl false)))) Fl.nx)
    (ifM (cO (cN (cTr (tIsx errTab ["CallError"] (tB ixD (look 2) (look 3))))) (cO (cN (cTr (tIsx errTab ["ValueError"] (tB ixD (look 2) (look 3))))) (cB (tB neD (tAt' errTab (tB ixD (look 2) (look 3))) (look 1))))) (retM (kT (cst (.bl false)))) Fl.nx)))
    (seqM (asgM 5 (kM [false, true] (tF (excD "CallError") (aC (look 1) a0))))
    (seqM (ifM (cO (cTr (tF anyD (aC (tB addD (tCall 1 m__law_first (aC (look 5) a0)) (tCall 1 m__law_rest (aC (look 5) a0))) a0))) (cN (cTr (tIsx errTab ["ValueError"] (look 5))))) (retM (kT (cst (.bl false)))) Fl.nx)
    (retM (kT (tB eqD (tAt' errTab (look 5)) (look 1)))))))))))
noncomputable def m_law : List D → R D := runD N_law.length b_law
theorem sc_law : FnScope N_law ["_law_script"] (defScope s_law) := ⟨rfl, rfl, rfl, by decide +kernel, rfl, by decide +kernel, by decide +kernel⟩
theorem ok_law {P : Program} {w : World} {K : Frag} {mg : Str → Option Value} {base : Heap} {f : Addr} {fd : FuncData} (F : Fun K "law" "law" s_law f fd) (B : Bl mg) (G__law_value : Fn P w K mg base "_law_value" 2 ["_law_script"] 1 m__law_value) (G__law_first : Fn P w K mg base "_law_first" 2 ["_law_error"] 1 m__law_first) (G__law_rest : Fn P w K mg base "_law_rest" 2 ["_law_error"] 1 m__law_rest) (TB : Tb K mg errTab) (E_CallError : Er P w K mg base "CallError") (E_Full : Er P w K mg base "Full") (E_Needed : Er P w K mg base "Needed") (E_NoBook : Er P w K mg base "NoBook") (E_NoCall : Er P w K mg base "NoCall") (E_NoDeed : Er P w K mg base "NoDeed") (E_NoFit : Er P w K mg base "NoFit") (E_NoKind : Er P w K mg base "NoKind") (E_NoName : Er P w K mg base "NoName") (E_NoProgram : Er P w K mg base "NoProgram") (E_NoRow : Er P w K mg base "NoRow") (E_NoRule : Er P w K mg base "NoRule") (E_NoStep : Er P w K mg base "NoStep") (E_NoText : Er P w K mg base "NoText") (E_NoWeb : Er P w K mg base "NoWeb") (E_Quarrel : Er P w K mg base "Quarrel") (E_Taken : Er P w K mg base "Taken") (E_TooDeep : Er P w K mg base "TooDeep") (E_TooLong : Er P w K mg base "TooLong") (E_Twice : Er P w K mg base "Twice") :
    FnOk P w K mg base (L2.CX P w) 3 f fd ["_law_script"] (spD K mg 1 m_law) := by
  refine fn_ok (m := b_law) F sc_law rfl (fun cdv A outer s H E hr H0 F0 => ?_)
  have hu5 : (A.deeper (envOfC "law" (defScope s_law) s.heap.objs.size f cdv)).units + 65 < cLine := by have := hr.un; omega
  have hu : (A.deeper (envOfC "law" (defScope s_law) s.heap.objs.size f cdv)).units + 64 < cLine := by omega
  have hu1 : (A.deeper (envOfC "law" (defScope s_law) s.heap.objs.size f cdv)).units + 1 < cLine := by omega
  have nd := sc_law.nd
  have tk : Takes (cxOf (L2.CX P w) P w K mg base N_law "law" (defScope s_law) f cdv A outer s H E) (fun cls d _ H' => E cls d H') := takes_of rfl rfl rfl rfl
  exact (vss_cons (vs_asg 1 nd (vk_m [true] (ve_callF G__law_value (hr.mono (by decide)) tk (va_cons (ve_look 0) va_nil))))
    (vss_cons (vs_asg 2 nd (vk_m [false, true] (ve_lst (va_cons (ve_mkF E_NoWeb (hr.mono (by decide)) (va_cons (ve_look 1) va_nil)) (va_cons (ve_mkF E_NoKind (hr.mono (by decide)) (va_cons (ve_look 1) va_nil)) (va_cons (ve_mkF E_NoBook (hr.mono (by decide)) (va_cons (ve_look 1) va_nil)) (va_cons (ve_mkF E_NoCall (hr.mono (by decide)) (va_cons (ve_look 1) va_nil)) (va_cons (ve_mkF E_NoRule (hr.mono (by decide)) (va_cons (ve_look 1) va_nil)) (va_cons (ve_mkF E_NoFit (hr.mono (by decide)) (va_cons (ve_look 1) va_nil)) (va_cons (ve_mkF E_Quarrel (hr.mono (by decide)) (va_cons (ve_look 1) va_nil)) (va_cons (ve_mkF E_NoProgram (hr.mono (by decide)) (va_cons (ve_look 1) va_nil)) va_nil)))))))))))
    (vss_cons (vs_asg 2 nd (vk_m [false, true, true] (ve_op op_addA add_v (ve_look 2) (ve_lst (va_cons (ve_mkF E_NoDeed (hr.mono (by decide)) (va_cons (ve_look 1) va_nil)) (va_cons (ve_mkF E_TooDeep (hr.mono (by decide)) (va_cons (ve_look 1) va_nil)) (va_cons (ve_mkF E_TooLong (hr.mono (by decide)) (va_cons (ve_look 1) va_nil)) (va_cons (ve_mkF E_NoName (hr.mono (by decide)) (va_cons (ve_look 1) va_nil)) (va_cons (ve_mkF E_Taken (hr.mono (by decide)) (va_cons (ve_look 1) va_nil)) (va_cons (ve_mkF E_Full (hr.mono (by decide)) (va_cons (ve_look 1) va_nil)) (va_cons (ve_mkF E_Twice (hr.mono (by decide)) (va_cons (ve_look 1) va_nil)) (va_cons (ve_mkF E_NoStep (hr.mono (by decide)) (va_cons (ve_look 1) va_nil)) va_nil))))))))))))
    (vss_cons (vs_asg 2 nd (vk_m [false, true, true] (ve_op op_addA add_v (ve_look 2) (ve_lst (va_cons (ve_mkF E_Needed (hr.mono (by decide)) (va_cons (ve_look 1) va_nil)) (va_cons (ve_mkF E_NoText (hr.mono (by decide)) (va_cons (ve_look 1) va_nil)) (va_cons (ve_mkF E_NoRow (hr.mono (by decide)) (va_cons (ve_look 1) va_nil)) va_nil)))))))
    (vss_cons (vs_forR (passes_of rfl) rfl (vir_range1 B.z_range (va_cons ve_int va_nil)) (vg_name 3 nd) (vss_cons (vs_if (vt_cmp (op_neQ hu) ne_v (ve_op op_addA add_v (ve_callF G__law_first (hr.mono (by decide)) tk (va_cons (ve_ix (ix_all hu1) ix_v (ve_look 2) (ve_look 3)) va_nil)) (ve_callF G__law_rest (hr.mono (by decide)) tk (va_cons (ve_ix (ix_all hu1) ix_v (ve_look 2) (ve_look 3)) va_nil))) (ve_lc rfl nd (vi_range1 B.z_range (va_cons ve_int va_nil)) (blkOk_by (own := [("_law_j", 4)]) (N := N_law) (sc := defScope s_law) (by decide +kernel)) (fun _ _ _ _ _ => (vg_name 4 nd)) (fun _ _ _ _ _ => vts_nil) (fun _ _ _ _ _ => (ve_cmp (op_eqQ hu) eq_v (ve_look 4) (ve_look 3))))) (vss_one (vs_ret (vk_t ve_bl))) vss_nil)
    (vss_one (vs_if (VW.vt (vw_or (vt_not (vt_truth (ve_isX TB B.z_isinstance (ve_ix (ix_all hu1) ix_v (ve_look 2) (ve_look 3)) (cls_own (y := "CallError") cls_nil)))) (vw_or (vt_not (vt_truth (ve_isX TB B.z_isinstance (ve_ix (ix_all hu1) ix_v (ve_look 2) (ve_look 3)) (cls_val cls_nil B.z_ValueError)))) (vw_or1 (vt_cmp (op_neQ hu) ne_v (ve_at TB (ve_ix (ix_all hu1) ix_v (ve_look 2) (ve_look 3))) (ve_look 1)))))) (vss_one (vs_ret (vk_t ve_bl))) vss_nil))))
    (vss_cons (vs_asg 5 nd (vk_m [false, true] (ve_mkF E_CallError (hr.mono (by decide)) (va_cons (ve_look 1) va_nil))))
    (vss_cons (vs_if (VW.vt (vw_or (vt_truth (ve_callB (cr_any rfl) any_v B.z_any (by decide +kernel) (va_cons (ve_op op_addA add_v (ve_callF G__law_first (hr.mono (by decide)) tk (va_cons (ve_look 5) va_nil)) (ve_callF G__law_rest (hr.mono (by decide)) tk (va_cons (ve_look 5) va_nil))) va_nil))) (vw_or1 (vt_not (vt_truth (ve_isX TB B.z_isinstance (ve_look 5) (cls_val cls_nil B.z_ValueError))))))) (vss_one (vs_ret (vk_t ve_bl))) vss_nil)
    (vss_one (vs_ret (vk_t (ve_cmp (op_eqQ hu) eq_v (ve_at TB (ve_look 5)) (ve_look 1))))))))))))
end Gn
end

section
set_option Elab.async false
set_option linter.all false
set_option maxRecDepth 100000
set_option maxHeartbeats 1000000
namespace Gn
open PySem PySem.W VL
theorem sat_asgP {p : Pat} {m : VL.Env → RK D} {b : VL.Env → Fl} {env e e1 : VL.Env} {d : D} {Q : Fl → Prop} (h : m env = .ok d e) (h2 : bindP p d e = .ok e1) (k : Sat (b e1) Q) : Sat (seqM (asgP p m) b env) Q := by
  show Sat ((asgP p m env).seq b) Q
  unfold asgP
  rw [h]
  show Sat ((match bindP p d e with | .ok e' => Fl.nx e' | _ => .bad).seq b) Q
  rw [h2]; exact k
theorem sat_stK {i : Nat} {mi mv : VL.Env → RK D} {b : VL.Env → Fl} {env e1 e2 : VL.Env} {ds : List D} {j : Nat} {dv x : D} {Q : Fl → Prop} (hv : mv env = .ok dv e1) (h1 : e1[i]? = some (some x)) (hm : mi e1 = .ok (.int (j : Nat)) e2) (h2 : e2[i]? = some (some (.lst true ds))) (hl : j < ds.length) (hb : ds.length ≤ 1000)
    (q : Sat (b (e2.set i (some (.lst true (ds.set j dv))))) Q) : Sat (seqM (storeK i mi mv) b env) Q := by
  have hx : L2.ixN ds.length (j : Int) = some j := by simp [L2.ixN, hl]
  have : storeK i mi mv env = .nx (e2.set i (some (.lst true (ds.set j dv)))) := by
    simp [storeK, hv, h1, hm, h2, mutD, downD, ownB, storeF, putD, isFlat, hx]
  show Sat ((storeK i mi mv env).seq b) Q
  rw [this]; exact q
theorem aC_1 {ma : T} {env : VL.Env} {a : D} (h1 : ma env = .ok a) : aC ma a0 env = .ok [a] := by simp [-Bool.exists_bool, cst, VL.tB, tU, tIsx, tAt', tCh, tAn, tO, tN, tIfE, tIsi, a0, aC, tF, VL.tCall, VL.tCallKw, permL_c, oN, oS, tSl', tLc', cYes, cTr, cB, cAn, cO, cN, iS, iA, seqM, ifM, k0, kC, kTup, kLst, rK, jE, jV, j0, oE, oV, kO2, kCall, callJ, finJ, rdJ, fillJ, putJ, holes, posJ, flatJ, kBl, kTru, VL.kB, kRng, forK, ifK, retJ, grab, kSl, okN, okS, kAn, kOr, kNo, fnOp, h1]
theorem aC_2 {ma mb : T} {env : VL.Env} {a b : D} (h1 : ma env = .ok a) (h2 : mb env = .ok b) : aC ma (aC mb a0) env = .ok [a, b] := by simp [-Bool.exists_bool, cst, VL.tB, tU, tIsx, tAt', tCh, tAn, tO, tN, tIfE, tIsi, a0, aC, tF, VL.tCall, VL.tCallKw, permL_c, oN, oS, tSl', tLc', cYes, cTr, cB, cAn, cO, cN, iS, iA, seqM, ifM, k0, kC, kTup, kLst, rK, jE, jV, j0, oE, oV, kO2, kCall, callJ, finJ, rdJ, fillJ, putJ, holes, posJ, flatJ, kBl, kTru, VL.kB, kRng, forK, ifK, retJ, grab, kSl, okN, okS, kAn, kOr, kNo, fnOp, h1, h2]
theorem aC_3 {ma mb mc : T} {env : VL.Env} {a b c : D} (h1 : ma env = .ok a) (h2 : mb env = .ok b) (h3 : mc env = .ok c) : aC ma (aC mb (aC mc a0)) env = .ok [a, b, c] := by simp [-Bool.exists_bool, cst, VL.tB, tU, tIsx, tAt', tCh, tAn, tO, tN, tIfE, tIsi, a0, aC, tF, VL.tCall, VL.tCallKw, permL_c, oN, oS, tSl', tLc', cYes, cTr, cB, cAn, cO, cN, iS, iA, seqM, ifM, k0, kC, kTup, kLst, rK, jE, jV, j0, oE, oV, kO2, kCall, callJ, finJ, rdJ, fillJ, putJ, holes, posJ, flatJ, kBl, kTru, VL.kB, kRng, forK, ifK, retJ, grab, kSl, okN, okS, kAn, kOr, kNo, fnOp, h1, h2, h3]
theorem bind_exc {α β : Type} {x : R α} {c : Str} {d : D} {f : α → R β} (h : x = .exc c d) : x.bind f = .exc c d := by rw [h]; rfl
theorem sat_aMx {i : Nat} {m : T} {bs : List Bool} {b : VL.Env → Fl} {env : VL.Env} {c : Str} {d : D} {Q : Fl → Prop} (h : m (mask bs env) = .exc c d) (k : Q (.exc c d (frzE env))) : Sat (seqM (asgM i (kM bs m)) b env) Q := by
  show Q ((asgM i (kM bs m) env).seq b)
  unfold asgM kM
  rw [h]; exact k
theorem sat_retJs {js : List Nat} {m : VL.Env → RK D} {K : VL.Env → Fl} {env e : VL.Env} {d : D} {ds : List D} {Q : Fl → Prop} (h : m env = .ok d e) (hg : grab js e = some ds) (k : Q (.rt (.tup (d :: ds)))) : Sat ((retJ js m env).seq K) Q := by
  have : retJ js m env = .rt (.tup (d :: ds)) := by unfold retJ; rw [h]; simp only [Fl.ofK_ok, hg]
  rw [this]; exact k
theorem sl_ok {ma ml mh : T} {env : VL.Env} {d r : D} {a b : Int} (h0 : ma env = .ok d) (h1 : ml env = .ok (.int a)) (h2 : mh env = .ok (.int b)) (hs : sliceD d (some a) (some b) = .ok r) : tSl' ma (oS ml) (oS mh) env = .ok r := by
  simp [-Bool.exists_bool, cst, VL.tB, tU, tIsx, tAt', tCh, tAn, tO, tN, tIfE, tIsi, a0, aC, tF, VL.tCall, VL.tCallKw, permL_c, oN, oS, tSl', tLc', cYes, cTr, cB, cAn, cO, cN, iS, iA, seqM, ifM, k0, kC, kTup, kLst, rK, jE, jV, j0, oE, oV, kO2, kCall, callJ, finJ, rdJ, fillJ, putJ, holes, posJ, flatJ, kBl, kTru, VL.kB, kRng, forK, ifK, retJ, grab, kSl, okN, okS, kAn, kOr, kNo, fnOp, h0, h1, h2, hs]
theorem tB_ok {op : D → D → R D} {ma mb : T} {env : VL.Env} {a b r : D} (h1 : ma env = .ok a) (h2 : mb env = .ok b) (h : op a b = .ok r) : VL.tB op ma mb env = .ok r := by
  simp [-Bool.exists_bool, cst, VL.tB, tU, tIsx, tAt', tCh, tAn, tO, tN, tIfE, tIsi, a0, aC, tF, VL.tCall, VL.tCallKw, permL_c, oN, oS, tSl', tLc', cYes, cTr, cB, cAn, cO, cN, iS, iA, seqM, ifM, k0, kC, kTup, kLst, rK, jE, jV, j0, oE, oV, kO2, kCall, callJ, finJ, rdJ, fillJ, putJ, holes, posJ, flatJ, kBl, kTru, VL.kB, kRng, forK, ifK, retJ, grab, kSl, okN, okS, kAn, kOr, kNo, fnOp, h1, h2, h]
theorem tCall1 {fn : List D → R D} {ma : T} {env : VL.Env} {d1 : D} {r : R D} (h1 : ma env = .ok d1) (h : fn [frz d1] = r) : VL.tCall 1 fn (aC ma a0) env = r := by
  simp [-Bool.exists_bool, cst, VL.tB, tU, tIsx, tAt', tCh, tAn, tO, tN, tIfE, tIsi, a0, aC, tF, VL.tCall, VL.tCallKw, permL_c, oN, oS, tSl', tLc', cYes, cTr, cB, cAn, cO, cN, iS, iA, seqM, ifM, k0, kC, kTup, kLst, rK, jE, jV, j0, oE, oV, kO2, kCall, callJ, finJ, rdJ, fillJ, putJ, holes, posJ, flatJ, kBl, kTru, VL.kB, kRng, forK, ifK, retJ, grab, kSl, okN, okS, kAn, kOr, kNo, fnOp, h1, h]
theorem tCall2 {fn : List D → R D} {ma mb : T} {env : VL.Env} {d1 d2 : D} {r : R D} (h1 : ma env = .ok d1) (h2 : mb env = .ok d2) (h : fn [frz d1, frz d2] = r) : VL.tCall 2 fn (aC ma (aC mb a0)) env = r := by
  simp [-Bool.exists_bool, cst, VL.tB, tU, tIsx, tAt', tCh, tAn, tO, tN, tIfE, tIsi, a0, aC, tF, VL.tCall, VL.tCallKw, permL_c, oN, oS, tSl', tLc', cYes, cTr, cB, cAn, cO, cN, iS, iA, seqM, ifM, k0, kC, kTup, kLst, rK, jE, jV, j0, oE, oV, kO2, kCall, callJ, finJ, rdJ, fillJ, putJ, holes, posJ, flatJ, kBl, kTru, VL.kB, kRng, forK, ifK, retJ, grab, kSl, okN, okS, kAn, kOr, kNo, fnOp, h1, h2, h]
theorem tCall3 {fn : List D → R D} {ma mb mc : T} {env : VL.Env} {d1 d2 d3 : D} {r : R D} (h1 : ma env = .ok d1) (h2 : mb env = .ok d2) (h3 : mc env = .ok d3) (h : fn [frz d1, frz d2, frz d3] = r) : VL.tCall 3 fn (aC ma (aC mb (aC mc a0))) env = r := by
  simp [-Bool.exists_bool, cst, VL.tB, tU, tIsx, tAt', tCh, tAn, tO, tN, tIfE, tIsi, a0, aC, tF, VL.tCall, VL.tCallKw, permL_c, oN, oS, tSl', tLc', cYes, cTr, cB, cAn, cO, cN, iS, iA, seqM, ifM, k0, kC, kTup, kLst, rK, jE, jV, j0, oE, oV, kO2, kCall, callJ, finJ, rdJ, fillJ, putJ, holes, posJ, flatJ, kBl, kTru, VL.kB, kRng, forK, ifK, retJ, grab, kSl, okN, okS, kAn, kOr, kNo, fnOp, h1, h2, h3, h]
theorem tCall4 {fn : List D → R D} {ma mb mc md : T} {env : VL.Env} {d1 d2 d3 d4 : D} {r : R D} (h1 : ma env = .ok d1) (h2 : mb env = .ok d2) (h3 : mc env = .ok d3) (h4 : md env = .ok d4) (h : fn [frz d1, frz d2, frz d3, frz d4] = r) : VL.tCall 4 fn (aC ma (aC mb (aC mc (aC md a0)))) env = r := by
  simp [-Bool.exists_bool, cst, VL.tB, tU, tIsx, tAt', tCh, tAn, tO, tN, tIfE, tIsi, a0, aC, tF, VL.tCall, VL.tCallKw, permL_c, oN, oS, tSl', tLc', cYes, cTr, cB, cAn, cO, cN, iS, iA, seqM, ifM, k0, kC, kTup, kLst, rK, jE, jV, j0, oE, oV, kO2, kCall, callJ, finJ, rdJ, fillJ, putJ, holes, posJ, flatJ, kBl, kTru, VL.kB, kRng, forK, ifK, retJ, grab, kSl, okN, okS, kAn, kOr, kNo, fnOp, h1, h2, h3, h4, h]
theorem tCall5 {fn : List D → R D} {ma mb mc md me : T} {env : VL.Env} {d1 d2 d3 d4 d5 : D} {r : R D} (h1 : ma env = .ok d1) (h2 : mb env = .ok d2) (h3 : mc env = .ok d3) (h4 : md env = .ok d4) (h5 : me env = .ok d5) (h : fn [frz d1, frz d2, frz d3, frz d4, frz d5] = r) : VL.tCall 5 fn (aC ma (aC mb (aC mc (aC md (aC me a0))))) env = r := by
  simp [-Bool.exists_bool, cst, VL.tB, tU, tIsx, tAt', tCh, tAn, tO, tN, tIfE, tIsi, a0, aC, tF, VL.tCall, VL.tCallKw, permL_c, oN, oS, tSl', tLc', cYes, cTr, cB, cAn, cO, cN, iS, iA, seqM, ifM, k0, kC, kTup, kLst, rK, jE, jV, j0, oE, oV, kO2, kCall, callJ, finJ, rdJ, fillJ, putJ, holes, posJ, flatJ, kBl, kTru, VL.kB, kRng, forK, ifK, retJ, grab, kSl, okN, okS, kAn, kOr, kNo, fnOp, h1, h2, h3, h4, h5, h]
theorem set_get_ne {α : Type} {l : List α} {i j : Nat} {a b : α} (h : l[j]? = some a) (hij : i ≠ j) : (l.set i b)[j]? = some a := by rw [List.getElem?_set_ne hij]; exact h
theorem callG_l {fn : List D → R D} {i j : Nat} {env : VL.Env} {a x r b : D} (hij : i ≠ j) (hi : env[i]? = some (some a)) (hj : env[j]? = some (some x)) (hf : fn [a, frz x] = .ok (.tup [r, b])) (hc : clean r = true) (hb : clean b = true) :
    callG 2 [0] fn (jV i (jV j j0)) env = .ok r (env.set i (some b)) := by
  have h1 : (env.set i none)[i]? = some none := List.getElem?_set_self (List.getElem?_eq_some_iff.mp hi).1
  have h2 : (env.set i none)[j]? = some (some x) := set_get_ne hj hij
  simp [callG, jV, j0, hi, hj, fillG, outG, h2, hf, hc, hb, putG, h1]
theorem callG_t {fn : List D → R D} {i : Nat} {mk : VL.Env → RK D} {env e1 : VL.Env} {a d r b : D} (he : mk env = .ok d e1) (hf : fn [d] = .ok (.tup [r, b])) (hc : clean r = true) (hb : clean b = true) :
    callG 1 [0] fn (jE mk j0) env = .ok r e1 := by
  simp [callG, jE, j0, he, fillG, outG, hf, hc, hb, putG]
theorem sat_forO {p : Pat} {mk : VL.Env → RK D} {body k : VL.Env → Fl} {env e : VL.Env} {d : D} {ds : List D} {Q : Fl → Prop} (h : mk env = .ok d e) (hd : sqD d = some ds) (q : Sat ((forD p body ds e).seq k) Q) : Sat (seqM (forO p mk body) k env) Q := by
  show Sat ((forO p mk body env).seq k) Q
  have : forO p mk body env = forD p body ds e := by
    unfold forO; rw [h]
    show (match sqD d with | some ds => forD p body ds e | none => .bad) = _
    rw [hd]
  rw [this]; exact q
theorem kTup_ok {ms : VL.Env → RK (List D)} {env e : VL.Env} {ds : List D} (h : ms env = .ok ds e) (hl : ds.length ≤ 1000) : kTup ms env = .ok (.tup ds) e := by
  simp [kTup, h, hl]
theorem kLst_ok {ms : VL.Env → RK (List D)} {env e : VL.Env} {ds : List D} (h : ms env = .ok ds e) (hl : ds.length ≤ 1000) : kLst ms env = .ok (.lst true ds) e := by
  simp [kLst, h, hl]
theorem kTru_ok {mk : VL.Env → RK D} {env e : VL.Env} {d : D} {b : Bool} (h : mk env = .ok d e) (ht : truD d = some b) : kTru mk env = .ok b e := by
  simp [kTru, h, ht]
theorem mutB_at {i : Nat} {ms : VL.Env → RK (List D)} {f : List D → List D → Option (List D × D)} {env e1 : VL.Env} {l l' das : List D} {dy : D} (he : env[i]? = some (some (.lst true l))) (hs : ms (env.set i none) = .ok das e1) (h1 : e1[i]? = some none) (hf : f l das = some (l', dy)) :
    mutB .list i (fun _ => .ok []) ms (muL f) env = .ok dy (e1.set i (some (.lst true l'))) := by
  unfold mutB
  rw [he]
  simp [hs, h1, mutD, downD, ownB, isD', hf, putD, kindD]
end Gn
end

section
set_option Elab.async false
set_option linter.all false
set_option maxRecDepth 100000
set_option maxHeartbeats 1000000
namespace Gn
open PySem PySem.W VL
/-- anything that may be compared (as it is read) -/
structure AnyT (d : D) : Prop where
  nd : noDct d = true
  dep : depD d ≤ 40
  fz : frz d = d
theorem AnyT.cmp {d : D} (h : AnyT d) : cmpD d = true := by
  rw [cmpD, h.nd, decide_eq_true (Nat.le_trans h.dep (by decide))]; rfl
theorem noDctL_all : ∀ ds : List D, noDctL ds = true → ∀ d ∈ ds, noDct d = true
  | [], _, d, hd => by cases hd
  | x :: ds, h, d, hd => by
    have h := Bool.and_eq_true_iff.mp (by simpa only [noDctL] using h)
    rcases List.mem_cons.mp hd with rfl | hd
    · exact h.1
    · exact noDctL_all ds h.2 d hd
theorem depL_all : ∀ ds : List D, ∀ d ∈ ds, depD d ≤ depL ds
  | [], d, hd => by cases hd
  | x :: ds, d, hd => by
    rw [depL]
    rcases List.mem_cons.mp hd with rfl | hd
    · exact Nat.le_max_left _ _
    · exact Nat.le_trans (depL_all ds d hd) (Nat.le_max_right _ _)
theorem frzL_all : ∀ ds : List D, frzL ds = ds → ∀ d ∈ ds, frz d = d
  | [], _, d, hd => by cases hd
  | x :: ds, h, d, hd => by
    simp only [frzL, List.cons.injEq] at h
    rcases List.mem_cons.mp hd with rfl | hd
    · exact h.1
    · exact frzL_all ds h.2 d hd
theorem AnyT.tup {ds : List D} (h : AnyT (.tup ds)) : ∀ d ∈ ds, AnyT d := fun d hd => by
  obtain ⟨h1, h2, h3⟩ := h
  simp only [noDct] at h1
  simp only [depD] at h2
  simp only [frz, D.tup.injEq] at h3
  exact ⟨noDctL_all ds h1 d hd, by have := depL_all ds d hd; omega, frzL_all ds h3 d hd⟩
theorem AnyT.lst {o : Bool} {ds : List D} (h : AnyT (.lst o ds)) : o = false ∧ frzL ds = ds ∧ ∀ d ∈ ds, AnyT d := by
  obtain ⟨h1, h2, h3⟩ := h
  simp only [noDct] at h1
  simp only [depD] at h2
  simp only [frz, D.lst.injEq] at h3
  exact ⟨h3.1.symm, h3.2, fun d hd => ⟨noDctL_all ds h1 d hd, by have := depL_all ds d hd; omega, frzL_all ds h3.2 d hd⟩⟩
def strIn : D → List Str → Bool
  | .str s, l => decide (s ∈ l)
  | _, _ => false
def strOf : D → Str
  | .str s => s
  | _ => ""
def isLstB : D → Bool
  | .lst _ _ => true
  | _ => false
def isS : D → Bool
  | .str _ => true
  | _ => false
theorem isS_at {d : D} (h : isS d = true) : ∃ s, d = .str s := by
  cases d with
  | str s => exact ⟨s, rfl⟩
  | _ => cases h
theorem all_strs : ∀ ds : List D, (∀ d ∈ ds, isS d = true) → ∃ l : List Str, ds = l.map .str
  | [], _ => ⟨[], rfl⟩
  | d :: ds, h => by
    obtain ⟨s, rfl⟩ := isS_at (h d (by simp))
    obtain ⟨l, rfl⟩ := all_strs ds fun x hx => h x (by simp [hx])
    exact ⟨s :: l, rfl⟩
def eqS (k : Str) : D → Bool
  | .str s => s == k
  | _ => false
theorem eqv_any (d : D) (k : Str) : eqvD d (.str k) = eqS k d := by
  cases d <;> simp [eqvD, py, PD.eqv, eqS]
theorem ne_any (d : D) (k : Str) (h : cmpD d = true) : neD d (.str k) = .ok (.bl (!eqS k d)) := by
  rw [neD, if_pos (.inl ⟨h, rfl⟩), eqv_any]
theorem not_lst (T : D) (h1 : isLstB T = false) (h2 : ∀ c d, T ≠ .exn c d) : isD' .list (VL.frz T) = false ∧ isExn (VL.frz T) = false := by
  cases T with
  | lst _ _ => cases h1
  | exn c d => exact absurd rfl (h2 c d)
  | _ => exact ⟨rfl, rfl⟩
theorem strIn_str {d : D} {l : List Str} (h : strIn d l = true) : ∃ s, d = .str s ∧ s ∈ l := by
  cases d with
  | str s => exact ⟨s, rfl, by simpa [strIn] using h⟩
  | _ => cases h
theorem in_any (d : D) (h : cmpD d = true) (o : Bool) (l : List Str) : inD d (.lst o (l.map .str)) = .ok (.bl (strIn d l)) := by
  have h1 : inB d (.lst o (l.map .str)) = some (strIn d l) := by
    have h0 : inB d (.lst o (l.map .str)) = (if okC d (.lst true (l.map .str)) then some ((l.map D.str).any fun z => eqvD z d) else none) := by cases d <;> rfl
    rw [h0, if_pos (.inl ⟨h, cmpD_strs true l⟩), List.any_map]
    congr 1
    cases d with
    | str s =>
      rw [strIn, Bool.eq_iff_iff]
      simp
    | _ =>
      rw [show strIn _ l = false from rfl, Bool.eq_false_iff]
      intro z
      obtain ⟨x, _, hx⟩ := List.any_eq_true.mp z
      simp [eqvD, py, PD.eqv] at hx
  rw [inD, h1]
theorem notin_any (d : D) (h : cmpD d = true) (o : Bool) (l : List Str) : notinD d (.lst o (l.map .str)) = .ok (.bl (!strIn d l)) := by
  have h1 := in_any d h o l
  unfold inD at h1
  unfold notinD
  cases q : inB d (.lst o (l.map .str)) with
  | none => rw [q] at h1; cases h1
  | some k => rw [q] at h1; simp at h1; simp [h1]
structure An (k : Nat) (d : D) : Prop where
  nd : noDct d = true
  dep : depD d ≤ k
mutual
theorem noDct_frz : ∀ d : D, noDct (frz d) = noDct d
  | .non => rfl | .bl _ => rfl | .int _ => rfl | .str _ => rfl
  | .lst _ ds => by simp only [frz, noDct]; exact noDctL_frz ds
  | .tup ds => by simp only [frz, noDct]; exact noDctL_frz ds
  | .dct _ kvs => by simp [frz, noDct, frzK_map]
  | .exn _ _ => by simp [frz, noDct]
theorem noDctL_frz : ∀ ds : List D, noDctL (frzL ds) = noDctL ds
  | [] => rfl
  | d :: ds => by simp only [frzL, noDctL]; rw [noDct_frz d, noDctL_frz ds]
end
mutual
theorem depD_frz : ∀ d : D, depD (frz d) = depD d
  | .non => rfl | .bl _ => rfl | .int _ => rfl | .str _ => rfl
  | .lst _ ds => by simp only [frz, depD]; rw [depL_frz ds]
  | .tup ds => by simp only [frz, depD]; rw [depL_frz ds]
  | .dct _ kvs => by simp [frz, depD]
  | .exn _ _ => by simp [frz, depD]
theorem depL_frz : ∀ ds : List D, depL (frzL ds) = depL ds
  | [] => rfl
  | d :: ds => by simp only [frzL, depL]; rw [depD_frz d, depL_frz ds]
end
theorem An.frz {k : Nat} {d : D} (h : An k d) : An k (VL.frz d) := ⟨by rw [noDct_frz]; exact h.nd, by rw [depD_frz]; exact h.dep⟩
theorem An.any {k : Nat} {d : D} (h : An k d) (hk : k ≤ 40) : AnyT (VL.frz d) := ⟨h.frz.nd, Nat.le_trans h.frz.dep hk, frz_frz d⟩
theorem An.mono {k j : Nat} {d : D} (h : An k d) (hk : k ≤ j) : An j d := ⟨h.nd, Nat.le_trans h.dep hk⟩
theorem noDctL_of : ∀ ds : List D, (∀ d ∈ ds, noDct d = true) → noDctL ds = true
  | [], _ => rfl
  | d :: ds, h => by rw [noDctL, h d (by simp), noDctL_of ds fun x hx => h x (by simp [hx])]; rfl
theorem depL_of (k : Nat) : ∀ ds : List D, (∀ d ∈ ds, depD d ≤ k) → depL ds ≤ k
  | [], _ => Nat.zero_le _
  | d :: ds, h => by
    rw [depL]
    exact Nat.max_le.mpr ⟨h d (by simp), depL_of k ds fun x hx => h x (by simp [hx])⟩
theorem An.tup {k : Nat} {ds : List D} (h : ∀ d ∈ ds, An k d) : An (k + 1) (.tup ds) := ⟨by simp only [noDct]; exact noDctL_of ds fun d hd => (h d hd).nd, by simp only [depD]; have := depL_of k ds fun d hd => (h d hd).dep; omega⟩
theorem An.lst {k : Nat} {o : Bool} {ds : List D} (h : ∀ d ∈ ds, An k d) : An (k + 1) (.lst o ds) := ⟨by simp only [noDct]; exact noDctL_of ds fun d hd => (h d hd).nd, by simp only [depD]; have := depL_of k ds fun d hd => (h d hd).dep; omega⟩
theorem An.str (k : Nat) (s : Str) : An k (.str s) := ⟨rfl, Nat.zero_le _⟩
theorem An.int (k : Nat) (s : Int) : An k (.int s) := ⟨rfl, Nat.zero_le _⟩
theorem An.bl (k : Nat) (s : Bool) : An k (.bl s) := ⟨rfl, Nat.zero_le _⟩
theorem An.non (k : Nat) : An k .non := ⟨rfl, Nat.zero_le _⟩
theorem An.dct (k : Nat) (o : Bool) : An (k + 1) (.dct o []) := ⟨rfl, by simp [depD]⟩
theorem An.strs (k : Nat) (o : Bool) (l : List Str) : An (k + 1) (.lst o (l.map .str)) := An.lst fun d hd => by
  obtain ⟨x, _, rfl⟩ := List.mem_map.mp hd
  exact .str _ _
theorem An.at {k : Nat} {ds : List D} (h : ∀ d ∈ ds, An k d) (j : Nat) (hj : j < ds.length) : ∃ d, ds[j]? = some d ∧ An k d := ⟨_, List.getElem?_eq_getElem hj, h _ (List.getElem_mem _)⟩
theorem fmod_nat (c : Int) (n : Nat) (h : 0 < n) : ∃ j : Nat, c.fmod n = (j : Nat) ∧ j < n := by
  have := fmod_bd c n (by omega)
  exact ⟨(c.fmod n).toNat, by omega, by omega⟩
theorem cut_to_len (z : Str) (n : Nat) : (L2.cutS z none (some (n : Int))).length ≤ z.length := by
  rw [len_list, len_list, cut_to, List.length_take]; omega
theorem cut_from_len (z : Str) (n : Nat) : (L2.cutS z (some (n : Int)) none).length ≤ z.length := by
  rw [len_list, len_list, cut_from, List.length_drop]; omega
theorem app_len2 (x y : Str) : (x ++ y).length = x.length + y.length := app_len x y
theorem mutB_ins {i : Nat} {ms : VL.Env → RK (List D)} {env e1 : VL.Env} {l : List D} {j : Nat} {x : D} (he : env[i]? = some (some (.lst true l))) (hs : ms (env.set i none) = .ok [.int (j : Nat), x] e1) (h1 : e1[i]? = some none) (hl : l.length ≤ 1000) (hj : j ≤ 1000) :
    mutB .list i (fun _ => .ok []) ms (muL insF) env = .ok .non (e1.set i (some (.lst true (l.take j ++ [x] ++ l.drop j)))) := by
  refine mutB_at he hs h1 ?_
  have h1 : l.length < LIM ∧ (0 : Int) ≤ (j : Nat) ∧ ((j : Nat) : Int) ≤ 1000000 := ⟨by show _ < 100000; omega, by omega, by omega⟩
  show (if l.length < LIM ∧ (0 : Int) ≤ (j : Nat) ∧ ((j : Nat) : Int) ≤ 1000000 then some (l.take ((j : Nat) : Int).toNat ++ [x] ++ l.drop ((j : Nat) : Int).toNat, D.non) else none) = _
  rw [if_pos h1]
  simp
theorem An.ins {k : Nat} {l : List D} (j : Nat) {x : D} (h : ∀ d ∈ l, An k d) (hx : An k x) : ∀ d ∈ l.take j ++ [x] ++ l.drop j, An k d := fun d hd => by
  simp only [List.mem_append, List.mem_cons, List.not_mem_nil, or_false] at hd
  rcases hd with (hd | rfl) | hd
  · exact h d (List.mem_of_mem_take hd)
  · exact hx
  · exact h d (List.mem_of_mem_drop hd)
theorem An.strsAll (k : Nat) (l : List Str) : ∀ d ∈ l.map D.str, An k d := fun d hd => by
  obtain ⟨x, _, rfl⟩ := List.mem_map.mp hd
  exact .str _ _
def isPair : D → Bool
  | .tup [_, _] => true
  | _ => false
theorem isPair_at {d : D} (h : isPair d = true) : ∃ x y, d = .tup [x, y] := by
  match d, h with
  | .tup [x, y], _ => exact ⟨x, y, rfl⟩
theorem pair_cond' {ml : T} {env : VL.Env} {d : D} (e : ml env = .ok d) (ha : AnyT d) : cO (cN (cTr (tIsi .tuple ml))) (cB (VL.tB neD (tF lenD (aC ml a0)) (cst (.int 2)))) env = .ok (!isPair d) := by
  match d, ha, e with
  | .tup [], ha, e => simp [-Bool.exists_bool, cst, VL.tB, tU, tIsx, tAt', tCh, tAn, tO, tN, tIfE, tIsi, a0, aC, tF, VL.tCall, VL.tCallKw, permL_c, oN, oS, tSl', tLc', cYes, cTr, cB, cAn, cO, cN, iS, iA, seqM, ifM, k0, kC, kTup, kLst, rK, jE, jV, j0, oE, oV, kO2, kCall, callJ, finJ, rdJ, fillJ, putJ, holes, posJ, flatJ, kBl, kTru, VL.kB, kRng, forK, ifK, retJ, grab, kSl, okN, okS, kAn, kOr, kNo, fnOp, isPair, e]
  | .tup [_], ha, e => simp [-Bool.exists_bool, cst, VL.tB, tU, tIsx, tAt', tCh, tAn, tO, tN, tIfE, tIsi, a0, aC, tF, VL.tCall, VL.tCallKw, permL_c, oN, oS, tSl', tLc', cYes, cTr, cB, cAn, cO, cN, iS, iA, seqM, ifM, k0, kC, kTup, kLst, rK, jE, jV, j0, oE, oV, kO2, kCall, callJ, finJ, rdJ, fillJ, putJ, holes, posJ, flatJ, kBl, kTru, VL.kB, kRng, forK, ifK, retJ, grab, kSl, okN, okS, kAn, kOr, kNo, fnOp, isPair, e]
  | .tup [_, _], ha, e => simp [-Bool.exists_bool, cst, VL.tB, tU, tIsx, tAt', tCh, tAn, tO, tN, tIfE, tIsi, a0, aC, tF, VL.tCall, VL.tCallKw, permL_c, oN, oS, tSl', tLc', cYes, cTr, cB, cAn, cO, cN, iS, iA, seqM, ifM, k0, kC, kTup, kLst, rK, jE, jV, j0, oE, oV, kO2, kCall, callJ, finJ, rdJ, fillJ, putJ, holes, posJ, flatJ, kBl, kTru, VL.kB, kRng, forK, ifK, retJ, grab, kSl, okN, okS, kAn, kOr, kNo, fnOp, isPair, e]
  | .tup (_ :: _ :: _ :: l), ha, e =>
    have : ¬ (l.length : Int) + 1 + 1 + 1 = 2 := by omega
    simp [-Bool.exists_bool, cst, VL.tB, tU, tIsx, tAt', tCh, tAn, tO, tN, tIfE, tIsi, a0, aC, tF, VL.tCall, VL.tCallKw, permL_c, oN, oS, tSl', tLc', cYes, cTr, cB, cAn, cO, cN, iS, iA, seqM, ifM, k0, kC, kTup, kLst, rK, jE, jV, j0, oE, oV, kO2, kCall, callJ, finJ, rdJ, fillJ, putJ, holes, posJ, flatJ, kBl, kTru, VL.kB, kRng, forK, ifK, retJ, grab, kSl, okN, okS, kAn, kOr, kNo, fnOp, isPair, this, e]
  | .non, ha, e => simp [-Bool.exists_bool, cst, VL.tB, tU, tIsx, tAt', tCh, tAn, tO, tN, tIfE, tIsi, a0, aC, tF, VL.tCall, VL.tCallKw, permL_c, oN, oS, tSl', tLc', cYes, cTr, cB, cAn, cO, cN, iS, iA, seqM, ifM, k0, kC, kTup, kLst, rK, jE, jV, j0, oE, oV, kO2, kCall, callJ, finJ, rdJ, fillJ, putJ, holes, posJ, flatJ, kBl, kTru, VL.kB, kRng, forK, ifK, retJ, grab, kSl, okN, okS, kAn, kOr, kNo, fnOp, isPair, e]
  | .bl _, ha, e => simp [-Bool.exists_bool, cst, VL.tB, tU, tIsx, tAt', tCh, tAn, tO, tN, tIfE, tIsi, a0, aC, tF, VL.tCall, VL.tCallKw, permL_c, oN, oS, tSl', tLc', cYes, cTr, cB, cAn, cO, cN, iS, iA, seqM, ifM, k0, kC, kTup, kLst, rK, jE, jV, j0, oE, oV, kO2, kCall, callJ, finJ, rdJ, fillJ, putJ, holes, posJ, flatJ, kBl, kTru, VL.kB, kRng, forK, ifK, retJ, grab, kSl, okN, okS, kAn, kOr, kNo, fnOp, isPair, e]
  | .int _, ha, e => simp [-Bool.exists_bool, cst, VL.tB, tU, tIsx, tAt', tCh, tAn, tO, tN, tIfE, tIsi, a0, aC, tF, VL.tCall, VL.tCallKw, permL_c, oN, oS, tSl', tLc', cYes, cTr, cB, cAn, cO, cN, iS, iA, seqM, ifM, k0, kC, kTup, kLst, rK, jE, jV, j0, oE, oV, kO2, kCall, callJ, finJ, rdJ, fillJ, putJ, holes, posJ, flatJ, kBl, kTru, VL.kB, kRng, forK, ifK, retJ, grab, kSl, okN, okS, kAn, kOr, kNo, fnOp, isPair, e]
  | .str _, ha, e => simp [-Bool.exists_bool, cst, VL.tB, tU, tIsx, tAt', tCh, tAn, tO, tN, tIfE, tIsi, a0, aC, tF, VL.tCall, VL.tCallKw, permL_c, oN, oS, tSl', tLc', cYes, cTr, cB, cAn, cO, cN, iS, iA, seqM, ifM, k0, kC, kTup, kLst, rK, jE, jV, j0, oE, oV, kO2, kCall, callJ, finJ, rdJ, fillJ, putJ, holes, posJ, flatJ, kBl, kTru, VL.kB, kRng, forK, ifK, retJ, grab, kSl, okN, okS, kAn, kOr, kNo, fnOp, isPair, e]
  | .lst _ _, ha, e => simp [-Bool.exists_bool, cst, VL.tB, tU, tIsx, tAt', tCh, tAn, tO, tN, tIfE, tIsi, a0, aC, tF, VL.tCall, VL.tCallKw, permL_c, oN, oS, tSl', tLc', cYes, cTr, cB, cAn, cO, cN, iS, iA, seqM, ifM, k0, kC, kTup, kLst, rK, jE, jV, j0, oE, oV, kO2, kCall, callJ, finJ, rdJ, fillJ, putJ, holes, posJ, flatJ, kBl, kTru, VL.kB, kRng, forK, ifK, retJ, grab, kSl, okN, okS, kAn, kOr, kNo, fnOp, isPair, e]
  | .dct _ _, ha, e => simp [-Bool.exists_bool, cst, VL.tB, tU, tIsx, tAt', tCh, tAn, tO, tN, tIfE, tIsi, a0, aC, tF, VL.tCall, VL.tCallKw, permL_c, oN, oS, tSl', tLc', cYes, cTr, cB, cAn, cO, cN, iS, iA, seqM, ifM, k0, kC, kTup, kLst, rK, jE, jV, j0, oE, oV, kO2, kCall, callJ, finJ, rdJ, fillJ, putJ, holes, posJ, flatJ, kBl, kTru, VL.kB, kRng, forK, ifK, retJ, grab, kSl, okN, okS, kAn, kOr, kNo, fnOp, isPair, e]
  | .exn _ _, ha, e =>
    have := ha.nd
    simp [noDct] at this
theorem pair_no {ml : T} {mc : VL.Env → R Bool} {env : VL.Env} {d : D} (e : ml env = .ok d) (ha : AnyT d) (h : isPair d = false) : cO (cN (cTr (tIsi .tuple ml))) (cO (cB (VL.tB neD (tF lenD (aC ml a0)) (cst (.int 2)))) mc) env = .ok true := by
  match d, ha, e, h with
  | .tup [], ha, e, _ => simp [-Bool.exists_bool, cst, VL.tB, tU, tIsx, tAt', tCh, tAn, tO, tN, tIfE, tIsi, a0, aC, tF, VL.tCall, VL.tCallKw, permL_c, oN, oS, tSl', tLc', cYes, cTr, cB, cAn, cO, cN, iS, iA, seqM, ifM, k0, kC, kTup, kLst, rK, jE, jV, j0, oE, oV, kO2, kCall, callJ, finJ, rdJ, fillJ, putJ, holes, posJ, flatJ, kBl, kTru, VL.kB, kRng, forK, ifK, retJ, grab, kSl, okN, okS, kAn, kOr, kNo, fnOp, e]
  | .tup [_], ha, e, _ => simp [-Bool.exists_bool, cst, VL.tB, tU, tIsx, tAt', tCh, tAn, tO, tN, tIfE, tIsi, a0, aC, tF, VL.tCall, VL.tCallKw, permL_c, oN, oS, tSl', tLc', cYes, cTr, cB, cAn, cO, cN, iS, iA, seqM, ifM, k0, kC, kTup, kLst, rK, jE, jV, j0, oE, oV, kO2, kCall, callJ, finJ, rdJ, fillJ, putJ, holes, posJ, flatJ, kBl, kTru, VL.kB, kRng, forK, ifK, retJ, grab, kSl, okN, okS, kAn, kOr, kNo, fnOp, e]
  | .tup (_ :: _ :: _ :: l), ha, e, _ =>
    have : ¬ (l.length : Int) + 1 + 1 + 1 = 2 := by omega
    simp [-Bool.exists_bool, cst, VL.tB, tU, tIsx, tAt', tCh, tAn, tO, tN, tIfE, tIsi, a0, aC, tF, VL.tCall, VL.tCallKw, permL_c, oN, oS, tSl', tLc', cYes, cTr, cB, cAn, cO, cN, iS, iA, seqM, ifM, k0, kC, kTup, kLst, rK, jE, jV, j0, oE, oV, kO2, kCall, callJ, finJ, rdJ, fillJ, putJ, holes, posJ, flatJ, kBl, kTru, VL.kB, kRng, forK, ifK, retJ, grab, kSl, okN, okS, kAn, kOr, kNo, fnOp, this, e]
  | .non, ha, e, _ => simp [-Bool.exists_bool, cst, VL.tB, tU, tIsx, tAt', tCh, tAn, tO, tN, tIfE, tIsi, a0, aC, tF, VL.tCall, VL.tCallKw, permL_c, oN, oS, tSl', tLc', cYes, cTr, cB, cAn, cO, cN, iS, iA, seqM, ifM, k0, kC, kTup, kLst, rK, jE, jV, j0, oE, oV, kO2, kCall, callJ, finJ, rdJ, fillJ, putJ, holes, posJ, flatJ, kBl, kTru, VL.kB, kRng, forK, ifK, retJ, grab, kSl, okN, okS, kAn, kOr, kNo, fnOp, e]
  | .bl _, ha, e, _ => simp [-Bool.exists_bool, cst, VL.tB, tU, tIsx, tAt', tCh, tAn, tO, tN, tIfE, tIsi, a0, aC, tF, VL.tCall, VL.tCallKw, permL_c, oN, oS, tSl', tLc', cYes, cTr, cB, cAn, cO, cN, iS, iA, seqM, ifM, k0, kC, kTup, kLst, rK, jE, jV, j0, oE, oV, kO2, kCall, callJ, finJ, rdJ, fillJ, putJ, holes, posJ, flatJ, kBl, kTru, VL.kB, kRng, forK, ifK, retJ, grab, kSl, okN, okS, kAn, kOr, kNo, fnOp, e]
  | .int _, ha, e, _ => simp [-Bool.exists_bool, cst, VL.tB, tU, tIsx, tAt', tCh, tAn, tO, tN, tIfE, tIsi, a0, aC, tF, VL.tCall, VL.tCallKw, permL_c, oN, oS, tSl', tLc', cYes, cTr, cB, cAn, cO, cN, iS, iA, seqM, ifM, k0, kC, kTup, kLst, rK, jE, jV, j0, oE, oV, kO2, kCall, callJ, finJ, rdJ, fillJ, putJ, holes, posJ, flatJ, kBl, kTru, VL.kB, kRng, forK, ifK, retJ, grab, kSl, okN, okS, kAn, kOr, kNo, fnOp, e]
  | .str _, ha, e, _ => simp [-Bool.exists_bool, cst, VL.tB, tU, tIsx, tAt', tCh, tAn, tO, tN, tIfE, tIsi, a0, aC, tF, VL.tCall, VL.tCallKw, permL_c, oN, oS, tSl', tLc', cYes, cTr, cB, cAn, cO, cN, iS, iA, seqM, ifM, k0, kC, kTup, kLst, rK, jE, jV, j0, oE, oV, kO2, kCall, callJ, finJ, rdJ, fillJ, putJ, holes, posJ, flatJ, kBl, kTru, VL.kB, kRng, forK, ifK, retJ, grab, kSl, okN, okS, kAn, kOr, kNo, fnOp, e]
  | .lst _ _, ha, e, _ => simp [-Bool.exists_bool, cst, VL.tB, tU, tIsx, tAt', tCh, tAn, tO, tN, tIfE, tIsi, a0, aC, tF, VL.tCall, VL.tCallKw, permL_c, oN, oS, tSl', tLc', cYes, cTr, cB, cAn, cO, cN, iS, iA, seqM, ifM, k0, kC, kTup, kLst, rK, jE, jV, j0, oE, oV, kO2, kCall, callJ, finJ, rdJ, fillJ, putJ, holes, posJ, flatJ, kBl, kTru, VL.kB, kRng, forK, ifK, retJ, grab, kSl, okN, okS, kAn, kOr, kNo, fnOp, e]
  | .dct _ _, ha, e, _ => simp [-Bool.exists_bool, cst, VL.tB, tU, tIsx, tAt', tCh, tAn, tO, tN, tIfE, tIsi, a0, aC, tF, VL.tCall, VL.tCallKw, permL_c, oN, oS, tSl', tLc', cYes, cTr, cB, cAn, cO, cN, iS, iA, seqM, ifM, k0, kC, kTup, kLst, rK, jE, jV, j0, oE, oV, kO2, kCall, callJ, finJ, rdJ, fillJ, putJ, holes, posJ, flatJ, kBl, kTru, VL.kB, kRng, forK, ifK, retJ, grab, kSl, okN, okS, kAn, kOr, kNo, fnOp, e]
  | .exn _ _, ha, e, _ =>
    have := ha.nd
    simp [noDct] at this
theorem pair_yes {ml : T} {mc : VL.Env → R Bool} {env : VL.Env} {x y : D} (e : ml env = .ok (.tup [x, y])) : cO (cN (cTr (tIsi .tuple ml))) (cO (cB (VL.tB neD (tF lenD (aC ml a0)) (cst (.int 2)))) mc) env = mc env := by
  simp [-Bool.exists_bool, cst, VL.tB, tU, tIsx, tAt', tCh, tAn, tO, tN, tIfE, tIsi, a0, aC, tF, VL.tCall, VL.tCallKw, permL_c, oN, oS, tSl', tLc', cYes, cTr, cB, cAn, cO, cN, iS, iA, seqM, ifM, k0, kC, kTup, kLst, rK, jE, jV, j0, oE, oV, kO2, kCall, callJ, finJ, rdJ, fillJ, putJ, holes, posJ, flatJ, kBl, kTru, VL.kB, kRng, forK, ifK, retJ, grab, kSl, okN, okS, kAn, kOr, kNo, fnOp, e]
end Gn
end

section
set_option Elab.async false
set_option linter.all false
set_option maxRecDepth 100000
set_option maxHeartbeats 1000000
namespace Gn
open PySem PySem.W VL
theorem t_any {α : Type} {mi : VL.Env → R (List D)} {p : Pat} {vs : List Nat} {me : T} {env : VL.Env} (g : α → D) (f : α → Bool) (l : List α) (h0 : mi env = .ok (l.map g))
    (h : ∀ x ∈ l, ∃ e1, bindP p (g x) (wipeD env vs) = .ok e1 ∧ me e1 = .ok (.bl (f x))) (hl : l.length ≤ LIM) : tF anyD (aC (tLc' mi p vs cYes me) a0) env = .ok (.bl (l.any f)) := by
  have := tLc_all (mt := cYes) g (fun x => D.bl (f x)) l h0 (fun x hx => by obtain ⟨e1, a, b⟩ := h x hx; exact ⟨e1, a, rfl, b⟩) hl
  show (aC (tLc' mi p vs cYes me) a0 env).bind _ = _
  show ((tLc' mi p vs cYes me env).bind _).bind _ = _
  rw [this]
  simp [a0]
theorem t_all {α : Type} {mi : VL.Env → R (List D)} {p : Pat} {vs : List Nat} {me : T} {env : VL.Env} (g : α → D) (f : α → Bool) (l : List α) (h0 : mi env = .ok (l.map g))
    (h : ∀ x ∈ l, ∃ e1, bindP p (g x) (wipeD env vs) = .ok e1 ∧ me e1 = .ok (.bl (f x))) (hl : l.length ≤ LIM) : tF allD (aC (tLc' mi p vs cYes me) a0) env = .ok (.bl (l.all f)) := by
  have := tLc_all (mt := cYes) g (fun x => D.bl (f x)) l h0 (fun x hx => by obtain ⟨e1, a, b⟩ := h x hx; exact ⟨e1, a, rfl, b⟩) hl
  show (aC (tLc' mi p vs cYes me) a0 env).bind _ = _
  show ((tLc' mi p vs cYes me env).bind _).bind _ = _
  rw [this]
  simp [a0]
theorem cTr_bl {m : T} {env : VL.Env} {b : Bool} (h : m env = .ok (.bl b)) : cTr m env = .ok b := by
  show (m env).bind _ = _
  rw [h]; rfl
theorem cB_bl {m : T} {env : VL.Env} {b : Bool} (h : m env = .ok (.bl b)) : cB m env = .ok b := by
  show (m env).bind _ = _
  rw [h]; rfl
theorem cN_ok {m : VL.Env → R Bool} {env : VL.Env} {b : Bool} (h : m env = .ok b) : cN m env = .ok (!b) := by
  show (m env).bind _ = _
  rw [h]; rfl
theorem cO_ok {m n : VL.Env → R Bool} {env : VL.Env} {a b : Bool} (h : m env = .ok a) (h2 : a = false → n env = .ok b) : cO m n env = .ok (a || b) := by
  show (m env).bind _ = _
  rw [h]
  cases a
  · simp [h2 rfl]
  · rfl
theorem cAn_ok {m n : VL.Env → R Bool} {env : VL.Env} {a b : Bool} (h : m env = .ok a) (h2 : a = true → n env = .ok b) : cAn m n env = .ok (a && b) := by
  show (m env).bind _ = _
  rw [h]
  cases a
  · rfl
  · simp [h2 rfl]
theorem tAn_ok {m n : T} {env : VL.Env} {a b : Bool} (h : m env = .ok (.bl a)) (h2 : a = true → n env = .ok (.bl b)) : VL.tAn m n env = .ok (.bl (a && b)) := by
  show (m env).bind _ = _
  rw [h]
  cases a
  · rfl
  · show n env = _
    rw [h2 rfl]; rfl
@[simp] theorem inD_tstrs (x : Str) (l : List Str) : inD (.str x) (.tup (l.map .str)) = .ok (.bl (decide (x ∈ l))) := by
  have h : (inB (.str x) (.tup (l.map .str))) = some (decide (x ∈ l)) := by
    unfold inB
    simp [List.any_map]
    rw [Bool.eq_iff_iff]
    simp
  rw [inD, h]
@[simp] theorem notinD_tstrs (x : Str) (l : List Str) : notinD (.str x) (.tup (l.map .str)) = .ok (.bl (!decide (x ∈ l))) := by
  have h : (inB (.str x) (.tup (l.map .str))) = some (decide (x ∈ l)) := by
    unfold inB
    simp [List.any_map]
    rw [Bool.eq_iff_iff]
    simp
  rw [notinD, h]
abbrev bD (o : Bool) (b : List Str) : D := .lst o (b.map .str)
@[simp] theorem frzL_bD (o : Bool) (s : List (List Str)) : frzL (s.map (bD o)) = s.map (bD false) := frzL_maps _ _ (fun b => by simp) s
theorem bind_eq {α β : Type} {x : R α} {a : α} {f : α → R β} {y : R β} (h : x = .ok a) (k : f a = y) : x.bind f = y := by rw [h]; exact k
theorem i_rng2 {ma mb : T} {env : VL.Env} {a b : Int} (ha : ma env = .ok (.int a)) (hb : mb env = .ok (.int b)) (h : -1000000 ≤ a ∧ a ≤ 1000000 ∧ -1000000 ≤ b ∧ b ≤ 1000000) : iA rng2D (aC ma (aC mb a0)) env = .ok (rngD a (b - a).toNat) := by
  refine bind_eq (a := [.int a, .int b]) ?_ ?_
  · exact bind_eq ha (bind_eq (a := [.int b]) (bind_eq hb rfl) rfl)
  · rw [e_rng2, if_pos h]
theorem i_rng1 {ma : T} {env : VL.Env} {n : Nat} (ha : ma env = .ok (.int (n : Nat))) (h : n ≤ 1000000) : iA rng1D (aC ma a0) env = .ok (rngD 0 n) := by
  refine bind_eq (a := [.int n]) (bind_eq ha rfl) ?_
  have : (-1000000 : Int) ≤ n ∧ (n : Int) ≤ 1000000 := by omega
  simp [this]
theorem depL_map {α : Type} (g : α → D) (n : Nat) (h : ∀ x, depD (g x) ≤ n) : ∀ l : List α, depL (l.map g) ≤ n
  | [] => Nat.zero_le _
  | x :: l => by
    simp only [List.map_cons, depL]
    exact Nat.max_le.mpr ⟨h x, depL_map g n h l⟩
theorem cmp_lst {α : Type} (o : Bool) (g : α → D) (l : List α) (h1 : ∀ x, noDct (g x) = true) (h2 : ∀ x, depD (g x) ≤ 50) : cmpD (.lst o (l.map g)) = true := by
  have a : noDct (.lst o (l.map g)) = true := noDctL_maps g h1 l
  have b : depD (.lst o (l.map g)) ≤ 60 := by
    have := depL_map g 50 h2 l
    simp only [depD]; omega
  rw [cmpD, a, decide_eq_true b]; rfl
theorem dep_strs (o : Bool) (l : List Str) : depD (.lst o (l.map .str)) ≤ 1 ∧ depD (.tup (l.map .str)) ≤ 1 := by
  have := depL_map D.str 0 (fun _ => Nat.le_refl _) l
  simp only [depD]; omega
theorem cmpD_bDs (o o' : Bool) (l : List (List Str)) : cmpD (.lst o (l.map (bD o'))) = true := cmp_lst o _ l (fun x => noDctL_str x) (fun x => Nat.le_trans (dep_strs o' x).1 (by decide))
theorem lcK_rng {p : Pat} {vs : List Nat} {me : VL.Env → RK D} (lo : Int) (n : Nat) (I : Nat → List D → VL.Env → Prop)
    (hs : ∀ k out e, k < n → I k out e → ∃ e1, bindP p (.int (lo + (k : Int))) (wipeD e vs) = .ok e1 ∧ ∃ d e2, me e1 = .ok d e2 ∧ I (k + 1) (out ++ [d]) e2) :
    ∀ (m k : Nat) (out : List D) (e : VL.Env), k + m = n → I k out e → ∃ rs e', lcK p vs me ((List.range' k m).map fun i : Nat => D.int (lo + (i : Int))) e = .ok rs e' ∧ I n (out ++ rs) e' ∧ rs.length = m
  | 0, k, out, e, h, hi => ⟨[], e, rfl, by rw [List.append_nil, ← h]; exact hi, rfl⟩
  | m + 1, k, out, e, h, hi => by
    obtain ⟨e1, h1, d, e2, h2, h3⟩ := hs k out e (by omega) hi
    obtain ⟨rs, e', h4, h5, h6⟩ := lcK_rng lo n I hs m (k + 1) (out ++ [d]) e2 (by omega) h3
    refine ⟨d :: rs, e', ?_, by rw [show out ++ d :: rs = out ++ [d] ++ rs by simp]; exact h5, by simp [h6]⟩
    rw [List.range'_succ, List.map_cons, lcK, h1]
    simp only [h2, h4]
theorem kLc_rng {p : Pat} {vs : List Nat} {mi : VL.Env → RK (List D)} {me : VL.Env → RK D} {env e0 : VL.Env} (lo : Int) (n : Nat) (I : Nat → List D → VL.Env → Prop) (hmi : mi env = .ok (rngD lo n) e0) (h0 : I 0 [] e0)
    (hs : ∀ k out e, k < n → I k out e → ∃ e1, bindP p (.int (lo + (k : Int))) (wipeD e vs) = .ok e1 ∧ ∃ d e2, me e1 = .ok d e2 ∧ I (k + 1) (out ++ [d]) e2) (hl : n ≤ LIM) :
    ∃ out e', kLc p vs mi me env = .ok (.lst true out) (wipeD e' vs) ∧ I n out e' ∧ out.length = n := by
  obtain ⟨rs, e', h1, h2, h3⟩ := lcK_rng lo n I hs n 0 [] e0 (by omega) h0
  refine ⟨rs, e', ?_, h2, h3⟩
  unfold kLc
  rw [hmi, RK.bind_ok]
  have : rngD lo n = (List.range' 0 n).map fun i : Nat => D.int (lo + (i : Int)) := by rw [← List.range_eq_range']; rfl
  rw [this, h1]
  show (if ([] ++ rs).length ≤ LIM then RK.ok (D.lst true ([] ++ rs)) (wipeD e' vs) else .bad) = _
  rw [List.nil_append, if_pos (by omega)]
theorem join_list : ∀ ys : List Str, (Str.join "" ys).cps.toList = (ys.map fun y => y.cps.toList).flatten
  | [] => by unfold Str.join; decide +kernel
  | [x] => by simp [Str.join]
  | x :: y :: r => by
    have e : Str.join "" (x :: y :: r) = x ++ "" ++ Str.join "" (y :: r) := rfl
    rw [e, app_list, app_list, join_list (y :: r)]
    rw [show (("" : Str).cps.toList : List Nat) = [] by decide +kernel]
    simp
theorem strsOf_map : ∀ l : List Str, strsOf (l.map D.str) = some l
  | [] => rfl
  | x :: l => by rw [List.map_cons, strsOf, strsOf_map l]; rfl
theorem join_chs (o : Bool) (cs : List Nat) (h : cs.length ≤ 1000) : ∃ z : Str, joinD (.str "") [.lst o (cs.map fun c => D.str (ch c))] = .ok (.str z) ∧ z.cps.toList = cs := by
  refine ⟨Str.join "" (cs.map ch), ?_, ?_⟩
  · have hm : (cs.map fun c => D.str (ch c)) = (cs.map ch).map D.str := by rw [List.map_map]; rfl
    have hs : ∀ cs : List Nat, ((cs.map ch).map Str.length).sum = cs.length := fun cs => by
      induction cs with
      | nil => rfl
      | cons c cs ih => simp only [List.map_cons, List.sum_cons, List.length_cons, ih, ch_len]; omega
    rw [hm]
    show (match strsOf ((cs.map ch).map D.str) with
      | some ys => if (ys.map Str.length).sum + ys.length * ("" : Str).length ≤ LIM then R.ok (D.str (Str.join "" ys)) else .bad
      | none => .bad) = _
    rw [strsOf_map]
    have h0 : ("" : Str).length = 0 := by decide +kernel
    have h1 : ((cs.map ch).map Str.length).sum + (cs.map ch).length * ("" : Str).length ≤ LIM := by rw [hs, h0]; show _ ≤ 100000; omega
    show (if _ then _ else _) = _
    rw [if_pos h1]
  · rw [join_list, List.map_map]
    induction cs with
    | nil => rfl
    | cons c cs ih =>
      rw [List.map_cons, List.flatten_cons, ih (by simp only [List.length_cons] at h; omega)]; rfl
theorem seq_nx (f : Fl) : f.seq Fl.nx = f := by cases f <;> rfl
theorem sat_rngE {p : Pat} {mb : VL.Env → Fl} (lo : Int) (n : Nat) (I : Nat → VL.Env → Prop) {Q : Fl → Prop} {env : VL.Env} (hI : I 0 env)
    (h : ∀ k env, k < n → I k env → ∃ e1, bindP p (.int (lo + (k : Int))) env = .ok e1 ∧ Sat (mb e1) (St (I (k + 1)) Q)) (h0 : ∀ env, I n env → Q (.nx env)) : Sat (forD p mb (rngD lo n) env) Q := by
  have := sat_rngL (p := p) (mb := mb) (K := Fl.nx) lo n I (Q := Q) (env := env) hI (fun k env hk hi => by
    obtain ⟨e1, a, b⟩ := h k env hk hi
    exact ⟨e1, a, by simpa only [seq_nx] using b⟩) (fun env hi => h0 env hi)
  rwa [seq_nx] at this
theorem sat_loopRE {p : Pat} {mi : VL.Env → R (List D)} {body : VL.Env → Fl} {env : VL.Env} {ds : List D} {Q : Fl → Prop} (h : mi env = .ok ds) (q : Sat (forD p body ds env) Q) : Sat (forR p mi body env) Q := by
  show Sat (Fl.ofR (mi env) env fun ds => forD p body ds env) Q
  rw [h]; exact q
end Gn
end

section
set_option Elab.async false
set_option linter.all false
set_option maxRecDepth 100000
set_option maxHeartbeats 1000000
namespace Gn
open PySem PySem.W VL
theorem callJ_0 {fn : List D → R D} {i : Nat} {env : VL.Env} {a r b : D} (he : env[i]? = some (some a)) (hf : fn [a] = .ok (.tup [r, b])) : callJ 1 [0] fn (jV i j0) env = .ok r (env.set i (some b)) := by
  have hi : (env.set i none)[i]? = some none := List.getElem?_set_self (List.getElem?_eq_some_iff.mp he).1
  simp [callJ, jV, j0, he, fillJ, posJ, holes, hf, putJ, hi]
theorem callJ_1 {fn : List D → R D} {i : Nat} {mk : VL.Env → RK D} {env e1 : VL.Env} {a a1 d r b : D} (he : env[i]? = some (some a)) (hm : mk env = .ok d e1) (h1 : e1[i]? = some (some a1)) (hf : fn [a1, frz d] = .ok (.tup [r, b])) :
    callJ 2 [0] fn (jV i (jE mk j0)) env = .ok r (e1.set i (some b)) := by
  have hi : (e1.set i none)[i]? = some none := List.getElem?_set_self (List.getElem?_eq_some_iff.mp h1).1
  simp [callJ, jV, jE, j0, he, hm, fillJ, h1, posJ, holes, hf, putJ, hi]
theorem callJ_2 {fn : List D → R D} {i : Nat} {mk mk2 : VL.Env → RK D} {env e1 e2 : VL.Env} {a a1 d d2 r b : D} (he : env[i]? = some (some a)) (hm : mk env = .ok d e1) (hm2 : mk2 e1 = .ok d2 e2) (h1 : e2[i]? = some (some a1)) (hf : fn [a1, frz d, frz d2] = .ok (.tup [r, b])) :
    callJ 3 [0] fn (jV i (jE mk (jE mk2 j0))) env = .ok r (e2.set i (some b)) := by
  have hi : (e2.set i none)[i]? = some none := List.getElem?_set_self (List.getElem?_eq_some_iff.mp h1).1
  simp [callJ, jV, jE, j0, he, hm, hm2, fillJ, h1, posJ, holes, hf, putJ, hi]
theorem callJ_3 {fn : List D → R D} {i : Nat} {mk mk2 mk3 : VL.Env → RK D} {env e1 e2 e3 : VL.Env} {a a1 d d2 d3 r b : D} (he : env[i]? = some (some a)) (hm : mk env = .ok d e1) (hm2 : mk2 e1 = .ok d2 e2) (hm3 : mk3 e2 = .ok d3 e3) (h1 : e3[i]? = some (some a1)) (hf : fn [a1, frz d, frz d2, frz d3] = .ok (.tup [r, b])) :
    callJ 4 [0] fn (jV i (jE mk (jE mk2 (jE mk3 j0)))) env = .ok r (e3.set i (some b)) := by
  have hi : (e3.set i none)[i]? = some none := List.getElem?_set_self (List.getElem?_eq_some_iff.mp h1).1
  simp [callJ, jV, jE, j0, he, hm, hm2, hm3, fillJ, h1, posJ, holes, hf, putJ, hi]
theorem callJ_4 {fn : List D → R D} {i : Nat} {mk mk2 mk3 mk4 : VL.Env → RK D} {env e1 e2 e3 e4 : VL.Env} {a a1 d d2 d3 d4 r b : D} (he : env[i]? = some (some a)) (hm : mk env = .ok d e1) (hm2 : mk2 e1 = .ok d2 e2) (hm3 : mk3 e2 = .ok d3 e3) (hm4 : mk4 e3 = .ok d4 e4) (h1 : e4[i]? = some (some a1)) (hf : fn [a1, frz d, frz d2, frz d3, frz d4] = .ok (.tup [r, b])) :
    callJ 5 [0] fn (jV i (jE mk (jE mk2 (jE mk3 (jE mk4 j0))))) env = .ok r (e4.set i (some b)) := by
  have hi : (e4.set i none)[i]? = some none := List.getElem?_set_self (List.getElem?_eq_some_iff.mp h1).1
  simp [callJ, jV, jE, j0, he, hm, hm2, hm3, hm4, fillJ, h1, posJ, holes, hf, putJ, hi]
theorem kO2_ee {op : D → D → R D} {m1 m2 : VL.Env → RK D} {env e1 e2 : VL.Env} {d1 d2 d : D} (h1 : m1 env = .ok d1 e1) (h2 : m2 e1 = .ok d2 e2) (ho : op (frz d1) (frz d2) = .ok d) (hc : clean d = true) : kO2 op (oE m1) (oE m2) env = .ok d e2 := by
  simp [kO2, oE, h1, h2, finJ, rdJ, ho, hc]
theorem kO2_ve {op : D → D → R D} {i : Nat} {m2 : VL.Env → RK D} {env e2 : VL.Env} {x0 x d2 d : D} (h0 : env[i]? = some (some x0)) (h2 : m2 env = .ok d2 e2) (h1 : e2[i]? = some (some x)) (ho : op (frz x) (frz d2) = .ok d) (hc : clean d = true) : kO2 op (oV i) (oE m2) env = .ok d e2 := by
  simp [kO2, oE, oV, h0, h2, finJ, rdJ, h1, ho, hc]
theorem kO2_ev {op : D → D → R D} {i : Nat} {m1 : VL.Env → RK D} {env e1 : VL.Env} {d1 x d : D} (h1 : m1 env = .ok d1 e1) (h2 : e1[i]? = some (some x)) (ho : op (frz d1) (frz x) = .ok d) (hc : clean d = true) : kO2 op (oE m1) (oV i) env = .ok d e1 := by
  simp [kO2, oE, oV, h1, h2, finJ, rdJ, ho, hc]
theorem kCall_e {op : List D → R D} {m1 : VL.Env → RK D} {env e1 : VL.Env} {d1 d : D} (h1 : m1 env = .ok d1 e1) (ho : op [frz d1] = .ok d) (hc : clean d = true) : kCall op (jE m1 j0) env = .ok d e1 := by
  simp [kCall, jE, j0, h1, finJ, rdJ, ho, hc]
theorem kCall_ve {op : List D → R D} {i : Nat} {m1 : VL.Env → RK D} {env e1 : VL.Env} {x0 x d1 d : D} (h0 : env[i]? = some (some x0)) (h1 : m1 env = .ok d1 e1) (h2 : e1[i]? = some (some x)) (ho : op [frz x, frz d1] = .ok d) (hc : clean d = true) : kCall op (jV i (jE m1 j0)) env = .ok d e1 := by
  simp [kCall, jV, jE, j0, h0, h1, finJ, rdJ, h2, ho, hc]
theorem kRng_e {m1 : VL.Env → RK D} {env e1 : VL.Env} {n : Nat} (h1 : m1 env = .ok (.int (n : Nat)) e1) (hn : n ≤ 1000000) : kRng rng1D (jE m1 j0) env = .ok (rngD 0 n) e1 := by
  have : (-1000000 : Int) ≤ n ∧ (n : Int) ≤ 1000000 := by omega
  simp [kRng, jE, j0, h1, rdJ, this]
theorem kT_ok {m : T} {env : VL.Env} {d : D} (h : m env = .ok d) (hc : clean d = true) : kT m env = .ok d env := by unfold kT; rw [h]; simp [hc]
theorem kMf_ok {bs : List Bool} {m : T} {env : VL.Env} {d : D} (h : m (mask bs env) = .ok d) (hc : clean d = false) : kM bs m env = .ok d (frzAt bs env) := by
  unfold kM; rw [h]; simp [hc]
theorem kMv_ok {i : Nat} {env : VL.Env} {d : D} (h : env[i]? = some (some d)) : kMv i env = .ok d (env.set i none) := by unfold kMv; rw [h]
theorem kC_ok {m : VL.Env → RK D} {ms : VL.Env → RK (List D)} {env e1 e2 : VL.Env} {d : D} {ds : List D} (h1 : m env = .ok d e1) (h2 : ms e1 = .ok ds e2) : kC m ms env = .ok (d :: ds) e2 := by simp [kC, h1, h2]
theorem k0_ok {env : VL.Env} : k0 env = .ok [] env := rfl
theorem sat_forK {p : Pat} {mi : VL.Env → RK (List D)} {body k : VL.Env → Fl} {env e : VL.Env} {ds : List D} {Q : Fl → Prop} (h : mi env = .ok ds e) (q : Sat ((forD p body ds e).seq k) Q) : Sat (seqM (forK p mi body) k env) Q := by
  show Sat ((forK p mi body env).seq k) Q
  unfold forK; rw [h]; exact q
theorem sat_ifK {c : VL.Env → RK Bool} {a b k : VL.Env → Fl} {env e : VL.Env} {v : Bool} {Q : Fl → Prop} (h : c env = .ok v e) (q : Sat ((if v = true then a e else b e).seq k) Q) : Sat (seqM (ifK c a b) k env) Q := by
  show Sat ((ifK c a b env).seq k) Q
  unfold ifK; rw [h]; exact q
theorem kBl_ok {mk : VL.Env → RK D} {env e : VL.Env} {b : Bool} (h : mk env = .ok (.bl b) e) : kBl mk env = .ok b e := by unfold kBl; rw [h]; rfl
theorem sat_retJ {js : List Nat} {m : VL.Env → RK D} {env e : VL.Env} {d : D} {ds : List D} {Q : Fl → Prop} (h : m env = .ok d e) (hg : grab js e = some ds) (k : Q (.rt (.tup (d :: ds)))) : Sat (retJ js m env) Q := by
  show Q _
  unfold retJ; rw [h]; simp only [Fl.ofK_ok, hg]; exact k
theorem mutC_at {i : Nat} {ms : VL.Env → RK (List D)} {f : List D → List D → Option (List D × D)} {env e1 : VL.Env} {l0 l l' das : List D} {dy : D} (he : env[i]? = some (some (.lst true l0))) (hs : ms env = .ok das e1) (h1 : e1[i]? = some (some (.lst true l))) (hf : f l das = some (l', dy)) :
    mutC .list i ms (muL f) env = .ok dy (e1.set i (some (.lst true l'))) := by
  unfold mutC
  rw [he]
  simp [hs, h1, mutD, downD, ownB, isD', hf, putD]
theorem frzAt_no : ∀ (bs : List Bool) (e : VL.Env), (∀ b ∈ bs, b = false) → frzAt bs e = e
  | [], e, _ => by cases e <;> rfl
  | b :: bs, [], _ => rfl
  | b :: bs, o :: e, h => by
    rw [frzAt_c2, h b (by simp), frzAt_no bs e fun c hc => h c (by simp [hc])]; rfl
theorem kSl_e {ma : VL.Env → RK D} {env e1 : VL.Env} {d d2 : D} {i : Int} (h1 : ma env = .ok d e1) (h : sliceD (frz d) none (some i) = .ok d2) : kSl (oE ma) okN (okS (kT (cst (.int i)))) env = .ok d2 e1 := by
  have hf : frzAt (maskJ [.inr d] e1.length) e1 = e1 := frzAt_no _ _ fun b hb => by
    obtain ⟨x, _, rfl⟩ := List.mem_map.mp hb
    rfl
  have hk : kT (cst (.int i)) e1 = .ok (.int i) e1 := rfl
  simp only [kSl, oE, okN, okS, h1, RK.bind_ok, hk, finJ, rdJ, Option.map_some, h]
  split
  · rfl
  · rw [hf]
end Gn
end

section
set_option Elab.async false
set_option linter.all false
set_option maxRecDepth 100000
set_option maxHeartbeats 1000000
namespace Gn
open PySem PySem.W VL
theorem abc_list : ("abcdefghijklmnopqrstuvwxyz" : Str).cps.toList = (List.range 26).map (97 + ·) := by decide +kernel
theorem abc_at (j : Nat) (h : j < 26) : L2.atI ("abcdefghijklmnopqrstuvwxyz" : Str).cps.toList (j : Int) = some (97 + j) := by
  rw [atI_nat, abc_list, List.getElem?_map, List.getElem?_range h]; rfl
end Gn
end

section
set_option Elab.async false
set_option linter.all false
set_option maxRecDepth 100000
set_option maxHeartbeats 1000000
namespace Gn
open PySem PySem.W VL
theorem cmp_ints (o : Bool) (l : List Int) : cmpD (.lst o (l.map .int)) = true := by
  have h1 : noDctL (l.map D.int) = true := noDctL_maps _ (fun x => rfl) l
  have h2 : depL (l.map D.int) ≤ 0 := depL_maps D.int 0 (fun x => Nat.le_refl _) l
  rw [cmpD, decide_eq_true (by simp only [depD]; omega)]
  simp only [noDct, h1]; rfl
theorem ne_nil (o : Bool) (ns : List Int) : neD (.lst o (ns.map .int)) (.lst true []) = .ok (.bl (!ns.isEmpty)) := by
  rw [neD, if_pos (.inl ⟨cmp_ints o ns, rfl⟩)]
  cases ns <;> simp [eqvD, py, pyL, PD.eqv, PD.eqvAll]
theorem p_value (o : Bool) (ns : List Int) : ∃ d, m__law_value [.lst o (ns.map .int)] = .ok d ∧ An 3 d := by
  refine run_of (P := fun r => ∃ d, r = .ok d ∧ An 3 d) ?_
  simp only [List.map_cons, List.map_nil, List.length_cons, List.length_nil, List.cons_append, List.nil_append, Nat.reduceAdd, Nat.reduceSub, List.replicate]
  unfold b__law_value
  refine sat_aT (d := .int 0) (by simp [-Bool.exists_bool, cst, VL.tB, tU, tIsx, tAt', tCh, tAn, tO, tN, tIfE, tIsi, a0, aC, tF, VL.tCall, VL.tCallKw, permL_c, oN, oS, tSl', tLc', cYes, cTr, cB, cAn, cO, cN, iS, iA, seqM, ifM, k0, kC, kTup, kLst, rK, jE, jV, j0, oE, oV, kO2, kCall, callJ, finJ, rdJ, fillJ, putJ, holes, posJ, flatJ, kBl, kTru, VL.kB, kRng, forK, ifK, retJ, grab, kSl, okN, okS, kAn, kOr, kNo, fnOp]) (by simp) (by simp) ?_; simp only [List.set_cons_succ, List.set_cons_zero, frzAt_c2, e_frzAt_n, cond_true, cond_false, Option.map_some, Option.map_none, e_frz_l, e_frz_t, e_frz_d, e_frz_i, e_frz_s, e_frz_b, e_frz_n, frzL_str, frzL_int, frzL_wD]
  refine sat_mid (fun e => ∃ (c : Int) (x0 : Option D), e = [x0, some (.int c), none, none]) ?_ ?_
  · match ns with
    | [] =>
      refine sat_ifE (v := false) (by have := ne_nil false []; simp at this; simp [-Bool.exists_bool, cst, VL.tB, tU, tIsx, tAt', tCh, tAn, tO, tN, tIfE, tIsi, a0, aC, tF, VL.tCall, VL.tCallKw, permL_c, oN, oS, tSl', tLc', cYes, cTr, cB, cAn, cO, cN, iS, iA, seqM, ifM, k0, kC, kTup, kLst, rK, jE, jV, j0, oE, oV, kO2, kCall, callJ, finJ, rdJ, fillJ, putJ, holes, posJ, flatJ, kBl, kTru, VL.kB, kRng, forK, ifK, retJ, grab, kSl, okN, okS, kAn, kOr, kNo, fnOp, this]) ?_
      exact nx_of ⟨_, _, rfl⟩
    | c :: ns =>
      refine sat_ifE (v := true) (by have := ne_nil false (c :: ns); simp at this; simp [-Bool.exists_bool, cst, VL.tB, tU, tIsx, tAt', tCh, tAn, tO, tN, tIfE, tIsi, a0, aC, tF, VL.tCall, VL.tCallKw, permL_c, oN, oS, tSl', tLc', cYes, cTr, cB, cAn, cO, cN, iS, iA, seqM, ifM, k0, kC, kTup, kLst, rK, jE, jV, j0, oE, oV, kO2, kCall, callJ, finJ, rdJ, fillJ, putJ, holes, posJ, flatJ, kBl, kTru, VL.kB, kRng, forK, ifK, retJ, grab, kSl, okN, okS, kAn, kOr, kNo, fnOp, this]) ?_
      refine sat_asgE (kM_ok (d := .int c) (by simp [-Bool.exists_bool, cst, VL.tB, tU, tIsx, tAt', tCh, tAn, tO, tN, tIfE, tIsi, a0, aC, tF, VL.tCall, VL.tCallKw, permL_c, oN, oS, tSl', tLc', cYes, cTr, cB, cAn, cO, cN, iS, iA, seqM, ifM, k0, kC, kTup, kLst, rK, jE, jV, j0, oE, oV, kO2, kCall, callJ, finJ, rdJ, fillJ, putJ, holes, posJ, flatJ, kBl, kTru, VL.kB, kRng, forK, ifK, retJ, grab, kSl, okN, okS, kAn, kOr, kNo, fnOp]) rfl) (by simp) ?_
      exact nx_of ⟨_, _, rfl⟩
  rintro e ⟨c, x0, rfl⟩
  have hm : mulOk 2 1000000000000000000000000000000000000000000000000000000000000 = true := by decide
  refine sat_aT (d := .int (c.fmod (2 * 10 ^ 60) - 10 ^ 60)) (by simp [-Bool.exists_bool, cst, VL.tB, tU, tIsx, tAt', tCh, tAn, tO, tN, tIfE, tIsi, a0, aC, tF, VL.tCall, VL.tCallKw, permL_c, oN, oS, tSl', tLc', cYes, cTr, cB, cAn, cO, cN, iS, iA, seqM, ifM, k0, kC, kTup, kLst, rK, jE, jV, j0, oE, oV, kO2, kCall, callJ, finJ, rdJ, fillJ, putJ, holes, posJ, flatJ, kBl, kTru, VL.kB, kRng, forK, ifK, retJ, grab, kSl, okN, okS, kAn, kOr, kNo, fnOp, hm]) rfl (by simp) ?_; simp only [List.set_cons_succ, List.set_cons_zero, frzAt_c2, e_frzAt_n, cond_true, cond_false, Option.map_some, Option.map_none, e_frz_l, e_frz_t, e_frz_d, e_frz_i, e_frz_s, e_frz_b, e_frz_n, frzL_str, frzL_int, frzL_wD]
  generalize c.fmod (2 * 10 ^ 60) - 10 ^ 60 = num
  obtain ⟨j, hj, hjl⟩ := fmod_nat c 26 (by omega)
  have hj' : c.fmod 26 = (j : Nat) := hj
  have ha := abc_at j hjl
  obtain ⟨n, hn, hnl⟩ := fmod_nat (c.fdiv 26) 8 (by omega)
  have hn' : (c.fdiv 26).fmod 8 = (n : Nat) := hn
  have hn2 : (0 : Int) ≤ 1 + n ∧ (1 + n : Int) ≤ 1000 := by omega
  have hl1 : ∀ x : Nat, (⟨#[x]⟩ : Str).length ≤ 1000 := fun x => by show 1 ≤ 1000; omega
  refine sat_aM (d := .str (repS ⟨#[97 + j]⟩ (1 + (n : Int)).toNat)) (by simp [-Bool.exists_bool, cst, VL.tB, tU, tIsx, tAt', tCh, tAn, tO, tN, tIfE, tIsi, a0, aC, tF, VL.tCall, VL.tCallKw, permL_c, oN, oS, tSl', tLc', cYes, cTr, cB, cAn, cO, cN, iS, iA, seqM, ifM, k0, kC, kTup, kLst, rK, jE, jV, j0, oE, oV, kO2, kCall, callJ, finJ, rdJ, fillJ, putJ, holes, posJ, flatJ, kBl, kTru, VL.kB, kRng, forK, ifK, retJ, grab, kSl, okN, okS, kAn, kOr, kNo, fnOp, hj', ha, hn', hn2, hl1]) rfl (by simp) ?_; simp only [List.set_cons_succ, List.set_cons_zero, frzAt_c2, e_frzAt_n, cond_true, cond_false, Option.map_some, Option.map_none, e_frz_l, e_frz_t, e_frz_d, e_frz_i, e_frz_s, e_frz_b, e_frz_n, frzL_str, frzL_int, frzL_wD]
  generalize repS ⟨#[97 + j]⟩ (1 + (n : Int)).toNat = word
  obtain ⟨q, hq, hql⟩ := fmod_nat (c.fdiv 208) 5 (by omega)
  have hq' : (c.fdiv 208).fmod 5 = (q : Nat) := hq
  obtain ⟨X, hX⟩ : ∃ X : List D, X = [.non, .str word, .int num, .tup [.str word, .non], .tup [.int num, .tup [.str word, .str word], .lst true [.int num]]] := ⟨_, rfl⟩
  have hXa : ∀ d ∈ X, An 3 d := by
    rw [hX]
    intro d hd
    simp only [List.mem_cons, List.not_mem_nil, or_false] at hd
    rcases hd with rfl | rfl | rfl | rfl | rfl
    · exact .non _
    · exact .str _ _
    · exact .int _ _
    · exact ⟨rfl, by simp [depD, depL]⟩
    · exact ⟨rfl, by simp [depD, depL]⟩
  have hXl : X.length = 5 := by rw [hX]; rfl
  have hx := List.getElem?_eq_getElem (show q < X.length by omega)
  have hxa := hXa X[q] (List.getElem_mem _)
  generalize X[q] = x at hx hxa
  rw [hX] at hx
  exact sat_rM (d := x) (by simp [-Bool.exists_bool, cst, VL.tB, tU, tIsx, tAt', tCh, tAn, tO, tN, tIfE, tIsi, a0, aC, tF, VL.tCall, VL.tCallKw, permL_c, oN, oS, tSl', tLc', cYes, cTr, cB, cAn, cO, cN, iS, iA, seqM, ifM, k0, kC, kTup, kLst, rK, jE, jV, j0, oE, oV, kO2, kCall, callJ, finJ, rdJ, fillJ, putJ, holes, posJ, flatJ, kBl, kTru, VL.kB, kRng, forK, ifK, retJ, grab, kSl, okN, okS, kAn, kOr, kNo, fnOp, hq', hx]) ⟨_, rfl, hxa⟩
def ten : List Str := ["NoWeb", "NoKind", "NoBook", "NoCall", "NoRule", "NoFit", "Quarrel", "NoProgram", "NoDeed", "TooDeep"]
def nine : List Str := ["TooLong", "NoName", "Taken", "Full", "Twice", "NoStep", "Needed", "NoText", "NoRow"]
def all19 : List Str := ten ++ nine
def eA : List Str := ["NoWeb", "NoKind", "NoBook", "NoCall", "NoRule", "NoFit", "Quarrel", "NoProgram"]
def eB : List Str := ["NoDeed", "TooDeep", "TooLong", "NoName", "Taken", "Full", "Twice", "NoStep"]
def eC : List Str := ["Needed", "NoText", "NoRow"]
theorem all_eq : eA ++ eB ++ eC = all19 := rfl
@[simp] theorem e_excD (x : Str) (d : D) : excD x [d] = .ok (.exn x d) := id rfl
theorem cmp_bls (l : List Bool) : cmpD (.lst true (l.map .bl)) = true := by
  have h1 : noDctL (l.map D.bl) = true := noDctL_maps _ (fun x => rfl) l
  have h2 : depL (l.map D.bl) ≤ 0 := depL_maps D.bl 0 (fun x => Nat.le_refl _) l
  rw [cmpD, decide_eq_true (by simp only [depD]; omega)]
  simp only [noDct, h1]; rfl
theorem all_in : ∀ c ∈ all19, c ∈ errTab := by decide +kernel
theorem ce_in : ("CallError" : Str) ∈ errTab := by decide +kernel
theorem p_first98 (c : Str) (hc : c ∈ errTab) (u : D) : m__law_first [.exn c u] = .ok (.lst true (ten.map fun x => .bl (subC c x))) := by
  refine run_of (P := fun r => r = _) ?_
  have h10 : 10 ≤ LIM ∧ 7 ≤ LIM := by decide
  simp [b__law_first, -Bool.exists_bool, cst, VL.tB, tU, tIsx, tAt', tCh, tAn, tO, tN, tIfE, tIsi, a0, aC, tF, VL.tCall, VL.tCallKw, permL_c, oN, oS, tSl', tLc', cYes, cTr, cB, cAn, cO, cN, iS, iA, seqM, ifM, k0, kC, kTup, kLst, rK, jE, jV, j0, oE, oV, kO2, kCall, callJ, finJ, rdJ, fillJ, putJ, holes, posJ, flatJ, kBl, kTru, VL.kB, kRng, forK, ifK, retJ, grab, kSl, okN, okS, kAn, kOr, kNo, fnOp, hc, Sat, ten, h10]
theorem p_rest98 (c : Str) (hc : c ∈ errTab) (u : D) : m__law_rest [.exn c u] = .ok (.lst true (nine.map fun x => .bl (subC c x))) := by
  refine run_of (P := fun r => r = _) ?_
  have h10 : 9 ≤ LIM ∧ 7 ≤ LIM := by decide
  simp [b__law_rest, -Bool.exists_bool, cst, VL.tB, tU, tIsx, tAt', tCh, tAn, tO, tN, tIfE, tIsi, a0, aC, tF, VL.tCall, VL.tCallKw, permL_c, oN, oS, tSl', tLc', cYes, cTr, cB, cAn, cO, cN, iS, iA, seqM, ifM, k0, kC, kTup, kLst, rK, jE, jV, j0, oE, oV, kO2, kCall, callJ, finJ, rdJ, fillJ, putJ, holes, posJ, flatJ, kBl, kTru, VL.kB, kRng, forK, ifK, retJ, grab, kSl, okN, okS, kAn, kOr, kNo, fnOp, hc, Sat, nine, h10]
theorem tab19 : ∀ n : Fin 19, (all19.map fun x => subC (all19[n.val]'(by have := n.isLt; exact this)) x) = (List.range 19).map fun j => decide (j = n.val) := by decide +kernel
theorem tabCE : (all19.any fun x => subC "CallError" x) = false := by decide +kernel
theorem sat_kMa {i : Nat} {m : T} {bs : List Bool} {env : VL.Env} {d : D} {Q : Fl → Prop} (h : m (mask bs env) = .ok d) (hi : i < env.length ∧ i < (frzAt bs env).length) (k : Q (.nx (env.set i (some d)))) (k' : Q (.nx ((frzAt bs env).set i (some d)))) : Sat (asgM i (kM bs m) env) Q := by
  cases hc : VL.clean d with
  | true => exact sat_asgE (kM_ok h hc) hi.1 k
  | false => exact sat_asgE (kMf_ok h hc) hi.2 k'
theorem law_true (ns : List Int) (h : ns.length ≤ 63) : m_law [.lst false (ns.map D.int)] = .ok (.bl true) := by
  refine run_of (P := fun r => r = _) ?_
  obtain ⟨d0, hd0, hda⟩ := p_value false ns
  have hu := hda.any (by omega)
  generalize hU : VL.frz d0 = u at hu
  have huf := hu.fz
  have he : ∀ c : Str, VL.frz (.exn c u) = .exn c u := fun c => by simp [VL.frz, huf]
  have hL : ∀ l : List Str, frzL (l.map fun c => .exn c u) = l.map fun c => .exn c u := fun l => frzL_maps _ _ he l
  have hli : 19 ≤ LIM ∧ 16 ≤ LIM := by decide
  simp only [List.map_cons, List.map_nil, List.length_cons, List.length_nil, List.cons_append, List.nil_append, Nat.reduceAdd, Nat.reduceSub, List.replicate]
  unfold b_law
  refine sat_mid (fun e => ∃ (d : D) (x0 : Option D), VL.frz d = u ∧ e = [x0, some d, none, none, none, none]) ?_ ?_
  · cases hc : VL.clean d0 with
    | true => exact sat_asgE (kM_ok (by simp [-Bool.exists_bool, cst, VL.tB, tU, tIsx, tAt', tCh, tAn, tO, tN, tIfE, tIsi, a0, aC, tF, VL.tCall, VL.tCallKw, permL_c, oN, oS, tSl', tLc', cYes, cTr, cB, cAn, cO, cN, iS, iA, seqM, ifM, k0, kC, kTup, kLst, rK, jE, jV, j0, oE, oV, kO2, kCall, callJ, finJ, rdJ, fillJ, putJ, holes, posJ, flatJ, kBl, kTru, VL.kB, kRng, forK, ifK, retJ, grab, kSl, okN, okS, kAn, kOr, kNo, fnOp, hd0]) hc) (by simp) (nx_of ⟨_, _, hU, rfl⟩)
    | false => exact sat_asgE (kMf_ok (by simp [-Bool.exists_bool, cst, VL.tB, tU, tIsx, tAt', tCh, tAn, tO, tN, tIfE, tIsi, a0, aC, tF, VL.tCall, VL.tCallKw, permL_c, oN, oS, tSl', tLc', cYes, cTr, cB, cAn, cO, cN, iS, iA, seqM, ifM, k0, kC, kTup, kLst, rK, jE, jV, j0, oE, oV, kO2, kCall, callJ, finJ, rdJ, fillJ, putJ, holes, posJ, flatJ, kBl, kTru, VL.kB, kRng, forK, ifK, retJ, grab, kSl, okN, okS, kAn, kOr, kNo, fnOp, hd0]) hc) (by simp) (nx_of ⟨_, _, hU, rfl⟩)
  rintro e ⟨d, x0, hd, rfl⟩
  obtain ⟨ex, hex⟩ : ∃ f : List Str → List D, f = fun l => l.map fun c => .exn c u := ⟨_, rfl⟩
  have hexf : ∀ l, frzL (ex l) = ex l := by rw [hex]; exact hL
  have hexl : ∀ l, (ex l).length = l.length := fun l => by rw [hex, List.length_map]
  refine sat_mid (fun e => ∃ (d : D) (x0 : Option D) (l : List D), VL.frz d = u ∧ frzL l = ex eA ∧ e = [x0, some d, some (.lst true l), none, none, none]) ?_ ?_
  · refine sat_kMa (d := .lst true (ex eA)) (by rw [hex]; simp [-Bool.exists_bool, cst, VL.tB, tU, tIsx, tAt', tCh, tAn, tO, tN, tIfE, tIsi, a0, aC, tF, VL.tCall, VL.tCallKw, permL_c, oN, oS, tSl', tLc', cYes, cTr, cB, cAn, cO, cN, iS, iA, seqM, ifM, k0, kC, kTup, kLst, rK, jE, jV, j0, oE, oV, kO2, kCall, callJ, finJ, rdJ, fillJ, putJ, holes, posJ, flatJ, kBl, kTru, VL.kB, kRng, forK, ifK, retJ, grab, kSl, okN, okS, kAn, kOr, kNo, fnOp, hd, eA]) (by simp) ?_ ?_
    · exact nx_of ⟨d, _, _, hd, hexf _, rfl⟩
    · exact nx_of ⟨VL.frz d, _, _, by rw [frz_frz, hd], hexf _, by simp; rfl⟩
  clear hd
  clear d
  rintro e ⟨d, x0, l, hd, hl, rfl⟩
  refine sat_mid (fun e => ∃ (d : D) (x0 : Option D) (l : List D), VL.frz d = u ∧ frzL l = ex (eA ++ eB) ∧ e = [x0, some d, some (.lst true l), none, none, none]) ?_ ?_
  · refine sat_kMa (d := .lst true (ex (eA ++ eB))) (by
      have e1 : ex (eA ++ eB) = ex eA ++ ex eB := by rw [hex]; exact List.map_append
      have e2 : (ex eA).length = 8 := hexl _
      have e3 : ex eB = eB.map fun c => .exn c u := by rw [hex]
      rw [e1, e3]
      simp [-Bool.exists_bool, cst, VL.tB, tU, tIsx, tAt', tCh, tAn, tO, tN, tIfE, tIsi, a0, aC, tF, VL.tCall, VL.tCallKw, permL_c, oN, oS, tSl', tLc', cYes, cTr, cB, cAn, cO, cN, iS, iA, seqM, ifM, k0, kC, kTup, kLst, rK, jE, jV, j0, oE, oV, kO2, kCall, callJ, finJ, rdJ, fillJ, putJ, holes, posJ, flatJ, kBl, kTru, VL.kB, kRng, forK, ifK, retJ, grab, kSl, okN, okS, kAn, kOr, kNo, fnOp, hd, hl, e2, hli, eB]) (by simp) ?_ ?_
    · exact nx_of ⟨d, _, _, hd, hexf _, rfl⟩
    · exact nx_of ⟨VL.frz d, _, _, by rw [frz_frz, hd], hexf _, by simp; rfl⟩
  clear hd hl
  clear d l
  rintro e ⟨d, x0, l, hd, hl, rfl⟩
  refine sat_mid (fun e => ∃ (d : D) (x0 : Option D) (l : List D), VL.frz d = u ∧ frzL l = ex (eA ++ eB ++ eC) ∧ e = [x0, some d, some (.lst true l), none, none, none]) ?_ ?_
  · refine sat_kMa (d := .lst true (ex (eA ++ eB ++ eC))) (by
      have e1 : ex (eA ++ eB ++ eC) = ex (eA ++ eB) ++ ex eC := by rw [hex]; exact List.map_append
      have e2 : (ex (eA ++ eB)).length = 16 := hexl _
      have e3 : ex eC = eC.map fun c => .exn c u := by rw [hex]
      rw [e1, e3]
      simp [-Bool.exists_bool, cst, VL.tB, tU, tIsx, tAt', tCh, tAn, tO, tN, tIfE, tIsi, a0, aC, tF, VL.tCall, VL.tCallKw, permL_c, oN, oS, tSl', tLc', cYes, cTr, cB, cAn, cO, cN, iS, iA, seqM, ifM, k0, kC, kTup, kLst, rK, jE, jV, j0, oE, oV, kO2, kCall, callJ, finJ, rdJ, fillJ, putJ, holes, posJ, flatJ, kBl, kTru, VL.kB, kRng, forK, ifK, retJ, grab, kSl, okN, okS, kAn, kOr, kNo, fnOp, hd, hl, e2, hli, eC]) (by simp) ?_ ?_
    · exact nx_of ⟨d, _, _, hd, hexf _, rfl⟩
    · exact nx_of ⟨VL.frz d, _, _, by rw [frz_frz, hd], hexf _, by simp; (repeat' first | rfl | apply And.intro)⟩
  clear hd hl
  clear d l
  rintro e ⟨d, x0, l, hd, hl, rfl⟩
  rw [all_eq] at hl
  have hne : neD u u = .ok (.bl false) := neD_same u hu.cmp
  have heq : eqD u u = .ok (.bl true) := eqD_same u hu.cmp
  have hs1 : ∀ c, subC c "CallError" = true := fun c => by simp [subC]
  have hs2 : ∀ c, subC c "ValueError" = true := fun c => by simp [subC]
  refine sat_loopR (ds := rngD 0 19) (by simp [-Bool.exists_bool, cst, VL.tB, tU, tIsx, tAt', tCh, tAn, tO, tN, tIfE, tIsi, a0, aC, tF, VL.tCall, VL.tCallKw, permL_c, oN, oS, tSl', tLc', cYes, cTr, cB, cAn, cO, cN, iS, iA, seqM, ifM, k0, kC, kTup, kLst, rK, jE, jV, j0, oE, oV, kO2, kCall, callJ, finJ, rdJ, fillJ, putJ, holes, posJ, flatJ, kBl, kTru, VL.kB, kRng, forK, ifK, retJ, grab, kSl, okN, okS, kAn, kOr, kNo, fnOp]; try rfl) ?_
  refine sat_rngL 0 19 (fun _ e => ∃ (x0 x3 x4 : Option D) (z : Bool) (d : D) (l : List D), VL.frz d = u ∧ frzL l = ex all19 ∧ e = [x0, some d, some (.lst z l), x3, x4, none]) ⟨_, _, _, _, d, l, hd, hl, rfl⟩ ?_ ?_
  · clear hd hl
    clear d l
    rintro n e hn ⟨x0, x3, x4, z, d, l, hd, hl, rfl⟩
    refine ⟨_, rfl, ?_⟩
    have h19 : all19[n]? = some (all19[n]'hn) := List.getElem?_eq_getElem hn
    have hcin := all_in _ (List.getElem_mem (h := hn))
    have htab := tab19 ⟨n, hn⟩
    have htab : (all19.map fun x => subC (all19[n]'hn) x) = (List.range 19).map fun j => decide (j = n) := htab
    generalize all19[n]'hn = c at h19 hcin htab
    have hix : (ex all19)[n]? = some (.exn c u) := by rw [hex, List.getElem?_map, h19]; rfl
    have hn0 : (0 : Int) + n = n := by omega
    have hA : VL.tB addD (VL.tCall 1 m__law_first (aC (VL.tB ixD (look 2) (look 3)) a0)) (VL.tCall 1 m__law_rest (aC (VL.tB ixD (look 2) (look 3)) a0)) [x0, some d, some (.lst z l), some (.int (0 + (n : Int))), x4, none] = .ok (.lst true ((all19.map fun x => subC c x).map .bl)) := by
      have hlen : ten.length + nine.length ≤ LIM := by decide
      have : (all19.map fun x => subC c x).map D.bl = ten.map (fun x => .bl (subC c x)) ++ nine.map fun x => .bl (subC c x) := by
        rw [List.map_map, all19, List.map_append]; rfl
      rw [this]
      simp [-Bool.exists_bool, cst, VL.tB, tU, tIsx, tAt', tCh, tAn, tO, tN, tIfE, tIsi, a0, aC, tF, VL.tCall, VL.tCallKw, permL_c, oN, oS, tSl', tLc', cYes, cTr, cB, cAn, cO, cN, iS, iA, seqM, ifM, k0, kC, kTup, kLst, rK, jE, jV, j0, oE, oV, kO2, kCall, callJ, finJ, rdJ, fillJ, putJ, holes, posJ, flatJ, kBl, kTru, VL.kB, kRng, forK, ifK, retJ, grab, kSl, okN, okS, kAn, kOr, kNo, fnOp, hl, hix, huf, p_first98 c hcin u, p_rest98 c hcin u, hlen]
    have hR : tLc' (iA rng1D (aC (cst (.int 19)) a0)) (.name 4) [4] cYes (VL.tB eqD (look 4) (look 3)) [x0, some d, some (.lst z l), some (.int (0 + (n : Int))), x4, none] = .ok (.lst true (((List.range 19).map fun j => decide (j = n)).map .bl)) := by
      rw [List.map_map]
      refine tLc_all (fun i : Nat => D.int (i : Int)) _ (List.range 19) ?_ (fun i hi => ⟨_, rfl, rfl, ?_⟩) (by decide)
      · have := i_rng1 (ma := cst (.int 19)) (env := [x0, some d, some (.lst z l), some (.int (0 + (n : Int))), x4, none]) (n := 19) rfl (by omega)
        rw [this]
        simp [rngD, List.range_eq_range']
      · simp [-Bool.exists_bool, cst, VL.tB, tU, tIsx, tAt', tCh, tAn, tO, tN, tIfE, tIsi, a0, aC, tF, VL.tCall, VL.tCallKw, permL_c, oN, oS, tSl', tLc', cYes, cTr, cB, cAn, cO, cN, iS, iA, seqM, ifM, k0, kC, kTup, kLst, rK, jE, jV, j0, oE, oV, kO2, kCall, callJ, finJ, rdJ, fillJ, putJ, holes, posJ, flatJ, kBl, kTru, VL.kB, kRng, forK, ifK, retJ, grab, kSl, okN, okS, kAn, kOr, kNo, fnOp]
        rw [Bool.eq_iff_iff]; simp
        omega
    rw [htab] at hA
    refine sat_if0 (cB_bl (tB_ok hA hR (neD_same _ (cmp_bls _)))) ?_
    refine sat_ifE (v := false) (by simp [-Bool.exists_bool, cst, VL.tB, tU, tIsx, tAt', tCh, tAn, tO, tN, tIfE, tIsi, a0, aC, tF, VL.tCall, VL.tCallKw, permL_c, oN, oS, tSl', tLc', cYes, cTr, cB, cAn, cO, cN, iS, iA, seqM, ifM, k0, kC, kTup, kLst, rK, jE, jV, j0, oE, oV, kO2, kCall, callJ, finJ, rdJ, fillJ, putJ, holes, posJ, flatJ, kBl, kTru, VL.kB, kRng, forK, ifK, retJ, grab, kSl, okN, okS, kAn, kOr, kNo, fnOp, hl, hix, hcin, hs1, hs2, hd, hne]) ?_
    exact ⟨_, _, _, _, d, l, hd, hl, rfl⟩
  · clear hd hl
    clear d l
    rintro e ⟨x0, x3, x4, z, d, l, hd, hl, rfl⟩
    refine sat_mid (fun e => ∃ (d d5 : D) (x0 x2 x3 x4 : Option D), VL.frz d = u ∧ VL.frz d5 = .exn "CallError" u ∧ e = [x0, some d, x2, x3, x4, some d5]) ?_ ?_
    · refine sat_kMa (d := .exn "CallError" u) (by simp [-Bool.exists_bool, cst, VL.tB, tU, tIsx, tAt', tCh, tAn, tO, tN, tIfE, tIsi, a0, aC, tF, VL.tCall, VL.tCallKw, permL_c, oN, oS, tSl', tLc', cYes, cTr, cB, cAn, cO, cN, iS, iA, seqM, ifM, k0, kC, kTup, kLst, rK, jE, jV, j0, oE, oV, kO2, kCall, callJ, finJ, rdJ, fillJ, putJ, holes, posJ, flatJ, kBl, kTru, VL.kB, kRng, forK, ifK, retJ, grab, kSl, okN, okS, kAn, kOr, kNo, fnOp, hd]) (by simp) ?_ ?_
      · exact nx_of ⟨d, _, _, _, _, _, hd, he _, rfl⟩
      · exact nx_of ⟨VL.frz d, _, _, _, _, _, by rw [frz_frz, hd], he _, by simp; (repeat' first | rfl | apply And.intro)⟩
    clear hd hl
    clear d l
    rintro e ⟨d, d5, x0, x2, x3, x4, hd, hd5, rfl⟩
    have hA : VL.tB addD (VL.tCall 1 m__law_first (aC (look 5) a0)) (VL.tCall 1 m__law_rest (aC (look 5) a0)) [x0, some d, x2, x3, x4, some d5] = .ok (.lst true (all19.map fun x => .bl (subC "CallError" x))) := by
      have hlen : ten.length + nine.length ≤ LIM := by decide
      rw [all19, List.map_append]
      simp [-Bool.exists_bool, cst, VL.tB, tU, tIsx, tAt', tCh, tAn, tO, tN, tIfE, tIsi, a0, aC, tF, VL.tCall, VL.tCallKw, permL_c, oN, oS, tSl', tLc', cYes, cTr, cB, cAn, cO, cN, iS, iA, seqM, ifM, k0, kC, kTup, kLst, rK, jE, jV, j0, oE, oV, kO2, kCall, callJ, finJ, rdJ, fillJ, putJ, holes, posJ, flatJ, kBl, kTru, VL.kB, kRng, forK, ifK, retJ, grab, kSl, okN, okS, kAn, kOr, kNo, fnOp, hd5, huf, p_first98 "CallError" ce_in u, p_rest98 "CallError" ce_in u, hlen]
    have hB : tF anyD (aC (VL.tB addD (VL.tCall 1 m__law_first (aC (look 5) a0)) (VL.tCall 1 m__law_rest (aC (look 5) a0))) a0) [x0, some d, x2, x3, x4, some d5] = .ok (.bl false) := by
      show ((VL.tB addD _ _ _).bind fun d => (a0 _).bind fun ds => .ok (d :: ds)).bind anyD = _
      rw [hA]
      simp [a0, tabCE]
    refine sat_if0 (by
      show ((tF anyD _ _).bind truB).bind _ = _
      rw [hB]
      simp [-Bool.exists_bool, cst, VL.tB, tU, tIsx, tAt', tCh, tAn, tO, tN, tIfE, tIsi, a0, aC, tF, VL.tCall, VL.tCallKw, permL_c, oN, oS, tSl', tLc', cYes, cTr, cB, cAn, cO, cN, iS, iA, seqM, ifM, k0, kC, kTup, kLst, rK, jE, jV, j0, oE, oV, kO2, kCall, callJ, finJ, rdJ, fillJ, putJ, holes, posJ, flatJ, kBl, kTru, VL.kB, kRng, forK, ifK, retJ, grab, kSl, okN, okS, kAn, kOr, kNo, fnOp, hd5, ce_in, hs2]) ?_
    exact sat_rT (d := .bl true) (by simp [-Bool.exists_bool, cst, VL.tB, tU, tIsx, tAt', tCh, tAn, tO, tN, tIfE, tIsi, a0, aC, tF, VL.tCall, VL.tCallKw, permL_c, oN, oS, tSl', tLc', cYes, cTr, cB, cAn, cO, cN, iS, iA, seqM, ifM, k0, kC, kTup, kLst, rK, jE, jV, j0, oE, oV, kO2, kCall, callJ, finJ, rdJ, fillJ, putJ, holes, posJ, flatJ, kBl, kTru, VL.kB, kRng, forK, ifK, retJ, grab, kSl, okN, okS, kAn, kOr, kNo, fnOp, hd5, ce_in, hd, heq]) rfl rfl
end Gn
end

set_option Elab.async false
set_option linter.all false
set_option maxRecDepth 100000
set_option maxHeartbeats 4000000
namespace Gn
open PySem PySem.W PySem.Spec PyProof.Rows L2 VL
abbrev sI : Stmt := inClass (top 1) 0
theorem all_mk {l : PySem.W.OpenLaw} {w : World} {K : PySem.W.Frag} {h : Heap} {mg : Str → Option Value} {fa : Addr} (X : K.In h) (G : h.Ns mainGlobals mg) (hfa : mg "law" = some (.ref fa))
    {f0 : Addr} {od0 an0 : Option Addr} {sl0 : Array (Option Value)} {oc0 kV0 dc0 pm0 cd0 ct0 : Value}
    {f1 : Addr} {od1 an1 : Option Addr} {sl1 : Array (Option Value)} {oc1 kV1 dc1 pm1 cd1 ct1 : Value}
    {f2 : Addr} {od2 an2 : Option Addr} {sl2 : Array (Option Value)} {oc2 kV2 dc2 pm2 cd2 ct2 : Value}
    {f3 : Addr} {od3 an3 : Option Addr} {sl3 : Array (Option Value)} {oc3 kV3 dc3 pm3 cd3 ct3 : Value}
    {fI : Addr} {odI anI : Option Addr} {slI : Array (Option Value)} {ocI kVI dcI pmI cdI ctI : Value} {CB : Addr}
    {nm_CallError q_CallError : Str} {N_CallError : Addr} {bs_CallError : List Value} {sn_CallError : List Str} {sub_CallError : List Value} {ab_CallError : Bool} {col_CallError : Option Bool} {dd_CallError : Option Addr} {m0_CallError m1_CallError m2_CallError m3_CallError m5_CallError : Option Value}
    {C_Full : Addr} {nm_Full q_Full : Str} {N_Full : Addr} {bs_Full : List Value} {sn_Full : List Str} {sub_Full : List Value} {ab_Full : Bool} {col_Full : Option Bool} {dd_Full : Option Addr} {m0_Full m1_Full m2_Full m3_Full m5_Full : Option Value}
    {C_Needed : Addr} {nm_Needed q_Needed : Str} {N_Needed : Addr} {bs_Needed : List Value} {sn_Needed : List Str} {sub_Needed : List Value} {ab_Needed : Bool} {col_Needed : Option Bool} {dd_Needed : Option Addr} {m0_Needed m1_Needed m2_Needed m3_Needed m5_Needed : Option Value}
    {C_NoBook : Addr} {nm_NoBook q_NoBook : Str} {N_NoBook : Addr} {bs_NoBook : List Value} {sn_NoBook : List Str} {sub_NoBook : List Value} {ab_NoBook : Bool} {col_NoBook : Option Bool} {dd_NoBook : Option Addr} {m0_NoBook m1_NoBook m2_NoBook m3_NoBook m5_NoBook : Option Value}
    {C_NoCall : Addr} {nm_NoCall q_NoCall : Str} {N_NoCall : Addr} {bs_NoCall : List Value} {sn_NoCall : List Str} {sub_NoCall : List Value} {ab_NoCall : Bool} {col_NoCall : Option Bool} {dd_NoCall : Option Addr} {m0_NoCall m1_NoCall m2_NoCall m3_NoCall m5_NoCall : Option Value}
    {C_NoDeed : Addr} {nm_NoDeed q_NoDeed : Str} {N_NoDeed : Addr} {bs_NoDeed : List Value} {sn_NoDeed : List Str} {sub_NoDeed : List Value} {ab_NoDeed : Bool} {col_NoDeed : Option Bool} {dd_NoDeed : Option Addr} {m0_NoDeed m1_NoDeed m2_NoDeed m3_NoDeed m5_NoDeed : Option Value}
    {C_NoFit : Addr} {nm_NoFit q_NoFit : Str} {N_NoFit : Addr} {bs_NoFit : List Value} {sn_NoFit : List Str} {sub_NoFit : List Value} {ab_NoFit : Bool} {col_NoFit : Option Bool} {dd_NoFit : Option Addr} {m0_NoFit m1_NoFit m2_NoFit m3_NoFit m5_NoFit : Option Value}
    {C_NoKind : Addr} {nm_NoKind q_NoKind : Str} {N_NoKind : Addr} {bs_NoKind : List Value} {sn_NoKind : List Str} {sub_NoKind : List Value} {ab_NoKind : Bool} {col_NoKind : Option Bool} {dd_NoKind : Option Addr} {m0_NoKind m1_NoKind m2_NoKind m3_NoKind m5_NoKind : Option Value}
    {C_NoName : Addr} {nm_NoName q_NoName : Str} {N_NoName : Addr} {bs_NoName : List Value} {sn_NoName : List Str} {sub_NoName : List Value} {ab_NoName : Bool} {col_NoName : Option Bool} {dd_NoName : Option Addr} {m0_NoName m1_NoName m2_NoName m3_NoName m5_NoName : Option Value}
    {C_NoProgram : Addr} {nm_NoProgram q_NoProgram : Str} {N_NoProgram : Addr} {bs_NoProgram : List Value} {sn_NoProgram : List Str} {sub_NoProgram : List Value} {ab_NoProgram : Bool} {col_NoProgram : Option Bool} {dd_NoProgram : Option Addr} {m0_NoProgram m1_NoProgram m2_NoProgram m3_NoProgram m5_NoProgram : Option Value}
    {C_NoRow : Addr} {nm_NoRow q_NoRow : Str} {N_NoRow : Addr} {bs_NoRow : List Value} {sn_NoRow : List Str} {sub_NoRow : List Value} {ab_NoRow : Bool} {col_NoRow : Option Bool} {dd_NoRow : Option Addr} {m0_NoRow m1_NoRow m2_NoRow m3_NoRow m5_NoRow : Option Value}
    {C_NoRule : Addr} {nm_NoRule q_NoRule : Str} {N_NoRule : Addr} {bs_NoRule : List Value} {sn_NoRule : List Str} {sub_NoRule : List Value} {ab_NoRule : Bool} {col_NoRule : Option Bool} {dd_NoRule : Option Addr} {m0_NoRule m1_NoRule m2_NoRule m3_NoRule m5_NoRule : Option Value}
    {C_NoStep : Addr} {nm_NoStep q_NoStep : Str} {N_NoStep : Addr} {bs_NoStep : List Value} {sn_NoStep : List Str} {sub_NoStep : List Value} {ab_NoStep : Bool} {col_NoStep : Option Bool} {dd_NoStep : Option Addr} {m0_NoStep m1_NoStep m2_NoStep m3_NoStep m5_NoStep : Option Value}
    {C_NoText : Addr} {nm_NoText q_NoText : Str} {N_NoText : Addr} {bs_NoText : List Value} {sn_NoText : List Str} {sub_NoText : List Value} {ab_NoText : Bool} {col_NoText : Option Bool} {dd_NoText : Option Addr} {m0_NoText m1_NoText m2_NoText m3_NoText m5_NoText : Option Value}
    {C_NoWeb : Addr} {nm_NoWeb q_NoWeb : Str} {N_NoWeb : Addr} {bs_NoWeb : List Value} {sn_NoWeb : List Str} {sub_NoWeb : List Value} {ab_NoWeb : Bool} {col_NoWeb : Option Bool} {dd_NoWeb : Option Addr} {m0_NoWeb m1_NoWeb m2_NoWeb m3_NoWeb m5_NoWeb : Option Value}
    {C_Quarrel : Addr} {nm_Quarrel q_Quarrel : Str} {N_Quarrel : Addr} {bs_Quarrel : List Value} {sn_Quarrel : List Str} {sub_Quarrel : List Value} {ab_Quarrel : Bool} {col_Quarrel : Option Bool} {dd_Quarrel : Option Addr} {m0_Quarrel m1_Quarrel m2_Quarrel m3_Quarrel m5_Quarrel : Option Value}
    {C_Taken : Addr} {nm_Taken q_Taken : Str} {N_Taken : Addr} {bs_Taken : List Value} {sn_Taken : List Str} {sub_Taken : List Value} {ab_Taken : Bool} {col_Taken : Option Bool} {dd_Taken : Option Addr} {m0_Taken m1_Taken m2_Taken m3_Taken m5_Taken : Option Value}
    {C_TooDeep : Addr} {nm_TooDeep q_TooDeep : Str} {N_TooDeep : Addr} {bs_TooDeep : List Value} {sn_TooDeep : List Str} {sub_TooDeep : List Value} {ab_TooDeep : Bool} {col_TooDeep : Option Bool} {dd_TooDeep : Option Addr} {m0_TooDeep m1_TooDeep m2_TooDeep m3_TooDeep m5_TooDeep : Option Value}
    {C_TooLong : Addr} {nm_TooLong q_TooLong : Str} {N_TooLong : Addr} {bs_TooLong : List Value} {sn_TooLong : List Str} {sub_TooLong : List Value} {ab_TooLong : Bool} {col_TooLong : Option Bool} {dd_TooLong : Option Addr} {m0_TooLong m1_TooLong m2_TooLong m3_TooLong m5_TooLong : Option Value}
    {C_Twice : Addr} {nm_Twice q_Twice : Str} {N_Twice : Addr} {bs_Twice : List Value} {sn_Twice : List Str} {sub_Twice : List Value} {ab_Twice : Bool} {col_Twice : Option Bool} {dd_Twice : Option Addr} {m0_Twice m1_Twice m2_Twice m3_Twice m5_Twice : Option Value}
    (a0 : PySem.W.nsIn K mainGlobals "_law_value" = some (some (.ref f0)))
    (l0 : K.lookup f0 = some ⟨oc0, od0, .func (PySem.W.fnOf "_law_value" "_law_value" (defArgs s__law_value) (defBody s__law_value) (defScope s__law_value) .none kV0 dc0 pm0 an0 cd0 ct0), sl0⟩)
    (c0 : PySem.W.codeIn K cd0 "_law_value" = true)
    (k0 : PySem.W.keepIn K (.ref f0) = true)
    (a1 : PySem.W.nsIn K mainGlobals "_law_first" = some (some (.ref f1)))
    (l1 : K.lookup f1 = some ⟨oc1, od1, .func (PySem.W.fnOf "_law_first" "_law_first" (defArgs s__law_first) (defBody s__law_first) (defScope s__law_first) .none kV1 dc1 pm1 an1 cd1 ct1), sl1⟩)
    (c1 : PySem.W.codeIn K cd1 "_law_first" = true)
    (k1 : PySem.W.keepIn K (.ref f1) = true)
    (a2 : PySem.W.nsIn K mainGlobals "_law_rest" = some (some (.ref f2)))
    (l2 : K.lookup f2 = some ⟨oc2, od2, .func (PySem.W.fnOf "_law_rest" "_law_rest" (defArgs s__law_rest) (defBody s__law_rest) (defScope s__law_rest) .none kV2 dc2 pm2 an2 cd2 ct2), sl2⟩)
    (c2 : PySem.W.codeIn K cd2 "_law_rest" = true)
    (k2 : PySem.W.keepIn K (.ref f2) = true)
    (a3 : PySem.W.nsIn K mainGlobals "law" = some (some (.ref f3)))
    (l3 : K.lookup f3 = some ⟨oc3, od3, .func (PySem.W.fnOf "law" "law" (defArgs s_law) (defBody s_law) (defScope s_law) .none kV3 dc3 pm3 an3 cd3 ct3), sl3⟩)
    (c3 : PySem.W.codeIn K cd3 "law" = true)
    (k3 : PySem.W.keepIn K (.ref f3) = true)
    (z_ValueError : PySem.W.nsIn K mainGlobals "ValueError" = some none)
    (z_any : PySem.W.nsIn K mainGlobals "any" = some none)
    (z_isinstance : PySem.W.nsIn K mainGlobals "isinstance" = some none)
    (z_range : PySem.W.nsIn K mainGlobals "range" = some none)
    (eB : PySem.W.nsIn K mainGlobals "CallError" = some (some (.ref CB)))
    (x_CallError : K.lookup CB = some (excClassObj nm_CallError q_CallError CB N_CallError bs_CallError [.type "ValueError", .type "Exception", .type "BaseException", .type "object"] true sn_CallError sub_CallError ab_CallError col_CallError dd_CallError m0_CallError m1_CallError m2_CallError m3_CallError m5_CallError "ValueError.__new__"))
    (sa_CallError : PySem.W.findIn K (.ref CB) "__setattr__" = some (some (.builtin "object.__setattr__")))
    (u_CallError : PySem.W.subIn K (.ref CB) (.type "BaseException") = some true)
    (y_CallError : PySem.W.typeIn K (.ref CB) = some (.type "type"))
    (kp_CallError : PySem.W.keepIn K (.ref CB) = true)
    (at_CallError : PySem.W.findIn K (.ref CB) "at" = some none)
    (i_CallError : PySem.W.findIn K (.ref CB) "__init__" = some (some (.ref fI)))
    (ga_CallError : PySem.W.findIn K (.ref CB) "__getattribute__" = some (some (.builtin "BaseException.__getattribute__")))
    (gg_CallError : PySem.W.findIn K (.ref CB) "__getattr__" = some none)
    (va_CallError : PySem.W.subIn K (.ref CB) (.type "ValueError") = some true)
    (hd_CallError : PySem.W.hasDictIn K CB = true)
    (ca_CallError : PySem.W.findIn K (.ref CB) "__class__" = some (some (.builtin "object.__class__")))
    (mo_CallError : PySem.W.mroIn K CB (.type "object") = some true)
    (e_Full : PySem.W.nsIn K mainGlobals "Full" = some (some (.ref C_Full)))
    (x_Full : K.lookup C_Full = some (excClassObj nm_Full q_Full C_Full N_Full bs_Full [.ref CB, .type "ValueError", .type "Exception", .type "BaseException", .type "object"] true sn_Full sub_Full ab_Full col_Full dd_Full m0_Full m1_Full m2_Full m3_Full m5_Full "ValueError.__new__"))
    (sa_Full : PySem.W.findIn K (.ref C_Full) "__setattr__" = some (some (.builtin "object.__setattr__")))
    (u_Full : PySem.W.subIn K (.ref C_Full) (.type "BaseException") = some true)
    (y_Full : PySem.W.typeIn K (.ref C_Full) = some (.type "type"))
    (kp_Full : PySem.W.keepIn K (.ref C_Full) = true)
    (at_Full : PySem.W.findIn K (.ref C_Full) "at" = some none)
    (i_Full : PySem.W.findIn K (.ref C_Full) "__init__" = some (some (.ref fI)))
    (ga_Full : PySem.W.findIn K (.ref C_Full) "__getattribute__" = some (some (.builtin "BaseException.__getattribute__")))
    (gg_Full : PySem.W.findIn K (.ref C_Full) "__getattr__" = some none)
    (va_Full : PySem.W.subIn K (.ref C_Full) (.type "ValueError") = some true)
    (hd_Full : PySem.W.hasDictIn K C_Full = true)
    (ca_Full : PySem.W.findIn K (.ref C_Full) "__class__" = some (some (.builtin "object.__class__")))
    (mo_Full : PySem.W.mroIn K C_Full (.type "object") = some true)
    (e_Needed : PySem.W.nsIn K mainGlobals "Needed" = some (some (.ref C_Needed)))
    (x_Needed : K.lookup C_Needed = some (excClassObj nm_Needed q_Needed C_Needed N_Needed bs_Needed [.ref CB, .type "ValueError", .type "Exception", .type "BaseException", .type "object"] true sn_Needed sub_Needed ab_Needed col_Needed dd_Needed m0_Needed m1_Needed m2_Needed m3_Needed m5_Needed "ValueError.__new__"))
    (sa_Needed : PySem.W.findIn K (.ref C_Needed) "__setattr__" = some (some (.builtin "object.__setattr__")))
    (u_Needed : PySem.W.subIn K (.ref C_Needed) (.type "BaseException") = some true)
    (y_Needed : PySem.W.typeIn K (.ref C_Needed) = some (.type "type"))
    (kp_Needed : PySem.W.keepIn K (.ref C_Needed) = true)
    (at_Needed : PySem.W.findIn K (.ref C_Needed) "at" = some none)
    (i_Needed : PySem.W.findIn K (.ref C_Needed) "__init__" = some (some (.ref fI)))
    (ga_Needed : PySem.W.findIn K (.ref C_Needed) "__getattribute__" = some (some (.builtin "BaseException.__getattribute__")))
    (gg_Needed : PySem.W.findIn K (.ref C_Needed) "__getattr__" = some none)
    (va_Needed : PySem.W.subIn K (.ref C_Needed) (.type "ValueError") = some true)
    (hd_Needed : PySem.W.hasDictIn K C_Needed = true)
    (ca_Needed : PySem.W.findIn K (.ref C_Needed) "__class__" = some (some (.builtin "object.__class__")))
    (mo_Needed : PySem.W.mroIn K C_Needed (.type "object") = some true)
    (e_NoBook : PySem.W.nsIn K mainGlobals "NoBook" = some (some (.ref C_NoBook)))
    (x_NoBook : K.lookup C_NoBook = some (excClassObj nm_NoBook q_NoBook C_NoBook N_NoBook bs_NoBook [.ref CB, .type "ValueError", .type "Exception", .type "BaseException", .type "object"] true sn_NoBook sub_NoBook ab_NoBook col_NoBook dd_NoBook m0_NoBook m1_NoBook m2_NoBook m3_NoBook m5_NoBook "ValueError.__new__"))
    (sa_NoBook : PySem.W.findIn K (.ref C_NoBook) "__setattr__" = some (some (.builtin "object.__setattr__")))
    (u_NoBook : PySem.W.subIn K (.ref C_NoBook) (.type "BaseException") = some true)
    (y_NoBook : PySem.W.typeIn K (.ref C_NoBook) = some (.type "type"))
    (kp_NoBook : PySem.W.keepIn K (.ref C_NoBook) = true)
    (at_NoBook : PySem.W.findIn K (.ref C_NoBook) "at" = some none)
    (i_NoBook : PySem.W.findIn K (.ref C_NoBook) "__init__" = some (some (.ref fI)))
    (ga_NoBook : PySem.W.findIn K (.ref C_NoBook) "__getattribute__" = some (some (.builtin "BaseException.__getattribute__")))
    (gg_NoBook : PySem.W.findIn K (.ref C_NoBook) "__getattr__" = some none)
    (va_NoBook : PySem.W.subIn K (.ref C_NoBook) (.type "ValueError") = some true)
    (hd_NoBook : PySem.W.hasDictIn K C_NoBook = true)
    (ca_NoBook : PySem.W.findIn K (.ref C_NoBook) "__class__" = some (some (.builtin "object.__class__")))
    (mo_NoBook : PySem.W.mroIn K C_NoBook (.type "object") = some true)
    (e_NoCall : PySem.W.nsIn K mainGlobals "NoCall" = some (some (.ref C_NoCall)))
    (x_NoCall : K.lookup C_NoCall = some (excClassObj nm_NoCall q_NoCall C_NoCall N_NoCall bs_NoCall [.ref CB, .type "ValueError", .type "Exception", .type "BaseException", .type "object"] true sn_NoCall sub_NoCall ab_NoCall col_NoCall dd_NoCall m0_NoCall m1_NoCall m2_NoCall m3_NoCall m5_NoCall "ValueError.__new__"))
    (sa_NoCall : PySem.W.findIn K (.ref C_NoCall) "__setattr__" = some (some (.builtin "object.__setattr__")))
    (u_NoCall : PySem.W.subIn K (.ref C_NoCall) (.type "BaseException") = some true)
    (y_NoCall : PySem.W.typeIn K (.ref C_NoCall) = some (.type "type"))
    (kp_NoCall : PySem.W.keepIn K (.ref C_NoCall) = true)
    (at_NoCall : PySem.W.findIn K (.ref C_NoCall) "at" = some none)
    (i_NoCall : PySem.W.findIn K (.ref C_NoCall) "__init__" = some (some (.ref fI)))
    (ga_NoCall : PySem.W.findIn K (.ref C_NoCall) "__getattribute__" = some (some (.builtin "BaseException.__getattribute__")))
    (gg_NoCall : PySem.W.findIn K (.ref C_NoCall) "__getattr__" = some none)
    (va_NoCall : PySem.W.subIn K (.ref C_NoCall) (.type "ValueError") = some true)
    (hd_NoCall : PySem.W.hasDictIn K C_NoCall = true)
    (ca_NoCall : PySem.W.findIn K (.ref C_NoCall) "__class__" = some (some (.builtin "object.__class__")))
    (mo_NoCall : PySem.W.mroIn K C_NoCall (.type "object") = some true)
    (e_NoDeed : PySem.W.nsIn K mainGlobals "NoDeed" = some (some (.ref C_NoDeed)))
    (x_NoDeed : K.lookup C_NoDeed = some (excClassObj nm_NoDeed q_NoDeed C_NoDeed N_NoDeed bs_NoDeed [.ref CB, .type "ValueError", .type "Exception", .type "BaseException", .type "object"] true sn_NoDeed sub_NoDeed ab_NoDeed col_NoDeed dd_NoDeed m0_NoDeed m1_NoDeed m2_NoDeed m3_NoDeed m5_NoDeed "ValueError.__new__"))
    (sa_NoDeed : PySem.W.findIn K (.ref C_NoDeed) "__setattr__" = some (some (.builtin "object.__setattr__")))
    (u_NoDeed : PySem.W.subIn K (.ref C_NoDeed) (.type "BaseException") = some true)
    (y_NoDeed : PySem.W.typeIn K (.ref C_NoDeed) = some (.type "type"))
    (kp_NoDeed : PySem.W.keepIn K (.ref C_NoDeed) = true)
    (at_NoDeed : PySem.W.findIn K (.ref C_NoDeed) "at" = some none)
    (i_NoDeed : PySem.W.findIn K (.ref C_NoDeed) "__init__" = some (some (.ref fI)))
    (ga_NoDeed : PySem.W.findIn K (.ref C_NoDeed) "__getattribute__" = some (some (.builtin "BaseException.__getattribute__")))
    (gg_NoDeed : PySem.W.findIn K (.ref C_NoDeed) "__getattr__" = some none)
    (va_NoDeed : PySem.W.subIn K (.ref C_NoDeed) (.type "ValueError") = some true)
    (hd_NoDeed : PySem.W.hasDictIn K C_NoDeed = true)
    (ca_NoDeed : PySem.W.findIn K (.ref C_NoDeed) "__class__" = some (some (.builtin "object.__class__")))
    (mo_NoDeed : PySem.W.mroIn K C_NoDeed (.type "object") = some true)
    (e_NoFit : PySem.W.nsIn K mainGlobals "NoFit" = some (some (.ref C_NoFit)))
    (x_NoFit : K.lookup C_NoFit = some (excClassObj nm_NoFit q_NoFit C_NoFit N_NoFit bs_NoFit [.ref CB, .type "ValueError", .type "Exception", .type "BaseException", .type "object"] true sn_NoFit sub_NoFit ab_NoFit col_NoFit dd_NoFit m0_NoFit m1_NoFit m2_NoFit m3_NoFit m5_NoFit "ValueError.__new__"))
    (sa_NoFit : PySem.W.findIn K (.ref C_NoFit) "__setattr__" = some (some (.builtin "object.__setattr__")))
    (u_NoFit : PySem.W.subIn K (.ref C_NoFit) (.type "BaseException") = some true)
    (y_NoFit : PySem.W.typeIn K (.ref C_NoFit) = some (.type "type"))
    (kp_NoFit : PySem.W.keepIn K (.ref C_NoFit) = true)
    (at_NoFit : PySem.W.findIn K (.ref C_NoFit) "at" = some none)
    (i_NoFit : PySem.W.findIn K (.ref C_NoFit) "__init__" = some (some (.ref fI)))
    (ga_NoFit : PySem.W.findIn K (.ref C_NoFit) "__getattribute__" = some (some (.builtin "BaseException.__getattribute__")))
    (gg_NoFit : PySem.W.findIn K (.ref C_NoFit) "__getattr__" = some none)
    (va_NoFit : PySem.W.subIn K (.ref C_NoFit) (.type "ValueError") = some true)
    (hd_NoFit : PySem.W.hasDictIn K C_NoFit = true)
    (ca_NoFit : PySem.W.findIn K (.ref C_NoFit) "__class__" = some (some (.builtin "object.__class__")))
    (mo_NoFit : PySem.W.mroIn K C_NoFit (.type "object") = some true)
    (e_NoKind : PySem.W.nsIn K mainGlobals "NoKind" = some (some (.ref C_NoKind)))
    (x_NoKind : K.lookup C_NoKind = some (excClassObj nm_NoKind q_NoKind C_NoKind N_NoKind bs_NoKind [.ref CB, .type "ValueError", .type "Exception", .type "BaseException", .type "object"] true sn_NoKind sub_NoKind ab_NoKind col_NoKind dd_NoKind m0_NoKind m1_NoKind m2_NoKind m3_NoKind m5_NoKind "ValueError.__new__"))
    (sa_NoKind : PySem.W.findIn K (.ref C_NoKind) "__setattr__" = some (some (.builtin "object.__setattr__")))
    (u_NoKind : PySem.W.subIn K (.ref C_NoKind) (.type "BaseException") = some true)
    (y_NoKind : PySem.W.typeIn K (.ref C_NoKind) = some (.type "type"))
    (kp_NoKind : PySem.W.keepIn K (.ref C_NoKind) = true)
    (at_NoKind : PySem.W.findIn K (.ref C_NoKind) "at" = some none)
    (i_NoKind : PySem.W.findIn K (.ref C_NoKind) "__init__" = some (some (.ref fI)))
    (ga_NoKind : PySem.W.findIn K (.ref C_NoKind) "__getattribute__" = some (some (.builtin "BaseException.__getattribute__")))
    (gg_NoKind : PySem.W.findIn K (.ref C_NoKind) "__getattr__" = some none)
    (va_NoKind : PySem.W.subIn K (.ref C_NoKind) (.type "ValueError") = some true)
    (hd_NoKind : PySem.W.hasDictIn K C_NoKind = true)
    (ca_NoKind : PySem.W.findIn K (.ref C_NoKind) "__class__" = some (some (.builtin "object.__class__")))
    (mo_NoKind : PySem.W.mroIn K C_NoKind (.type "object") = some true)
    (e_NoName : PySem.W.nsIn K mainGlobals "NoName" = some (some (.ref C_NoName)))
    (x_NoName : K.lookup C_NoName = some (excClassObj nm_NoName q_NoName C_NoName N_NoName bs_NoName [.ref CB, .type "ValueError", .type "Exception", .type "BaseException", .type "object"] true sn_NoName sub_NoName ab_NoName col_NoName dd_NoName m0_NoName m1_NoName m2_NoName m3_NoName m5_NoName "ValueError.__new__"))
    (sa_NoName : PySem.W.findIn K (.ref C_NoName) "__setattr__" = some (some (.builtin "object.__setattr__")))
    (u_NoName : PySem.W.subIn K (.ref C_NoName) (.type "BaseException") = some true)
    (y_NoName : PySem.W.typeIn K (.ref C_NoName) = some (.type "type"))
    (kp_NoName : PySem.W.keepIn K (.ref C_NoName) = true)
    (at_NoName : PySem.W.findIn K (.ref C_NoName) "at" = some none)
    (i_NoName : PySem.W.findIn K (.ref C_NoName) "__init__" = some (some (.ref fI)))
    (ga_NoName : PySem.W.findIn K (.ref C_NoName) "__getattribute__" = some (some (.builtin "BaseException.__getattribute__")))
    (gg_NoName : PySem.W.findIn K (.ref C_NoName) "__getattr__" = some none)
    (va_NoName : PySem.W.subIn K (.ref C_NoName) (.type "ValueError") = some true)
    (hd_NoName : PySem.W.hasDictIn K C_NoName = true)
    (ca_NoName : PySem.W.findIn K (.ref C_NoName) "__class__" = some (some (.builtin "object.__class__")))
    (mo_NoName : PySem.W.mroIn K C_NoName (.type "object") = some true)
    (e_NoProgram : PySem.W.nsIn K mainGlobals "NoProgram" = some (some (.ref C_NoProgram)))
    (x_NoProgram : K.lookup C_NoProgram = some (excClassObj nm_NoProgram q_NoProgram C_NoProgram N_NoProgram bs_NoProgram [.ref CB, .type "ValueError", .type "Exception", .type "BaseException", .type "object"] true sn_NoProgram sub_NoProgram ab_NoProgram col_NoProgram dd_NoProgram m0_NoProgram m1_NoProgram m2_NoProgram m3_NoProgram m5_NoProgram "ValueError.__new__"))
    (sa_NoProgram : PySem.W.findIn K (.ref C_NoProgram) "__setattr__" = some (some (.builtin "object.__setattr__")))
    (u_NoProgram : PySem.W.subIn K (.ref C_NoProgram) (.type "BaseException") = some true)
    (y_NoProgram : PySem.W.typeIn K (.ref C_NoProgram) = some (.type "type"))
    (kp_NoProgram : PySem.W.keepIn K (.ref C_NoProgram) = true)
    (at_NoProgram : PySem.W.findIn K (.ref C_NoProgram) "at" = some none)
    (i_NoProgram : PySem.W.findIn K (.ref C_NoProgram) "__init__" = some (some (.ref fI)))
    (ga_NoProgram : PySem.W.findIn K (.ref C_NoProgram) "__getattribute__" = some (some (.builtin "BaseException.__getattribute__")))
    (gg_NoProgram : PySem.W.findIn K (.ref C_NoProgram) "__getattr__" = some none)
    (va_NoProgram : PySem.W.subIn K (.ref C_NoProgram) (.type "ValueError") = some true)
    (hd_NoProgram : PySem.W.hasDictIn K C_NoProgram = true)
    (ca_NoProgram : PySem.W.findIn K (.ref C_NoProgram) "__class__" = some (some (.builtin "object.__class__")))
    (mo_NoProgram : PySem.W.mroIn K C_NoProgram (.type "object") = some true)
    (e_NoRow : PySem.W.nsIn K mainGlobals "NoRow" = some (some (.ref C_NoRow)))
    (x_NoRow : K.lookup C_NoRow = some (excClassObj nm_NoRow q_NoRow C_NoRow N_NoRow bs_NoRow [.ref CB, .type "ValueError", .type "Exception", .type "BaseException", .type "object"] true sn_NoRow sub_NoRow ab_NoRow col_NoRow dd_NoRow m0_NoRow m1_NoRow m2_NoRow m3_NoRow m5_NoRow "ValueError.__new__"))
    (sa_NoRow : PySem.W.findIn K (.ref C_NoRow) "__setattr__" = some (some (.builtin "object.__setattr__")))
    (u_NoRow : PySem.W.subIn K (.ref C_NoRow) (.type "BaseException") = some true)
    (y_NoRow : PySem.W.typeIn K (.ref C_NoRow) = some (.type "type"))
    (kp_NoRow : PySem.W.keepIn K (.ref C_NoRow) = true)
    (at_NoRow : PySem.W.findIn K (.ref C_NoRow) "at" = some none)
    (i_NoRow : PySem.W.findIn K (.ref C_NoRow) "__init__" = some (some (.ref fI)))
    (ga_NoRow : PySem.W.findIn K (.ref C_NoRow) "__getattribute__" = some (some (.builtin "BaseException.__getattribute__")))
    (gg_NoRow : PySem.W.findIn K (.ref C_NoRow) "__getattr__" = some none)
    (va_NoRow : PySem.W.subIn K (.ref C_NoRow) (.type "ValueError") = some true)
    (hd_NoRow : PySem.W.hasDictIn K C_NoRow = true)
    (ca_NoRow : PySem.W.findIn K (.ref C_NoRow) "__class__" = some (some (.builtin "object.__class__")))
    (mo_NoRow : PySem.W.mroIn K C_NoRow (.type "object") = some true)
    (e_NoRule : PySem.W.nsIn K mainGlobals "NoRule" = some (some (.ref C_NoRule)))
    (x_NoRule : K.lookup C_NoRule = some (excClassObj nm_NoRule q_NoRule C_NoRule N_NoRule bs_NoRule [.ref CB, .type "ValueError", .type "Exception", .type "BaseException", .type "object"] true sn_NoRule sub_NoRule ab_NoRule col_NoRule dd_NoRule m0_NoRule m1_NoRule m2_NoRule m3_NoRule m5_NoRule "ValueError.__new__"))
    (sa_NoRule : PySem.W.findIn K (.ref C_NoRule) "__setattr__" = some (some (.builtin "object.__setattr__")))
    (u_NoRule : PySem.W.subIn K (.ref C_NoRule) (.type "BaseException") = some true)
    (y_NoRule : PySem.W.typeIn K (.ref C_NoRule) = some (.type "type"))
    (kp_NoRule : PySem.W.keepIn K (.ref C_NoRule) = true)
    (at_NoRule : PySem.W.findIn K (.ref C_NoRule) "at" = some none)
    (i_NoRule : PySem.W.findIn K (.ref C_NoRule) "__init__" = some (some (.ref fI)))
    (ga_NoRule : PySem.W.findIn K (.ref C_NoRule) "__getattribute__" = some (some (.builtin "BaseException.__getattribute__")))
    (gg_NoRule : PySem.W.findIn K (.ref C_NoRule) "__getattr__" = some none)
    (va_NoRule : PySem.W.subIn K (.ref C_NoRule) (.type "ValueError") = some true)
    (hd_NoRule : PySem.W.hasDictIn K C_NoRule = true)
    (ca_NoRule : PySem.W.findIn K (.ref C_NoRule) "__class__" = some (some (.builtin "object.__class__")))
    (mo_NoRule : PySem.W.mroIn K C_NoRule (.type "object") = some true)
    (e_NoStep : PySem.W.nsIn K mainGlobals "NoStep" = some (some (.ref C_NoStep)))
    (x_NoStep : K.lookup C_NoStep = some (excClassObj nm_NoStep q_NoStep C_NoStep N_NoStep bs_NoStep [.ref CB, .type "ValueError", .type "Exception", .type "BaseException", .type "object"] true sn_NoStep sub_NoStep ab_NoStep col_NoStep dd_NoStep m0_NoStep m1_NoStep m2_NoStep m3_NoStep m5_NoStep "ValueError.__new__"))
    (sa_NoStep : PySem.W.findIn K (.ref C_NoStep) "__setattr__" = some (some (.builtin "object.__setattr__")))
    (u_NoStep : PySem.W.subIn K (.ref C_NoStep) (.type "BaseException") = some true)
    (y_NoStep : PySem.W.typeIn K (.ref C_NoStep) = some (.type "type"))
    (kp_NoStep : PySem.W.keepIn K (.ref C_NoStep) = true)
    (at_NoStep : PySem.W.findIn K (.ref C_NoStep) "at" = some none)
    (i_NoStep : PySem.W.findIn K (.ref C_NoStep) "__init__" = some (some (.ref fI)))
    (ga_NoStep : PySem.W.findIn K (.ref C_NoStep) "__getattribute__" = some (some (.builtin "BaseException.__getattribute__")))
    (gg_NoStep : PySem.W.findIn K (.ref C_NoStep) "__getattr__" = some none)
    (va_NoStep : PySem.W.subIn K (.ref C_NoStep) (.type "ValueError") = some true)
    (hd_NoStep : PySem.W.hasDictIn K C_NoStep = true)
    (ca_NoStep : PySem.W.findIn K (.ref C_NoStep) "__class__" = some (some (.builtin "object.__class__")))
    (mo_NoStep : PySem.W.mroIn K C_NoStep (.type "object") = some true)
    (e_NoText : PySem.W.nsIn K mainGlobals "NoText" = some (some (.ref C_NoText)))
    (x_NoText : K.lookup C_NoText = some (excClassObj nm_NoText q_NoText C_NoText N_NoText bs_NoText [.ref CB, .type "ValueError", .type "Exception", .type "BaseException", .type "object"] true sn_NoText sub_NoText ab_NoText col_NoText dd_NoText m0_NoText m1_NoText m2_NoText m3_NoText m5_NoText "ValueError.__new__"))
    (sa_NoText : PySem.W.findIn K (.ref C_NoText) "__setattr__" = some (some (.builtin "object.__setattr__")))
    (u_NoText : PySem.W.subIn K (.ref C_NoText) (.type "BaseException") = some true)
    (y_NoText : PySem.W.typeIn K (.ref C_NoText) = some (.type "type"))
    (kp_NoText : PySem.W.keepIn K (.ref C_NoText) = true)
    (at_NoText : PySem.W.findIn K (.ref C_NoText) "at" = some none)
    (i_NoText : PySem.W.findIn K (.ref C_NoText) "__init__" = some (some (.ref fI)))
    (ga_NoText : PySem.W.findIn K (.ref C_NoText) "__getattribute__" = some (some (.builtin "BaseException.__getattribute__")))
    (gg_NoText : PySem.W.findIn K (.ref C_NoText) "__getattr__" = some none)
    (va_NoText : PySem.W.subIn K (.ref C_NoText) (.type "ValueError") = some true)
    (hd_NoText : PySem.W.hasDictIn K C_NoText = true)
    (ca_NoText : PySem.W.findIn K (.ref C_NoText) "__class__" = some (some (.builtin "object.__class__")))
    (mo_NoText : PySem.W.mroIn K C_NoText (.type "object") = some true)
    (e_NoWeb : PySem.W.nsIn K mainGlobals "NoWeb" = some (some (.ref C_NoWeb)))
    (x_NoWeb : K.lookup C_NoWeb = some (excClassObj nm_NoWeb q_NoWeb C_NoWeb N_NoWeb bs_NoWeb [.ref CB, .type "ValueError", .type "Exception", .type "BaseException", .type "object"] true sn_NoWeb sub_NoWeb ab_NoWeb col_NoWeb dd_NoWeb m0_NoWeb m1_NoWeb m2_NoWeb m3_NoWeb m5_NoWeb "ValueError.__new__"))
    (sa_NoWeb : PySem.W.findIn K (.ref C_NoWeb) "__setattr__" = some (some (.builtin "object.__setattr__")))
    (u_NoWeb : PySem.W.subIn K (.ref C_NoWeb) (.type "BaseException") = some true)
    (y_NoWeb : PySem.W.typeIn K (.ref C_NoWeb) = some (.type "type"))
    (kp_NoWeb : PySem.W.keepIn K (.ref C_NoWeb) = true)
    (at_NoWeb : PySem.W.findIn K (.ref C_NoWeb) "at" = some none)
    (i_NoWeb : PySem.W.findIn K (.ref C_NoWeb) "__init__" = some (some (.ref fI)))
    (ga_NoWeb : PySem.W.findIn K (.ref C_NoWeb) "__getattribute__" = some (some (.builtin "BaseException.__getattribute__")))
    (gg_NoWeb : PySem.W.findIn K (.ref C_NoWeb) "__getattr__" = some none)
    (va_NoWeb : PySem.W.subIn K (.ref C_NoWeb) (.type "ValueError") = some true)
    (hd_NoWeb : PySem.W.hasDictIn K C_NoWeb = true)
    (ca_NoWeb : PySem.W.findIn K (.ref C_NoWeb) "__class__" = some (some (.builtin "object.__class__")))
    (mo_NoWeb : PySem.W.mroIn K C_NoWeb (.type "object") = some true)
    (e_Quarrel : PySem.W.nsIn K mainGlobals "Quarrel" = some (some (.ref C_Quarrel)))
    (x_Quarrel : K.lookup C_Quarrel = some (excClassObj nm_Quarrel q_Quarrel C_Quarrel N_Quarrel bs_Quarrel [.ref CB, .type "ValueError", .type "Exception", .type "BaseException", .type "object"] true sn_Quarrel sub_Quarrel ab_Quarrel col_Quarrel dd_Quarrel m0_Quarrel m1_Quarrel m2_Quarrel m3_Quarrel m5_Quarrel "ValueError.__new__"))
    (sa_Quarrel : PySem.W.findIn K (.ref C_Quarrel) "__setattr__" = some (some (.builtin "object.__setattr__")))
    (u_Quarrel : PySem.W.subIn K (.ref C_Quarrel) (.type "BaseException") = some true)
    (y_Quarrel : PySem.W.typeIn K (.ref C_Quarrel) = some (.type "type"))
    (kp_Quarrel : PySem.W.keepIn K (.ref C_Quarrel) = true)
    (at_Quarrel : PySem.W.findIn K (.ref C_Quarrel) "at" = some none)
    (i_Quarrel : PySem.W.findIn K (.ref C_Quarrel) "__init__" = some (some (.ref fI)))
    (ga_Quarrel : PySem.W.findIn K (.ref C_Quarrel) "__getattribute__" = some (some (.builtin "BaseException.__getattribute__")))
    (gg_Quarrel : PySem.W.findIn K (.ref C_Quarrel) "__getattr__" = some none)
    (va_Quarrel : PySem.W.subIn K (.ref C_Quarrel) (.type "ValueError") = some true)
    (hd_Quarrel : PySem.W.hasDictIn K C_Quarrel = true)
    (ca_Quarrel : PySem.W.findIn K (.ref C_Quarrel) "__class__" = some (some (.builtin "object.__class__")))
    (mo_Quarrel : PySem.W.mroIn K C_Quarrel (.type "object") = some true)
    (e_Taken : PySem.W.nsIn K mainGlobals "Taken" = some (some (.ref C_Taken)))
    (x_Taken : K.lookup C_Taken = some (excClassObj nm_Taken q_Taken C_Taken N_Taken bs_Taken [.ref CB, .type "ValueError", .type "Exception", .type "BaseException", .type "object"] true sn_Taken sub_Taken ab_Taken col_Taken dd_Taken m0_Taken m1_Taken m2_Taken m3_Taken m5_Taken "ValueError.__new__"))
    (sa_Taken : PySem.W.findIn K (.ref C_Taken) "__setattr__" = some (some (.builtin "object.__setattr__")))
    (u_Taken : PySem.W.subIn K (.ref C_Taken) (.type "BaseException") = some true)
    (y_Taken : PySem.W.typeIn K (.ref C_Taken) = some (.type "type"))
    (kp_Taken : PySem.W.keepIn K (.ref C_Taken) = true)
    (at_Taken : PySem.W.findIn K (.ref C_Taken) "at" = some none)
    (i_Taken : PySem.W.findIn K (.ref C_Taken) "__init__" = some (some (.ref fI)))
    (ga_Taken : PySem.W.findIn K (.ref C_Taken) "__getattribute__" = some (some (.builtin "BaseException.__getattribute__")))
    (gg_Taken : PySem.W.findIn K (.ref C_Taken) "__getattr__" = some none)
    (va_Taken : PySem.W.subIn K (.ref C_Taken) (.type "ValueError") = some true)
    (hd_Taken : PySem.W.hasDictIn K C_Taken = true)
    (ca_Taken : PySem.W.findIn K (.ref C_Taken) "__class__" = some (some (.builtin "object.__class__")))
    (mo_Taken : PySem.W.mroIn K C_Taken (.type "object") = some true)
    (e_TooDeep : PySem.W.nsIn K mainGlobals "TooDeep" = some (some (.ref C_TooDeep)))
    (x_TooDeep : K.lookup C_TooDeep = some (excClassObj nm_TooDeep q_TooDeep C_TooDeep N_TooDeep bs_TooDeep [.ref CB, .type "ValueError", .type "Exception", .type "BaseException", .type "object"] true sn_TooDeep sub_TooDeep ab_TooDeep col_TooDeep dd_TooDeep m0_TooDeep m1_TooDeep m2_TooDeep m3_TooDeep m5_TooDeep "ValueError.__new__"))
    (sa_TooDeep : PySem.W.findIn K (.ref C_TooDeep) "__setattr__" = some (some (.builtin "object.__setattr__")))
    (u_TooDeep : PySem.W.subIn K (.ref C_TooDeep) (.type "BaseException") = some true)
    (y_TooDeep : PySem.W.typeIn K (.ref C_TooDeep) = some (.type "type"))
    (kp_TooDeep : PySem.W.keepIn K (.ref C_TooDeep) = true)
    (at_TooDeep : PySem.W.findIn K (.ref C_TooDeep) "at" = some none)
    (i_TooDeep : PySem.W.findIn K (.ref C_TooDeep) "__init__" = some (some (.ref fI)))
    (ga_TooDeep : PySem.W.findIn K (.ref C_TooDeep) "__getattribute__" = some (some (.builtin "BaseException.__getattribute__")))
    (gg_TooDeep : PySem.W.findIn K (.ref C_TooDeep) "__getattr__" = some none)
    (va_TooDeep : PySem.W.subIn K (.ref C_TooDeep) (.type "ValueError") = some true)
    (hd_TooDeep : PySem.W.hasDictIn K C_TooDeep = true)
    (ca_TooDeep : PySem.W.findIn K (.ref C_TooDeep) "__class__" = some (some (.builtin "object.__class__")))
    (mo_TooDeep : PySem.W.mroIn K C_TooDeep (.type "object") = some true)
    (e_TooLong : PySem.W.nsIn K mainGlobals "TooLong" = some (some (.ref C_TooLong)))
    (x_TooLong : K.lookup C_TooLong = some (excClassObj nm_TooLong q_TooLong C_TooLong N_TooLong bs_TooLong [.ref CB, .type "ValueError", .type "Exception", .type "BaseException", .type "object"] true sn_TooLong sub_TooLong ab_TooLong col_TooLong dd_TooLong m0_TooLong m1_TooLong m2_TooLong m3_TooLong m5_TooLong "ValueError.__new__"))
    (sa_TooLong : PySem.W.findIn K (.ref C_TooLong) "__setattr__" = some (some (.builtin "object.__setattr__")))
    (u_TooLong : PySem.W.subIn K (.ref C_TooLong) (.type "BaseException") = some true)
    (y_TooLong : PySem.W.typeIn K (.ref C_TooLong) = some (.type "type"))
    (kp_TooLong : PySem.W.keepIn K (.ref C_TooLong) = true)
    (at_TooLong : PySem.W.findIn K (.ref C_TooLong) "at" = some none)
    (i_TooLong : PySem.W.findIn K (.ref C_TooLong) "__init__" = some (some (.ref fI)))
    (ga_TooLong : PySem.W.findIn K (.ref C_TooLong) "__getattribute__" = some (some (.builtin "BaseException.__getattribute__")))
    (gg_TooLong : PySem.W.findIn K (.ref C_TooLong) "__getattr__" = some none)
    (va_TooLong : PySem.W.subIn K (.ref C_TooLong) (.type "ValueError") = some true)
    (hd_TooLong : PySem.W.hasDictIn K C_TooLong = true)
    (ca_TooLong : PySem.W.findIn K (.ref C_TooLong) "__class__" = some (some (.builtin "object.__class__")))
    (mo_TooLong : PySem.W.mroIn K C_TooLong (.type "object") = some true)
    (e_Twice : PySem.W.nsIn K mainGlobals "Twice" = some (some (.ref C_Twice)))
    (x_Twice : K.lookup C_Twice = some (excClassObj nm_Twice q_Twice C_Twice N_Twice bs_Twice [.ref CB, .type "ValueError", .type "Exception", .type "BaseException", .type "object"] true sn_Twice sub_Twice ab_Twice col_Twice dd_Twice m0_Twice m1_Twice m2_Twice m3_Twice m5_Twice "ValueError.__new__"))
    (sa_Twice : PySem.W.findIn K (.ref C_Twice) "__setattr__" = some (some (.builtin "object.__setattr__")))
    (u_Twice : PySem.W.subIn K (.ref C_Twice) (.type "BaseException") = some true)
    (y_Twice : PySem.W.typeIn K (.ref C_Twice) = some (.type "type"))
    (kp_Twice : PySem.W.keepIn K (.ref C_Twice) = true)
    (at_Twice : PySem.W.findIn K (.ref C_Twice) "at" = some none)
    (i_Twice : PySem.W.findIn K (.ref C_Twice) "__init__" = some (some (.ref fI)))
    (ga_Twice : PySem.W.findIn K (.ref C_Twice) "__getattribute__" = some (some (.builtin "BaseException.__getattribute__")))
    (gg_Twice : PySem.W.findIn K (.ref C_Twice) "__getattr__" = some none)
    (va_Twice : PySem.W.subIn K (.ref C_Twice) (.type "ValueError") = some true)
    (hd_Twice : PySem.W.hasDictIn K C_Twice = true)
    (ca_Twice : PySem.W.findIn K (.ref C_Twice) "__class__" = some (some (.builtin "object.__class__")))
    (mo_Twice : PySem.W.mroIn K C_Twice (.type "object") = some true)
    (spG : PySem.W.specialIn K (.builtin "object.__class__") "__get__" = some (some (.builtin "getset_descriptor.__get__")))
    (tkG : PySem.W.takesIn K (.builtin "object.__class__") = some true)
    (su_CallError_CallError : PySem.W.subIn K (.ref CB) (.ref CB) = some true)
    (su_CallError_NoWeb : PySem.W.subIn K (.ref CB) (.ref C_NoWeb) = some false)
    (su_CallError_NoKind : PySem.W.subIn K (.ref CB) (.ref C_NoKind) = some false)
    (su_CallError_NoBook : PySem.W.subIn K (.ref CB) (.ref C_NoBook) = some false)
    (su_CallError_NoCall : PySem.W.subIn K (.ref CB) (.ref C_NoCall) = some false)
    (su_CallError_NoRule : PySem.W.subIn K (.ref CB) (.ref C_NoRule) = some false)
    (su_CallError_NoFit : PySem.W.subIn K (.ref CB) (.ref C_NoFit) = some false)
    (su_CallError_Quarrel : PySem.W.subIn K (.ref CB) (.ref C_Quarrel) = some false)
    (su_CallError_NoProgram : PySem.W.subIn K (.ref CB) (.ref C_NoProgram) = some false)
    (su_CallError_NoDeed : PySem.W.subIn K (.ref CB) (.ref C_NoDeed) = some false)
    (su_CallError_TooDeep : PySem.W.subIn K (.ref CB) (.ref C_TooDeep) = some false)
    (su_CallError_TooLong : PySem.W.subIn K (.ref CB) (.ref C_TooLong) = some false)
    (su_CallError_NoName : PySem.W.subIn K (.ref CB) (.ref C_NoName) = some false)
    (su_CallError_Taken : PySem.W.subIn K (.ref CB) (.ref C_Taken) = some false)
    (su_CallError_Full : PySem.W.subIn K (.ref CB) (.ref C_Full) = some false)
    (su_CallError_Twice : PySem.W.subIn K (.ref CB) (.ref C_Twice) = some false)
    (su_CallError_NoStep : PySem.W.subIn K (.ref CB) (.ref C_NoStep) = some false)
    (su_CallError_Needed : PySem.W.subIn K (.ref CB) (.ref C_Needed) = some false)
    (su_CallError_NoText : PySem.W.subIn K (.ref CB) (.ref C_NoText) = some false)
    (su_CallError_NoRow : PySem.W.subIn K (.ref CB) (.ref C_NoRow) = some false)
    (su_NoWeb_CallError : PySem.W.subIn K (.ref C_NoWeb) (.ref CB) = some true)
    (su_NoWeb_NoWeb : PySem.W.subIn K (.ref C_NoWeb) (.ref C_NoWeb) = some true)
    (su_NoWeb_NoKind : PySem.W.subIn K (.ref C_NoWeb) (.ref C_NoKind) = some false)
    (su_NoWeb_NoBook : PySem.W.subIn K (.ref C_NoWeb) (.ref C_NoBook) = some false)
    (su_NoWeb_NoCall : PySem.W.subIn K (.ref C_NoWeb) (.ref C_NoCall) = some false)
    (su_NoWeb_NoRule : PySem.W.subIn K (.ref C_NoWeb) (.ref C_NoRule) = some false)
    (su_NoWeb_NoFit : PySem.W.subIn K (.ref C_NoWeb) (.ref C_NoFit) = some false)
    (su_NoWeb_Quarrel : PySem.W.subIn K (.ref C_NoWeb) (.ref C_Quarrel) = some false)
    (su_NoWeb_NoProgram : PySem.W.subIn K (.ref C_NoWeb) (.ref C_NoProgram) = some false)
    (su_NoWeb_NoDeed : PySem.W.subIn K (.ref C_NoWeb) (.ref C_NoDeed) = some false)
    (su_NoWeb_TooDeep : PySem.W.subIn K (.ref C_NoWeb) (.ref C_TooDeep) = some false)
    (su_NoWeb_TooLong : PySem.W.subIn K (.ref C_NoWeb) (.ref C_TooLong) = some false)
    (su_NoWeb_NoName : PySem.W.subIn K (.ref C_NoWeb) (.ref C_NoName) = some false)
    (su_NoWeb_Taken : PySem.W.subIn K (.ref C_NoWeb) (.ref C_Taken) = some false)
    (su_NoWeb_Full : PySem.W.subIn K (.ref C_NoWeb) (.ref C_Full) = some false)
    (su_NoWeb_Twice : PySem.W.subIn K (.ref C_NoWeb) (.ref C_Twice) = some false)
    (su_NoWeb_NoStep : PySem.W.subIn K (.ref C_NoWeb) (.ref C_NoStep) = some false)
    (su_NoWeb_Needed : PySem.W.subIn K (.ref C_NoWeb) (.ref C_Needed) = some false)
    (su_NoWeb_NoText : PySem.W.subIn K (.ref C_NoWeb) (.ref C_NoText) = some false)
    (su_NoWeb_NoRow : PySem.W.subIn K (.ref C_NoWeb) (.ref C_NoRow) = some false)
    (su_NoKind_CallError : PySem.W.subIn K (.ref C_NoKind) (.ref CB) = some true)
    (su_NoKind_NoWeb : PySem.W.subIn K (.ref C_NoKind) (.ref C_NoWeb) = some false)
    (su_NoKind_NoKind : PySem.W.subIn K (.ref C_NoKind) (.ref C_NoKind) = some true)
    (su_NoKind_NoBook : PySem.W.subIn K (.ref C_NoKind) (.ref C_NoBook) = some false)
    (su_NoKind_NoCall : PySem.W.subIn K (.ref C_NoKind) (.ref C_NoCall) = some false)
    (su_NoKind_NoRule : PySem.W.subIn K (.ref C_NoKind) (.ref C_NoRule) = some false)
    (su_NoKind_NoFit : PySem.W.subIn K (.ref C_NoKind) (.ref C_NoFit) = some false)
    (su_NoKind_Quarrel : PySem.W.subIn K (.ref C_NoKind) (.ref C_Quarrel) = some false)
    (su_NoKind_NoProgram : PySem.W.subIn K (.ref C_NoKind) (.ref C_NoProgram) = some false)
    (su_NoKind_NoDeed : PySem.W.subIn K (.ref C_NoKind) (.ref C_NoDeed) = some false)
    (su_NoKind_TooDeep : PySem.W.subIn K (.ref C_NoKind) (.ref C_TooDeep) = some false)
    (su_NoKind_TooLong : PySem.W.subIn K (.ref C_NoKind) (.ref C_TooLong) = some false)
    (su_NoKind_NoName : PySem.W.subIn K (.ref C_NoKind) (.ref C_NoName) = some false)
    (su_NoKind_Taken : PySem.W.subIn K (.ref C_NoKind) (.ref C_Taken) = some false)
    (su_NoKind_Full : PySem.W.subIn K (.ref C_NoKind) (.ref C_Full) = some false)
    (su_NoKind_Twice : PySem.W.subIn K (.ref C_NoKind) (.ref C_Twice) = some false)
    (su_NoKind_NoStep : PySem.W.subIn K (.ref C_NoKind) (.ref C_NoStep) = some false)
    (su_NoKind_Needed : PySem.W.subIn K (.ref C_NoKind) (.ref C_Needed) = some false)
    (su_NoKind_NoText : PySem.W.subIn K (.ref C_NoKind) (.ref C_NoText) = some false)
    (su_NoKind_NoRow : PySem.W.subIn K (.ref C_NoKind) (.ref C_NoRow) = some false)
    (su_NoBook_CallError : PySem.W.subIn K (.ref C_NoBook) (.ref CB) = some true)
    (su_NoBook_NoWeb : PySem.W.subIn K (.ref C_NoBook) (.ref C_NoWeb) = some false)
    (su_NoBook_NoKind : PySem.W.subIn K (.ref C_NoBook) (.ref C_NoKind) = some false)
    (su_NoBook_NoBook : PySem.W.subIn K (.ref C_NoBook) (.ref C_NoBook) = some true)
    (su_NoBook_NoCall : PySem.W.subIn K (.ref C_NoBook) (.ref C_NoCall) = some false)
    (su_NoBook_NoRule : PySem.W.subIn K (.ref C_NoBook) (.ref C_NoRule) = some false)
    (su_NoBook_NoFit : PySem.W.subIn K (.ref C_NoBook) (.ref C_NoFit) = some false)
    (su_NoBook_Quarrel : PySem.W.subIn K (.ref C_NoBook) (.ref C_Quarrel) = some false)
    (su_NoBook_NoProgram : PySem.W.subIn K (.ref C_NoBook) (.ref C_NoProgram) = some false)
    (su_NoBook_NoDeed : PySem.W.subIn K (.ref C_NoBook) (.ref C_NoDeed) = some false)
    (su_NoBook_TooDeep : PySem.W.subIn K (.ref C_NoBook) (.ref C_TooDeep) = some false)
    (su_NoBook_TooLong : PySem.W.subIn K (.ref C_NoBook) (.ref C_TooLong) = some false)
    (su_NoBook_NoName : PySem.W.subIn K (.ref C_NoBook) (.ref C_NoName) = some false)
    (su_NoBook_Taken : PySem.W.subIn K (.ref C_NoBook) (.ref C_Taken) = some false)
    (su_NoBook_Full : PySem.W.subIn K (.ref C_NoBook) (.ref C_Full) = some false)
    (su_NoBook_Twice : PySem.W.subIn K (.ref C_NoBook) (.ref C_Twice) = some false)
    (su_NoBook_NoStep : PySem.W.subIn K (.ref C_NoBook) (.ref C_NoStep) = some false)
    (su_NoBook_Needed : PySem.W.subIn K (.ref C_NoBook) (.ref C_Needed) = some false)
    (su_NoBook_NoText : PySem.W.subIn K (.ref C_NoBook) (.ref C_NoText) = some false)
    (su_NoBook_NoRow : PySem.W.subIn K (.ref C_NoBook) (.ref C_NoRow) = some false)
    (su_NoCall_CallError : PySem.W.subIn K (.ref C_NoCall) (.ref CB) = some true)
    (su_NoCall_NoWeb : PySem.W.subIn K (.ref C_NoCall) (.ref C_NoWeb) = some false)
    (su_NoCall_NoKind : PySem.W.subIn K (.ref C_NoCall) (.ref C_NoKind) = some false)
    (su_NoCall_NoBook : PySem.W.subIn K (.ref C_NoCall) (.ref C_NoBook) = some false)
    (su_NoCall_NoCall : PySem.W.subIn K (.ref C_NoCall) (.ref C_NoCall) = some true)
    (su_NoCall_NoRule : PySem.W.subIn K (.ref C_NoCall) (.ref C_NoRule) = some false)
    (su_NoCall_NoFit : PySem.W.subIn K (.ref C_NoCall) (.ref C_NoFit) = some false)
    (su_NoCall_Quarrel : PySem.W.subIn K (.ref C_NoCall) (.ref C_Quarrel) = some false)
    (su_NoCall_NoProgram : PySem.W.subIn K (.ref C_NoCall) (.ref C_NoProgram) = some false)
    (su_NoCall_NoDeed : PySem.W.subIn K (.ref C_NoCall) (.ref C_NoDeed) = some false)
    (su_NoCall_TooDeep : PySem.W.subIn K (.ref C_NoCall) (.ref C_TooDeep) = some false)
    (su_NoCall_TooLong : PySem.W.subIn K (.ref C_NoCall) (.ref C_TooLong) = some false)
    (su_NoCall_NoName : PySem.W.subIn K (.ref C_NoCall) (.ref C_NoName) = some false)
    (su_NoCall_Taken : PySem.W.subIn K (.ref C_NoCall) (.ref C_Taken) = some false)
    (su_NoCall_Full : PySem.W.subIn K (.ref C_NoCall) (.ref C_Full) = some false)
    (su_NoCall_Twice : PySem.W.subIn K (.ref C_NoCall) (.ref C_Twice) = some false)
    (su_NoCall_NoStep : PySem.W.subIn K (.ref C_NoCall) (.ref C_NoStep) = some false)
    (su_NoCall_Needed : PySem.W.subIn K (.ref C_NoCall) (.ref C_Needed) = some false)
    (su_NoCall_NoText : PySem.W.subIn K (.ref C_NoCall) (.ref C_NoText) = some false)
    (su_NoCall_NoRow : PySem.W.subIn K (.ref C_NoCall) (.ref C_NoRow) = some false)
    (su_NoRule_CallError : PySem.W.subIn K (.ref C_NoRule) (.ref CB) = some true)
    (su_NoRule_NoWeb : PySem.W.subIn K (.ref C_NoRule) (.ref C_NoWeb) = some false)
    (su_NoRule_NoKind : PySem.W.subIn K (.ref C_NoRule) (.ref C_NoKind) = some false)
    (su_NoRule_NoBook : PySem.W.subIn K (.ref C_NoRule) (.ref C_NoBook) = some false)
    (su_NoRule_NoCall : PySem.W.subIn K (.ref C_NoRule) (.ref C_NoCall) = some false)
    (su_NoRule_NoRule : PySem.W.subIn K (.ref C_NoRule) (.ref C_NoRule) = some true)
    (su_NoRule_NoFit : PySem.W.subIn K (.ref C_NoRule) (.ref C_NoFit) = some false)
    (su_NoRule_Quarrel : PySem.W.subIn K (.ref C_NoRule) (.ref C_Quarrel) = some false)
    (su_NoRule_NoProgram : PySem.W.subIn K (.ref C_NoRule) (.ref C_NoProgram) = some false)
    (su_NoRule_NoDeed : PySem.W.subIn K (.ref C_NoRule) (.ref C_NoDeed) = some false)
    (su_NoRule_TooDeep : PySem.W.subIn K (.ref C_NoRule) (.ref C_TooDeep) = some false)
    (su_NoRule_TooLong : PySem.W.subIn K (.ref C_NoRule) (.ref C_TooLong) = some false)
    (su_NoRule_NoName : PySem.W.subIn K (.ref C_NoRule) (.ref C_NoName) = some false)
    (su_NoRule_Taken : PySem.W.subIn K (.ref C_NoRule) (.ref C_Taken) = some false)
    (su_NoRule_Full : PySem.W.subIn K (.ref C_NoRule) (.ref C_Full) = some false)
    (su_NoRule_Twice : PySem.W.subIn K (.ref C_NoRule) (.ref C_Twice) = some false)
    (su_NoRule_NoStep : PySem.W.subIn K (.ref C_NoRule) (.ref C_NoStep) = some false)
    (su_NoRule_Needed : PySem.W.subIn K (.ref C_NoRule) (.ref C_Needed) = some false)
    (su_NoRule_NoText : PySem.W.subIn K (.ref C_NoRule) (.ref C_NoText) = some false)
    (su_NoRule_NoRow : PySem.W.subIn K (.ref C_NoRule) (.ref C_NoRow) = some false)
    (su_NoFit_CallError : PySem.W.subIn K (.ref C_NoFit) (.ref CB) = some true)
    (su_NoFit_NoWeb : PySem.W.subIn K (.ref C_NoFit) (.ref C_NoWeb) = some false)
    (su_NoFit_NoKind : PySem.W.subIn K (.ref C_NoFit) (.ref C_NoKind) = some false)
    (su_NoFit_NoBook : PySem.W.subIn K (.ref C_NoFit) (.ref C_NoBook) = some false)
    (su_NoFit_NoCall : PySem.W.subIn K (.ref C_NoFit) (.ref C_NoCall) = some false)
    (su_NoFit_NoRule : PySem.W.subIn K (.ref C_NoFit) (.ref C_NoRule) = some false)
    (su_NoFit_NoFit : PySem.W.subIn K (.ref C_NoFit) (.ref C_NoFit) = some true)
    (su_NoFit_Quarrel : PySem.W.subIn K (.ref C_NoFit) (.ref C_Quarrel) = some false)
    (su_NoFit_NoProgram : PySem.W.subIn K (.ref C_NoFit) (.ref C_NoProgram) = some false)
    (su_NoFit_NoDeed : PySem.W.subIn K (.ref C_NoFit) (.ref C_NoDeed) = some false)
    (su_NoFit_TooDeep : PySem.W.subIn K (.ref C_NoFit) (.ref C_TooDeep) = some false)
    (su_NoFit_TooLong : PySem.W.subIn K (.ref C_NoFit) (.ref C_TooLong) = some false)
    (su_NoFit_NoName : PySem.W.subIn K (.ref C_NoFit) (.ref C_NoName) = some false)
    (su_NoFit_Taken : PySem.W.subIn K (.ref C_NoFit) (.ref C_Taken) = some false)
    (su_NoFit_Full : PySem.W.subIn K (.ref C_NoFit) (.ref C_Full) = some false)
    (su_NoFit_Twice : PySem.W.subIn K (.ref C_NoFit) (.ref C_Twice) = some false)
    (su_NoFit_NoStep : PySem.W.subIn K (.ref C_NoFit) (.ref C_NoStep) = some false)
    (su_NoFit_Needed : PySem.W.subIn K (.ref C_NoFit) (.ref C_Needed) = some false)
    (su_NoFit_NoText : PySem.W.subIn K (.ref C_NoFit) (.ref C_NoText) = some false)
    (su_NoFit_NoRow : PySem.W.subIn K (.ref C_NoFit) (.ref C_NoRow) = some false)
    (su_Quarrel_CallError : PySem.W.subIn K (.ref C_Quarrel) (.ref CB) = some true)
    (su_Quarrel_NoWeb : PySem.W.subIn K (.ref C_Quarrel) (.ref C_NoWeb) = some false)
    (su_Quarrel_NoKind : PySem.W.subIn K (.ref C_Quarrel) (.ref C_NoKind) = some false)
    (su_Quarrel_NoBook : PySem.W.subIn K (.ref C_Quarrel) (.ref C_NoBook) = some false)
    (su_Quarrel_NoCall : PySem.W.subIn K (.ref C_Quarrel) (.ref C_NoCall) = some false)
    (su_Quarrel_NoRule : PySem.W.subIn K (.ref C_Quarrel) (.ref C_NoRule) = some false)
    (su_Quarrel_NoFit : PySem.W.subIn K (.ref C_Quarrel) (.ref C_NoFit) = some false)
    (su_Quarrel_Quarrel : PySem.W.subIn K (.ref C_Quarrel) (.ref C_Quarrel) = some true)
    (su_Quarrel_NoProgram : PySem.W.subIn K (.ref C_Quarrel) (.ref C_NoProgram) = some false)
    (su_Quarrel_NoDeed : PySem.W.subIn K (.ref C_Quarrel) (.ref C_NoDeed) = some false)
    (su_Quarrel_TooDeep : PySem.W.subIn K (.ref C_Quarrel) (.ref C_TooDeep) = some false)
    (su_Quarrel_TooLong : PySem.W.subIn K (.ref C_Quarrel) (.ref C_TooLong) = some false)
    (su_Quarrel_NoName : PySem.W.subIn K (.ref C_Quarrel) (.ref C_NoName) = some false)
    (su_Quarrel_Taken : PySem.W.subIn K (.ref C_Quarrel) (.ref C_Taken) = some false)
    (su_Quarrel_Full : PySem.W.subIn K (.ref C_Quarrel) (.ref C_Full) = some false)
    (su_Quarrel_Twice : PySem.W.subIn K (.ref C_Quarrel) (.ref C_Twice) = some false)
    (su_Quarrel_NoStep : PySem.W.subIn K (.ref C_Quarrel) (.ref C_NoStep) = some false)
    (su_Quarrel_Needed : PySem.W.subIn K (.ref C_Quarrel) (.ref C_Needed) = some false)
    (su_Quarrel_NoText : PySem.W.subIn K (.ref C_Quarrel) (.ref C_NoText) = some false)
    (su_Quarrel_NoRow : PySem.W.subIn K (.ref C_Quarrel) (.ref C_NoRow) = some false)
    (su_NoProgram_CallError : PySem.W.subIn K (.ref C_NoProgram) (.ref CB) = some true)
    (su_NoProgram_NoWeb : PySem.W.subIn K (.ref C_NoProgram) (.ref C_NoWeb) = some false)
    (su_NoProgram_NoKind : PySem.W.subIn K (.ref C_NoProgram) (.ref C_NoKind) = some false)
    (su_NoProgram_NoBook : PySem.W.subIn K (.ref C_NoProgram) (.ref C_NoBook) = some false)
    (su_NoProgram_NoCall : PySem.W.subIn K (.ref C_NoProgram) (.ref C_NoCall) = some false)
    (su_NoProgram_NoRule : PySem.W.subIn K (.ref C_NoProgram) (.ref C_NoRule) = some false)
    (su_NoProgram_NoFit : PySem.W.subIn K (.ref C_NoProgram) (.ref C_NoFit) = some false)
    (su_NoProgram_Quarrel : PySem.W.subIn K (.ref C_NoProgram) (.ref C_Quarrel) = some false)
    (su_NoProgram_NoProgram : PySem.W.subIn K (.ref C_NoProgram) (.ref C_NoProgram) = some true)
    (su_NoProgram_NoDeed : PySem.W.subIn K (.ref C_NoProgram) (.ref C_NoDeed) = some false)
    (su_NoProgram_TooDeep : PySem.W.subIn K (.ref C_NoProgram) (.ref C_TooDeep) = some false)
    (su_NoProgram_TooLong : PySem.W.subIn K (.ref C_NoProgram) (.ref C_TooLong) = some false)
    (su_NoProgram_NoName : PySem.W.subIn K (.ref C_NoProgram) (.ref C_NoName) = some false)
    (su_NoProgram_Taken : PySem.W.subIn K (.ref C_NoProgram) (.ref C_Taken) = some false)
    (su_NoProgram_Full : PySem.W.subIn K (.ref C_NoProgram) (.ref C_Full) = some false)
    (su_NoProgram_Twice : PySem.W.subIn K (.ref C_NoProgram) (.ref C_Twice) = some false)
    (su_NoProgram_NoStep : PySem.W.subIn K (.ref C_NoProgram) (.ref C_NoStep) = some false)
    (su_NoProgram_Needed : PySem.W.subIn K (.ref C_NoProgram) (.ref C_Needed) = some false)
    (su_NoProgram_NoText : PySem.W.subIn K (.ref C_NoProgram) (.ref C_NoText) = some false)
    (su_NoProgram_NoRow : PySem.W.subIn K (.ref C_NoProgram) (.ref C_NoRow) = some false)
    (su_NoDeed_CallError : PySem.W.subIn K (.ref C_NoDeed) (.ref CB) = some true)
    (su_NoDeed_NoWeb : PySem.W.subIn K (.ref C_NoDeed) (.ref C_NoWeb) = some false)
    (su_NoDeed_NoKind : PySem.W.subIn K (.ref C_NoDeed) (.ref C_NoKind) = some false)
    (su_NoDeed_NoBook : PySem.W.subIn K (.ref C_NoDeed) (.ref C_NoBook) = some false)
    (su_NoDeed_NoCall : PySem.W.subIn K (.ref C_NoDeed) (.ref C_NoCall) = some false)
    (su_NoDeed_NoRule : PySem.W.subIn K (.ref C_NoDeed) (.ref C_NoRule) = some false)
    (su_NoDeed_NoFit : PySem.W.subIn K (.ref C_NoDeed) (.ref C_NoFit) = some false)
    (su_NoDeed_Quarrel : PySem.W.subIn K (.ref C_NoDeed) (.ref C_Quarrel) = some false)
    (su_NoDeed_NoProgram : PySem.W.subIn K (.ref C_NoDeed) (.ref C_NoProgram) = some false)
    (su_NoDeed_NoDeed : PySem.W.subIn K (.ref C_NoDeed) (.ref C_NoDeed) = some true)
    (su_NoDeed_TooDeep : PySem.W.subIn K (.ref C_NoDeed) (.ref C_TooDeep) = some false)
    (su_NoDeed_TooLong : PySem.W.subIn K (.ref C_NoDeed) (.ref C_TooLong) = some false)
    (su_NoDeed_NoName : PySem.W.subIn K (.ref C_NoDeed) (.ref C_NoName) = some false)
    (su_NoDeed_Taken : PySem.W.subIn K (.ref C_NoDeed) (.ref C_Taken) = some false)
    (su_NoDeed_Full : PySem.W.subIn K (.ref C_NoDeed) (.ref C_Full) = some false)
    (su_NoDeed_Twice : PySem.W.subIn K (.ref C_NoDeed) (.ref C_Twice) = some false)
    (su_NoDeed_NoStep : PySem.W.subIn K (.ref C_NoDeed) (.ref C_NoStep) = some false)
    (su_NoDeed_Needed : PySem.W.subIn K (.ref C_NoDeed) (.ref C_Needed) = some false)
    (su_NoDeed_NoText : PySem.W.subIn K (.ref C_NoDeed) (.ref C_NoText) = some false)
    (su_NoDeed_NoRow : PySem.W.subIn K (.ref C_NoDeed) (.ref C_NoRow) = some false)
    (su_TooDeep_CallError : PySem.W.subIn K (.ref C_TooDeep) (.ref CB) = some true)
    (su_TooDeep_NoWeb : PySem.W.subIn K (.ref C_TooDeep) (.ref C_NoWeb) = some false)
    (su_TooDeep_NoKind : PySem.W.subIn K (.ref C_TooDeep) (.ref C_NoKind) = some false)
    (su_TooDeep_NoBook : PySem.W.subIn K (.ref C_TooDeep) (.ref C_NoBook) = some false)
    (su_TooDeep_NoCall : PySem.W.subIn K (.ref C_TooDeep) (.ref C_NoCall) = some false)
    (su_TooDeep_NoRule : PySem.W.subIn K (.ref C_TooDeep) (.ref C_NoRule) = some false)
    (su_TooDeep_NoFit : PySem.W.subIn K (.ref C_TooDeep) (.ref C_NoFit) = some false)
    (su_TooDeep_Quarrel : PySem.W.subIn K (.ref C_TooDeep) (.ref C_Quarrel) = some false)
    (su_TooDeep_NoProgram : PySem.W.subIn K (.ref C_TooDeep) (.ref C_NoProgram) = some false)
    (su_TooDeep_NoDeed : PySem.W.subIn K (.ref C_TooDeep) (.ref C_NoDeed) = some false)
    (su_TooDeep_TooDeep : PySem.W.subIn K (.ref C_TooDeep) (.ref C_TooDeep) = some true)
    (su_TooDeep_TooLong : PySem.W.subIn K (.ref C_TooDeep) (.ref C_TooLong) = some false)
    (su_TooDeep_NoName : PySem.W.subIn K (.ref C_TooDeep) (.ref C_NoName) = some false)
    (su_TooDeep_Taken : PySem.W.subIn K (.ref C_TooDeep) (.ref C_Taken) = some false)
    (su_TooDeep_Full : PySem.W.subIn K (.ref C_TooDeep) (.ref C_Full) = some false)
    (su_TooDeep_Twice : PySem.W.subIn K (.ref C_TooDeep) (.ref C_Twice) = some false)
    (su_TooDeep_NoStep : PySem.W.subIn K (.ref C_TooDeep) (.ref C_NoStep) = some false)
    (su_TooDeep_Needed : PySem.W.subIn K (.ref C_TooDeep) (.ref C_Needed) = some false)
    (su_TooDeep_NoText : PySem.W.subIn K (.ref C_TooDeep) (.ref C_NoText) = some false)
    (su_TooDeep_NoRow : PySem.W.subIn K (.ref C_TooDeep) (.ref C_NoRow) = some false)
    (su_TooLong_CallError : PySem.W.subIn K (.ref C_TooLong) (.ref CB) = some true)
    (su_TooLong_NoWeb : PySem.W.subIn K (.ref C_TooLong) (.ref C_NoWeb) = some false)
    (su_TooLong_NoKind : PySem.W.subIn K (.ref C_TooLong) (.ref C_NoKind) = some false)
    (su_TooLong_NoBook : PySem.W.subIn K (.ref C_TooLong) (.ref C_NoBook) = some false)
    (su_TooLong_NoCall : PySem.W.subIn K (.ref C_TooLong) (.ref C_NoCall) = some false)
    (su_TooLong_NoRule : PySem.W.subIn K (.ref C_TooLong) (.ref C_NoRule) = some false)
    (su_TooLong_NoFit : PySem.W.subIn K (.ref C_TooLong) (.ref C_NoFit) = some false)
    (su_TooLong_Quarrel : PySem.W.subIn K (.ref C_TooLong) (.ref C_Quarrel) = some false)
    (su_TooLong_NoProgram : PySem.W.subIn K (.ref C_TooLong) (.ref C_NoProgram) = some false)
    (su_TooLong_NoDeed : PySem.W.subIn K (.ref C_TooLong) (.ref C_NoDeed) = some false)
    (su_TooLong_TooDeep : PySem.W.subIn K (.ref C_TooLong) (.ref C_TooDeep) = some false)
    (su_TooLong_TooLong : PySem.W.subIn K (.ref C_TooLong) (.ref C_TooLong) = some true)
    (su_TooLong_NoName : PySem.W.subIn K (.ref C_TooLong) (.ref C_NoName) = some false)
    (su_TooLong_Taken : PySem.W.subIn K (.ref C_TooLong) (.ref C_Taken) = some false)
    (su_TooLong_Full : PySem.W.subIn K (.ref C_TooLong) (.ref C_Full) = some false)
    (su_TooLong_Twice : PySem.W.subIn K (.ref C_TooLong) (.ref C_Twice) = some false)
    (su_TooLong_NoStep : PySem.W.subIn K (.ref C_TooLong) (.ref C_NoStep) = some false)
    (su_TooLong_Needed : PySem.W.subIn K (.ref C_TooLong) (.ref C_Needed) = some false)
    (su_TooLong_NoText : PySem.W.subIn K (.ref C_TooLong) (.ref C_NoText) = some false)
    (su_TooLong_NoRow : PySem.W.subIn K (.ref C_TooLong) (.ref C_NoRow) = some false)
    (su_NoName_CallError : PySem.W.subIn K (.ref C_NoName) (.ref CB) = some true)
    (su_NoName_NoWeb : PySem.W.subIn K (.ref C_NoName) (.ref C_NoWeb) = some false)
    (su_NoName_NoKind : PySem.W.subIn K (.ref C_NoName) (.ref C_NoKind) = some false)
    (su_NoName_NoBook : PySem.W.subIn K (.ref C_NoName) (.ref C_NoBook) = some false)
    (su_NoName_NoCall : PySem.W.subIn K (.ref C_NoName) (.ref C_NoCall) = some false)
    (su_NoName_NoRule : PySem.W.subIn K (.ref C_NoName) (.ref C_NoRule) = some false)
    (su_NoName_NoFit : PySem.W.subIn K (.ref C_NoName) (.ref C_NoFit) = some false)
    (su_NoName_Quarrel : PySem.W.subIn K (.ref C_NoName) (.ref C_Quarrel) = some false)
    (su_NoName_NoProgram : PySem.W.subIn K (.ref C_NoName) (.ref C_NoProgram) = some false)
    (su_NoName_NoDeed : PySem.W.subIn K (.ref C_NoName) (.ref C_NoDeed) = some false)
    (su_NoName_TooDeep : PySem.W.subIn K (.ref C_NoName) (.ref C_TooDeep) = some false)
    (su_NoName_TooLong : PySem.W.subIn K (.ref C_NoName) (.ref C_TooLong) = some false)
    (su_NoName_NoName : PySem.W.subIn K (.ref C_NoName) (.ref C_NoName) = some true)
    (su_NoName_Taken : PySem.W.subIn K (.ref C_NoName) (.ref C_Taken) = some false)
    (su_NoName_Full : PySem.W.subIn K (.ref C_NoName) (.ref C_Full) = some false)
    (su_NoName_Twice : PySem.W.subIn K (.ref C_NoName) (.ref C_Twice) = some false)
    (su_NoName_NoStep : PySem.W.subIn K (.ref C_NoName) (.ref C_NoStep) = some false)
    (su_NoName_Needed : PySem.W.subIn K (.ref C_NoName) (.ref C_Needed) = some false)
    (su_NoName_NoText : PySem.W.subIn K (.ref C_NoName) (.ref C_NoText) = some false)
    (su_NoName_NoRow : PySem.W.subIn K (.ref C_NoName) (.ref C_NoRow) = some false)
    (su_Taken_CallError : PySem.W.subIn K (.ref C_Taken) (.ref CB) = some true)
    (su_Taken_NoWeb : PySem.W.subIn K (.ref C_Taken) (.ref C_NoWeb) = some false)
    (su_Taken_NoKind : PySem.W.subIn K (.ref C_Taken) (.ref C_NoKind) = some false)
    (su_Taken_NoBook : PySem.W.subIn K (.ref C_Taken) (.ref C_NoBook) = some false)
    (su_Taken_NoCall : PySem.W.subIn K (.ref C_Taken) (.ref C_NoCall) = some false)
    (su_Taken_NoRule : PySem.W.subIn K (.ref C_Taken) (.ref C_NoRule) = some false)
    (su_Taken_NoFit : PySem.W.subIn K (.ref C_Taken) (.ref C_NoFit) = some false)
    (su_Taken_Quarrel : PySem.W.subIn K (.ref C_Taken) (.ref C_Quarrel) = some false)
    (su_Taken_NoProgram : PySem.W.subIn K (.ref C_Taken) (.ref C_NoProgram) = some false)
    (su_Taken_NoDeed : PySem.W.subIn K (.ref C_Taken) (.ref C_NoDeed) = some false)
    (su_Taken_TooDeep : PySem.W.subIn K (.ref C_Taken) (.ref C_TooDeep) = some false)
    (su_Taken_TooLong : PySem.W.subIn K (.ref C_Taken) (.ref C_TooLong) = some false)
    (su_Taken_NoName : PySem.W.subIn K (.ref C_Taken) (.ref C_NoName) = some false)
    (su_Taken_Taken : PySem.W.subIn K (.ref C_Taken) (.ref C_Taken) = some true)
    (su_Taken_Full : PySem.W.subIn K (.ref C_Taken) (.ref C_Full) = some false)
    (su_Taken_Twice : PySem.W.subIn K (.ref C_Taken) (.ref C_Twice) = some false)
    (su_Taken_NoStep : PySem.W.subIn K (.ref C_Taken) (.ref C_NoStep) = some false)
    (su_Taken_Needed : PySem.W.subIn K (.ref C_Taken) (.ref C_Needed) = some false)
    (su_Taken_NoText : PySem.W.subIn K (.ref C_Taken) (.ref C_NoText) = some false)
    (su_Taken_NoRow : PySem.W.subIn K (.ref C_Taken) (.ref C_NoRow) = some false)
    (su_Full_CallError : PySem.W.subIn K (.ref C_Full) (.ref CB) = some true)
    (su_Full_NoWeb : PySem.W.subIn K (.ref C_Full) (.ref C_NoWeb) = some false)
    (su_Full_NoKind : PySem.W.subIn K (.ref C_Full) (.ref C_NoKind) = some false)
    (su_Full_NoBook : PySem.W.subIn K (.ref C_Full) (.ref C_NoBook) = some false)
    (su_Full_NoCall : PySem.W.subIn K (.ref C_Full) (.ref C_NoCall) = some false)
    (su_Full_NoRule : PySem.W.subIn K (.ref C_Full) (.ref C_NoRule) = some false)
    (su_Full_NoFit : PySem.W.subIn K (.ref C_Full) (.ref C_NoFit) = some false)
    (su_Full_Quarrel : PySem.W.subIn K (.ref C_Full) (.ref C_Quarrel) = some false)
    (su_Full_NoProgram : PySem.W.subIn K (.ref C_Full) (.ref C_NoProgram) = some false)
    (su_Full_NoDeed : PySem.W.subIn K (.ref C_Full) (.ref C_NoDeed) = some false)
    (su_Full_TooDeep : PySem.W.subIn K (.ref C_Full) (.ref C_TooDeep) = some false)
    (su_Full_TooLong : PySem.W.subIn K (.ref C_Full) (.ref C_TooLong) = some false)
    (su_Full_NoName : PySem.W.subIn K (.ref C_Full) (.ref C_NoName) = some false)
    (su_Full_Taken : PySem.W.subIn K (.ref C_Full) (.ref C_Taken) = some false)
    (su_Full_Full : PySem.W.subIn K (.ref C_Full) (.ref C_Full) = some true)
    (su_Full_Twice : PySem.W.subIn K (.ref C_Full) (.ref C_Twice) = some false)
    (su_Full_NoStep : PySem.W.subIn K (.ref C_Full) (.ref C_NoStep) = some false)
    (su_Full_Needed : PySem.W.subIn K (.ref C_Full) (.ref C_Needed) = some false)
    (su_Full_NoText : PySem.W.subIn K (.ref C_Full) (.ref C_NoText) = some false)
    (su_Full_NoRow : PySem.W.subIn K (.ref C_Full) (.ref C_NoRow) = some false)
    (su_Twice_CallError : PySem.W.subIn K (.ref C_Twice) (.ref CB) = some true)
    (su_Twice_NoWeb : PySem.W.subIn K (.ref C_Twice) (.ref C_NoWeb) = some false)
    (su_Twice_NoKind : PySem.W.subIn K (.ref C_Twice) (.ref C_NoKind) = some false)
    (su_Twice_NoBook : PySem.W.subIn K (.ref C_Twice) (.ref C_NoBook) = some false)
    (su_Twice_NoCall : PySem.W.subIn K (.ref C_Twice) (.ref C_NoCall) = some false)
    (su_Twice_NoRule : PySem.W.subIn K (.ref C_Twice) (.ref C_NoRule) = some false)
    (su_Twice_NoFit : PySem.W.subIn K (.ref C_Twice) (.ref C_NoFit) = some false)
    (su_Twice_Quarrel : PySem.W.subIn K (.ref C_Twice) (.ref C_Quarrel) = some false)
    (su_Twice_NoProgram : PySem.W.subIn K (.ref C_Twice) (.ref C_NoProgram) = some false)
    (su_Twice_NoDeed : PySem.W.subIn K (.ref C_Twice) (.ref C_NoDeed) = some false)
    (su_Twice_TooDeep : PySem.W.subIn K (.ref C_Twice) (.ref C_TooDeep) = some false)
    (su_Twice_TooLong : PySem.W.subIn K (.ref C_Twice) (.ref C_TooLong) = some false)
    (su_Twice_NoName : PySem.W.subIn K (.ref C_Twice) (.ref C_NoName) = some false)
    (su_Twice_Taken : PySem.W.subIn K (.ref C_Twice) (.ref C_Taken) = some false)
    (su_Twice_Full : PySem.W.subIn K (.ref C_Twice) (.ref C_Full) = some false)
    (su_Twice_Twice : PySem.W.subIn K (.ref C_Twice) (.ref C_Twice) = some true)
    (su_Twice_NoStep : PySem.W.subIn K (.ref C_Twice) (.ref C_NoStep) = some false)
    (su_Twice_Needed : PySem.W.subIn K (.ref C_Twice) (.ref C_Needed) = some false)
    (su_Twice_NoText : PySem.W.subIn K (.ref C_Twice) (.ref C_NoText) = some false)
    (su_Twice_NoRow : PySem.W.subIn K (.ref C_Twice) (.ref C_NoRow) = some false)
    (su_NoStep_CallError : PySem.W.subIn K (.ref C_NoStep) (.ref CB) = some true)
    (su_NoStep_NoWeb : PySem.W.subIn K (.ref C_NoStep) (.ref C_NoWeb) = some false)
    (su_NoStep_NoKind : PySem.W.subIn K (.ref C_NoStep) (.ref C_NoKind) = some false)
    (su_NoStep_NoBook : PySem.W.subIn K (.ref C_NoStep) (.ref C_NoBook) = some false)
    (su_NoStep_NoCall : PySem.W.subIn K (.ref C_NoStep) (.ref C_NoCall) = some false)
    (su_NoStep_NoRule : PySem.W.subIn K (.ref C_NoStep) (.ref C_NoRule) = some false)
    (su_NoStep_NoFit : PySem.W.subIn K (.ref C_NoStep) (.ref C_NoFit) = some false)
    (su_NoStep_Quarrel : PySem.W.subIn K (.ref C_NoStep) (.ref C_Quarrel) = some false)
    (su_NoStep_NoProgram : PySem.W.subIn K (.ref C_NoStep) (.ref C_NoProgram) = some false)
    (su_NoStep_NoDeed : PySem.W.subIn K (.ref C_NoStep) (.ref C_NoDeed) = some false)
    (su_NoStep_TooDeep : PySem.W.subIn K (.ref C_NoStep) (.ref C_TooDeep) = some false)
    (su_NoStep_TooLong : PySem.W.subIn K (.ref C_NoStep) (.ref C_TooLong) = some false)
    (su_NoStep_NoName : PySem.W.subIn K (.ref C_NoStep) (.ref C_NoName) = some false)
    (su_NoStep_Taken : PySem.W.subIn K (.ref C_NoStep) (.ref C_Taken) = some false)
    (su_NoStep_Full : PySem.W.subIn K (.ref C_NoStep) (.ref C_Full) = some false)
    (su_NoStep_Twice : PySem.W.subIn K (.ref C_NoStep) (.ref C_Twice) = some false)
    (su_NoStep_NoStep : PySem.W.subIn K (.ref C_NoStep) (.ref C_NoStep) = some true)
    (su_NoStep_Needed : PySem.W.subIn K (.ref C_NoStep) (.ref C_Needed) = some false)
    (su_NoStep_NoText : PySem.W.subIn K (.ref C_NoStep) (.ref C_NoText) = some false)
    (su_NoStep_NoRow : PySem.W.subIn K (.ref C_NoStep) (.ref C_NoRow) = some false)
    (su_Needed_CallError : PySem.W.subIn K (.ref C_Needed) (.ref CB) = some true)
    (su_Needed_NoWeb : PySem.W.subIn K (.ref C_Needed) (.ref C_NoWeb) = some false)
    (su_Needed_NoKind : PySem.W.subIn K (.ref C_Needed) (.ref C_NoKind) = some false)
    (su_Needed_NoBook : PySem.W.subIn K (.ref C_Needed) (.ref C_NoBook) = some false)
    (su_Needed_NoCall : PySem.W.subIn K (.ref C_Needed) (.ref C_NoCall) = some false)
    (su_Needed_NoRule : PySem.W.subIn K (.ref C_Needed) (.ref C_NoRule) = some false)
    (su_Needed_NoFit : PySem.W.subIn K (.ref C_Needed) (.ref C_NoFit) = some false)
    (su_Needed_Quarrel : PySem.W.subIn K (.ref C_Needed) (.ref C_Quarrel) = some false)
    (su_Needed_NoProgram : PySem.W.subIn K (.ref C_Needed) (.ref C_NoProgram) = some false)
    (su_Needed_NoDeed : PySem.W.subIn K (.ref C_Needed) (.ref C_NoDeed) = some false)
    (su_Needed_TooDeep : PySem.W.subIn K (.ref C_Needed) (.ref C_TooDeep) = some false)
    (su_Needed_TooLong : PySem.W.subIn K (.ref C_Needed) (.ref C_TooLong) = some false)
    (su_Needed_NoName : PySem.W.subIn K (.ref C_Needed) (.ref C_NoName) = some false)
    (su_Needed_Taken : PySem.W.subIn K (.ref C_Needed) (.ref C_Taken) = some false)
    (su_Needed_Full : PySem.W.subIn K (.ref C_Needed) (.ref C_Full) = some false)
    (su_Needed_Twice : PySem.W.subIn K (.ref C_Needed) (.ref C_Twice) = some false)
    (su_Needed_NoStep : PySem.W.subIn K (.ref C_Needed) (.ref C_NoStep) = some false)
    (su_Needed_Needed : PySem.W.subIn K (.ref C_Needed) (.ref C_Needed) = some true)
    (su_Needed_NoText : PySem.W.subIn K (.ref C_Needed) (.ref C_NoText) = some false)
    (su_Needed_NoRow : PySem.W.subIn K (.ref C_Needed) (.ref C_NoRow) = some false)
    (su_NoText_CallError : PySem.W.subIn K (.ref C_NoText) (.ref CB) = some true)
    (su_NoText_NoWeb : PySem.W.subIn K (.ref C_NoText) (.ref C_NoWeb) = some false)
    (su_NoText_NoKind : PySem.W.subIn K (.ref C_NoText) (.ref C_NoKind) = some false)
    (su_NoText_NoBook : PySem.W.subIn K (.ref C_NoText) (.ref C_NoBook) = some false)
    (su_NoText_NoCall : PySem.W.subIn K (.ref C_NoText) (.ref C_NoCall) = some false)
    (su_NoText_NoRule : PySem.W.subIn K (.ref C_NoText) (.ref C_NoRule) = some false)
    (su_NoText_NoFit : PySem.W.subIn K (.ref C_NoText) (.ref C_NoFit) = some false)
    (su_NoText_Quarrel : PySem.W.subIn K (.ref C_NoText) (.ref C_Quarrel) = some false)
    (su_NoText_NoProgram : PySem.W.subIn K (.ref C_NoText) (.ref C_NoProgram) = some false)
    (su_NoText_NoDeed : PySem.W.subIn K (.ref C_NoText) (.ref C_NoDeed) = some false)
    (su_NoText_TooDeep : PySem.W.subIn K (.ref C_NoText) (.ref C_TooDeep) = some false)
    (su_NoText_TooLong : PySem.W.subIn K (.ref C_NoText) (.ref C_TooLong) = some false)
    (su_NoText_NoName : PySem.W.subIn K (.ref C_NoText) (.ref C_NoName) = some false)
    (su_NoText_Taken : PySem.W.subIn K (.ref C_NoText) (.ref C_Taken) = some false)
    (su_NoText_Full : PySem.W.subIn K (.ref C_NoText) (.ref C_Full) = some false)
    (su_NoText_Twice : PySem.W.subIn K (.ref C_NoText) (.ref C_Twice) = some false)
    (su_NoText_NoStep : PySem.W.subIn K (.ref C_NoText) (.ref C_NoStep) = some false)
    (su_NoText_Needed : PySem.W.subIn K (.ref C_NoText) (.ref C_Needed) = some false)
    (su_NoText_NoText : PySem.W.subIn K (.ref C_NoText) (.ref C_NoText) = some true)
    (su_NoText_NoRow : PySem.W.subIn K (.ref C_NoText) (.ref C_NoRow) = some false)
    (su_NoRow_CallError : PySem.W.subIn K (.ref C_NoRow) (.ref CB) = some true)
    (su_NoRow_NoWeb : PySem.W.subIn K (.ref C_NoRow) (.ref C_NoWeb) = some false)
    (su_NoRow_NoKind : PySem.W.subIn K (.ref C_NoRow) (.ref C_NoKind) = some false)
    (su_NoRow_NoBook : PySem.W.subIn K (.ref C_NoRow) (.ref C_NoBook) = some false)
    (su_NoRow_NoCall : PySem.W.subIn K (.ref C_NoRow) (.ref C_NoCall) = some false)
    (su_NoRow_NoRule : PySem.W.subIn K (.ref C_NoRow) (.ref C_NoRule) = some false)
    (su_NoRow_NoFit : PySem.W.subIn K (.ref C_NoRow) (.ref C_NoFit) = some false)
    (su_NoRow_Quarrel : PySem.W.subIn K (.ref C_NoRow) (.ref C_Quarrel) = some false)
    (su_NoRow_NoProgram : PySem.W.subIn K (.ref C_NoRow) (.ref C_NoProgram) = some false)
    (su_NoRow_NoDeed : PySem.W.subIn K (.ref C_NoRow) (.ref C_NoDeed) = some false)
    (su_NoRow_TooDeep : PySem.W.subIn K (.ref C_NoRow) (.ref C_TooDeep) = some false)
    (su_NoRow_TooLong : PySem.W.subIn K (.ref C_NoRow) (.ref C_TooLong) = some false)
    (su_NoRow_NoName : PySem.W.subIn K (.ref C_NoRow) (.ref C_NoName) = some false)
    (su_NoRow_Taken : PySem.W.subIn K (.ref C_NoRow) (.ref C_Taken) = some false)
    (su_NoRow_Full : PySem.W.subIn K (.ref C_NoRow) (.ref C_Full) = some false)
    (su_NoRow_Twice : PySem.W.subIn K (.ref C_NoRow) (.ref C_Twice) = some false)
    (su_NoRow_NoStep : PySem.W.subIn K (.ref C_NoRow) (.ref C_NoStep) = some false)
    (su_NoRow_Needed : PySem.W.subIn K (.ref C_NoRow) (.ref C_Needed) = some false)
    (su_NoRow_NoText : PySem.W.subIn K (.ref C_NoRow) (.ref C_NoText) = some false)
    (su_NoRow_NoRow : PySem.W.subIn K (.ref C_NoRow) (.ref C_NoRow) = some true)
    (lI : K.lookup fI = some ⟨ocI, odI, .func (PySem.W.fnOf "__init__" "CallError.__init__" (defArgs sI) (defBody sI) (defScope sI) .none kVI dcI pmI anI cdI ctI), slI⟩)
    (cI : PySem.W.codeIn K cdI "CallError.__init__" = true)
    (kI : PySem.W.keepIn K (.ref fI) = true)
    (tI : PySem.W.typeIn K (.ref fI) = some (.type "function")) :
    ∃ fd : FuncData, (∀ (s : Shared) (v : Value), BindsTo s fd ⟨[v], []⟩ [("_law_script", v)]) ∧ ∀ base : Heap, K.In base → base.Ns mainGlobals mg → FnOk l.prog w K mg base (L2.CX l.prog w) 3 fa fd ["_law_script"] (spLaw K) := by
  have e := hfa.symm.trans (PySem.W.mg_of X G a3)
  cases e
  have B : Bl mg := { z_ValueError := PySem.W.mg_none_of X G z_ValueError, z_any := PySem.W.mg_none_of X G z_any, z_isinstance := PySem.W.mg_none_of X G z_isinstance, z_range := PySem.W.mg_none_of X G z_range }
  have F0 := fun_mk (st := s__law_value) l0 c0 k0
  have F1 := fun_mk (st := s__law_first) l1 c1 k1
  have F2 := fun_mk (st := s__law_rest) l2 c2 k2
  have F3 := fun_mk (st := s_law) l3 c3 k3
  refine ⟨PySem.W.fnOf "law" "law" (defArgs s_law) (defBody s_law) (defScope s_law) .none kV3 dc3 pm3 an3 cd3 ct3, fun s v => .of_eq rfl, fun base _ _ => ?_⟩
  have FI := fun_mk (st := sI) lI cI kI
  have okI : FnOk l.prog w K mg base CX0 1 fI _ ["self", "at"] (spInit K) := init_ok FI ⟨rfl, rfl, rfl, by decide +kernel, rfl, by decide +kernel, by decide +kernel⟩ rfl (by decide +kernel)
  have bI := FI.binds (ps := ["self", "at"]) fun _ _ _ _ _ _ us hl => match us, hl with | [_, _], _ => rfl
  have TB : Tb K mg errTab := ⟨[("CallError", CB), ("NoWeb", C_NoWeb), ("NoKind", C_NoKind), ("NoBook", C_NoBook), ("NoCall", C_NoCall), ("NoRule", C_NoRule), ("NoFit", C_NoFit), ("Quarrel", C_Quarrel), ("NoProgram", C_NoProgram), ("NoDeed", C_NoDeed), ("TooDeep", C_TooDeep), ("TooLong", C_TooLong), ("NoName", C_NoName), ("Taken", C_Taken), ("Full", C_Full), ("Twice", C_Twice), ("NoStep", C_NoStep), ("Needed", C_Needed), ("NoText", C_NoText), ("NoRow", C_NoRow)], rfl, ⟨(al_cons (PySem.W.mg_of X G eB) (al_cons (PySem.W.mg_of X G e_NoWeb) (al_cons (PySem.W.mg_of X G e_NoKind) (al_cons (PySem.W.mg_of X G e_NoBook) (al_cons (PySem.W.mg_of X G e_NoCall) (al_cons (PySem.W.mg_of X G e_NoRule) (al_cons (PySem.W.mg_of X G e_NoFit) (al_cons (PySem.W.mg_of X G e_Quarrel) (al_cons (PySem.W.mg_of X G e_NoProgram) (al_cons (PySem.W.mg_of X G e_NoDeed) (al_cons (PySem.W.mg_of X G e_TooDeep) (al_cons (PySem.W.mg_of X G e_TooLong) (al_cons (PySem.W.mg_of X G e_NoName) (al_cons (PySem.W.mg_of X G e_Taken) (al_cons (PySem.W.mg_of X G e_Full) (al_cons (PySem.W.mg_of X G e_Twice) (al_cons (PySem.W.mg_of X G e_NoStep) (al_cons (PySem.W.mg_of X G e_Needed) (al_cons (PySem.W.mg_of X G e_NoText) (al_cons (PySem.W.mg_of X G e_NoRow) al_nil)))))))))))))))))))), (al_cons eB (al_cons e_NoWeb (al_cons e_NoKind (al_cons e_NoBook (al_cons e_NoCall (al_cons e_NoRule (al_cons e_NoFit (al_cons e_Quarrel (al_cons e_NoProgram (al_cons e_NoDeed (al_cons e_TooDeep (al_cons e_TooLong (al_cons e_NoName (al_cons e_Taken (al_cons e_Full (al_cons e_Twice (al_cons e_NoStep (al_cons e_Needed (al_cons e_NoText (al_cons e_NoRow al_nil)))))))))))))))))))), (al_cons ⟨ga_CallError, gg_CallError, u_CallError, va_CallError, hd_CallError, at_CallError, ca_CallError, spG, tkG, mo_CallError, y_CallError⟩ (al_cons ⟨ga_NoWeb, gg_NoWeb, u_NoWeb, va_NoWeb, hd_NoWeb, at_NoWeb, ca_NoWeb, spG, tkG, mo_NoWeb, y_NoWeb⟩ (al_cons ⟨ga_NoKind, gg_NoKind, u_NoKind, va_NoKind, hd_NoKind, at_NoKind, ca_NoKind, spG, tkG, mo_NoKind, y_NoKind⟩ (al_cons ⟨ga_NoBook, gg_NoBook, u_NoBook, va_NoBook, hd_NoBook, at_NoBook, ca_NoBook, spG, tkG, mo_NoBook, y_NoBook⟩ (al_cons ⟨ga_NoCall, gg_NoCall, u_NoCall, va_NoCall, hd_NoCall, at_NoCall, ca_NoCall, spG, tkG, mo_NoCall, y_NoCall⟩ (al_cons ⟨ga_NoRule, gg_NoRule, u_NoRule, va_NoRule, hd_NoRule, at_NoRule, ca_NoRule, spG, tkG, mo_NoRule, y_NoRule⟩ (al_cons ⟨ga_NoFit, gg_NoFit, u_NoFit, va_NoFit, hd_NoFit, at_NoFit, ca_NoFit, spG, tkG, mo_NoFit, y_NoFit⟩ (al_cons ⟨ga_Quarrel, gg_Quarrel, u_Quarrel, va_Quarrel, hd_Quarrel, at_Quarrel, ca_Quarrel, spG, tkG, mo_Quarrel, y_Quarrel⟩ (al_cons ⟨ga_NoProgram, gg_NoProgram, u_NoProgram, va_NoProgram, hd_NoProgram, at_NoProgram, ca_NoProgram, spG, tkG, mo_NoProgram, y_NoProgram⟩ (al_cons ⟨ga_NoDeed, gg_NoDeed, u_NoDeed, va_NoDeed, hd_NoDeed, at_NoDeed, ca_NoDeed, spG, tkG, mo_NoDeed, y_NoDeed⟩ (al_cons ⟨ga_TooDeep, gg_TooDeep, u_TooDeep, va_TooDeep, hd_TooDeep, at_TooDeep, ca_TooDeep, spG, tkG, mo_TooDeep, y_TooDeep⟩ (al_cons ⟨ga_TooLong, gg_TooLong, u_TooLong, va_TooLong, hd_TooLong, at_TooLong, ca_TooLong, spG, tkG, mo_TooLong, y_TooLong⟩ (al_cons ⟨ga_NoName, gg_NoName, u_NoName, va_NoName, hd_NoName, at_NoName, ca_NoName, spG, tkG, mo_NoName, y_NoName⟩ (al_cons ⟨ga_Taken, gg_Taken, u_Taken, va_Taken, hd_Taken, at_Taken, ca_Taken, spG, tkG, mo_Taken, y_Taken⟩ (al_cons ⟨ga_Full, gg_Full, u_Full, va_Full, hd_Full, at_Full, ca_Full, spG, tkG, mo_Full, y_Full⟩ (al_cons ⟨ga_Twice, gg_Twice, u_Twice, va_Twice, hd_Twice, at_Twice, ca_Twice, spG, tkG, mo_Twice, y_Twice⟩ (al_cons ⟨ga_NoStep, gg_NoStep, u_NoStep, va_NoStep, hd_NoStep, at_NoStep, ca_NoStep, spG, tkG, mo_NoStep, y_NoStep⟩ (al_cons ⟨ga_Needed, gg_Needed, u_Needed, va_Needed, hd_Needed, at_Needed, ca_Needed, spG, tkG, mo_Needed, y_Needed⟩ (al_cons ⟨ga_NoText, gg_NoText, u_NoText, va_NoText, hd_NoText, at_NoText, ca_NoText, spG, tkG, mo_NoText, y_NoText⟩ (al_cons ⟨ga_NoRow, gg_NoRow, u_NoRow, va_NoRow, hd_NoRow, at_NoRow, ca_NoRow, spG, tkG, mo_NoRow, y_NoRow⟩ al_nil)))))))))))))))))))), (al_cons ((al_cons su_CallError_CallError (al_cons su_CallError_NoWeb (al_cons su_CallError_NoKind (al_cons su_CallError_NoBook (al_cons su_CallError_NoCall (al_cons su_CallError_NoRule (al_cons su_CallError_NoFit (al_cons su_CallError_Quarrel (al_cons su_CallError_NoProgram (al_cons su_CallError_NoDeed (al_cons su_CallError_TooDeep (al_cons su_CallError_TooLong (al_cons su_CallError_NoName (al_cons su_CallError_Taken (al_cons su_CallError_Full (al_cons su_CallError_Twice (al_cons su_CallError_NoStep (al_cons su_CallError_Needed (al_cons su_CallError_NoText (al_cons su_CallError_NoRow al_nil))))))))))))))))))))) (al_cons ((al_cons su_NoWeb_CallError (al_cons su_NoWeb_NoWeb (al_cons su_NoWeb_NoKind (al_cons su_NoWeb_NoBook (al_cons su_NoWeb_NoCall (al_cons su_NoWeb_NoRule (al_cons su_NoWeb_NoFit (al_cons su_NoWeb_Quarrel (al_cons su_NoWeb_NoProgram (al_cons su_NoWeb_NoDeed (al_cons su_NoWeb_TooDeep (al_cons su_NoWeb_TooLong (al_cons su_NoWeb_NoName (al_cons su_NoWeb_Taken (al_cons su_NoWeb_Full (al_cons su_NoWeb_Twice (al_cons su_NoWeb_NoStep (al_cons su_NoWeb_Needed (al_cons su_NoWeb_NoText (al_cons su_NoWeb_NoRow al_nil))))))))))))))))))))) (al_cons ((al_cons su_NoKind_CallError (al_cons su_NoKind_NoWeb (al_cons su_NoKind_NoKind (al_cons su_NoKind_NoBook (al_cons su_NoKind_NoCall (al_cons su_NoKind_NoRule (al_cons su_NoKind_NoFit (al_cons su_NoKind_Quarrel (al_cons su_NoKind_NoProgram (al_cons su_NoKind_NoDeed (al_cons su_NoKind_TooDeep (al_cons su_NoKind_TooLong (al_cons su_NoKind_NoName (al_cons su_NoKind_Taken (al_cons su_NoKind_Full (al_cons su_NoKind_Twice (al_cons su_NoKind_NoStep (al_cons su_NoKind_Needed (al_cons su_NoKind_NoText (al_cons su_NoKind_NoRow al_nil))))))))))))))))))))) (al_cons ((al_cons su_NoBook_CallError (al_cons su_NoBook_NoWeb (al_cons su_NoBook_NoKind (al_cons su_NoBook_NoBook (al_cons su_NoBook_NoCall (al_cons su_NoBook_NoRule (al_cons su_NoBook_NoFit (al_cons su_NoBook_Quarrel (al_cons su_NoBook_NoProgram (al_cons su_NoBook_NoDeed (al_cons su_NoBook_TooDeep (al_cons su_NoBook_TooLong (al_cons su_NoBook_NoName (al_cons su_NoBook_Taken (al_cons su_NoBook_Full (al_cons su_NoBook_Twice (al_cons su_NoBook_NoStep (al_cons su_NoBook_Needed (al_cons su_NoBook_NoText (al_cons su_NoBook_NoRow al_nil))))))))))))))))))))) (al_cons ((al_cons su_NoCall_CallError (al_cons su_NoCall_NoWeb (al_cons su_NoCall_NoKind (al_cons su_NoCall_NoBook (al_cons su_NoCall_NoCall (al_cons su_NoCall_NoRule (al_cons su_NoCall_NoFit (al_cons su_NoCall_Quarrel (al_cons su_NoCall_NoProgram (al_cons su_NoCall_NoDeed (al_cons su_NoCall_TooDeep (al_cons su_NoCall_TooLong (al_cons su_NoCall_NoName (al_cons su_NoCall_Taken (al_cons su_NoCall_Full (al_cons su_NoCall_Twice (al_cons su_NoCall_NoStep (al_cons su_NoCall_Needed (al_cons su_NoCall_NoText (al_cons su_NoCall_NoRow al_nil))))))))))))))))))))) (al_cons ((al_cons su_NoRule_CallError (al_cons su_NoRule_NoWeb (al_cons su_NoRule_NoKind (al_cons su_NoRule_NoBook (al_cons su_NoRule_NoCall (al_cons su_NoRule_NoRule (al_cons su_NoRule_NoFit (al_cons su_NoRule_Quarrel (al_cons su_NoRule_NoProgram (al_cons su_NoRule_NoDeed (al_cons su_NoRule_TooDeep (al_cons su_NoRule_TooLong (al_cons su_NoRule_NoName (al_cons su_NoRule_Taken (al_cons su_NoRule_Full (al_cons su_NoRule_Twice (al_cons su_NoRule_NoStep (al_cons su_NoRule_Needed (al_cons su_NoRule_NoText (al_cons su_NoRule_NoRow al_nil))))))))))))))))))))) (al_cons ((al_cons su_NoFit_CallError (al_cons su_NoFit_NoWeb (al_cons su_NoFit_NoKind (al_cons su_NoFit_NoBook (al_cons su_NoFit_NoCall (al_cons su_NoFit_NoRule (al_cons su_NoFit_NoFit (al_cons su_NoFit_Quarrel (al_cons su_NoFit_NoProgram (al_cons su_NoFit_NoDeed (al_cons su_NoFit_TooDeep (al_cons su_NoFit_TooLong (al_cons su_NoFit_NoName (al_cons su_NoFit_Taken (al_cons su_NoFit_Full (al_cons su_NoFit_Twice (al_cons su_NoFit_NoStep (al_cons su_NoFit_Needed (al_cons su_NoFit_NoText (al_cons su_NoFit_NoRow al_nil))))))))))))))))))))) (al_cons ((al_cons su_Quarrel_CallError (al_cons su_Quarrel_NoWeb (al_cons su_Quarrel_NoKind (al_cons su_Quarrel_NoBook (al_cons su_Quarrel_NoCall (al_cons su_Quarrel_NoRule (al_cons su_Quarrel_NoFit (al_cons su_Quarrel_Quarrel (al_cons su_Quarrel_NoProgram (al_cons su_Quarrel_NoDeed (al_cons su_Quarrel_TooDeep (al_cons su_Quarrel_TooLong (al_cons su_Quarrel_NoName (al_cons su_Quarrel_Taken (al_cons su_Quarrel_Full (al_cons su_Quarrel_Twice (al_cons su_Quarrel_NoStep (al_cons su_Quarrel_Needed (al_cons su_Quarrel_NoText (al_cons su_Quarrel_NoRow al_nil))))))))))))))))))))) (al_cons ((al_cons su_NoProgram_CallError (al_cons su_NoProgram_NoWeb (al_cons su_NoProgram_NoKind (al_cons su_NoProgram_NoBook (al_cons su_NoProgram_NoCall (al_cons su_NoProgram_NoRule (al_cons su_NoProgram_NoFit (al_cons su_NoProgram_Quarrel (al_cons su_NoProgram_NoProgram (al_cons su_NoProgram_NoDeed (al_cons su_NoProgram_TooDeep (al_cons su_NoProgram_TooLong (al_cons su_NoProgram_NoName (al_cons su_NoProgram_Taken (al_cons su_NoProgram_Full (al_cons su_NoProgram_Twice (al_cons su_NoProgram_NoStep (al_cons su_NoProgram_Needed (al_cons su_NoProgram_NoText (al_cons su_NoProgram_NoRow al_nil))))))))))))))))))))) (al_cons ((al_cons su_NoDeed_CallError (al_cons su_NoDeed_NoWeb (al_cons su_NoDeed_NoKind (al_cons su_NoDeed_NoBook (al_cons su_NoDeed_NoCall (al_cons su_NoDeed_NoRule (al_cons su_NoDeed_NoFit (al_cons su_NoDeed_Quarrel (al_cons su_NoDeed_NoProgram (al_cons su_NoDeed_NoDeed (al_cons su_NoDeed_TooDeep (al_cons su_NoDeed_TooLong (al_cons su_NoDeed_NoName (al_cons su_NoDeed_Taken (al_cons su_NoDeed_Full (al_cons su_NoDeed_Twice (al_cons su_NoDeed_NoStep (al_cons su_NoDeed_Needed (al_cons su_NoDeed_NoText (al_cons su_NoDeed_NoRow al_nil))))))))))))))))))))) (al_cons ((al_cons su_TooDeep_CallError (al_cons su_TooDeep_NoWeb (al_cons su_TooDeep_NoKind (al_cons su_TooDeep_NoBook (al_cons su_TooDeep_NoCall (al_cons su_TooDeep_NoRule (al_cons su_TooDeep_NoFit (al_cons su_TooDeep_Quarrel (al_cons su_TooDeep_NoProgram (al_cons su_TooDeep_NoDeed (al_cons su_TooDeep_TooDeep (al_cons su_TooDeep_TooLong (al_cons su_TooDeep_NoName (al_cons su_TooDeep_Taken (al_cons su_TooDeep_Full (al_cons su_TooDeep_Twice (al_cons su_TooDeep_NoStep (al_cons su_TooDeep_Needed (al_cons su_TooDeep_NoText (al_cons su_TooDeep_NoRow al_nil))))))))))))))))))))) (al_cons ((al_cons su_TooLong_CallError (al_cons su_TooLong_NoWeb (al_cons su_TooLong_NoKind (al_cons su_TooLong_NoBook (al_cons su_TooLong_NoCall (al_cons su_TooLong_NoRule (al_cons su_TooLong_NoFit (al_cons su_TooLong_Quarrel (al_cons su_TooLong_NoProgram (al_cons su_TooLong_NoDeed (al_cons su_TooLong_TooDeep (al_cons su_TooLong_TooLong (al_cons su_TooLong_NoName (al_cons su_TooLong_Taken (al_cons su_TooLong_Full (al_cons su_TooLong_Twice (al_cons su_TooLong_NoStep (al_cons su_TooLong_Needed (al_cons su_TooLong_NoText (al_cons su_TooLong_NoRow al_nil))))))))))))))))))))) (al_cons ((al_cons su_NoName_CallError (al_cons su_NoName_NoWeb (al_cons su_NoName_NoKind (al_cons su_NoName_NoBook (al_cons su_NoName_NoCall (al_cons su_NoName_NoRule (al_cons su_NoName_NoFit (al_cons su_NoName_Quarrel (al_cons su_NoName_NoProgram (al_cons su_NoName_NoDeed (al_cons su_NoName_TooDeep (al_cons su_NoName_TooLong (al_cons su_NoName_NoName (al_cons su_NoName_Taken (al_cons su_NoName_Full (al_cons su_NoName_Twice (al_cons su_NoName_NoStep (al_cons su_NoName_Needed (al_cons su_NoName_NoText (al_cons su_NoName_NoRow al_nil))))))))))))))))))))) (al_cons ((al_cons su_Taken_CallError (al_cons su_Taken_NoWeb (al_cons su_Taken_NoKind (al_cons su_Taken_NoBook (al_cons su_Taken_NoCall (al_cons su_Taken_NoRule (al_cons su_Taken_NoFit (al_cons su_Taken_Quarrel (al_cons su_Taken_NoProgram (al_cons su_Taken_NoDeed (al_cons su_Taken_TooDeep (al_cons su_Taken_TooLong (al_cons su_Taken_NoName (al_cons su_Taken_Taken (al_cons su_Taken_Full (al_cons su_Taken_Twice (al_cons su_Taken_NoStep (al_cons su_Taken_Needed (al_cons su_Taken_NoText (al_cons su_Taken_NoRow al_nil))))))))))))))))))))) (al_cons ((al_cons su_Full_CallError (al_cons su_Full_NoWeb (al_cons su_Full_NoKind (al_cons su_Full_NoBook (al_cons su_Full_NoCall (al_cons su_Full_NoRule (al_cons su_Full_NoFit (al_cons su_Full_Quarrel (al_cons su_Full_NoProgram (al_cons su_Full_NoDeed (al_cons su_Full_TooDeep (al_cons su_Full_TooLong (al_cons su_Full_NoName (al_cons su_Full_Taken (al_cons su_Full_Full (al_cons su_Full_Twice (al_cons su_Full_NoStep (al_cons su_Full_Needed (al_cons su_Full_NoText (al_cons su_Full_NoRow al_nil))))))))))))))))))))) (al_cons ((al_cons su_Twice_CallError (al_cons su_Twice_NoWeb (al_cons su_Twice_NoKind (al_cons su_Twice_NoBook (al_cons su_Twice_NoCall (al_cons su_Twice_NoRule (al_cons su_Twice_NoFit (al_cons su_Twice_Quarrel (al_cons su_Twice_NoProgram (al_cons su_Twice_NoDeed (al_cons su_Twice_TooDeep (al_cons su_Twice_TooLong (al_cons su_Twice_NoName (al_cons su_Twice_Taken (al_cons su_Twice_Full (al_cons su_Twice_Twice (al_cons su_Twice_NoStep (al_cons su_Twice_Needed (al_cons su_Twice_NoText (al_cons su_Twice_NoRow al_nil))))))))))))))))))))) (al_cons ((al_cons su_NoStep_CallError (al_cons su_NoStep_NoWeb (al_cons su_NoStep_NoKind (al_cons su_NoStep_NoBook (al_cons su_NoStep_NoCall (al_cons su_NoStep_NoRule (al_cons su_NoStep_NoFit (al_cons su_NoStep_Quarrel (al_cons su_NoStep_NoProgram (al_cons su_NoStep_NoDeed (al_cons su_NoStep_TooDeep (al_cons su_NoStep_TooLong (al_cons su_NoStep_NoName (al_cons su_NoStep_Taken (al_cons su_NoStep_Full (al_cons su_NoStep_Twice (al_cons su_NoStep_NoStep (al_cons su_NoStep_Needed (al_cons su_NoStep_NoText (al_cons su_NoStep_NoRow al_nil))))))))))))))))))))) (al_cons ((al_cons su_Needed_CallError (al_cons su_Needed_NoWeb (al_cons su_Needed_NoKind (al_cons su_Needed_NoBook (al_cons su_Needed_NoCall (al_cons su_Needed_NoRule (al_cons su_Needed_NoFit (al_cons su_Needed_Quarrel (al_cons su_Needed_NoProgram (al_cons su_Needed_NoDeed (al_cons su_Needed_TooDeep (al_cons su_Needed_TooLong (al_cons su_Needed_NoName (al_cons su_Needed_Taken (al_cons su_Needed_Full (al_cons su_Needed_Twice (al_cons su_Needed_NoStep (al_cons su_Needed_Needed (al_cons su_Needed_NoText (al_cons su_Needed_NoRow al_nil))))))))))))))))))))) (al_cons ((al_cons su_NoText_CallError (al_cons su_NoText_NoWeb (al_cons su_NoText_NoKind (al_cons su_NoText_NoBook (al_cons su_NoText_NoCall (al_cons su_NoText_NoRule (al_cons su_NoText_NoFit (al_cons su_NoText_Quarrel (al_cons su_NoText_NoProgram (al_cons su_NoText_NoDeed (al_cons su_NoText_TooDeep (al_cons su_NoText_TooLong (al_cons su_NoText_NoName (al_cons su_NoText_Taken (al_cons su_NoText_Full (al_cons su_NoText_Twice (al_cons su_NoText_NoStep (al_cons su_NoText_Needed (al_cons su_NoText_NoText (al_cons su_NoText_NoRow al_nil))))))))))))))))))))) (al_cons ((al_cons su_NoRow_CallError (al_cons su_NoRow_NoWeb (al_cons su_NoRow_NoKind (al_cons su_NoRow_NoBook (al_cons su_NoRow_NoCall (al_cons su_NoRow_NoRule (al_cons su_NoRow_NoFit (al_cons su_NoRow_Quarrel (al_cons su_NoRow_NoProgram (al_cons su_NoRow_NoDeed (al_cons su_NoRow_TooDeep (al_cons su_NoRow_TooLong (al_cons su_NoRow_NoName (al_cons su_NoRow_Taken (al_cons su_NoRow_Full (al_cons su_NoRow_Twice (al_cons su_NoRow_NoStep (al_cons su_NoRow_Needed (al_cons su_NoRow_NoText (al_cons su_NoRow_NoRow al_nil))))))))))))))))))))) al_nil))))))))))))))))))))⟩⟩
  have E_CallError : Er l.prog w K mg base "CallError" := ⟨_, _, ⟨CB, PySem.W.mg_of X G eB, eB, ⟨⟨_, _, _, _, _, _, _, _, _, _, _, _, _, _, _, x_CallError, by rfl⟩, sa_CallError, u_CallError, y_CallError, kp_CallError⟩, at_CallError, i_CallError⟩, tI, okI, bI⟩
  have E_Full : Er l.prog w K mg base "Full" := ⟨_, _, ⟨C_Full, PySem.W.mg_of X G e_Full, e_Full, ⟨⟨_, _, _, _, _, _, _, _, _, _, _, _, _, _, _, x_Full, by rfl⟩, sa_Full, u_Full, y_Full, kp_Full⟩, at_Full, i_Full⟩, tI, okI, bI⟩
  have E_Needed : Er l.prog w K mg base "Needed" := ⟨_, _, ⟨C_Needed, PySem.W.mg_of X G e_Needed, e_Needed, ⟨⟨_, _, _, _, _, _, _, _, _, _, _, _, _, _, _, x_Needed, by rfl⟩, sa_Needed, u_Needed, y_Needed, kp_Needed⟩, at_Needed, i_Needed⟩, tI, okI, bI⟩
  have E_NoBook : Er l.prog w K mg base "NoBook" := ⟨_, _, ⟨C_NoBook, PySem.W.mg_of X G e_NoBook, e_NoBook, ⟨⟨_, _, _, _, _, _, _, _, _, _, _, _, _, _, _, x_NoBook, by rfl⟩, sa_NoBook, u_NoBook, y_NoBook, kp_NoBook⟩, at_NoBook, i_NoBook⟩, tI, okI, bI⟩
  have E_NoCall : Er l.prog w K mg base "NoCall" := ⟨_, _, ⟨C_NoCall, PySem.W.mg_of X G e_NoCall, e_NoCall, ⟨⟨_, _, _, _, _, _, _, _, _, _, _, _, _, _, _, x_NoCall, by rfl⟩, sa_NoCall, u_NoCall, y_NoCall, kp_NoCall⟩, at_NoCall, i_NoCall⟩, tI, okI, bI⟩
  have E_NoDeed : Er l.prog w K mg base "NoDeed" := ⟨_, _, ⟨C_NoDeed, PySem.W.mg_of X G e_NoDeed, e_NoDeed, ⟨⟨_, _, _, _, _, _, _, _, _, _, _, _, _, _, _, x_NoDeed, by rfl⟩, sa_NoDeed, u_NoDeed, y_NoDeed, kp_NoDeed⟩, at_NoDeed, i_NoDeed⟩, tI, okI, bI⟩
  have E_NoFit : Er l.prog w K mg base "NoFit" := ⟨_, _, ⟨C_NoFit, PySem.W.mg_of X G e_NoFit, e_NoFit, ⟨⟨_, _, _, _, _, _, _, _, _, _, _, _, _, _, _, x_NoFit, by rfl⟩, sa_NoFit, u_NoFit, y_NoFit, kp_NoFit⟩, at_NoFit, i_NoFit⟩, tI, okI, bI⟩
  have E_NoKind : Er l.prog w K mg base "NoKind" := ⟨_, _, ⟨C_NoKind, PySem.W.mg_of X G e_NoKind, e_NoKind, ⟨⟨_, _, _, _, _, _, _, _, _, _, _, _, _, _, _, x_NoKind, by rfl⟩, sa_NoKind, u_NoKind, y_NoKind, kp_NoKind⟩, at_NoKind, i_NoKind⟩, tI, okI, bI⟩
  have E_NoName : Er l.prog w K mg base "NoName" := ⟨_, _, ⟨C_NoName, PySem.W.mg_of X G e_NoName, e_NoName, ⟨⟨_, _, _, _, _, _, _, _, _, _, _, _, _, _, _, x_NoName, by rfl⟩, sa_NoName, u_NoName, y_NoName, kp_NoName⟩, at_NoName, i_NoName⟩, tI, okI, bI⟩
  have E_NoProgram : Er l.prog w K mg base "NoProgram" := ⟨_, _, ⟨C_NoProgram, PySem.W.mg_of X G e_NoProgram, e_NoProgram, ⟨⟨_, _, _, _, _, _, _, _, _, _, _, _, _, _, _, x_NoProgram, by rfl⟩, sa_NoProgram, u_NoProgram, y_NoProgram, kp_NoProgram⟩, at_NoProgram, i_NoProgram⟩, tI, okI, bI⟩
  have E_NoRow : Er l.prog w K mg base "NoRow" := ⟨_, _, ⟨C_NoRow, PySem.W.mg_of X G e_NoRow, e_NoRow, ⟨⟨_, _, _, _, _, _, _, _, _, _, _, _, _, _, _, x_NoRow, by rfl⟩, sa_NoRow, u_NoRow, y_NoRow, kp_NoRow⟩, at_NoRow, i_NoRow⟩, tI, okI, bI⟩
  have E_NoRule : Er l.prog w K mg base "NoRule" := ⟨_, _, ⟨C_NoRule, PySem.W.mg_of X G e_NoRule, e_NoRule, ⟨⟨_, _, _, _, _, _, _, _, _, _, _, _, _, _, _, x_NoRule, by rfl⟩, sa_NoRule, u_NoRule, y_NoRule, kp_NoRule⟩, at_NoRule, i_NoRule⟩, tI, okI, bI⟩
  have E_NoStep : Er l.prog w K mg base "NoStep" := ⟨_, _, ⟨C_NoStep, PySem.W.mg_of X G e_NoStep, e_NoStep, ⟨⟨_, _, _, _, _, _, _, _, _, _, _, _, _, _, _, x_NoStep, by rfl⟩, sa_NoStep, u_NoStep, y_NoStep, kp_NoStep⟩, at_NoStep, i_NoStep⟩, tI, okI, bI⟩
  have E_NoText : Er l.prog w K mg base "NoText" := ⟨_, _, ⟨C_NoText, PySem.W.mg_of X G e_NoText, e_NoText, ⟨⟨_, _, _, _, _, _, _, _, _, _, _, _, _, _, _, x_NoText, by rfl⟩, sa_NoText, u_NoText, y_NoText, kp_NoText⟩, at_NoText, i_NoText⟩, tI, okI, bI⟩
  have E_NoWeb : Er l.prog w K mg base "NoWeb" := ⟨_, _, ⟨C_NoWeb, PySem.W.mg_of X G e_NoWeb, e_NoWeb, ⟨⟨_, _, _, _, _, _, _, _, _, _, _, _, _, _, _, x_NoWeb, by rfl⟩, sa_NoWeb, u_NoWeb, y_NoWeb, kp_NoWeb⟩, at_NoWeb, i_NoWeb⟩, tI, okI, bI⟩
  have E_Quarrel : Er l.prog w K mg base "Quarrel" := ⟨_, _, ⟨C_Quarrel, PySem.W.mg_of X G e_Quarrel, e_Quarrel, ⟨⟨_, _, _, _, _, _, _, _, _, _, _, _, _, _, _, x_Quarrel, by rfl⟩, sa_Quarrel, u_Quarrel, y_Quarrel, kp_Quarrel⟩, at_Quarrel, i_Quarrel⟩, tI, okI, bI⟩
  have E_Taken : Er l.prog w K mg base "Taken" := ⟨_, _, ⟨C_Taken, PySem.W.mg_of X G e_Taken, e_Taken, ⟨⟨_, _, _, _, _, _, _, _, _, _, _, _, _, _, _, x_Taken, by rfl⟩, sa_Taken, u_Taken, y_Taken, kp_Taken⟩, at_Taken, i_Taken⟩, tI, okI, bI⟩
  have E_TooDeep : Er l.prog w K mg base "TooDeep" := ⟨_, _, ⟨C_TooDeep, PySem.W.mg_of X G e_TooDeep, e_TooDeep, ⟨⟨_, _, _, _, _, _, _, _, _, _, _, _, _, _, _, x_TooDeep, by rfl⟩, sa_TooDeep, u_TooDeep, y_TooDeep, kp_TooDeep⟩, at_TooDeep, i_TooDeep⟩, tI, okI, bI⟩
  have E_TooLong : Er l.prog w K mg base "TooLong" := ⟨_, _, ⟨C_TooLong, PySem.W.mg_of X G e_TooLong, e_TooLong, ⟨⟨_, _, _, _, _, _, _, _, _, _, _, _, _, _, _, x_TooLong, by rfl⟩, sa_TooLong, u_TooLong, y_TooLong, kp_TooLong⟩, at_TooLong, i_TooLong⟩, tI, okI, bI⟩
  have E_Twice : Er l.prog w K mg base "Twice" := ⟨_, _, ⟨C_Twice, PySem.W.mg_of X G e_Twice, e_Twice, ⟨⟨_, _, _, _, _, _, _, _, _, _, _, _, _, _, _, x_Twice, by rfl⟩, sa_Twice, u_Twice, y_Twice, kp_Twice⟩, at_Twice, i_Twice⟩, tI, okI, bI⟩
  have G__law_value : Fn l.prog w K mg base "_law_value" 2 ["_law_script"] 1 m__law_value := ⟨_, _, PySem.W.mg_of X G a0, k0, F0.binds (ps := ["_law_script"]) (fun _ _ _ _ _ _ us hl => match us, hl with | [_], _ => rfl), ok__law_value F0 B⟩
  have G__law_first : Fn l.prog w K mg base "_law_first" 2 ["_law_error"] 1 m__law_first := ⟨_, _, PySem.W.mg_of X G a1, k1, F1.binds (ps := ["_law_error"]) (fun _ _ _ _ _ _ us hl => match us, hl with | [_], _ => rfl), ok__law_first F1 B TB⟩
  have G__law_rest : Fn l.prog w K mg base "_law_rest" 2 ["_law_error"] 1 m__law_rest := ⟨_, _, PySem.W.mg_of X G a2, k2, F2.binds (ps := ["_law_error"]) (fun _ _ _ _ _ _ us hl => match us, hl with | [_], _ => rfl), ok__law_rest F2 B TB⟩
  exact law_ok (ok_law F3 B G__law_value G__law_first G__law_rest TB E_CallError E_Full E_Needed E_NoBook E_NoCall E_NoDeed E_NoFit E_NoKind E_NoName E_NoProgram E_NoRow E_NoRule E_NoStep E_NoText E_NoWeb E_Quarrel E_Taken E_TooDeep E_TooLong E_Twice) law_true
end Gn
open PySem PySem.W PyProof.Rows
set_option maxHeartbeats 0 in
theorem PySem.Challenge.cw_bestcalls_k98_each_refusal_of_one_class_holds : PySem.Challenge.rw_bestcalls_k98_each_refusal_of_one_class.Holds := by
  w_on; o_law; k_head; (case hw => w_witness2)
  k_fill
  refine L2.walk_of (l := PySem.Challenge.rw_bestcalls_k98_each_refusal_of_one_class) (n := 63) (k := 3) (x := "_law_script") (CX := fun w => L2.CX PySem.Challenge.pw_bestcalls_k98_each_refusal_of_one_class w) (sp := fun w => VL.spLaw _) rfl (by decide) rfl ⟨rfl, by decide, by decide⟩ (fun w h Y => PySem.W.kIn_of Y) ?F (fun _ _ a ns hl hO hS => ⟨a, ns, rfl, hl, hS, hO, fun _ => rfl⟩) (fun _ _ _ _ _ h => VL.cx_false h)
  case F =>
    intro w mg fa h KX G hmg
    refine' Gn.all_mk KX G hmg ?a0 ?l0 ?c0 ?k0 ?a1 ?l1 ?c1 ?k1 ?a2 ?l2 ?c2 ?k2 ?a3 ?l3 ?c3 ?k3 ?z_ValueError ?z_any ?z_isinstance ?z_range ?eB ?x_CallError ?sa_CallError ?u_CallError ?y_CallError ?kp_CallError ?at_CallError ?i_CallError ?ga_CallError ?gg_CallError ?va_CallError ?hd_CallError ?ca_CallError ?mo_CallError ?e_Full ?x_Full ?sa_Full ?u_Full ?y_Full ?kp_Full ?at_Full ?i_Full ?ga_Full ?gg_Full ?va_Full ?hd_Full ?ca_Full ?mo_Full ?e_Needed ?x_Needed ?sa_Needed ?u_Needed ?y_Needed ?kp_Needed ?at_Needed ?i_Needed ?ga_Needed ?gg_Needed ?va_Needed ?hd_Needed ?ca_Needed ?mo_Needed ?e_NoBook ?x_NoBook ?sa_NoBook ?u_NoBook ?y_NoBook ?kp_NoBook ?at_NoBook ?i_NoBook ?ga_NoBook ?gg_NoBook ?va_NoBook ?hd_NoBook ?ca_NoBook ?mo_NoBook ?e_NoCall ?x_NoCall ?sa_NoCall ?u_NoCall ?y_NoCall ?kp_NoCall ?at_NoCall ?i_NoCall ?ga_NoCall ?gg_NoCall ?va_NoCall ?hd_NoCall ?ca_NoCall ?mo_NoCall ?e_NoDeed ?x_NoDeed ?sa_NoDeed ?u_NoDeed ?y_NoDeed ?kp_NoDeed ?at_NoDeed ?i_NoDeed ?ga_NoDeed ?gg_NoDeed ?va_NoDeed ?hd_NoDeed ?ca_NoDeed ?mo_NoDeed ?e_NoFit ?x_NoFit ?sa_NoFit ?u_NoFit ?y_NoFit ?kp_NoFit ?at_NoFit ?i_NoFit ?ga_NoFit ?gg_NoFit ?va_NoFit ?hd_NoFit ?ca_NoFit ?mo_NoFit ?e_NoKind ?x_NoKind ?sa_NoKind ?u_NoKind ?y_NoKind ?kp_NoKind ?at_NoKind ?i_NoKind ?ga_NoKind ?gg_NoKind ?va_NoKind ?hd_NoKind ?ca_NoKind ?mo_NoKind ?e_NoName ?x_NoName ?sa_NoName ?u_NoName ?y_NoName ?kp_NoName ?at_NoName ?i_NoName ?ga_NoName ?gg_NoName ?va_NoName ?hd_NoName ?ca_NoName ?mo_NoName ?e_NoProgram ?x_NoProgram ?sa_NoProgram ?u_NoProgram ?y_NoProgram ?kp_NoProgram ?at_NoProgram ?i_NoProgram ?ga_NoProgram ?gg_NoProgram ?va_NoProgram ?hd_NoProgram ?ca_NoProgram ?mo_NoProgram ?e_NoRow ?x_NoRow ?sa_NoRow ?u_NoRow ?y_NoRow ?kp_NoRow ?at_NoRow ?i_NoRow ?ga_NoRow ?gg_NoRow ?va_NoRow ?hd_NoRow ?ca_NoRow ?mo_NoRow ?e_NoRule ?x_NoRule ?sa_NoRule ?u_NoRule ?y_NoRule ?kp_NoRule ?at_NoRule ?i_NoRule ?ga_NoRule ?gg_NoRule ?va_NoRule ?hd_NoRule ?ca_NoRule ?mo_NoRule ?e_NoStep ?x_NoStep ?sa_NoStep ?u_NoStep ?y_NoStep ?kp_NoStep ?at_NoStep ?i_NoStep ?ga_NoStep ?gg_NoStep ?va_NoStep ?hd_NoStep ?ca_NoStep ?mo_NoStep ?e_NoText ?x_NoText ?sa_NoText ?u_NoText ?y_NoText ?kp_NoText ?at_NoText ?i_NoText ?ga_NoText ?gg_NoText ?va_NoText ?hd_NoText ?ca_NoText ?mo_NoText ?e_NoWeb ?x_NoWeb ?sa_NoWeb ?u_NoWeb ?y_NoWeb ?kp_NoWeb ?at_NoWeb ?i_NoWeb ?ga_NoWeb ?gg_NoWeb ?va_NoWeb ?hd_NoWeb ?ca_NoWeb ?mo_NoWeb ?e_Quarrel ?x_Quarrel ?sa_Quarrel ?u_Quarrel ?y_Quarrel ?kp_Quarrel ?at_Quarrel ?i_Quarrel ?ga_Quarrel ?gg_Quarrel ?va_Quarrel ?hd_Quarrel ?ca_Quarrel ?mo_Quarrel ?e_Taken ?x_Taken ?sa_Taken ?u_Taken ?y_Taken ?kp_Taken ?at_Taken ?i_Taken ?ga_Taken ?gg_Taken ?va_Taken ?hd_Taken ?ca_Taken ?mo_Taken ?e_TooDeep ?x_TooDeep ?sa_TooDeep ?u_TooDeep ?y_TooDeep ?kp_TooDeep ?at_TooDeep ?i_TooDeep ?ga_TooDeep ?gg_TooDeep ?va_TooDeep ?hd_TooDeep ?ca_TooDeep ?mo_TooDeep ?e_TooLong ?x_TooLong ?sa_TooLong ?u_TooLong ?y_TooLong ?kp_TooLong ?at_TooLong ?i_TooLong ?ga_TooLong ?gg_TooLong ?va_TooLong ?hd_TooLong ?ca_TooLong ?mo_TooLong ?e_Twice ?x_Twice ?sa_Twice ?u_Twice ?y_Twice ?kp_Twice ?at_Twice ?i_Twice ?ga_Twice ?gg_Twice ?va_Twice ?hd_Twice ?ca_Twice ?mo_Twice ?spG ?tkG ?su_CallError_CallError ?su_CallError_NoWeb ?su_CallError_NoKind ?su_CallError_NoBook ?su_CallError_NoCall ?su_CallError_NoRule ?su_CallError_NoFit ?su_CallError_Quarrel ?su_CallError_NoProgram ?su_CallError_NoDeed ?su_CallError_TooDeep ?su_CallError_TooLong ?su_CallError_NoName ?su_CallError_Taken ?su_CallError_Full ?su_CallError_Twice ?su_CallError_NoStep ?su_CallError_Needed ?su_CallError_NoText ?su_CallError_NoRow ?su_NoWeb_CallError ?su_NoWeb_NoWeb ?su_NoWeb_NoKind ?su_NoWeb_NoBook ?su_NoWeb_NoCall ?su_NoWeb_NoRule ?su_NoWeb_NoFit ?su_NoWeb_Quarrel ?su_NoWeb_NoProgram ?su_NoWeb_NoDeed ?su_NoWeb_TooDeep ?su_NoWeb_TooLong ?su_NoWeb_NoName ?su_NoWeb_Taken ?su_NoWeb_Full ?su_NoWeb_Twice ?su_NoWeb_NoStep ?su_NoWeb_Needed ?su_NoWeb_NoText ?su_NoWeb_NoRow ?su_NoKind_CallError ?su_NoKind_NoWeb ?su_NoKind_NoKind ?su_NoKind_NoBook ?su_NoKind_NoCall ?su_NoKind_NoRule ?su_NoKind_NoFit ?su_NoKind_Quarrel ?su_NoKind_NoProgram ?su_NoKind_NoDeed ?su_NoKind_TooDeep ?su_NoKind_TooLong ?su_NoKind_NoName ?su_NoKind_Taken ?su_NoKind_Full ?su_NoKind_Twice ?su_NoKind_NoStep ?su_NoKind_Needed ?su_NoKind_NoText ?su_NoKind_NoRow ?su_NoBook_CallError ?su_NoBook_NoWeb ?su_NoBook_NoKind ?su_NoBook_NoBook ?su_NoBook_NoCall ?su_NoBook_NoRule ?su_NoBook_NoFit ?su_NoBook_Quarrel ?su_NoBook_NoProgram ?su_NoBook_NoDeed ?su_NoBook_TooDeep ?su_NoBook_TooLong ?su_NoBook_NoName ?su_NoBook_Taken ?su_NoBook_Full ?su_NoBook_Twice ?su_NoBook_NoStep ?su_NoBook_Needed ?su_NoBook_NoText ?su_NoBook_NoRow ?su_NoCall_CallError ?su_NoCall_NoWeb ?su_NoCall_NoKind ?su_NoCall_NoBook ?su_NoCall_NoCall ?su_NoCall_NoRule ?su_NoCall_NoFit ?su_NoCall_Quarrel ?su_NoCall_NoProgram ?su_NoCall_NoDeed ?su_NoCall_TooDeep ?su_NoCall_TooLong ?su_NoCall_NoName ?su_NoCall_Taken ?su_NoCall_Full ?su_NoCall_Twice ?su_NoCall_NoStep ?su_NoCall_Needed ?su_NoCall_NoText ?su_NoCall_NoRow ?su_NoRule_CallError ?su_NoRule_NoWeb ?su_NoRule_NoKind ?su_NoRule_NoBook ?su_NoRule_NoCall ?su_NoRule_NoRule ?su_NoRule_NoFit ?su_NoRule_Quarrel ?su_NoRule_NoProgram ?su_NoRule_NoDeed ?su_NoRule_TooDeep ?su_NoRule_TooLong ?su_NoRule_NoName ?su_NoRule_Taken ?su_NoRule_Full ?su_NoRule_Twice ?su_NoRule_NoStep ?su_NoRule_Needed ?su_NoRule_NoText ?su_NoRule_NoRow ?su_NoFit_CallError ?su_NoFit_NoWeb ?su_NoFit_NoKind ?su_NoFit_NoBook ?su_NoFit_NoCall ?su_NoFit_NoRule ?su_NoFit_NoFit ?su_NoFit_Quarrel ?su_NoFit_NoProgram ?su_NoFit_NoDeed ?su_NoFit_TooDeep ?su_NoFit_TooLong ?su_NoFit_NoName ?su_NoFit_Taken ?su_NoFit_Full ?su_NoFit_Twice ?su_NoFit_NoStep ?su_NoFit_Needed ?su_NoFit_NoText ?su_NoFit_NoRow ?su_Quarrel_CallError ?su_Quarrel_NoWeb ?su_Quarrel_NoKind ?su_Quarrel_NoBook ?su_Quarrel_NoCall ?su_Quarrel_NoRule ?su_Quarrel_NoFit ?su_Quarrel_Quarrel ?su_Quarrel_NoProgram ?su_Quarrel_NoDeed ?su_Quarrel_TooDeep ?su_Quarrel_TooLong ?su_Quarrel_NoName ?su_Quarrel_Taken ?su_Quarrel_Full ?su_Quarrel_Twice ?su_Quarrel_NoStep ?su_Quarrel_Needed ?su_Quarrel_NoText ?su_Quarrel_NoRow ?su_NoProgram_CallError ?su_NoProgram_NoWeb ?su_NoProgram_NoKind ?su_NoProgram_NoBook ?su_NoProgram_NoCall ?su_NoProgram_NoRule ?su_NoProgram_NoFit ?su_NoProgram_Quarrel ?su_NoProgram_NoProgram ?su_NoProgram_NoDeed ?su_NoProgram_TooDeep ?su_NoProgram_TooLong ?su_NoProgram_NoName ?su_NoProgram_Taken ?su_NoProgram_Full ?su_NoProgram_Twice ?su_NoProgram_NoStep ?su_NoProgram_Needed ?su_NoProgram_NoText ?su_NoProgram_NoRow ?su_NoDeed_CallError ?su_NoDeed_NoWeb ?su_NoDeed_NoKind ?su_NoDeed_NoBook ?su_NoDeed_NoCall ?su_NoDeed_NoRule ?su_NoDeed_NoFit ?su_NoDeed_Quarrel ?su_NoDeed_NoProgram ?su_NoDeed_NoDeed ?su_NoDeed_TooDeep ?su_NoDeed_TooLong ?su_NoDeed_NoName ?su_NoDeed_Taken ?su_NoDeed_Full ?su_NoDeed_Twice ?su_NoDeed_NoStep ?su_NoDeed_Needed ?su_NoDeed_NoText ?su_NoDeed_NoRow ?su_TooDeep_CallError ?su_TooDeep_NoWeb ?su_TooDeep_NoKind ?su_TooDeep_NoBook ?su_TooDeep_NoCall ?su_TooDeep_NoRule ?su_TooDeep_NoFit ?su_TooDeep_Quarrel ?su_TooDeep_NoProgram ?su_TooDeep_NoDeed ?su_TooDeep_TooDeep ?su_TooDeep_TooLong ?su_TooDeep_NoName ?su_TooDeep_Taken ?su_TooDeep_Full ?su_TooDeep_Twice ?su_TooDeep_NoStep ?su_TooDeep_Needed ?su_TooDeep_NoText ?su_TooDeep_NoRow ?su_TooLong_CallError ?su_TooLong_NoWeb ?su_TooLong_NoKind ?su_TooLong_NoBook ?su_TooLong_NoCall ?su_TooLong_NoRule ?su_TooLong_NoFit ?su_TooLong_Quarrel ?su_TooLong_NoProgram ?su_TooLong_NoDeed ?su_TooLong_TooDeep ?su_TooLong_TooLong ?su_TooLong_NoName ?su_TooLong_Taken ?su_TooLong_Full ?su_TooLong_Twice ?su_TooLong_NoStep ?su_TooLong_Needed ?su_TooLong_NoText ?su_TooLong_NoRow ?su_NoName_CallError ?su_NoName_NoWeb ?su_NoName_NoKind ?su_NoName_NoBook ?su_NoName_NoCall ?su_NoName_NoRule ?su_NoName_NoFit ?su_NoName_Quarrel ?su_NoName_NoProgram ?su_NoName_NoDeed ?su_NoName_TooDeep ?su_NoName_TooLong ?su_NoName_NoName ?su_NoName_Taken ?su_NoName_Full ?su_NoName_Twice ?su_NoName_NoStep ?su_NoName_Needed ?su_NoName_NoText ?su_NoName_NoRow ?su_Taken_CallError ?su_Taken_NoWeb ?su_Taken_NoKind ?su_Taken_NoBook ?su_Taken_NoCall ?su_Taken_NoRule ?su_Taken_NoFit ?su_Taken_Quarrel ?su_Taken_NoProgram ?su_Taken_NoDeed ?su_Taken_TooDeep ?su_Taken_TooLong ?su_Taken_NoName ?su_Taken_Taken ?su_Taken_Full ?su_Taken_Twice ?su_Taken_NoStep ?su_Taken_Needed ?su_Taken_NoText ?su_Taken_NoRow ?su_Full_CallError ?su_Full_NoWeb ?su_Full_NoKind ?su_Full_NoBook ?su_Full_NoCall ?su_Full_NoRule ?su_Full_NoFit ?su_Full_Quarrel ?su_Full_NoProgram ?su_Full_NoDeed ?su_Full_TooDeep ?su_Full_TooLong ?su_Full_NoName ?su_Full_Taken ?su_Full_Full ?su_Full_Twice ?su_Full_NoStep ?su_Full_Needed ?su_Full_NoText ?su_Full_NoRow ?su_Twice_CallError ?su_Twice_NoWeb ?su_Twice_NoKind ?su_Twice_NoBook ?su_Twice_NoCall ?su_Twice_NoRule ?su_Twice_NoFit ?su_Twice_Quarrel ?su_Twice_NoProgram ?su_Twice_NoDeed ?su_Twice_TooDeep ?su_Twice_TooLong ?su_Twice_NoName ?su_Twice_Taken ?su_Twice_Full ?su_Twice_Twice ?su_Twice_NoStep ?su_Twice_Needed ?su_Twice_NoText ?su_Twice_NoRow ?su_NoStep_CallError ?su_NoStep_NoWeb ?su_NoStep_NoKind ?su_NoStep_NoBook ?su_NoStep_NoCall ?su_NoStep_NoRule ?su_NoStep_NoFit ?su_NoStep_Quarrel ?su_NoStep_NoProgram ?su_NoStep_NoDeed ?su_NoStep_TooDeep ?su_NoStep_TooLong ?su_NoStep_NoName ?su_NoStep_Taken ?su_NoStep_Full ?su_NoStep_Twice ?su_NoStep_NoStep ?su_NoStep_Needed ?su_NoStep_NoText ?su_NoStep_NoRow ?su_Needed_CallError ?su_Needed_NoWeb ?su_Needed_NoKind ?su_Needed_NoBook ?su_Needed_NoCall ?su_Needed_NoRule ?su_Needed_NoFit ?su_Needed_Quarrel ?su_Needed_NoProgram ?su_Needed_NoDeed ?su_Needed_TooDeep ?su_Needed_TooLong ?su_Needed_NoName ?su_Needed_Taken ?su_Needed_Full ?su_Needed_Twice ?su_Needed_NoStep ?su_Needed_Needed ?su_Needed_NoText ?su_Needed_NoRow ?su_NoText_CallError ?su_NoText_NoWeb ?su_NoText_NoKind ?su_NoText_NoBook ?su_NoText_NoCall ?su_NoText_NoRule ?su_NoText_NoFit ?su_NoText_Quarrel ?su_NoText_NoProgram ?su_NoText_NoDeed ?su_NoText_TooDeep ?su_NoText_TooLong ?su_NoText_NoName ?su_NoText_Taken ?su_NoText_Full ?su_NoText_Twice ?su_NoText_NoStep ?su_NoText_Needed ?su_NoText_NoText ?su_NoText_NoRow ?su_NoRow_CallError ?su_NoRow_NoWeb ?su_NoRow_NoKind ?su_NoRow_NoBook ?su_NoRow_NoCall ?su_NoRow_NoRule ?su_NoRow_NoFit ?su_NoRow_Quarrel ?su_NoRow_NoProgram ?su_NoRow_NoDeed ?su_NoRow_TooDeep ?su_NoRow_TooLong ?su_NoRow_NoName ?su_NoRow_Taken ?su_NoRow_Full ?su_NoRow_Twice ?su_NoRow_NoStep ?su_NoRow_Needed ?su_NoRow_NoText ?su_NoRow_NoRow ?lI ?cI ?kI ?tI
    (case a0 => k_is); (case l0 => k_is); (case c0 => k_is); (case k0 => k_is); (case a1 => k_is); (case l1 => k_is); (case c1 => k_is); (case k1 => k_is)
    (case a2 => k_is); (case l2 => k_is); (case c2 => k_is); (case k2 => k_is); (case a3 => k_is); (case l3 => k_is); (case c3 => k_is); (case k3 => k_is)
    (case z_ValueError => k_is); (case z_any => k_is); (case z_isinstance => k_is); (case z_range => k_is); (case eB => k_is); (case x_CallError => k_is); (case sa_CallError => k_is); (case u_CallError => k_is)
    (case y_CallError => k_is); (case kp_CallError => k_is); (case at_CallError => k_is); (case i_CallError => k_is); (case ga_CallError => k_is); (case gg_CallError => k_is); (case va_CallError => k_is); (case hd_CallError => k_is)
    (case ca_CallError => k_is); (case mo_CallError => k_is); (case e_Full => k_is); (case x_Full => k_is); (case sa_Full => k_is); (case u_Full => k_is); (case y_Full => k_is); (case kp_Full => k_is)
    (case at_Full => k_is); (case i_Full => k_is); (case ga_Full => k_is); (case gg_Full => k_is); (case va_Full => k_is); (case hd_Full => k_is); (case ca_Full => k_is); (case mo_Full => k_is)
    (case e_Needed => k_is); (case x_Needed => k_is); (case sa_Needed => k_is); (case u_Needed => k_is); (case y_Needed => k_is); (case kp_Needed => k_is); (case at_Needed => k_is); (case i_Needed => k_is)
    (case ga_Needed => k_is); (case gg_Needed => k_is); (case va_Needed => k_is); (case hd_Needed => k_is); (case ca_Needed => k_is); (case mo_Needed => k_is); (case e_NoBook => k_is); (case x_NoBook => k_is)
    (case sa_NoBook => k_is); (case u_NoBook => k_is); (case y_NoBook => k_is); (case kp_NoBook => k_is); (case at_NoBook => k_is); (case i_NoBook => k_is); (case ga_NoBook => k_is); (case gg_NoBook => k_is)
    (case va_NoBook => k_is); (case hd_NoBook => k_is); (case ca_NoBook => k_is); (case mo_NoBook => k_is); (case e_NoCall => k_is); (case x_NoCall => k_is); (case sa_NoCall => k_is); (case u_NoCall => k_is)
    (case y_NoCall => k_is); (case kp_NoCall => k_is); (case at_NoCall => k_is); (case i_NoCall => k_is); (case ga_NoCall => k_is); (case gg_NoCall => k_is); (case va_NoCall => k_is); (case hd_NoCall => k_is)
    (case ca_NoCall => k_is); (case mo_NoCall => k_is); (case e_NoDeed => k_is); (case x_NoDeed => k_is); (case sa_NoDeed => k_is); (case u_NoDeed => k_is); (case y_NoDeed => k_is); (case kp_NoDeed => k_is)
    (case at_NoDeed => k_is); (case i_NoDeed => k_is); (case ga_NoDeed => k_is); (case gg_NoDeed => k_is); (case va_NoDeed => k_is); (case hd_NoDeed => k_is); (case ca_NoDeed => k_is); (case mo_NoDeed => k_is)
    (case e_NoFit => k_is); (case x_NoFit => k_is); (case sa_NoFit => k_is); (case u_NoFit => k_is); (case y_NoFit => k_is); (case kp_NoFit => k_is); (case at_NoFit => k_is); (case i_NoFit => k_is)
    (case ga_NoFit => k_is); (case gg_NoFit => k_is); (case va_NoFit => k_is); (case hd_NoFit => k_is); (case ca_NoFit => k_is); (case mo_NoFit => k_is); (case e_NoKind => k_is); (case x_NoKind => k_is)
    (case sa_NoKind => k_is); (case u_NoKind => k_is); (case y_NoKind => k_is); (case kp_NoKind => k_is); (case at_NoKind => k_is); (case i_NoKind => k_is); (case ga_NoKind => k_is); (case gg_NoKind => k_is)
    (case va_NoKind => k_is); (case hd_NoKind => k_is); (case ca_NoKind => k_is); (case mo_NoKind => k_is); (case e_NoName => k_is); (case x_NoName => k_is); (case sa_NoName => k_is); (case u_NoName => k_is)
    (case y_NoName => k_is); (case kp_NoName => k_is); (case at_NoName => k_is); (case i_NoName => k_is); (case ga_NoName => k_is); (case gg_NoName => k_is); (case va_NoName => k_is); (case hd_NoName => k_is)
    (case ca_NoName => k_is); (case mo_NoName => k_is); (case e_NoProgram => k_is); (case x_NoProgram => k_is); (case sa_NoProgram => k_is); (case u_NoProgram => k_is); (case y_NoProgram => k_is); (case kp_NoProgram => k_is)
    (case at_NoProgram => k_is); (case i_NoProgram => k_is); (case ga_NoProgram => k_is); (case gg_NoProgram => k_is); (case va_NoProgram => k_is); (case hd_NoProgram => k_is); (case ca_NoProgram => k_is); (case mo_NoProgram => k_is)
    (case e_NoRow => k_is); (case x_NoRow => k_is); (case sa_NoRow => k_is); (case u_NoRow => k_is); (case y_NoRow => k_is); (case kp_NoRow => k_is); (case at_NoRow => k_is); (case i_NoRow => k_is)
    (case ga_NoRow => k_is); (case gg_NoRow => k_is); (case va_NoRow => k_is); (case hd_NoRow => k_is); (case ca_NoRow => k_is); (case mo_NoRow => k_is); (case e_NoRule => k_is); (case x_NoRule => k_is)
    (case sa_NoRule => k_is); (case u_NoRule => k_is); (case y_NoRule => k_is); (case kp_NoRule => k_is); (case at_NoRule => k_is); (case i_NoRule => k_is); (case ga_NoRule => k_is); (case gg_NoRule => k_is)
    (case va_NoRule => k_is); (case hd_NoRule => k_is); (case ca_NoRule => k_is); (case mo_NoRule => k_is); (case e_NoStep => k_is); (case x_NoStep => k_is); (case sa_NoStep => k_is); (case u_NoStep => k_is)
    (case y_NoStep => k_is); (case kp_NoStep => k_is); (case at_NoStep => k_is); (case i_NoStep => k_is); (case ga_NoStep => k_is); (case gg_NoStep => k_is); (case va_NoStep => k_is); (case hd_NoStep => k_is)
    (case ca_NoStep => k_is); (case mo_NoStep => k_is); (case e_NoText => k_is); (case x_NoText => k_is); (case sa_NoText => k_is); (case u_NoText => k_is); (case y_NoText => k_is); (case kp_NoText => k_is)
    (case at_NoText => k_is); (case i_NoText => k_is); (case ga_NoText => k_is); (case gg_NoText => k_is); (case va_NoText => k_is); (case hd_NoText => k_is); (case ca_NoText => k_is); (case mo_NoText => k_is)
    (case e_NoWeb => k_is); (case x_NoWeb => k_is); (case sa_NoWeb => k_is); (case u_NoWeb => k_is); (case y_NoWeb => k_is); (case kp_NoWeb => k_is); (case at_NoWeb => k_is); (case i_NoWeb => k_is)
    (case ga_NoWeb => k_is); (case gg_NoWeb => k_is); (case va_NoWeb => k_is); (case hd_NoWeb => k_is); (case ca_NoWeb => k_is); (case mo_NoWeb => k_is); (case e_Quarrel => k_is); (case x_Quarrel => k_is)
    (case sa_Quarrel => k_is); (case u_Quarrel => k_is); (case y_Quarrel => k_is); (case kp_Quarrel => k_is); (case at_Quarrel => k_is); (case i_Quarrel => k_is); (case ga_Quarrel => k_is); (case gg_Quarrel => k_is)
    (case va_Quarrel => k_is); (case hd_Quarrel => k_is); (case ca_Quarrel => k_is); (case mo_Quarrel => k_is); (case e_Taken => k_is); (case x_Taken => k_is); (case sa_Taken => k_is); (case u_Taken => k_is)
    (case y_Taken => k_is); (case kp_Taken => k_is); (case at_Taken => k_is); (case i_Taken => k_is); (case ga_Taken => k_is); (case gg_Taken => k_is); (case va_Taken => k_is); (case hd_Taken => k_is)
    (case ca_Taken => k_is); (case mo_Taken => k_is); (case e_TooDeep => k_is); (case x_TooDeep => k_is); (case sa_TooDeep => k_is); (case u_TooDeep => k_is); (case y_TooDeep => k_is); (case kp_TooDeep => k_is)
    (case at_TooDeep => k_is); (case i_TooDeep => k_is); (case ga_TooDeep => k_is); (case gg_TooDeep => k_is); (case va_TooDeep => k_is); (case hd_TooDeep => k_is); (case ca_TooDeep => k_is); (case mo_TooDeep => k_is)
    (case e_TooLong => k_is); (case x_TooLong => k_is); (case sa_TooLong => k_is); (case u_TooLong => k_is); (case y_TooLong => k_is); (case kp_TooLong => k_is); (case at_TooLong => k_is); (case i_TooLong => k_is)
    (case ga_TooLong => k_is); (case gg_TooLong => k_is); (case va_TooLong => k_is); (case hd_TooLong => k_is); (case ca_TooLong => k_is); (case mo_TooLong => k_is); (case e_Twice => k_is); (case x_Twice => k_is)
    (case sa_Twice => k_is); (case u_Twice => k_is); (case y_Twice => k_is); (case kp_Twice => k_is); (case at_Twice => k_is); (case i_Twice => k_is); (case ga_Twice => k_is); (case gg_Twice => k_is)
    (case va_Twice => k_is); (case hd_Twice => k_is); (case ca_Twice => k_is); (case mo_Twice => k_is); (case spG => k_is); (case tkG => k_is); (case su_CallError_CallError => k_is); (case su_CallError_NoWeb => k_is)
    (case su_CallError_NoKind => k_is); (case su_CallError_NoBook => k_is); (case su_CallError_NoCall => k_is); (case su_CallError_NoRule => k_is); (case su_CallError_NoFit => k_is); (case su_CallError_Quarrel => k_is); (case su_CallError_NoProgram => k_is); (case su_CallError_NoDeed => k_is)
    (case su_CallError_TooDeep => k_is); (case su_CallError_TooLong => k_is); (case su_CallError_NoName => k_is); (case su_CallError_Taken => k_is); (case su_CallError_Full => k_is); (case su_CallError_Twice => k_is); (case su_CallError_NoStep => k_is); (case su_CallError_Needed => k_is)
    (case su_CallError_NoText => k_is); (case su_CallError_NoRow => k_is); (case su_NoWeb_CallError => k_is); (case su_NoWeb_NoWeb => k_is); (case su_NoWeb_NoKind => k_is); (case su_NoWeb_NoBook => k_is); (case su_NoWeb_NoCall => k_is); (case su_NoWeb_NoRule => k_is)
    (case su_NoWeb_NoFit => k_is); (case su_NoWeb_Quarrel => k_is); (case su_NoWeb_NoProgram => k_is); (case su_NoWeb_NoDeed => k_is); (case su_NoWeb_TooDeep => k_is); (case su_NoWeb_TooLong => k_is); (case su_NoWeb_NoName => k_is); (case su_NoWeb_Taken => k_is)
    (case su_NoWeb_Full => k_is); (case su_NoWeb_Twice => k_is); (case su_NoWeb_NoStep => k_is); (case su_NoWeb_Needed => k_is); (case su_NoWeb_NoText => k_is); (case su_NoWeb_NoRow => k_is); (case su_NoKind_CallError => k_is); (case su_NoKind_NoWeb => k_is)
    (case su_NoKind_NoKind => k_is); (case su_NoKind_NoBook => k_is); (case su_NoKind_NoCall => k_is); (case su_NoKind_NoRule => k_is); (case su_NoKind_NoFit => k_is); (case su_NoKind_Quarrel => k_is); (case su_NoKind_NoProgram => k_is); (case su_NoKind_NoDeed => k_is)
    (case su_NoKind_TooDeep => k_is); (case su_NoKind_TooLong => k_is); (case su_NoKind_NoName => k_is); (case su_NoKind_Taken => k_is); (case su_NoKind_Full => k_is); (case su_NoKind_Twice => k_is); (case su_NoKind_NoStep => k_is); (case su_NoKind_Needed => k_is)
    (case su_NoKind_NoText => k_is); (case su_NoKind_NoRow => k_is); (case su_NoBook_CallError => k_is); (case su_NoBook_NoWeb => k_is); (case su_NoBook_NoKind => k_is); (case su_NoBook_NoBook => k_is); (case su_NoBook_NoCall => k_is); (case su_NoBook_NoRule => k_is)
    (case su_NoBook_NoFit => k_is); (case su_NoBook_Quarrel => k_is); (case su_NoBook_NoProgram => k_is); (case su_NoBook_NoDeed => k_is); (case su_NoBook_TooDeep => k_is); (case su_NoBook_TooLong => k_is); (case su_NoBook_NoName => k_is); (case su_NoBook_Taken => k_is)
    (case su_NoBook_Full => k_is); (case su_NoBook_Twice => k_is); (case su_NoBook_NoStep => k_is); (case su_NoBook_Needed => k_is); (case su_NoBook_NoText => k_is); (case su_NoBook_NoRow => k_is); (case su_NoCall_CallError => k_is); (case su_NoCall_NoWeb => k_is)
    (case su_NoCall_NoKind => k_is); (case su_NoCall_NoBook => k_is); (case su_NoCall_NoCall => k_is); (case su_NoCall_NoRule => k_is); (case su_NoCall_NoFit => k_is); (case su_NoCall_Quarrel => k_is); (case su_NoCall_NoProgram => k_is); (case su_NoCall_NoDeed => k_is)
    (case su_NoCall_TooDeep => k_is); (case su_NoCall_TooLong => k_is); (case su_NoCall_NoName => k_is); (case su_NoCall_Taken => k_is); (case su_NoCall_Full => k_is); (case su_NoCall_Twice => k_is); (case su_NoCall_NoStep => k_is); (case su_NoCall_Needed => k_is)
    (case su_NoCall_NoText => k_is); (case su_NoCall_NoRow => k_is); (case su_NoRule_CallError => k_is); (case su_NoRule_NoWeb => k_is); (case su_NoRule_NoKind => k_is); (case su_NoRule_NoBook => k_is); (case su_NoRule_NoCall => k_is); (case su_NoRule_NoRule => k_is)
    (case su_NoRule_NoFit => k_is); (case su_NoRule_Quarrel => k_is); (case su_NoRule_NoProgram => k_is); (case su_NoRule_NoDeed => k_is); (case su_NoRule_TooDeep => k_is); (case su_NoRule_TooLong => k_is); (case su_NoRule_NoName => k_is); (case su_NoRule_Taken => k_is)
    (case su_NoRule_Full => k_is); (case su_NoRule_Twice => k_is); (case su_NoRule_NoStep => k_is); (case su_NoRule_Needed => k_is); (case su_NoRule_NoText => k_is); (case su_NoRule_NoRow => k_is); (case su_NoFit_CallError => k_is); (case su_NoFit_NoWeb => k_is)
    (case su_NoFit_NoKind => k_is); (case su_NoFit_NoBook => k_is); (case su_NoFit_NoCall => k_is); (case su_NoFit_NoRule => k_is); (case su_NoFit_NoFit => k_is); (case su_NoFit_Quarrel => k_is); (case su_NoFit_NoProgram => k_is); (case su_NoFit_NoDeed => k_is)
    (case su_NoFit_TooDeep => k_is); (case su_NoFit_TooLong => k_is); (case su_NoFit_NoName => k_is); (case su_NoFit_Taken => k_is); (case su_NoFit_Full => k_is); (case su_NoFit_Twice => k_is); (case su_NoFit_NoStep => k_is); (case su_NoFit_Needed => k_is)
    (case su_NoFit_NoText => k_is); (case su_NoFit_NoRow => k_is); (case su_Quarrel_CallError => k_is); (case su_Quarrel_NoWeb => k_is); (case su_Quarrel_NoKind => k_is); (case su_Quarrel_NoBook => k_is); (case su_Quarrel_NoCall => k_is); (case su_Quarrel_NoRule => k_is)
    (case su_Quarrel_NoFit => k_is); (case su_Quarrel_Quarrel => k_is); (case su_Quarrel_NoProgram => k_is); (case su_Quarrel_NoDeed => k_is); (case su_Quarrel_TooDeep => k_is); (case su_Quarrel_TooLong => k_is); (case su_Quarrel_NoName => k_is); (case su_Quarrel_Taken => k_is)
    (case su_Quarrel_Full => k_is); (case su_Quarrel_Twice => k_is); (case su_Quarrel_NoStep => k_is); (case su_Quarrel_Needed => k_is); (case su_Quarrel_NoText => k_is); (case su_Quarrel_NoRow => k_is); (case su_NoProgram_CallError => k_is); (case su_NoProgram_NoWeb => k_is)
    (case su_NoProgram_NoKind => k_is); (case su_NoProgram_NoBook => k_is); (case su_NoProgram_NoCall => k_is); (case su_NoProgram_NoRule => k_is); (case su_NoProgram_NoFit => k_is); (case su_NoProgram_Quarrel => k_is); (case su_NoProgram_NoProgram => k_is); (case su_NoProgram_NoDeed => k_is)
    (case su_NoProgram_TooDeep => k_is); (case su_NoProgram_TooLong => k_is); (case su_NoProgram_NoName => k_is); (case su_NoProgram_Taken => k_is); (case su_NoProgram_Full => k_is); (case su_NoProgram_Twice => k_is); (case su_NoProgram_NoStep => k_is); (case su_NoProgram_Needed => k_is)
    (case su_NoProgram_NoText => k_is); (case su_NoProgram_NoRow => k_is); (case su_NoDeed_CallError => k_is); (case su_NoDeed_NoWeb => k_is); (case su_NoDeed_NoKind => k_is); (case su_NoDeed_NoBook => k_is); (case su_NoDeed_NoCall => k_is); (case su_NoDeed_NoRule => k_is)
    (case su_NoDeed_NoFit => k_is); (case su_NoDeed_Quarrel => k_is); (case su_NoDeed_NoProgram => k_is); (case su_NoDeed_NoDeed => k_is); (case su_NoDeed_TooDeep => k_is); (case su_NoDeed_TooLong => k_is); (case su_NoDeed_NoName => k_is); (case su_NoDeed_Taken => k_is)
    (case su_NoDeed_Full => k_is); (case su_NoDeed_Twice => k_is); (case su_NoDeed_NoStep => k_is); (case su_NoDeed_Needed => k_is); (case su_NoDeed_NoText => k_is); (case su_NoDeed_NoRow => k_is); (case su_TooDeep_CallError => k_is); (case su_TooDeep_NoWeb => k_is)
    (case su_TooDeep_NoKind => k_is); (case su_TooDeep_NoBook => k_is); (case su_TooDeep_NoCall => k_is); (case su_TooDeep_NoRule => k_is); (case su_TooDeep_NoFit => k_is); (case su_TooDeep_Quarrel => k_is); (case su_TooDeep_NoProgram => k_is); (case su_TooDeep_NoDeed => k_is)
    (case su_TooDeep_TooDeep => k_is); (case su_TooDeep_TooLong => k_is); (case su_TooDeep_NoName => k_is); (case su_TooDeep_Taken => k_is); (case su_TooDeep_Full => k_is); (case su_TooDeep_Twice => k_is); (case su_TooDeep_NoStep => k_is); (case su_TooDeep_Needed => k_is)
    (case su_TooDeep_NoText => k_is); (case su_TooDeep_NoRow => k_is); (case su_TooLong_CallError => k_is); (case su_TooLong_NoWeb => k_is); (case su_TooLong_NoKind => k_is); (case su_TooLong_NoBook => k_is); (case su_TooLong_NoCall => k_is); (case su_TooLong_NoRule => k_is)
    (case su_TooLong_NoFit => k_is); (case su_TooLong_Quarrel => k_is); (case su_TooLong_NoProgram => k_is); (case su_TooLong_NoDeed => k_is); (case su_TooLong_TooDeep => k_is); (case su_TooLong_TooLong => k_is); (case su_TooLong_NoName => k_is); (case su_TooLong_Taken => k_is)
    (case su_TooLong_Full => k_is); (case su_TooLong_Twice => k_is); (case su_TooLong_NoStep => k_is); (case su_TooLong_Needed => k_is); (case su_TooLong_NoText => k_is); (case su_TooLong_NoRow => k_is); (case su_NoName_CallError => k_is); (case su_NoName_NoWeb => k_is)
    (case su_NoName_NoKind => k_is); (case su_NoName_NoBook => k_is); (case su_NoName_NoCall => k_is); (case su_NoName_NoRule => k_is); (case su_NoName_NoFit => k_is); (case su_NoName_Quarrel => k_is); (case su_NoName_NoProgram => k_is); (case su_NoName_NoDeed => k_is)
    (case su_NoName_TooDeep => k_is); (case su_NoName_TooLong => k_is); (case su_NoName_NoName => k_is); (case su_NoName_Taken => k_is); (case su_NoName_Full => k_is); (case su_NoName_Twice => k_is); (case su_NoName_NoStep => k_is); (case su_NoName_Needed => k_is)
    (case su_NoName_NoText => k_is); (case su_NoName_NoRow => k_is); (case su_Taken_CallError => k_is); (case su_Taken_NoWeb => k_is); (case su_Taken_NoKind => k_is); (case su_Taken_NoBook => k_is); (case su_Taken_NoCall => k_is); (case su_Taken_NoRule => k_is)
    (case su_Taken_NoFit => k_is); (case su_Taken_Quarrel => k_is); (case su_Taken_NoProgram => k_is); (case su_Taken_NoDeed => k_is); (case su_Taken_TooDeep => k_is); (case su_Taken_TooLong => k_is); (case su_Taken_NoName => k_is); (case su_Taken_Taken => k_is)
    (case su_Taken_Full => k_is); (case su_Taken_Twice => k_is); (case su_Taken_NoStep => k_is); (case su_Taken_Needed => k_is); (case su_Taken_NoText => k_is); (case su_Taken_NoRow => k_is); (case su_Full_CallError => k_is); (case su_Full_NoWeb => k_is)
    (case su_Full_NoKind => k_is); (case su_Full_NoBook => k_is); (case su_Full_NoCall => k_is); (case su_Full_NoRule => k_is); (case su_Full_NoFit => k_is); (case su_Full_Quarrel => k_is); (case su_Full_NoProgram => k_is); (case su_Full_NoDeed => k_is)
    (case su_Full_TooDeep => k_is); (case su_Full_TooLong => k_is); (case su_Full_NoName => k_is); (case su_Full_Taken => k_is); (case su_Full_Full => k_is); (case su_Full_Twice => k_is); (case su_Full_NoStep => k_is); (case su_Full_Needed => k_is)
    (case su_Full_NoText => k_is); (case su_Full_NoRow => k_is); (case su_Twice_CallError => k_is); (case su_Twice_NoWeb => k_is); (case su_Twice_NoKind => k_is); (case su_Twice_NoBook => k_is); (case su_Twice_NoCall => k_is); (case su_Twice_NoRule => k_is)
    (case su_Twice_NoFit => k_is); (case su_Twice_Quarrel => k_is); (case su_Twice_NoProgram => k_is); (case su_Twice_NoDeed => k_is); (case su_Twice_TooDeep => k_is); (case su_Twice_TooLong => k_is); (case su_Twice_NoName => k_is); (case su_Twice_Taken => k_is)
    (case su_Twice_Full => k_is); (case su_Twice_Twice => k_is); (case su_Twice_NoStep => k_is); (case su_Twice_Needed => k_is); (case su_Twice_NoText => k_is); (case su_Twice_NoRow => k_is); (case su_NoStep_CallError => k_is); (case su_NoStep_NoWeb => k_is)
    (case su_NoStep_NoKind => k_is); (case su_NoStep_NoBook => k_is); (case su_NoStep_NoCall => k_is); (case su_NoStep_NoRule => k_is); (case su_NoStep_NoFit => k_is); (case su_NoStep_Quarrel => k_is); (case su_NoStep_NoProgram => k_is); (case su_NoStep_NoDeed => k_is)
    (case su_NoStep_TooDeep => k_is); (case su_NoStep_TooLong => k_is); (case su_NoStep_NoName => k_is); (case su_NoStep_Taken => k_is); (case su_NoStep_Full => k_is); (case su_NoStep_Twice => k_is); (case su_NoStep_NoStep => k_is); (case su_NoStep_Needed => k_is)
    (case su_NoStep_NoText => k_is); (case su_NoStep_NoRow => k_is); (case su_Needed_CallError => k_is); (case su_Needed_NoWeb => k_is); (case su_Needed_NoKind => k_is); (case su_Needed_NoBook => k_is); (case su_Needed_NoCall => k_is); (case su_Needed_NoRule => k_is)
    (case su_Needed_NoFit => k_is); (case su_Needed_Quarrel => k_is); (case su_Needed_NoProgram => k_is); (case su_Needed_NoDeed => k_is); (case su_Needed_TooDeep => k_is); (case su_Needed_TooLong => k_is); (case su_Needed_NoName => k_is); (case su_Needed_Taken => k_is)
    (case su_Needed_Full => k_is); (case su_Needed_Twice => k_is); (case su_Needed_NoStep => k_is); (case su_Needed_Needed => k_is); (case su_Needed_NoText => k_is); (case su_Needed_NoRow => k_is); (case su_NoText_CallError => k_is); (case su_NoText_NoWeb => k_is)
    (case su_NoText_NoKind => k_is); (case su_NoText_NoBook => k_is); (case su_NoText_NoCall => k_is); (case su_NoText_NoRule => k_is); (case su_NoText_NoFit => k_is); (case su_NoText_Quarrel => k_is); (case su_NoText_NoProgram => k_is); (case su_NoText_NoDeed => k_is)
    (case su_NoText_TooDeep => k_is); (case su_NoText_TooLong => k_is); (case su_NoText_NoName => k_is); (case su_NoText_Taken => k_is); (case su_NoText_Full => k_is); (case su_NoText_Twice => k_is); (case su_NoText_NoStep => k_is); (case su_NoText_Needed => k_is)
    (case su_NoText_NoText => k_is); (case su_NoText_NoRow => k_is); (case su_NoRow_CallError => k_is); (case su_NoRow_NoWeb => k_is); (case su_NoRow_NoKind => k_is); (case su_NoRow_NoBook => k_is); (case su_NoRow_NoCall => k_is); (case su_NoRow_NoRule => k_is)
    (case su_NoRow_NoFit => k_is); (case su_NoRow_Quarrel => k_is); (case su_NoRow_NoProgram => k_is); (case su_NoRow_NoDeed => k_is); (case su_NoRow_TooDeep => k_is); (case su_NoRow_TooLong => k_is); (case su_NoRow_NoName => k_is); (case su_NoRow_Taken => k_is)
    (case su_NoRow_Full => k_is); (case su_NoRow_Twice => k_is); (case su_NoRow_NoStep => k_is); (case su_NoRow_Needed => k_is); (case su_NoRow_NoText => k_is); (case su_NoRow_NoRow => k_is); (case lI => k_is); (case cI => k_is)
    (case kI => k_is); (case tI => k_is)
