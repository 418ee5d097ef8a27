import PyProof.Rows.All
import Wide.All
import OpenK.AllK
import Wide.FinOn
import HandS.ForMost
import HandS.ForExc
import HandS.Walk
import HandS.WideBits
import HandS.TupAny
import HandS.TupMul
import HandS.Lambda
import HandS.TupLe
import HandS.IsInst
import HandS.CallSlots
import HandS.Style
import HandS.Defaults
import HandS.TryOnly
import HandS.ExcOwn
import HandS.Zip
import PyProof.Draws
import PyProof.EnumMake
import HandS.ExcBuiltin
import HandS.Small
import HandS.HeadHook1
import HandS.Head0
import HandS.Head1
import HandS.Head2
import HandS.Head3
import HandS.HeadHook2
import HandS.EndBits
import HandS.Gcd
import HandS.More
import KE.KFind
import HandS.SortRule
import HandS.SortInts
import KE.BitLaws
import PySem.Challenge.RW_anyenough_k67_whole_turns_of_many_neighb
set_option Elab.async false
set_option linter.all false
set_option maxRecDepth 100000
/-! NA: values as data, what represents them, the ghost world, steps, the state of a frame -/
namespace N
open PySem PySem.Spec PyProof.Rows L2

/-- a branch -/
def br : Bool → Prop → Prop → Prop
  | true, A, _ => A
  | false, _, B => B

inductive D where
  | non | bl (b : Bool) | int (i : Int) | str (x : Str) | ty (n : String) | ref (a : Addr)
  | tup (xs : List D) | lst (xs : List D) | dct (ks : List Key) (vs : List D) | ins (c : Nat) (ns : List Str) (vs : List D)
  /-- the law's script -/
  | scr (ns : List Int)

/-- the law's fixed things: the written part, the classes' places -/
structure Th where
  K : PySem.W.Frag
  cm : Nat → Addr
  /-- the tables of code objects of the defs that make lambdas, the lambdas' names -/
  tb : Nat → Addr × Str
/-- no table -/
abbrev noTb (o : HO) : Prop := ∀ ps, o ≠ .tbl ps

/-- what lies in the written part -/
def KT (K : PySem.W.Frag) (a : Addr) (vs : List V) : Prop := SqT K (fun _ => none) a vs
def KL (K : PySem.W.Frag) (a : Addr) (vs : List V) : Prop := SqL K (fun _ => none) a vs
theorem KT.to {K : PySem.W.Frag} {a : Addr} {vs : List V} {H : Hp} (h : KT K a vs) : SqT K H a vs := by
  rcases h with (h | ⟨_, h⟩) | h
  · cases h
  · cases h
  · exact .inr h
theorem KL.to {K : PySem.W.Frag} {a : Addr} {vs : List V} {H : Hp} (h : KL K a vs) : SqL K H a vs := by
  rcases h with (h | ⟨_, h⟩) | h
  · cases h
  · cases h
  · exact .inr h

mutual
/-- v stands for d; F: the addresses that may change -/
def Rep (T : Th) (F : Addr → Prop) (H : Hp) : D → V → Prop
  | .non, v => v = .non
  | .bl b, v => v = .bl b
  | .int i, v => v = .int i
  | .str x, v => v = .str x
  | .ty n, v => v = .ty n
  | .ref a, v => v = .ref a
  | .tup xs, v => ∃ a vs, v = .ref a ∧ ((H a = some (.tup vs) ∧ ¬ F a) ∨ KT T.K a vs) ∧ Reps T F H xs vs
  | .scr ns, v => ∃ a, v = .ref a ∧ ((Rd H a (.lst (ns.map V.int)) ∧ ¬ F a) ∨ KL T.K a (ns.map V.int))
  | .lst xs, v => ∃ a vs, v = .ref a ∧ H a = some (.lst vs) ∧ ¬ F a ∧ Reps T F H xs vs
  | .dct ks xs, v => ∃ a vs, v = .ref a ∧ (∃ o, H a = some (.frz o (.dK (ks.zip vs)))) ∧ ¬ F a ∧ ks.length = xs.length ∧ Reps T F H xs vs
  | .ins c ns xs, v => ∃ a dx vs, v = .ref a ∧ H a = some (.ins (T.cm c) dx (ns.zip vs)) ∧ ¬ F a ∧ ns.length = xs.length ∧ Reps T F H xs vs
def Reps (T : Th) (F : Addr → Prop) (H : Hp) : List D → List V → Prop
  | [], vs => vs = []
  | d :: ds, vs => ∃ v r, vs = v :: r ∧ Rep T F H d v ∧ Reps T F H ds r
end

/-- what is kept: all tracked that is not of F; what is new to F was untracked -/
structure Kp (F : Addr → Prop) (H : Hp) (F' : Addr → Prop) (H' : Hp) : Prop where
  same' : ∀ b o, H b = some o → noTb o → ¬ F b → H' b = some o
  fnew : ∀ b, F' b → F b ∨ H b = none
  trk : ∀ b, H b ≠ none → H' b ≠ none
/-- what was tracked stays tracked -/
theorem trk_ext {H H' : Hp} (h : ∀ b o, H b = some o → H' b = some o) : ∀ b, H b ≠ none → H' b ≠ none := fun b q z => by
  cases e : H b with
  | none => exact q e
  | some o => rw [h b o e] at z; cases z
theorem trk_upd {H : Hp} {p : Addr} {o : HO} : ∀ b, H b ≠ none → (upd H p o) b ≠ none := fun b q => by
  by_cases z : b = p
  · rw [z, upd_same]; simp
  · rw [upd_ne z]; exact q
theorem Kp.same {F F' : Addr → Prop} {H H' : Hp} (k : Kp F H F' H') (b : Addr) (o : HO) (h : H b = some o) (n : ¬ F b) (t : noTb o := by intro _ z; cases z) : H' b = some o := k.same' b o h t n
theorem Kp.rd {F F' : Addr → Prop} {H H' : Hp} {a : Addr} {u : HO} (k : Kp F H F' H') (h : Rd H a u) (hF : ¬ F a) (t : noTb u := by intro _ z; cases z) : Rd H' a u ∧ ¬ F' a := by
  rcases h with h | ⟨o, h⟩
  · exact ⟨.inl (k.same _ _ h hF t), fun z => (k.fnew _ z).elim hF fun n => by rw [h] at n; cases n⟩
  · exact ⟨.inr ⟨o, k.same _ _ h hF⟩, fun z => (k.fnew _ z).elim hF fun n => by rw [h] at n; cases n⟩
theorem Kp.refl {F : Addr → Prop} {H : Hp} : Kp F H F H := ⟨fun _ _ h _ _ => h, fun _ h => .inl h, fun _ h => h⟩

mutual
theorem Rep.kp {T : Th} {F F' : Addr → Prop} {H H' : Hp} (k : Kp F H F' H') : ∀ (d : D) (v : V), Rep T F H d v → Rep T F' H' d v
  | .non, v, h => h
  | .bl b, v, h => h
  | .int i, v, h => h
  | .str x, v, h => h
  | .ty n, v, h => h
  | .ref a, v, h => h
  | .tup xs, v, h => by
    simp only [Rep] at h ⊢
    obtain ⟨a, vs, e, h, r⟩ := h
    exact ⟨a, vs, e, h.imp (fun h => ⟨k.same _ _ h.1 h.2, (k.rd (.inl h.1) h.2).2⟩) id, Reps.kp k xs vs r⟩
  | .scr ns, v, h => by
    simp only [Rep] at h ⊢
    obtain ⟨a, e, h⟩ := h
    exact ⟨a, e, h.imp (fun h => k.rd h.1 h.2) id⟩
  | .lst xs, v, h => by
    simp only [Rep] at h ⊢
    obtain ⟨a, vs, e, h, n, r⟩ := h
    exact ⟨a, vs, e, k.same _ _ h n, (k.rd (.inl h) n).2, Reps.kp k xs vs r⟩
  | .dct ks xs, v, h => by
    simp only [Rep] at h ⊢
    obtain ⟨a, vs, e, ⟨o, h⟩, n, l, r⟩ := h
    exact ⟨a, vs, e, ⟨o, k.same _ _ h n⟩, (k.rd (.inr ⟨o, h⟩) n).2, l, Reps.kp k xs vs r⟩
  | .ins c ns xs, v, h => by
    simp only [Rep] at h ⊢
    obtain ⟨a, dx, vs, e, h, n, l, r⟩ := h
    exact ⟨a, dx, vs, e, k.same _ _ h n, (k.rd (.inl h) n).2, l, Reps.kp k xs vs r⟩
theorem Reps.kp {T : Th} {F F' : Addr → Prop} {H H' : Hp} (k : Kp F H F' H') : ∀ (ds : List D) (vs : List V), Reps T F H ds vs → Reps T F' H' ds vs
  | [], vs, h => by simpa [Reps] using h
  | d :: ds, vs, h => by
    simp only [Reps] at h ⊢
    obtain ⟨v, r, e, h1, h2⟩ := h
    exact ⟨v, r, e, Rep.kp k d v h1, Reps.kp k ds r h2⟩
end
section
variable {T : Th} {F : Addr → Prop} {H : Hp}
theorem Reps.len : ∀ {ds : List D} {vs : List V}, Reps T F H ds vs → vs.length = ds.length
  | [], vs, h => by simp only [Reps] at h; simp [h]
  | d :: ds, vs, h => by
    simp only [Reps] at h
    obtain ⟨v, r, e, _, h2⟩ := h
    subst e
    simp [Reps.len h2]
theorem Reps.get : ∀ {ds : List D} {vs : List V} {i : Nat} {d : D}, Reps T F H ds vs → ds[i]? = some d → ∃ v, vs[i]? = some v ∧ Rep T F H d v
  | [], _, _, _, _, e => by simp at e
  | d :: ds, vs, i, x, h, e => by
    simp only [Reps] at h
    obtain ⟨v, r, q, h1, h2⟩ := h
    subst q
    cases i with
    | zero => simp at e; subst e; exact ⟨v, rfl, h1⟩
    | succ i => exact Reps.get (i := i) h2 (by simpa using e)
theorem Reps.nil : Reps T F H [] [] := by simp [Reps]
theorem Reps.cons {d : D} {v : V} {ds : List D} {vs : List V} (h : Rep T F H d v) (r : Reps T F H ds vs) : Reps T F H (d :: ds) (v :: vs) := by
  simp only [Reps]; exact ⟨v, vs, rfl, h, r⟩
theorem Reps.app : ∀ {ds es : List D} {vs ws : List V}, Reps T F H ds vs → Reps T F H es ws → Reps T F H (ds ++ es) (vs ++ ws)
  | [], es, vs, ws, h, q => by simp only [Reps] at h; subst h; exact q
  | d :: ds, es, vs, ws, h, q => by
    simp only [Reps] at h
    obtain ⟨v, r, e, h1, h2⟩ := h
    subst e
    exact .cons h1 (Reps.app h2 q)
theorem Reps.take : ∀ {ds : List D} {vs : List V} (n : Nat), Reps T F H ds vs → Reps T F H (ds.take n) (vs.take n)
  | _, _, 0, _ => by simp [Reps]
  | [], vs, n + 1, h => by simp only [Reps] at h; subst h; simp [Reps]
  | d :: ds, vs, n + 1, h => by
    simp only [Reps] at h
    obtain ⟨v, r, e, h1, h2⟩ := h
    subst e
    exact .cons h1 (Reps.take n h2)
theorem Reps.drop : ∀ {ds : List D} {vs : List V} (n : Nat), Reps T F H ds vs → Reps T F H (ds.drop n) (vs.drop n)
  | _, _, 0, h => h
  | [], vs, n + 1, h => by simp only [Reps] at h; subst h; simp [Reps]
  | d :: ds, vs, n + 1, h => by
    simp only [Reps] at h
    obtain ⟨v, r, e, h1, h2⟩ := h
    subst e
    exact Reps.drop n h2
theorem Reps.set {d : D} {v : V} (q : Rep T F H d v) : ∀ {ds : List D} {vs : List V} (i : Nat), Reps T F H ds vs → Reps T F H (ds.set i d) (vs.set i v)
  | [], vs, i, h => by simp only [Reps] at h; subst h; simp [Reps]
  | e :: ds, vs, 0, h => by
    simp only [Reps] at h
    obtain ⟨v', r, e', h1, h2⟩ := h
    subst e'
    exact .cons q h2
  | e :: ds, vs, i + 1, h => by
    simp only [Reps] at h
    obtain ⟨v', r, e', h1, h2⟩ := h
    subst e'
    exact .cons h1 (Reps.set q i h2)
theorem Reps.rep {ds : List D} {vs : List V} (h : Reps T F H ds vs) : ∀ n : Nat, Reps T F H (List.replicate n ds).flatten (List.replicate n vs).flatten
  | 0 => by simp [Reps]
  | n + 1 => by
    rw [List.replicate_succ, List.replicate_succ, List.flatten_cons, List.flatten_cons]
    exact h.app (Reps.rep h n)
theorem Reps.ints : ∀ ns : List Int, Reps T F H (ns.map D.int) (ns.map V.int)
  | [] => by simp [Reps]
  | n :: ns => by
    rw [List.map_cons, List.map_cons]
    exact .cons (by simp [Rep]) (Reps.ints ns)
theorem Reps.ofInts : ∀ {ns : List Int} {vs : List V}, Reps T F H (ns.map D.int) vs → vs = ns.map V.int
  | [], vs, h => by simpa [Reps] using h
  | n :: ns, vs, h => by
    rw [List.map_cons] at h
    simp only [Reps, Rep] at h
    obtain ⟨v, r, e, h1, h2⟩ := h
    rw [e, h1, Reps.ofInts h2, List.map_cons]
theorem Reps.ofBls : ∀ {bs : List Bool} {vs : List V}, Reps T F H (bs.map D.bl) vs → vs = bs.map V.bl
  | [], vs, h => by simpa [Reps] using h
  | n :: ns, vs, h => by
    rw [List.map_cons] at h
    simp only [Reps, Rep] at h
    obtain ⟨v, r, e, h1, h2⟩ := h
    rw [e, h1, Reps.ofBls h2, List.map_cons]
end

/-! ### shared and own mutable things -/
inductive MO where
  | lst (xs : List D) | dct (ks : List Key) (vs : List D) | ins (c : Nat) (ns : List Str) (vs : List D)
  /-- a thing whose inside is not told: 0 a tape -/
  | abs (n : Nat)
abbrev Om := Addr → Option MO
/-- a tape: a list of a list of ints and an int -/
def TapeR (fp : Addr → Prop) (H : Hp) (a : Addr) : Prop := ∃ (c : Addr) (cs : List Int) (s : Int), a ≠ c ∧ (∀ b, fp b ↔ b = a ∨ b = c) ∧ H a = some (.lst [.ref c, .int s]) ∧ H c = some (.lst (cs.map V.int)) ∧ (∀ n ∈ cs, 0 ≤ n) ∧ cs.length ≤ 63 ∧ 0 ≤ s
/-- a table of code objects: each code object that it tells bears the name q -/
def TabN (F : Addr → Prop) (H : Hp) (a : Addr) (q : Str) : Prop := ∃ ps : Array Value, H a = some (.tbl ps) ∧ TriplesOk ps.toList ∧ ∀ (pos : Pos) (cv : Value), codeAmong pos ps.toList = some cv → ∃ c, cv = .ref c ∧ H c = some (LamX.CodeO c q) ∧ ¬ F c
theorem codeO_no {c : Addr} {q : Str} : noTb (LamX.CodeO c q) := fun ps => LamX.codeO_ne ps
theorem TabN.kp {F F' : Addr → Prop} {H H' : Hp} {a : Addr} {q : Str} (k : Kp F H F' H') (e : H' a = H a) (h : TabN F H a q) : TabN F' H' a q := by
  obtain ⟨ps, h1, h2, h3⟩ := h
  refine ⟨ps, e.trans h1, h2, fun pos cv hc => ?_⟩
  obtain ⟨c, e1, e2, e3⟩ := h3 pos cv hc
  exact ⟨c, e1, k.same _ _ e2 e3 codeO_no, fun z => (k.fnew _ z).elim e3 fun n => by rw [e2] at n; cases n⟩
def MRep (T : Th) (F fp : Addr → Prop) (H : Hp) (a : Addr) : MO → Prop
  | .lst ds => ∃ vs, H a = some (.lst vs) ∧ Reps T F H ds vs
  | .dct ks ds => ∃ vs, H a = some (.dK (ks.zip vs)) ∧ ks.length = ds.length ∧ Reps T F H ds vs
  | .ins c ns ds => ∃ dx vs, H a = some (.ins (T.cm c) dx (ns.zip vs)) ∧ ns.length = ds.length ∧ Reps T F H ds vs
  | .abs 0 => TapeR fp H a
  | .abs (n + 1) => a = (T.tb n).1 ∧ (∀ b, fp b ↔ b = a) ∧ TabN F H a (T.tb n).2
theorem MRep.kp {T : Th} {F F' fp : Addr → Prop} {H H' : Hp} {a : Addr} (k : Kp F H F' H') (hfp : ∀ b, fp b → H' b = H b) (ha : fp a) : ∀ {m : MO}, MRep T F fp H a m → MRep T F' fp H' a m
  | .lst ds, ⟨vs, h, r⟩ => ⟨vs, (hfp a ha).trans h, Reps.kp k _ _ r⟩
  | .dct ks ds, ⟨vs, h, l, r⟩ => ⟨vs, (hfp a ha).trans h, l, Reps.kp k _ _ r⟩
  | .ins c ns ds, ⟨dx, vs, h, l, r⟩ => ⟨dx, vs, (hfp a ha).trans h, l, Reps.kp k _ _ r⟩
  | .abs 0, ⟨c, cs, s, h1, h2, h3, h4, h5⟩ => ⟨c, cs, s, h1, h2, (hfp a ha).trans h3, (hfp c ((h2 c).mpr (.inr rfl))).trans h4, h5⟩
  | .abs (_ + 1), ⟨e, h1, h2⟩ => ⟨e, h1, h2.kp k (hfp a ha)⟩

/-- the ghost world: the shared mutable things, their places, all places that may change -/
structure Wd where
  Om : Om
  fp : Addr → Addr → Prop
  F : Addr → Prop
/-- b is a place of a shared thing -/
def Wd.pm (W : Wd) (b : Addr) : Prop := ∃ a, W.Om a ≠ none ∧ W.fp a b
structure WOk (T : Th) (W : Wd) (H : Hp) : Prop where
  at_ : ∀ a m, W.Om a = some m → MRep T W.F (W.fp a) H a m ∧ W.fp a a
  sub : ∀ b, W.pm b → W.F b
  dis : ∀ a a' b, W.Om a ≠ none → W.Om a' ≠ none → W.fp a b → W.fp a' b → a = a'
  trk : ∀ b, W.F b → H b ≠ none
  code : ∀ b q, W.F b → H b ≠ some (LamX.CodeO b q)
structure Step (T : Th) (W : Wd) (H : Hp) (W' : Wd) (H' : Hp) : Prop where
  ok : WOk T W' H'
  keep' : ∀ b o, H b = some o → noTb o → ¬ W.pm b → H' b = some o
  trk : ∀ b, H b ≠ none → H' b ≠ none
  sub : ∀ b, W.F b → W'.F b
  fnew : ∀ b, W'.F b → W.F b ∨ H b = none
  om : ∀ a, W.Om a ≠ none → W'.Om a ≠ none ∧ W'.fp a = W.fp a
  new : ∀ a b, W.Om a = none → W'.Om a ≠ none → W'.fp a b → H b = none
section
variable {T : Th} {W W1 W2 W' : Wd} {H H1 H2 H' : Hp}
theorem Step.keep (s : Step T W H W' H') (b : Addr) (o : HO) (h : H b = some o) (n : ¬ W.pm b) (t : noTb o := by intro _ z; cases z) : H' b = some o := s.keep' b o h t n
theorem Step.kp (s : Step T W H W' H') (ok : WOk T W H) : Kp W.F H W'.F H' := ⟨fun b o h t n => s.keep' b o h t fun z => n (ok.sub b z), s.fnew, s.trk⟩
theorem Step.refl (ok : WOk T W H) : Step T W H W H := ⟨ok, fun _ _ h _ _ => h, fun _ h => h, fun _ h => h, fun _ h => .inl h, fun _ h => ⟨h, rfl⟩, fun a b h h' => (h' h).elim⟩
theorem Step.trans (a : Step T W H W1 H1) (b : Step T W1 H1 W2 H2) : Step T W H W2 H2 where
  ok := b.ok
  keep' := fun c o h t n => b.keep' c o (a.keep' c o h t n) t fun ⟨x, hx, hf⟩ => by
    by_cases q : W.Om x = none
    · have := a.new x c q hx hf
      rw [h] at this; cases this
    · exact n ⟨x, q, by rw [← (a.om x q).2]; exact hf⟩
  trk := fun c h => b.trk c (a.trk c h)
  sub := fun c h => b.sub c (a.sub c h)
  fnew := fun c h => (b.fnew c h).elim (a.fnew c) fun n => .inr (by
    cases q : H c with
    | none => rfl
    | some o => exact absurd n (a.trk c (by rw [q]; simp)))
  om := fun x h => ⟨(b.om x (a.om x h).1).1, (b.om x (a.om x h).1).2.trans (a.om x h).2⟩
  new := fun x c h h' hf => by
    by_cases q : W1.Om x = none
    · have n := b.new x c q h' hf
      cases q2 : H c with
      | none => rfl
      | some o => exact absurd n (a.trk c (by rw [q2]; simp))
    · rw [(b.om x q).2] at hf
      exact a.new x c h q hf
/-- new things were laid, nothing changed -/
theorem WOk.ext (ok : WOk T W H) (h : ∀ b o, H b = some o → H' b = some o) : WOk T W H' where
  at_ := fun a m e => by
    obtain ⟨r, f⟩ := ok.at_ a m e
    refine ⟨MRep.kp ⟨fun b o q _ _ => h b o q, fun b q => .inl q, trk_ext h⟩ (fun b hb => ?_) f r, f⟩
    cases q : H b with
    | none => exact absurd q (ok.trk b (ok.sub b ⟨a, by rw [e]; simp, hb⟩))
    | some o => exact h b o q
  sub := ok.sub
  dis := ok.dis
  trk := fun b hb z => by
    cases q : H b with
    | none => exact ok.trk b hb q
    | some o => rw [h b o q] at z; cases z
  code := fun b q hb z => by
    cases e : H b with
    | none => exact ok.trk b hb e
    | some o =>
      rw [h b o e] at z
      exact ok.code b q hb (e.trans z)
theorem Step.ext (ok : WOk T W H) (h : ∀ b o, H b = some o → H' b = some o) : Step T W H W H' :=
  ⟨ok.ext h, fun b o q _ _ => h b o q, fun b q z => (by
    cases e : H b with
    | none => exact q e
    | some o => (rw [h b o e] at z; cases z)), fun _ q => q, fun _ q => .inl q, fun _ q => ⟨q, rfl⟩, fun a b q q' => (q' q).elim⟩
theorem ext_upd {p : Addr} {o : HO} (h : H p = none) : ∀ b u, H b = some u → (upd H p o) b = some u := fun b u e => by
  rw [upd_ne (ne_of_none e h)]; exact e
theorem Step.new1 (ok : WOk T W H) {p : Addr} {o : HO} (h : H p = none) : Step T W H W (upd H p o) := Step.ext ok (ext_upd h)
theorem nF (ok : WOk T W H) {p : Addr} (h : H p = none) : ¬ W.F p := fun z => ok.trk p z h
end

def Wd.add (W : Wd) (p : Addr) : Wd := { W with F := fun b => W.F b ∨ b = p }
def Wd.del (W : Wd) (p : Addr) : Wd := { W with F := fun b => W.F b ∧ b ≠ p }
section
variable {T : Th} {W W1 : Wd} {H H1 : Hp} {p : Addr} {o : HO}
theorem Kp.mut {F : Addr → Prop} (h : F p) : Kp F H F (upd H p o) := ⟨fun b u e _ n => by rw [upd_ne fun z => n (by rw [z]; exact h)]; exact e, fun _ h => .inl h, trk_upd⟩
theorem Kp.less {F F' : Addr → Prop} (h : ∀ b, F' b → F b) : Kp F H F' H := ⟨fun _ _ e _ _ => e, fun b q => .inl (h b q), fun _ h => h⟩
theorem Step.newOwn (ok : WOk T W H) (hp : H p = none) (no : ∀ q, o ≠ LamX.CodeO p q := by intro _ z; cases z) : Step T W H (W.add p) (upd H p o) := by
  have kp : Kp W.F H (W.add p).F (upd H p o) := ⟨fun b u e _ _ => ext_upd hp b u e, fun b h => h.imp _root_.id (fun e => by rw [e]; exact hp), trk_upd⟩
  refine ⟨⟨fun a m e => ?_, fun b h => .inl (ok.sub b h), ok.dis, fun b h => ?_, fun b q h => ?_⟩, fun b u e _ _ => ext_upd hp b u e, fun b h => ?_, fun b h => .inl h, kp.fnew, fun a h => ⟨h, rfl⟩, fun a b h h' => (h' h).elim⟩
  · obtain ⟨r, f⟩ := ok.at_ a m e
    refine ⟨MRep.kp kp (fun b hb => ?_) f r, f⟩
    have e' : W.Om a = some m := e
    refine upd_ne fun z => ok.trk b (ok.sub b ⟨a, by rw [e']; simp, hb⟩) (by rw [z]; exact hp)
  · rcases h with h | h
    · by_cases z : b = p
      · rw [z, upd_same]; simp
      · rw [upd_ne z]; exact ok.trk b h
    · rw [h, upd_same]; simp
  · by_cases z : b = p
    · subst z
      rw [upd_same]
      exact fun z => no q (Option.some.inj z)
    · rw [upd_ne z]
      rcases h with h | h
      · exact ok.code b q h
      · exact absurd h z
  · by_cases z : b = p
    · rw [z, upd_same]; simp
    · rw [upd_ne z]; exact h
theorem Step.mutO (s : Step T W1 H1 W H) (hn : H1 p = none) (hF : W.F p) (hpm : ¬ W.pm p) (no : ∀ q, o ≠ LamX.CodeO p q := by intro _ z; cases z) : Step T W1 H1 W (upd H p o) := by
  refine ⟨⟨fun a m e => ?_, s.ok.sub, s.ok.dis, fun b h => ?_, fun b q h => ?_⟩, fun b u e t n => ?_, fun b h => ?_, s.sub, s.fnew, s.om, s.new⟩
  · obtain ⟨r, f⟩ := s.ok.at_ a m e
    exact ⟨MRep.kp (Kp.mut hF) (fun b hb => upd_ne fun z => hpm ⟨a, by rw [e]; simp, z ▸ hb⟩) f r, f⟩
  · by_cases z : b = p
    · rw [z, upd_same]; simp
    · rw [upd_ne z]; exact s.ok.trk b h
  · by_cases z : b = p
    · subst z
      rw [upd_same]
      exact fun z => no q (Option.some.inj z)
    · rw [upd_ne z]
      exact s.ok.code b q h
  · rw [upd_ne (ne_of_none e hn)]; exact s.keep' b u e t n
  · by_cases z : b = p
    · rw [z, upd_same]; simp
    · rw [upd_ne z]; exact s.trk b h
theorem Step.del (s : Step T W1 H1 W H) (ok : WOk T W1 H1) (hn : H1 p = none) (hpm : ¬ W.pm p) : Step T W1 H1 (W.del p) H := by
  refine ⟨⟨fun a m e => ?_, fun b h => ⟨s.ok.sub b h, fun z => hpm (z ▸ h)⟩, s.ok.dis, fun b h => s.ok.trk b h.1, fun b q h => s.ok.code b q h.1⟩, s.keep', s.trk, fun b h => ⟨s.sub b h, fun z => ok.trk b h (by rw [z]; exact hn)⟩, fun b h => s.fnew b h.1, s.om, s.new⟩
  obtain ⟨r, f⟩ := s.ok.at_ a m e
  exact ⟨MRep.kp (Kp.less fun b h => h.1) (fun b _ => rfl) f r, f⟩
theorem Step.back (s : Step T W1 H1 W H) (h : H p = none) : H1 p = none := by
  cases q : H1 p with
  | none => rfl
  | some o => exact absurd h (s.trk p (by rw [q]; simp))
end
/-- v stands for d just now: the thing itself may be one's own; Pm: the shared places -/
def RepT (T : Th) (F Pm : Addr → Prop) (H : Hp) : D → V → Prop
  | .lst xs, v => ∃ a vs, v = .ref a ∧ H a = some (.lst vs) ∧ ¬ Pm a ∧ Reps T F H xs vs
  | .dct ks xs, v => ∃ a vs, v = .ref a ∧ Rd H a (.dK (ks.zip vs)) ∧ ¬ Pm a ∧ ks.length = xs.length ∧ Reps T F H xs vs
  | .ins c ns xs, v => ∃ a dx vs, v = .ref a ∧ H a = some (.ins (T.cm c) dx (ns.zip vs)) ∧ ¬ Pm a ∧ ns.length = xs.length ∧ Reps T F H xs vs
  | .non, v => v = .non
  | .bl b, v => v = .bl b
  | .int i, v => v = .int i
  | .str x, v => v = .str x
  | .ty n, v => v = .ty n
  | .ref a, v => v = .ref a
  | .tup xs, v => Rep T F H (.tup xs) v
  | .scr ns, v => Rep T F H (.scr ns) v
section
variable {T : Th} {W W' : Wd} {H H' : Hp}
theorem Rep.t {F Pm : Addr → Prop} (s : ∀ b, Pm b → F b) : ∀ {d : D} {v : V}, Rep T F H d v → RepT T F Pm H d v
  | .non, v, h => by simp only [Rep] at h; exact h
  | .bl b, v, h => by simp only [Rep] at h; exact h
  | .int i, v, h => by simp only [Rep] at h; exact h
  | .str x, v, h => by simp only [Rep] at h; exact h
  | .ty n, v, h => by simp only [Rep] at h; exact h
  | .ref a, v, h => by simp only [Rep] at h; exact h
  | .tup xs, v, h => h
  | .scr xs, v, h => h
  | .lst xs, v, h => by
    simp only [Rep] at h
    obtain ⟨a, vs, e, h, n, r⟩ := h
    exact ⟨a, vs, e, h, fun z => n (s _ z), r⟩
  | .dct ks xs, v, h => by
    simp only [Rep] at h
    obtain ⟨a, vs, e, ⟨o, h⟩, n, l, r⟩ := h
    exact ⟨a, vs, e, .inr ⟨o, h⟩, fun z => n (s _ z), l, r⟩
  | .ins c ns xs, v, h => by
    simp only [Rep] at h
    obtain ⟨a, dx, vs, e, h, n, l, r⟩ := h
    exact ⟨a, dx, vs, e, h, fun z => n (s _ z), l, r⟩
theorem Step.pm (s : Step T W H W' H') {b : Addr} {o : HO} (h : H b = some o) (n : ¬ W.pm b) : ¬ W'.pm b := fun ⟨x, hx, hf⟩ => by
  by_cases q : W.Om x = none
  · have := s.new x b q hx hf
    rw [h] at this; cases this
  · exact n ⟨x, q, by rw [← (s.om x q).2]; exact hf⟩
theorem RepT.step (s : Step T W H W' H') (ok : WOk T W H) : ∀ {d : D} {v : V}, RepT T W.F W.pm H d v → RepT T W'.F W'.pm H' d v
  | .non, v, h => h
  | .bl b, v, h => h
  | .int i, v, h => h
  | .str x, v, h => h
  | .ty n, v, h => h
  | .ref a, v, h => h
  | .tup xs, v, h => Rep.kp (s.kp ok) _ _ h
  | .scr xs, v, h => Rep.kp (s.kp ok) _ _ h
  | .lst xs, v, ⟨a, vs, e, h, n, r⟩ => ⟨a, vs, e, s.keep _ _ h n, s.pm h n, Reps.kp (s.kp ok) _ _ r⟩
  | .dct ks xs, v, ⟨a, vs, e, .inl h, n, l, r⟩ => ⟨a, vs, e, .inl (s.keep _ _ h n), s.pm h n, l, Reps.kp (s.kp ok) _ _ r⟩
  | .dct ks xs, v, ⟨a, vs, e, .inr ⟨o, h⟩, n, l, r⟩ => ⟨a, vs, e, .inr ⟨o, s.keep _ _ h n⟩, s.pm h n, l, Reps.kp (s.kp ok) _ _ r⟩
  | .ins c ns xs, v, ⟨a, dx, vs, e, h, n, l, r⟩ => ⟨a, dx, vs, e, s.keep _ _ h n, s.pm h n, l, Reps.kp (s.kp ok) _ _ r⟩
end

/-! ### a frame's state -/
inductive Sl where
  | no | val (d : D) | own (m : MO)
abbrev Gam := List Sl
/-- a def's fixed things: the entry's world and heap, the wish about exceptions -/
structure Pm where
  T : Th
  W : WX
  W0 : Wd
  H0 : Hp
abbrev Pm.noW (P : Pm) : Pm := { P with W := fun _ _ _ _ => False }
structure OwnAt (P : Pm) (W : Wd) (H : Hp) (a : Addr) (m : MO) : Prop where
  f : W.F a
  o : W.Om a = none
  p : ¬ W.pm a
  n : P.H0 a = none
  r : MRep P.T W.F (fun _ => False) H a m
def SlR (P : Pm) (W : Wd) (H : Hp) : Sl → Option (Option V) → Prop
  | .no, _ => True
  | .val d, o => ∃ v, o = some (some v) ∧ Rep P.T W.F H d v
  | .own m, o => ∃ a, o = some (some (.ref a)) ∧ OwnAt P W H a m
structure Sta (P : Pm) (G : Gam) (W : Wd) (σ : L2.St) (H : Hp) : Prop where
  st : Step P.T P.W0 P.H0 W H
  len : G.length = σ.length
  sl : ∀ (i : Nat) s, G[i]? = some s → SlR P W H s σ[i]?
  ap : ∀ (i j : Nat) m m' a, G[i]? = some (.own m) → G[j]? = some (.own m') → σ[i]? = some (some (.ref a)) → σ[j]? = some (some (.ref a)) → i = j
theorem noFp {T : Th} {F F' fp : Addr → Prop} {H H' : Hp} {a : Addr} (k : Kp F H F' H') (e : H' a = H a) : ∀ {m : MO}, MRep T F (fun _ => False) H a m → MRep T F' (fun _ => False) H' a m
  | .lst ds, ⟨vs, h, r⟩ => ⟨vs, e.trans h, Reps.kp k _ _ r⟩
  | .dct ks ds, ⟨vs, h, l, r⟩ => ⟨vs, e.trans h, l, Reps.kp k _ _ r⟩
  | .ins c ns ds, ⟨dx, vs, h, l, r⟩ => ⟨dx, vs, e.trans h, l, Reps.kp k _ _ r⟩
  | .abs 0, ⟨c, cs, s, h1, h2, _⟩ => (((h2 a).mpr (.inl rfl))).elim
  | .abs (_ + 1), ⟨_, h1, _⟩ => ((h1 a).mpr rfl).elim
theorem MRep.noTb {T : Th} {F : Addr → Prop} {H : Hp} {a : Addr} {o : HO} : ∀ {m : MO}, MRep T F (fun _ => False) H a m → H a = some o → noTb o
  | .lst ds, ⟨vs, h, _⟩, e => fun ps z => by rw [h] at e; cases e; cases z
  | .dct ks ds, ⟨vs, h, _⟩, e => fun ps z => by rw [h] at e; cases e; cases z
  | .ins c ns ds, ⟨dx, vs, h, _⟩, e => fun ps z => by rw [h] at e; cases e; cases z
  | .abs 0, ⟨c, cs, s, h1, h2, _⟩, _ => (((h2 a).mpr (.inl rfl))).elim
  | .abs (_ + 1), ⟨_, h1, _⟩, _ => ((h1 a).mpr rfl).elim
theorem MRep.noCode {T : Th} {F : Addr → Prop} {H : Hp} {a : Addr} {o : HO} : ∀ {m : MO}, MRep T F (fun _ => False) H a m → H a = some o → ∀ q, o ≠ LamX.CodeO a q
  | .lst ds, ⟨vs, h, _⟩, e => fun ps z => by rw [h] at e; cases e; cases z
  | .dct ks ds, ⟨vs, h, _⟩, e => fun ps z => by rw [h] at e; cases e; cases z
  | .ins c ns ds, ⟨dx, vs, h, _⟩, e => fun ps z => by rw [h] at e; cases e; cases z
  | .abs 0, ⟨c, cs, s, h1, h2, _⟩, _ => (((h2 a).mpr (.inl rfl))).elim
  | .abs (_ + 1), ⟨_, h1, _⟩, _ => ((h1 a).mpr rfl).elim
section
variable {P : Pm} {G : Gam} {W W' : Wd} {σ : L2.St} {H H' : Hp} {m : MO} {a : Addr}
theorem OwnAt.there (h : OwnAt P W H a m) (ok : WOk P.T W H) : ∃ o, H a = some o := by
  cases q : H a with
  | none => exact absurd q (ok.trk a h.f)
  | some o => exact ⟨o, rfl⟩
theorem OwnAt.step (h : OwnAt P W H a m) (ok : WOk P.T W H) (s : Step P.T W H W' H') : OwnAt P W' H' a m := by
  obtain ⟨o, e⟩ := h.there ok
  have np : ¬ W'.pm a := fun ⟨x, hx, hf⟩ => by
    by_cases q : W.Om x = none
    · have := s.new x a q hx hf
      rw [e] at this; cases this
    · exact h.p ⟨x, q, by rw [← (s.om x q).2]; exact hf⟩
  refine ⟨s.sub _ h.f, ?_, np, h.n, noFp (fp := fun _ => False) (s.kp ok) ((s.keep a o e h.p (h.r.noTb e)).trans e.symm) h.r⟩
  cases q : W'.Om a with
  | none => rfl
  | some m' => exact (np ⟨a, by rw [q]; simp, (s.ok.at_ a m' q).2⟩).elim
theorem Sta.ok (S : Sta P G W σ H) : WOk P.T W H := S.st.ok
theorem Sta.step (S : Sta P G W σ H) (s : Step P.T W H W' H') : Sta P G W' σ H' := by
  refine ⟨S.st.trans s, S.len, fun i x e => ?_, S.ap⟩
  have q := S.sl i x e
  cases x with
  | no => trivial
  | val d =>
    obtain ⟨v, e1, r⟩ := q
    exact ⟨v, e1, Rep.kp (s.kp S.ok) d v r⟩
  | own m =>
    obtain ⟨a, e1, r⟩ := q
    exact ⟨a, e1, r.step S.ok s⟩
/-- another wish -/
theorem Sta.noW (S : Sta P G W σ H) : Sta P.noW G W σ H :=
  ⟨S.st, S.len, fun i x e => by
    have q := S.sl i x e
    cases x with
    | no => trivial
    | val d => exact q
    | own m => obtain ⟨a, e, o⟩ := q; exact ⟨a, e, ⟨o.f, o.o, o.p, o.n, o.r⟩⟩, S.ap⟩
end
end N

set_option Elab.async false
set_option linter.all false
set_option maxRecDepth 100000
/-! NB: what is wanted, told over data; the judgements; names, operators, tests, displays -/
namespace N
open PySem PySem.Spec PyProof.Rows L2

/-- an exception of an own class -/
structure Exn where
  c : Nat
  ns : List Str
  vs : List D
def XRep (T : Th) (F : Addr → Prop) (H : Hp) (x : Exn) (cls : Value) (dd : Option Addr) : Prop :=
  cls = .ref (T.cm x.c) ∧ ((x.ns = [] ∧ dd = none) ∨ ∃ d ws, dd = some d ∧ x.ns ≠ [] ∧ H d = some (.xd (x.ns.zip ws)) ∧ ¬ F d ∧ x.ns.length = x.vs.length ∧ Reps T F H x.vs ws)
abbrev RX := Exn → Om → Prop
abbrev WE := Gam → Om → (D → Om → Prop) → RX → Prop
abbrev WT := Gam → Om → (Bool → Om → Prop) → RX → Prop
abbrev WA := Gam → Om → (List D → Om → Prop) → RX → Prop

def exOk (P : Pm) (W : Wd) (H : Hp) (σ : L2.St) (R : RX) : Prop := ∀ x Om', R x Om' → ∀ cls dd H' W', Step P.T W H W' H' → W'.Om = Om' → XRep P.T W'.F H' x cls dd → P.W cls dd σ H'
theorem exOk.step {P : Pm} {W W' : Wd} {H H' : Hp} {σ : L2.St} {R : RX} (e : exOk P W H σ R) (s : Step P.T W H W' H') : exOk P W' H' σ R :=
  fun x o h cls dd H2 W2 s2 q r => e x o h cls dd H2 W2 (s.trans s2) q r

def tE (P : Pm) (w : WE) : TE := fun σ H Q => ∃ G W Q0 R0, Sta P G W σ H ∧ w G W.Om Q0 R0 ∧ exOk P W H σ R0 ∧ ∀ d Om', Q0 d Om' → ∀ v H' W', Step P.T W H W' H' → W'.Om = Om' → Rep P.T W'.F H' d v → Q v H'
def tB (P : Pm) (w : WE) : TE := fun σ H Q => ∃ G W Q0 R0, Sta P G W σ H ∧ w G W.Om Q0 R0 ∧ exOk P W H σ R0 ∧ ∀ d Om', Q0 d Om' → ∀ v H' W', Step P.T W H W' H' → W'.Om = Om' → RepT P.T W'.F W'.pm H' d v → Q v H'
def tT (P : Pm) (w : WT) : TT := fun σ H Q => ∃ G W Q0 R0, Sta P G W σ H ∧ w G W.Om Q0 R0 ∧ exOk P W H σ R0 ∧ ∀ b Om', Q0 b Om' → ∀ H' W', Step P.T W H W' H' → W'.Om = Om' → Q b H'
def tA (P : Pm) (w : WA) : TA := fun σ H Q => ∃ G W Q0 R0, Sta P G W σ H ∧ w G W.Om Q0 R0 ∧ exOk P W H σ R0 ∧ ∀ ds Om', Q0 ds Om' → ∀ vs H' W', Step P.T W H W' H' → W'.Om = Om' → Reps P.T W'.F H' ds vs → Q vs H'
/-- .. arguments that may be own things -/
def RepsT (T : Th) (F Pm : Addr → Prop) (H : Hp) : List D → List V → Prop
  | [], vs => vs = []
  | d :: ds, vs => ∃ v r, vs = v :: r ∧ RepT T F Pm H d v ∧ RepsT T F Pm H ds r
def tAB (P : Pm) (w : WA) : TA := fun σ H Q => ∃ G W Q0 R0, Sta P G W σ H ∧ w G W.Om Q0 R0 ∧ exOk P W H σ R0 ∧ ∀ ds Om', Q0 ds Om' → ∀ vs H' W', Step P.T W H W' H' → W'.Om = Om' → RepsT P.T W'.F W'.pm H' ds vs → Q vs H'

structure DE (X : Cx) (P : Pm) (e : Expr) (w : WE) : Prop where
  pe : PE X e (tE P w)
structure DB (X : Cx) (P : Pm) (e : Expr) (w : WE) : Prop where
  pe : PE X e (tB P w)
structure DT (X : Cx) (P : Pm) (e : Expr) (w : WT) : Prop where
  pt : PT X e (tT P w)
structure DA (X : Cx) (P : Pm) (es : List Expr) (w : WA) : Prop where
  pa : PA X es (tA P w)
structure DAB (X : Cx) (P : Pm) (es : List Expr) (w : WA) : Prop where
  pa : PA X es (tAB P w)

section
variable {X : Cx} {P : Pm} {e a b c : Expr} {es : List Expr} {wa wb wc w : WE} {pos : Pos}
theorem pe_imp {t t' : TE} (h : PE X e t) (i : ∀ σ H Q, t' σ H Q → t σ H Q) : PE X e t' := ⟨fun pins s σ H Q I q => h.run pins s σ H Q I (i σ H Q q)⟩
theorem pt_imp {t t' : TT} (h : PT X e t) (i : ∀ σ H Q, t' σ H Q → t σ H Q) : PT X e t' := ⟨fun pins s σ H Q I q => h.run pins s σ H Q I (i σ H Q q)⟩
theorem pw_imp {t t' : TT} (h : PW X e t) (i : ∀ σ H Q, t' σ H Q → t σ H Q) : PW X e t' := ⟨fun wh pins s σ H Q I q => h.run wh pins s σ H Q I (i σ H Q q)⟩
theorem pa_imp {t t' : TA} (h : PA X es t) (i : ∀ σ H Q, t' σ H Q → t σ H Q) : PA X es t' := ⟨fun pos pins s σ H Q I q => h.run pos pins s σ H Q I (i σ H Q q)⟩
/-- every value may be looked at -/
theorem DE.br (h : DE X P e w) : DB X P e w := ⟨pe_imp h.pe fun σ H Q ⟨G, W, Q0, R0, S, hw, ex, q⟩ => ⟨G, W, Q0, R0, S, hw, ex, fun d o h0 v H' W' s eq r => q d o h0 v H' W' s eq (r.t s.ok.sub)⟩⟩

/-! ### names and constants -/
def getSl : Gam → Nat → Sl
  | [], _ => .no
  | s :: _, 0 => s
  | _ :: r, i + 1 => getSl r i
theorem getSl_get : ∀ (G : Gam) (i : Nat), getSl G i ≠ .no → G[i]? = some (getSl G i)
  | [], _, h => (h rfl).elim
  | s :: _, 0, _ => rfl
  | _ :: r, i + 1, h => by
    show (_ :: r)[i + 1]? = some (getSl r i)
    rw [List.getElem?_cons_succ]
    exact getSl_get r i h
/-- what is seen of an own thing -/
def MO.see : MO → D
  | .lst xs => .lst xs
  | .dct ks vs => .dct ks vs
  | .ins c ns vs => .ins c ns vs
  | .abs _ => .non
def wVar (i : Nat) : WE := fun G Om Q _ => match getSl G i with | .val d => Q d Om | _ => False
def wVarB (i : Nat) : WE := fun G Om Q _ => match getSl G i with | .val d => Q d Om | .own m => Q m.see Om | _ => False
def wC (d : D) : WE := fun _ Om Q _ => Q d Om
theorem de_var (i : Nat) {x : Str} {pos : Pos} (hN : X.N[i]? = some x := by rfl) (hv : Vis X.env.scope x := by first | exact Or.inl rfl | exact Or.inr (Or.inl rfl) | exact Or.inr (Or.inr rfl)) (hd : (x == ("__debug__" : Str)) = false := by decide)
    (hcd : (x == ("__classdict__" : Str)) = false := by decide) : DE X P (.Name x pos) (wVar i) := by
  refine ⟨pe_imp (pe_var hN hv hd hcd) fun σ H Q ⟨G, W, Q0, R0, S, hw, ex, q⟩ => ?_⟩
  unfold wVar at hw
  split at hw
  · rename_i d e
    have g := getSl_get G i (by rw [e]; intro z; cases z)
    rw [e] at g
    obtain ⟨v, e1, r⟩ := S.sl i _ g
    exact ⟨v, e1, q d _ hw v H W (Step.refl S.ok) rfl r⟩
  · exact hw.elim
theorem db_var (i : Nat) {x : Str} {pos : Pos} (hN : X.N[i]? = some x := by rfl) (hv : Vis X.env.scope x := by first | exact Or.inl rfl | exact Or.inr (Or.inl rfl) | exact Or.inr (Or.inr rfl)) (hd : (x == ("__debug__" : Str)) = false := by decide)
    (hcd : (x == ("__classdict__" : Str)) = false := by decide) : DB X P (.Name x pos) (wVarB i) := by
  refine ⟨pe_imp (pe_var hN hv hd hcd) fun σ H Q ⟨G, W, Q0, R0, S, hw, ex, q⟩ => ?_⟩
  unfold wVarB at hw
  split at hw
  · rename_i d e
    have g := getSl_get G i (by rw [e]; intro z; cases z)
    rw [e] at g
    obtain ⟨v, e1, r⟩ := S.sl i _ g
    exact ⟨v, e1, q d _ hw v H W (Step.refl S.ok) rfl (r.t S.ok.sub)⟩
  · rename_i m e
    have g := getSl_get G i (by rw [e]; intro z; cases z)
    rw [e] at g
    obtain ⟨a, e1, o⟩ := S.sl i _ g
    refine ⟨.ref a, e1, q m.see _ hw _ H W (Step.refl S.ok) rfl ?_⟩
    cases m with
    | lst ds =>
      obtain ⟨vs, h, r⟩ := o.r
      exact ⟨a, vs, rfl, h, o.p, r⟩
    | dct ks ds =>
      obtain ⟨vs, h, l, r⟩ := o.r
      exact ⟨a, vs, rfl, .inl h, o.p, l, r⟩
    | ins c ns ds =>
      obtain ⟨dx, vs, h, l, r⟩ := o.r
      exact ⟨a, dx, vs, rfl, h, o.p, l, r⟩
    | abs n =>
      cases n with
      | zero => obtain ⟨c, cs, s, h1, h2, _⟩ := o.r; exact (((h2 a).mpr (.inl rfl))).elim
      | succ n => obtain ⟨_, h1, _⟩ := o.r; exact ((h1 a).mpr rfl).elim
  · exact hw.elim
theorem de_c {v : V} {d : D} (h : PE X e (tC v)) (hr : ∀ T F H, Rep T F H d v) : DE X P e (wC d) :=
  ⟨pe_imp h fun σ H Q ⟨G, W, Q0, R0, S, hw, ex, q⟩ => q d _ hw v H W (Step.refl S.ok) rfl (hr _ _ _)⟩
theorem de_int {i : Int} {j pos} : DE X P (.Constant (.int i) j pos) (wC (.int i)) := de_c pe_int fun _ _ _ => by simp [Rep]
theorem de_bl {i : Bool} {j pos} : DE X P (.Constant (.bool i) j pos) (wC (.bl i)) := de_c pe_bl fun _ _ _ => by simp [Rep]
theorem de_non {j pos} : DE X P (.Constant .none j pos) (wC .non) := de_c pe_non fun _ _ _ => by simp [Rep]
theorem de_str {x : Str} {j pos} : DE X P (.Constant (.str x) j pos) (wC (.str x)) := de_c pe_str fun _ _ _ => by simp [Rep]
/-- a module's int, text -/
theorem de_gint {x : Str} {i : Int} {t : Tok} {pos : Pos} (hm : X.mg x = some (.int i t)) (hg : Gl X x := by rfl) (hd : (x == ("__debug__" : Str)) = false := by decide) : DE X P (.Name x pos) (wC (.int i)) := de_c (pe_glob hg hm (v := .int i) ⟨t, rfl⟩ hd) fun _ _ _ => by simp [Rep]
theorem de_gstr {x s : Str} {t : Tok} {pos : Pos} (hm : X.mg x = some (.str s t)) (hg : Gl X x := by rfl) (hd : (x == ("__debug__" : Str)) = false := by decide) : DE X P (.Name x pos) (wC (.str s)) := de_c (pe_glob hg hm (v := .str s) ⟨t, rfl⟩ hd) fun _ _ _ => by simp [Rep]
/-- a built-in class as a value -/
theorem de_ty {x : Str} {n : String} {pos : Pos} (hm : X.mg x = none) (hg : Gl X x := by rfl) (hv : bootBuiltins x = some (.type n) := by decide +kernel) (hn : x ≠ "__name__" := by decide) (hd : (x == ("__debug__" : Str)) = false := by decide) : DE X P (.Name x pos) (wC (.ty n)) :=
  de_c (pe_bltn hg hm hv (v := .ty n) rfl hn hd) fun _ _ _ => by simp [Rep]
/-- an own class as a value -/
theorem de_cls {x : Str} {C : Addr} {pos : Pos} (hm : X.mg x = some (.ref C)) (hg : Gl X x := by rfl) (hd : (x == ("__debug__" : Str)) = false := by decide) : DE X P (.Name x pos) (wC (.ref C)) := de_c (pe_glob hg hm (v := .ref C) rfl hd) fun _ _ _ => by simp [Rep]
/-- code that is never come to -/
def wNever : WE := fun _ _ _ _ => False
theorem de_never : DE X P e wNever := ⟨⟨fun _ _ _ _ _ _ ⟨_, _, _, _, _, h, _⟩ => h.elim⟩⟩
theorem db_never : DB X P e wNever := de_never.br

/-! ### operators -/
abbrev GD := D → D → (D → Prop) → Prop
/-- new things may have come, nothing else -/
abbrev Nw (H H' : Hp) : Prop := ∀ b o, H b = some o → H' b = some o
def rD (T : Th) (g : GD) : R2 := fun x y H Q => ∃ (F Pm : Addr → Prop) (dx dy : D) (Qd : D → Prop), RepT T F Pm H dx x ∧ RepT T F Pm H dy y ∧ (∀ b, F b → H b ≠ none) ∧ g dx dy Qd ∧ ∀ z, Qd z → ∀ v H', Nw H H' → Rep T F H' z v → Q v H'
def OpD (X : Cx) (T : Th) (f : Value → Value → Sem Value) (g : GD) : Prop := OpR X f (rD T g)
def wBin (g : GD) (wa wb : WE) : WE := fun G Om Q R => wa G Om (fun x O1 => wb G O1 (fun y O2 => g x y fun z => Q z O2) R) R
theorem bin_imp {g : GD} {wa wb : WE} : ∀ σ H Q, tE P (wBin g wa wb) σ H Q → tOp (rD P.T g) (tB P wa) (tB P wb) σ H Q := fun σ H Q h => by
  obtain ⟨G, W, Q0, R0, S, h, ex, hq⟩ := h
  refine ⟨G, W, _, R0, S, h, ex, fun dx O1 h1 x H1 W1 s1 e1 rx => ?_⟩
  subst e1
  refine ⟨G, W1, _, R0, S.step s1, h1, ex.step s1, fun dy O2 h2 y H2 W2 s2 e2 ry => ?_⟩
  refine ⟨W2.F, W2.pm, dx, dy, _, rx.step s2 s1.ok, ry, s2.ok.trk, h2, fun z hz v H3 xt r => ?_⟩
  exact hq z O2 hz v H3 W2 ((s1.trans s2).trans (Step.ext s2.ok xt)) e2 r
theorem de_bin {op : Operator} {g : GD} (ho : OpD X P.T (binaryOp op) g) (ha : DB X P a wa) (hb : DB X P b wb) : DE X P (.BinOp a op b pos) (wBin g wa wb) := ⟨pe_imp (pe_op ho ha.pe hb.pe) bin_imp⟩
theorem de_cmp {op : CmpOp} {g : GD} (ho : OpD X P.T (compareOp op) g) (ha : DB X P a wa) (hb : DB X P b wb) (hm : behindInMarks op b = false := by first | exact nomark _ | rfl) : DE X P (.Compare a [op] [b] pos) (wBin g wa wb) :=
  ⟨pe_imp (pe_cmpR ho ha.pe hb.pe hm) bin_imp⟩
/-- a value as a test -/
def wTst (w : WE) : WT := fun G Om Q R => w G Om (fun d O => match d with | .bl b => Q b O | _ => False) R
theorem tst_imp {t : TE} (h : ∀ σ H Q, tE P w σ H Q → t σ H Q) : ∀ σ H Q, tT P (wTst w) σ H Q → tTest t σ H Q := fun σ H Q q => by
  obtain ⟨G, W, Q0, R0, S, q, ex, hq⟩ := q
  refine h σ H _ ⟨G, W, _, R0, S, q, ex, fun d O h1 v H1 W1 s1 e1 r => ?_⟩
  cases d with
  | bl b =>
    simp only [Rep] at r
    exact ⟨b, r, hq b O h1 H1 W1 s1 e1⟩
  | _ => exact h1.elim
theorem dt_cmp {op : CmpOp} {g : GD} (ho : OpD X P.T (compareOp op) g) (ha : DB X P a wa) (hb : DB X P b wb) (hm : behindInMarks op b = false := by first | exact nomark _ | rfl) : DT X P (.Compare a [op] [b] pos) (wTst (wBin g wa wb)) :=
  ⟨pt_imp (pt_cmpR ho ha.pe hb.pe hm) (tst_imp bin_imp)⟩
theorem dt_val (h : DE X P e w) (he : ∀ whole, isTrue e X.env whole = (do let v ← whole; standAt e.pos; holding [v] (truthy v)) := by intro _; rfl) : DT X P e (wTst w) :=
  ⟨pt_imp (pt_val h.pe he) fun σ H Q q => tst_imp (t := tE P w) (fun _ _ _ z => z) σ H Q q⟩
/-- one-place -/
def wUn (g : D → (D → Prop) → Prop) (wa : WE) : WE := fun G Om Q R => wa G Om (fun x O => g x fun z => Q z O) R
def UnD (X : Cx) (T : Th) (f : Value → Sem Value) (g : D → (D → Prop) → Prop) : Prop :=
  UnR X f fun x H Q => ∃ (F Pm : Addr → Prop) (dx : D) (Qd : D → Prop), RepT T F Pm H dx x ∧ g dx Qd ∧ ∀ z, Qd z → ∀ v H', Nw H H' → Rep T F H' z v → Q v H'
theorem de_un {op : UnaryOp} {g : D → (D → Prop) → Prop} (ho : UnD X P.T (unaryOp op) g) (ha : DB X P a wa) : DE X P (.UnaryOp op a pos) (wUn g wa) := by
  refine ⟨pe_imp (pe_un ho ha.pe) fun σ H Q q => ?_⟩
  obtain ⟨G, W, Q0, R0, S, q, ex, hq⟩ := q
  refine ⟨G, W, _, R0, S, q, ex, fun d O h1 v H1 W1 s1 e1 r => ⟨W1.F, W1.pm, d, _, r, h1, fun z hz u H2 xt r2 => ?_⟩⟩
  exact hq z O hz u H2 W1 (s1.trans (Step.ext s1.ok xt)) e1 r2

/-! ### and, or, not, a if t else b -/
def wtAnd (t u : WT) : WT := fun G Om Q R => t G Om (fun b O => br b (u G O Q R) (Q false O)) R
def wtOr (t u : WT) : WT := fun G Om Q R => t G Om (fun b O => br b (Q true O) (u G O Q R)) R
def wtNot (t : WT) : WT := fun G Om Q R => t G Om (fun b O => Q (!b) O) R
structure DW (X : Cx) (P : Pm) (e : Expr) (w : WT) : Prop where
  pw : PW X e (tT P w)
theorem DW.t {w : WT} (h : DW X P e w) : DT X P e w := ⟨h.pw.pt⟩
variable {ta tb tc : WT} {rest : List Expr}
theorem dw_and1 (h : DT X P a ta) : DW X P (.BoolOp .And [a] pos) ta := ⟨pw_and1 h.pt⟩
theorem dw_or1 (h : DT X P a ta) : DW X P (.BoolOp .Or [a] pos) ta := ⟨pw_or1 h.pt⟩
theorem dw_and (h : DT X P a ta) (k : DW X P (.BoolOp .And (b :: rest) pos) tb) : DW X P (.BoolOp .And (a :: b :: rest) pos) (wtAnd ta tb) := by
  refine ⟨pw_imp (pw_and h.pt k.pw) fun σ H Q q => ?_⟩
  obtain ⟨G, W, Q0, R0, S, q, ex, hq⟩ := q
  refine ⟨G, W, _, R0, S, q, ex, fun d O h1 H1 W1 s1 e1 => ?_⟩
  subst e1
  cases d with
  | true => exact ⟨G, W1, Q0, R0, S.step s1, h1, ex.step s1, fun d' O' h' H' W' s' e' => hq d' O' h' H' W' (s1.trans s') e'⟩
  | false => exact hq false _ h1 H1 W1 s1 rfl
theorem dw_or (h : DT X P a ta) (k : DW X P (.BoolOp .Or (b :: rest) pos) tb) : DW X P (.BoolOp .Or (a :: b :: rest) pos) (wtOr ta tb) := by
  refine ⟨pw_imp (pw_or h.pt k.pw) fun σ H Q q => ?_⟩
  obtain ⟨G, W, Q0, R0, S, q, ex, hq⟩ := q
  refine ⟨G, W, _, R0, S, q, ex, fun d O h1 H1 W1 s1 e1 => ?_⟩
  subst e1
  cases d with
  | false => exact ⟨G, W1, Q0, R0, S.step s1, h1, ex.step s1, fun d' O' h' H' W' s' e' => hq d' O' h' H' W' (s1.trans s') e'⟩
  | true => exact hq true _ h1 H1 W1 s1 rfl
theorem dt_not (h : DT X P a ta) : DT X P (.UnaryOp .Not a pos) (wtNot ta) := by
  refine ⟨pt_imp (pt_not h.pt) fun σ H Q q => ?_⟩
  obtain ⟨G, W, Q0, R0, S, q, ex, hq⟩ := q
  exact ⟨G, W, _, R0, S, q, ex, fun d O h1 H1 W1 s1 e1 => hq _ O h1 H1 W1 s1 e1⟩
/-- .. as values: all but the last True or False -/
def wAnd (t u : WE) : WE := fun G Om Q R => t G Om (fun b O => match b with | .bl b => br b (u G O Q R) (Q (.bl false) O) | _ => False) R
def wOr (t u : WE) : WE := fun G Om Q R => t G Om (fun b O => match b with | .bl b => br b (Q (.bl true) O) (u G O Q R) | _ => False) R
def wNot (t : WE) : WE := fun G Om Q R => t G Om (fun b O => match b with | .bl b => Q (.bl (!b)) O | _ => False) R
theorem de_one {op} (h : DE X P a w) : DE X P (.BoolOp op [a] pos) w := ⟨pe_one h.pe⟩
theorem de_and (h : DE X P a wa) (k : DE X P (.BoolOp .And (b :: rest) pos) wb) : DE X P (.BoolOp .And (a :: b :: rest) pos) (wAnd wa wb) := by
  refine ⟨pe_imp (pe_and h.pe k.pe) fun σ H Q q => ?_⟩
  obtain ⟨G, W, Q0, R0, S, q, ex, hq⟩ := q
  refine ⟨G, W, _, R0, S, q, ex, fun d O h1 v H1 W1 s1 e1 r => ?_⟩
  subst e1
  cases d with
  | bl b =>
    simp only [Rep] at r
    refine ⟨b, r, ?_⟩
    cases b with
    | true => exact ⟨G, W1, Q0, R0, S.step s1, h1, ex.step s1, fun d' O' h' v' H' W' s' e' r' => hq d' O' h' v' H' W' (s1.trans s') e' r'⟩
    | false => exact hq _ _ h1 _ H1 W1 s1 rfl (by simp [Rep])
  | _ => exact h1.elim
theorem de_or (h : DE X P a wa) (k : DE X P (.BoolOp .Or (b :: rest) pos) wb) : DE X P (.BoolOp .Or (a :: b :: rest) pos) (wOr wa wb) := by
  refine ⟨pe_imp (pe_or h.pe k.pe) fun σ H Q q => ?_⟩
  obtain ⟨G, W, Q0, R0, S, q, ex, hq⟩ := q
  refine ⟨G, W, _, R0, S, q, ex, fun d O h1 v H1 W1 s1 e1 r => ?_⟩
  subst e1
  cases d with
  | bl b =>
    simp only [Rep] at r
    refine ⟨b, r, ?_⟩
    cases b with
    | false => exact ⟨G, W1, Q0, R0, S.step s1, h1, ex.step s1, fun d' O' h' v' H' W' s' e' r' => hq d' O' h' v' H' W' (s1.trans s') e' r'⟩
    | true => exact hq _ _ h1 _ H1 W1 s1 rfl (by simp [Rep])
  | _ => exact h1.elim
theorem de_not (h : DE X P a wa) : DE X P (.UnaryOp .Not a pos) (wNot wa) := by
  refine ⟨pe_imp (pe_not h.pe) fun σ H Q q => ?_⟩
  obtain ⟨G, W, Q0, R0, S, q, ex, hq⟩ := q
  refine ⟨G, W, _, R0, S, q, ex, fun d O h1 v H1 W1 s1 e1 r => ?_⟩
  cases d with
  | bl b =>
    simp only [Rep] at r
    exact ⟨b, r, hq _ _ h1 _ H1 W1 s1 e1 (by simp [Rep])⟩
  | _ => exact h1.elim
def wIf (t : WT) (u v : WE) : WE := fun G Om Q R => t G Om (fun b O => br b (u G O Q R) (v G O Q R)) R
theorem de_if (hc : DT X P c tc) (ha : DE X P a wa) (hb : DE X P b wb) : DE X P (.IfExp c a b pos) (wIf tc wa wb) := by
  refine ⟨pe_imp (pe_ifExp hc.pt ha.pe hb.pe) fun σ H Q q => ?_⟩
  obtain ⟨G, W, Q0, R0, S, q, ex, hq⟩ := q
  refine ⟨G, W, _, R0, S, q, ex, fun d O h1 H1 W1 s1 e1 => ?_⟩
  subst e1
  cases d with
  | true => exact ⟨G, W1, Q0, R0, S.step s1, h1, ex.step s1, fun d' O' h' v' H' W' s' e' r' => hq d' O' h' v' H' W' (s1.trans s') e' r'⟩
  | false => exact ⟨G, W1, Q0, R0, S.step s1, h1, ex.step s1, fun d' O' h' v' H' W' s' e' r' => hq d' O' h' v' H' W' (s1.trans s') e' r'⟩

/-! ### arguments, displays -/
def waNil : WA := fun _ Om Q _ => Q [] Om
def waCons (w : WE) (r : WA) : WA := fun G Om Q R => w G Om (fun d O => r G O (fun ds O' => Q (d :: ds) O') R) R
theorem da_nil : DA X P [] waNil := ⟨pa_imp pa_nil fun σ H Q ⟨G, W, Q0, R0, S, q, ex, hq⟩ => hq [] _ q [] H W (Step.refl S.ok) rfl .nil⟩
theorem da_cons {wr : WA} (h : DE X P e w) (r : DA X P es wr) (hs : starEach (e :: es) X.env = (false, eval e X.env) :: starEach es X.env := by rfl) : DA X P (e :: es) (waCons w wr) := by
  refine ⟨pa_imp (pa_cons h.pe r.pa hs) fun σ H Q q => ?_⟩
  obtain ⟨G, W, Q0, R0, S, q, ex, hq⟩ := q
  refine ⟨G, W, _, R0, S, q, ex, fun d O h1 v H1 W1 s1 e1 r1 => ?_⟩
  subst e1
  refine ⟨G, W1, _, R0, S.step s1, h1, ex.step s1, fun ds O' h' vs H' W' s' e' r' => ?_⟩
  exact hq _ O' h' _ H' W' (s1.trans s') e' (.cons (Rep.kp (s'.kp s1.ok) _ _ r1) r')
theorem dab_nil : DAB X P [] waNil := ⟨pa_imp pa_nil fun σ H Q ⟨G, W, Q0, R0, S, q, ex, hq⟩ => hq [] _ q [] H W (Step.refl S.ok) rfl rfl⟩
theorem dab_cons {wr : WA} (h : DB X P e w) (r : DAB X P es wr) (hs : starEach (e :: es) X.env = (false, eval e X.env) :: starEach es X.env := by rfl) : DAB X P (e :: es) (waCons w wr) := by
  refine ⟨pa_imp (pa_cons h.pe r.pa hs) fun σ H Q q => ?_⟩
  obtain ⟨G, W, Q0, R0, S, q, ex, hq⟩ := q
  refine ⟨G, W, _, R0, S, q, ex, fun d O h1 v H1 W1 s1 e1 r1 => ?_⟩
  subst e1
  refine ⟨G, W1, _, R0, S.step s1, h1, ex.step s1, fun ds O' h' vs H' W' s' e' r' => ?_⟩
  exact hq _ O' h' _ H' W' (s1.trans s') e' ⟨v, vs, rfl, r1.step s' s1.ok, r'⟩
theorem sz16 {n : Nat} (h : n ≤ 16777216) : n ≤ sizeLine := Nat.le_trans h (by decide)
/-- a tuple -/
def wTup (w : WA) : WE := fun G Om Q R => w G Om (fun ds O => ds.length ≤ 16777216 ∧ Q (.tup ds) O) R
theorem de_tup {w : WA} {x1} (h : DA X P es w) : DE X P (.Tuple es x1 pos) (wTup w) := by
  refine ⟨pe_imp (pe_tup h.pa) fun σ H Q q => ?_⟩
  obtain ⟨G, W, Q0, R0, S, q, ex, hq⟩ := q
  refine ⟨G, W, _, R0, S, q, ex, fun ds O h1 vs H1 W1 s1 e1 r1 => ⟨sz16 (by rw [r1.len]; exact h1.1), fun p hp => ?_⟩⟩
  refine hq _ O h1.2 _ _ W1 (s1.trans (Step.new1 s1.ok hp)) e1 ?_
  simp only [Rep]
  exact ⟨p, vs, rfl, .inl ⟨upd_same, nF s1.ok hp⟩, Reps.kp ((Step.new1 s1.ok hp).kp s1.ok) _ _ r1⟩

/-! ### new things: frozen at once, or for an own name -/
/-- the value is a new thing that nobody else knows; it may be changed -/
def tF (P : Pm) (w : Gam → Om → (MO → Om → Prop) → RX → Prop) : TE := fun σ H Q => ∃ G W Q0 R0, Sta P G W σ H ∧ w G W.Om Q0 R0 ∧ exOk P W H σ R0 ∧
  ∀ m Om', Q0 m Om' → ∀ p H' W', Step P.T W H W' H' → W'.Om = Om' → H p = none → W'.F p → ¬ W'.pm p → W'.Om p = none → MRep P.T W'.F (fun _ => False) H' p m → Q (.ref p) H'
abbrev WF := Gam → Om → (MO → Om → Prop) → RX → Prop
structure DF (X : Cx) (P : Pm) (e : Expr) (w : WF) : Prop where
  pe : PE X e (tF P w)
def wFrz (w : WF) : WE := fun G Om Q R => w G Om (fun m O => Q m.see O) R
def noDct : MO → Prop
  | .dct _ _ => False
  | _ => True
theorem rep_see {T : Th} {F : Addr → Prop} {H : Hp} {p : Addr} (n : ¬ F p) : ∀ {m : MO}, noDct m → MRep T F (fun _ => False) H p m → Rep T F H m.see (.ref p)
  | .lst ds, _, ⟨vs, h, r⟩ => by simp only [MO.see, Rep]; exact ⟨p, vs, rfl, h, n, r⟩
  | .dct ks ds, z, _ => z.elim
  | .ins c ns ds, _, ⟨dx, vs, h, l, r⟩ => by simp only [MO.see, Rep]; exact ⟨p, dx, vs, rfl, h, n, l, r⟩
  | .abs 0, _, ⟨c, cs, s, h1, h2, _⟩ => (((h2 p).mpr (.inl rfl))).elim
  | .abs (_ + 1), _, ⟨_, h1, _⟩ => ((h1 p).mpr rfl).elim
/-- what comes may be locked -/
def tLock (t : TE) : TE := fun σ H Q => t σ H fun v H1 => Q v H1 ∨ ∃ d u, v = .ref d ∧ H1 d = some u ∧ Mut (some u) ∧ ∀ od, Q v (upd H1 d (.frz od u))
theorem pe_lock {t : TE} (h : PE X e t) : PE X e (tLock t) := by
  refine ⟨fun pins s σ H Q I q => ?_⟩
  refine thn (h.run pins s σ H _ I q) fun v s1 ⟨x, H1, I1, r1, q1⟩ => ?_
  rcases q1 with q1 | ⟨d, u, ex, hd, mu, q1⟩
  · exact ⟨x, H1, I1, r1, q1⟩
  · obtain ⟨od, I2⟩ := I1.lock hd mu
    exact ⟨x, _, I2, r1, q1 od⟩
/-- an own thing becomes a value: a dict is locked for good -/
theorem own_see {T : Th} {W0 W1 : Wd} {H0 H1 : Hp} {p : Addr} {m : MO} {Q : V → Hp → Prop} (s1 : Step T W0 H0 W1 H1) (ok : WOk T W0 H0) (n1 : H0 p = none) (n2 : W1.F p) (n3 : ¬ W1.pm p) (r : MRep T W1.F (fun _ => False) H1 p m)
    (hq : ∀ H', Step T W0 H0 (W1.del p) H' → Kp W1.F H1 (W1.del p).F H' → Rep T (W1.del p).F H' m.see (.ref p) → Q (.ref p) H') :
    Q (.ref p) H1 ∨ ∃ d u, (V.ref p) = .ref d ∧ H1 d = some u ∧ Mut (some u) ∧ ∀ od, Q (.ref p) (upd H1 d (.frz od u)) := by
  have kl : Kp W1.F H1 (W1.del p).F H1 := Kp.less fun b h => h.1
  by_cases z : noDct m
  · exact .inl (hq H1 (s1.del ok n1 n3) kl (rep_see (fun z => z.2 rfl) z (noFp (fp := fun _ => False) kl rfl r)))
  · cases m <;> try exact absurd trivial z
    rename_i ks ds
    obtain ⟨vs, h, l, r⟩ := r
    refine .inr ⟨p, _, rfl, h, trivial, fun od => ?_⟩
    have k1 : Kp W1.F H1 W1.F (upd H1 p (.frz od (.dK (ks.zip vs)))) := Kp.mut n2
    have k2 : Kp W1.F (upd H1 p (.frz od (.dK (ks.zip vs)))) (W1.del p).F (upd H1 p (.frz od (.dK (ks.zip vs)))) := Kp.less fun b h => h.1
    refine hq _ ((s1.mutO n1 n2 n3).del ok n1 n3) ⟨k1.same', fun b h => .inl h.1, k1.trk⟩ ?_
    · simp only [MO.see, Rep]
      exact ⟨p, vs, rfl, ⟨od, upd_same⟩, fun z => z.2 rfl, l, Reps.kp k2 _ _ (Reps.kp k1 _ _ r)⟩
theorem DF.fz {w : WF} (h : DF X P e w) : DE X P e (wFrz w) := by
  refine ⟨pe_imp (pe_lock h.pe) fun σ H Q q => ?_⟩
  obtain ⟨G, W, Q0, R0, S, q, ex, hq⟩ := q
  refine ⟨G, W, _, R0, S, q, ex, fun m O h1 p H1 W1 s1 e1 n1 n2 n3 n4 r => ?_⟩
  exact own_see s1 S.ok n1 n2 n3 r fun H' s2 _ r2 => hq _ O h1 _ H' (W1.del p) s2 e1 r2
theorem DF.br {w : WF} (h : DF X P e w) : DB X P e (wFrz w) := h.fz.br
/-- what is laid at a new place -/
def MRo (T : Th) (F : Addr → Prop) (H : Hp) : MO → HO → Prop
  | .lst ds, .lst vs => Reps T F H ds vs
  | .dct ks ds, .dK kvs => ∃ vs, kvs = ks.zip vs ∧ ks.length = ds.length ∧ Reps T F H ds vs
  | _, _ => False
theorem MRo.at_ {T : Th} {F F' : Addr → Prop} {H : Hp} {p : Addr} {m : MO} {o : HO} (h : MRo T F H m o) (k : Kp F H F' (upd H p o)) : MRep T F' (fun _ => False) (upd H p o) p m := by
  cases m <;> cases o <;> first | exact h.elim | skip
  · exact ⟨_, upd_same, Reps.kp k _ _ h⟩
  · obtain ⟨vs, e, l, r⟩ := h
    subst e
    exact ⟨vs, upd_same, l, Reps.kp k _ _ r⟩
/-- the end of a rule that lays one new thing -/
theorem newOwn_fin {W : Wd} {H : Hp} {p : Addr} {o : HO} {m : MO} (ok : WOk P.T W H) (hp : H p = none) (r : MRo P.T W.F H m o) :
    Step P.T W H (W.add p) (upd H p o) ∧ (W.add p).F p ∧ ¬ (W.add p).pm p ∧ (W.add p).Om p = none ∧ MRep P.T (W.add p).F (fun _ => False) (upd H p o) p m := by
  have s : Step P.T W H (W.add p) (upd H p o) := Step.newOwn ok hp fun q z => by subst z; cases m <;> exact r.elim
  have np : ¬ W.pm p := fun z => ok.trk p (ok.sub p z) hp
  refine ⟨s, .inr rfl, np, ?_, r.at_ (s.kp ok)⟩
  cases q : W.Om p with
  | none => exact q
  | some m' => exact (np ⟨p, by rw [q]; simp, (ok.at_ p m' q).2⟩).elim
def wLst (w : WA) : WF := fun G Om Q R => w G Om (fun ds O => ds.length ≤ 16777216 ∧ Q (.lst ds) O) R
theorem df_lst {w : WA} (h : DA X P es w) : DF X P (.List es pos) (wLst w) := by
  refine ⟨pe_imp (pe_lst h.pa) fun σ H Q q => ?_⟩
  obtain ⟨G, W, Q0, R0, S, q, ex, hq⟩ := q
  refine ⟨G, W, _, R0, S, q, ex, fun ds O h1 vs H1 W1 s1 e1 r1 => ⟨sz16 (by rw [r1.len]; exact h1.1), fun p hp => ?_⟩⟩
  obtain ⟨s2, a1, a2, a3, a4⟩ := newOwn_fin (o := .lst vs) (m := .lst ds) s1.ok hp r1
  exact hq _ O h1.2 p _ (W1.add p) (s1.trans s2) e1 (s1.back hp) a1 a2 a3 a4
end
end N

set_option Elab.async false
set_option linter.all false
set_option maxRecDepth 100000
set_option maxHeartbeats 0
/-! NC: the operators over data -/
namespace N
open PySem PySem.Spec PyProof.Rows L2
section
variable {X : Cx} {T : Th}
/-- ints under a condition -/
def gI (C : Int → Int → Prop) (f : Int → Int → Int) : GD
  | .int i, .int j, Q => C i j ∧ Q (.int (f i j))
  | _, _, _ => False
def gI0 (f : Int → Int → Int) : GD
  | .int i, .int j, Q => Q (.int (f i j))
  | _, _, _ => False
def gB0 (f : Int → Int → Bool) : GD
  | .int i, .int j, Q => Q (.bl (f i j))
  | _, _, _ => False
theorem od_I {f : Value → Value → Sem Value} {C : Int → Int → Prop} {g : Int → Int → Int} (h : OpR X f (rI C fun i j => .int (g i j))) : OpD X T f (gI C g) := by
  intro pins s σ H x y v u Q I rx ry ⟨F, Pm, dx, dy, Qd, hx, hy, hF, hg, hq⟩
  cases dx <;> try exact hg.elim
  cases dy <;> try exact hg.elim
  exact h pins s σ H x y v u Q I rx ry ⟨_, _, hx, hy, hg.1, hq _ hg.2 _ H (fun _ _ z => z) (by simp [Rep])⟩
theorem od_I0 {f : Value → Value → Sem Value} {g : Int → Int → Int} (h : OpR X f (rI0 fun i j => .int (g i j))) : OpD X T f (gI0 g) := by
  intro pins s σ H x y v u Q I rx ry ⟨F, Pm, dx, dy, Qd, hx, hy, hF, hg, hq⟩
  cases dx <;> try exact hg.elim
  cases dy <;> try exact hg.elim
  exact h pins s σ H x y v u Q I rx ry ⟨_, _, hx, hy, hq _ hg _ H (fun _ _ z => z) (by simp [Rep])⟩
theorem od_B0 {f : Value → Value → Sem Value} {g : Int → Int → Bool} (h : OpR X f (rI0 fun i j => .bl (g i j))) : OpD X T f (gB0 g) := by
  intro pins s σ H x y v u Q I rx ry ⟨F, Pm, dx, dy, Qd, hx, hy, hF, hg, hq⟩
  cases dx <;> try exact hg.elim
  cases dy <;> try exact hg.elim
  exact h pins s σ H x y v u Q I rx ry ⟨_, _, hx, hy, hq _ hg _ H (fun _ _ z => z) (by simp [Rep])⟩
abbrev gSub : GD := gI0 fun i j => i - j
abbrev gAnd : GD := gI0 Builtin.bitAnd
abbrev gOr : GD := gI0 Builtin.bitOr
abbrev gXor : GD := gI0 Builtin.bitXor
abbrev gMod : GD := gI (fun _ j => 0 < j) fun i j => i % j
abbrev gShr : GD := gI (fun _ j => 0 ≤ j) fun i j => i / 2 ^ j.toNat
abbrev gShl : GD := gI CShl fun i j => i * 2 ^ j.toNat
abbrev gPow : GD := gI CPow fun i j => i ^ j.toNat
/-- a divisor that the model takes -/
def CDv (i j : Int) : Prop := CDiv i j ∨ CDivW i j
abbrev gDiv : GD := gI CDv fun i j => i / j
theorem od_sub : OpD X T (binaryOp .Sub) gSub := od_I0 op_sub
theorem od_and : OpD X T (binaryOp .BitAnd) gAnd := od_I0 op_and
theorem od_or : OpD X T (binaryOp .BitOr) gOr := od_I0 op_or
theorem od_xor : OpD X T (binaryOp .BitXor) gXor := od_I0 op_xor
theorem od_mod : OpD X T (binaryOp .Mod) gMod := od_I op_mod
theorem od_shr : OpD X T (binaryOp .RShift) gShr := od_I op_shr
theorem od_shl : OpD X T (binaryOp .LShift) gShl := od_I op_shlW
theorem od_pow : OpD X T (binaryOp .Pow) gPow := od_I op_pow
theorem op_dv : OpR X (binaryOp .FloorDiv) (rI CDv fun i j => .int (i / j)) := by
  intro pins s σ H x y v u Q I rx ry ⟨i, j, e1, e2, h, q⟩
  rcases h with h | h
  · exact op_fdiv pins s σ H x y v u Q I rx ry ⟨i, j, e1, e2, h, q⟩
  · exact op_fdivW pins s σ H x y v u Q I rx ry ⟨i, j, e1, e2, h, q⟩
theorem od_div : OpD X T (binaryOp .FloorDiv) gDiv := od_I op_dv
abbrev gLt : GD := gB0 fun i j => decide (i < j)
abbrev gLe : GD := gB0 fun i j => decide (i ≤ j)
abbrev gGt : GD := gB0 fun i j => decide (j < i)
abbrev gGe : GD := gB0 fun i j => decide (j ≤ i)
theorem od_lt : OpD X T (compareOp .Lt) gLt := od_B0 op_lt
theorem od_le : OpD X T (compareOp .LtE) gLe := od_B0 op_le
theorem od_gt : OpD X T (compareOp .Gt) gGt := od_B0 op_gt
theorem od_ge : OpD X T (compareOp .GtE) gGe := od_B0 op_ge
/-- in place, at a name -/
theorem id_sub : OpD X T (inplaceOp .Sub) gSub := od_I0 iop_sub
theorem id_and : OpD X T (inplaceOp .BitAnd) gAnd := od_I0 iop_and
theorem id_or : OpD X T (inplaceOp .BitOr) gOr := od_I0 iop_or
theorem id_xor : OpD X T (inplaceOp .BitXor) gXor := od_I0 iop_xor
theorem id_mod : OpD X T (inplaceOp .Mod) gMod := od_I iop_mod
theorem id_shr : OpD X T (inplaceOp .RShift) gShr := od_I iop_shr
theorem id_shl : OpD X T (inplaceOp .LShift) gShl := od_I iop_shlW
theorem id_addI : OpD X T (inplaceOp .Add) (gI0 fun i j => i + j) := od_I0 iop_add

/-! ### + -/
def gAdd : GD
  | .int i, .int j, Q => Q (.int (i + j))
  | .tup a, .tup b, Q => a.length + b.length ≤ 16777216 ∧ Q (.tup (a ++ b))
  | .lst a, .lst b, Q => a.length + b.length ≤ 16777216 ∧ Q (.lst (a ++ b))
  | .str a, .str b, Q => a.length + b.length ≤ 16777216 ∧ Q (.str (a ++ b))
  | _, _, _ => False
theorem upN {F : Addr → Prop} {H : Hp} (hF : ∀ b, F b → H b ≠ none) {p : Addr} (hp : H p = none) {o : HO} : Kp F H F (upd H p o) ∧ ¬ F p :=
  ⟨⟨fun b u e _ _ => ext_upd hp b u e, fun _ h => .inl h, trk_upd⟩, fun z => hF p z hp⟩
theorem tupAt {K : PySem.W.Frag} {F : Addr → Prop} {H : Hp} {a : Addr} {vs : List V} (h : (H a = some (.tup vs) ∧ ¬ F a) ∨ KT K a vs) : SqT K H a vs := h.elim (fun h => .of h.1) KT.to
theorem od_add (hK : T.K = X.K) : OpD X T (binaryOp .Add) gAdd := by
  intro pins s σ H x y v u Q I rx ry ⟨F, Pm, dx, dy, Qd, hx, hy, hF, hg, hq⟩
  cases dx <;> try exact hg.elim
  · cases dy <;> try exact hg.elim
    exact op_add pins s σ H x y v u Q I rx ry ⟨_, _, hx, hy, hq _ hg _ H (fun _ _ z => z) (by simp [Rep])⟩
  · cases dy <;> try exact hg.elim
    exact op_add_str pins s σ H x y v u Q I rx ry ⟨_, _, hx, hy, sz16 hg.1, hq _ hg.2 _ H (fun _ _ z => z) (by simp [Rep])⟩
  · rename_i xs
    cases dy <;> try exact hg.elim
    rename_i ys
    simp only [RepT, Rep] at hx hy
    obtain ⟨a, vs, rfl, ha, ra⟩ := hx
    obtain ⟨b, ws, rfl, hb, rb⟩ := hy
    have h1 : SqT X.K H a vs := hK ▸ tupAt ha
    have h2 : SqT X.K H b ws := hK ▸ tupAt hb
    have l1 := ra.len
    have l2 := rb.len
    refine op_catA pins s σ H _ _ v u Q I rx ry ⟨a, b, vs, ws, rfl, rfl, h1, h2, sz16 (by rw [l1, l2]; exact hg.1), fun e => ?_, fun _ e => ?_, fun _ _ p hp => ?_⟩
    · refine hq _ hg.2 _ H (fun _ _ z => z) ?_
      have e2 : xs = [] := List.eq_nil_of_length_eq_zero (by rw [← l1, e]; rfl)
      subst e2
      simp only [Rep, List.nil_append]
      exact ⟨b, ws, rfl, hb, rb⟩
    · refine hq _ hg.2 _ H (fun _ _ z => z) ?_
      have e2 : ys = [] := List.eq_nil_of_length_eq_zero (by rw [← l2, e]; rfl)
      subst e2
      simp only [Rep, List.append_nil]
      exact ⟨a, vs, rfl, ha, ra⟩
    · obtain ⟨k, n⟩ := upN hF hp (o := .tup (vs ++ ws))
      refine hq _ hg.2 _ _ (ext_upd hp) ?_
      simp only [Rep]
      exact ⟨p, _, rfl, .inl ⟨upd_same, n⟩, Reps.kp k _ _ (ra.app rb)⟩
  · cases dy <;> try exact hg.elim
    obtain ⟨a, vs, rfl, ha, _, ra⟩ := hx
    obtain ⟨b, ws, rfl, hb, _, rb⟩ := hy
    refine op_cat pins s σ H _ _ v u Q I rx ry ⟨a, b, vs, ws, rfl, rfl, ha, hb, sz16 (by rw [ra.len, rb.len]; exact hg.1), fun p hp => ?_⟩
    obtain ⟨k, n⟩ := upN hF hp (o := .lst (vs ++ ws))
    refine hq _ hg.2 _ _ (ext_upd hp) ?_
    simp only [Rep]
    exact ⟨p, _, rfl, upd_same, n, Reps.kp k _ _ (ra.app rb)⟩

/-! ### * -/
theorem tuple_mul_one (l : Addr) (items : Array Value) (n : Nat) (dd : Option Addr) (sl : Array (Option Value)) (x : Int) (u : Tok) (c0 : (decide (x < -(2 ^ 63)) || decide (x ≥ 2 ^ 63)) = false) (c1 : (items.isEmpty || x == 1) = true) :
    Meets (Builtin.«tuple.__mul__» ⟨[.ref l, .int x u], []⟩) (fun _ R s => s.heap.get? l = some { cls := .type "tuple", dict := dd, data := .seq items n, slots := sl } ∧ R (.ok (.ret (Value.ref l))) s) :=
  .of_wp fun prog w A R s h => by
    obtain ⟨hp, g, d, tk, os⟩ := s
    obtain ⟨hl, h⟩ := h
    have f1 := AutoSeq1.idx_int
    wp_walk using wpAny_loadPart' hl
    repeat (first
      | (refine wpAny_ite_false (decide_eq_false (by rw [c0]; exact Bool.false_ne_true)) ?_; wp_walk using wpAny_loadPart' hl)
      | (refine wpAny_ite_true (decide_eq_true c1) ?_; wp_walk using wpAny_loadPart' hl))
    exact ⟨_, rfl, h⟩
theorem tuple_mul_nil (l : Addr) (items : Array Value) (n : Nat) (dd : Option Addr) (sl : Array (Option Value)) (x : Int) (u : Tok) (c0 : (decide (x < -(2 ^ 63)) || decide (x ≥ 2 ^ 63)) = false) (c1 : (items.isEmpty || x == 1) = false) (c2 : (decide (x ≤ 0) || items.isEmpty) = true) :
    Meets (Builtin.«tuple.__mul__» ⟨[.ref l, .int x u], []⟩) (fun _ R s => s.heap.get? l = some { cls := .type "tuple", dict := dd, data := .seq items n, slots := sl } ∧
      R (.ok (.ret (Value.ref s.heap.objs.size))) { s with heap := s.heap.push { cls := Value.type "tuple", data := Data.seq #[] }, toks := s.toks }) :=
  .of_wp fun prog w A R s h => by
    obtain ⟨hp, g, d, tk, os⟩ := s
    obtain ⟨hl, h⟩ := h
    have f1 := AutoSeq1.idx_int
    wp_walk using wpAny_loadPart' hl
    repeat (first
      | (refine wpAny_ite_false (decide_eq_false (by rw [c0]; exact Bool.false_ne_true)) ?_; wp_walk using wpAny_loadPart' hl)
      | (refine wpAny_ite_false (decide_eq_false (by rw [c1]; exact Bool.false_ne_true)) ?_; wp_walk using wpAny_loadPart' hl)
      | (refine wpAny_ite_true (decide_eq_true c2) ?_; wp_walk using wpAny_loadPart' hl))
    exact ⟨_, rfl, h⟩
end
end N

set_option Elab.async false
set_option linter.all false
set_option maxRecDepth 100000
set_option maxHeartbeats 0
/-! NC2: *, ==, is, in, items, slices over data -/
namespace N
open PySem PySem.Spec PyProof.Rows L2
section
variable {X : Cx} {T : Th}
/-- tuple * int, any -/
def rRepN (K : PySem.W.Frag) : R2 := fun x y H Q => ∃ l k xs, x = .ref l ∧ y = .int k ∧ SqT K H l xs ∧ -(2 ^ 63) ≤ k ∧ k < 2 ^ 40 ∧ xs.length * k.toNat ≤ 16777216 ∧
  (xs = [] ∨ k = 1 → Q (.ref l) H) ∧ (xs ≠ [] → k ≠ 1 → ∀ p, H p = none → Q (.ref p) (upd H p (.tup (List.replicate k.toNat xs).flatten)))
theorem op_repN : OpR X (binaryOp .Mult) (rRepN X.K) := by
  intro pins s σ H x y v u Q I rx ry h
  obtain ⟨l, k, xs, rfl, rfl, hT, h1, h2, hz, q1, q2⟩ := h
  cases rx
  obtain ⟨t, rfl⟩ := ry
  obtain ⟨its, r, ⟨⟨cls, dd, data, sl⟩, ho, hc, n, hd⟩, hs⟩ := I.tuple hT
  simp only at hc hd
  subst hc hd
  have hle : its.length = xs.length := r.length.symm
  have hsz0 : its.toArray.size = xs.length := by rw [List.size_toArray, hle]
  have c0 : (decide (k < -(2 ^ 63)) || decide (k ≥ 2 ^ 63)) = false := by
    rw [decide_eq_false (by omega), decide_eq_false (by omega)] <;> rfl
  have go : ∀ {Q' : Value → Shared → Prop}, wpAny (model X.prog X.w) X.A (call (.builtin "tuple.__mul__") [.ref l, .int k t]) Q' X.xe s → wpAny (model X.prog X.w) X.A (binaryOp .Mult (.ref l) (.int k t)) Q' X.xe s := fun hc =>
    wpAny_binaryOp_repeat_ref (T := "tuple") (U := "int") (by decide) ⟨_, ho, rfl⟩ (fun s' => typeIs_int s' k t) noFill_tuple_mul F.fills_int_mul F.slot_int_rmul repeat_tuple F.slot_int_index.lookup
      (call_meets F.slot_int_rmul (typeIs_int s k t) F.entry_int_rmul (F.args_int_rmul_2 _ _) (int_rmul_tuple k t l its.toArray n dd sl) ⟨ho, rfl, ⟨_, ho, rfl⟩, hc⟩)
  refine go ?_
  by_cases e1 : xs = [] ∨ k = 1
  · have c1 : (its.toArray.isEmpty || k == 1) = true := by
      rcases e1 with e | e
      · have : its = [] := List.eq_nil_of_length_eq_zero (by rw [hle, e]; rfl)
        simp [this]
      · simp [e]
    exact call_meets F.slot_tuple_mul ⟨_, ho, rfl⟩ F.entry_tuple_mul (F.args_tuple_mul_2 _ _) (tuple_mul_one l its.toArray n dd sl k t c0 c1) ⟨ho, .ref l, H, I, rfl, q1 e1⟩
  · have hne : xs ≠ [] := fun e => e1 (.inl e)
    have hk : k ≠ 1 := fun e => e1 (.inr e)
    have hi : its.toArray.isEmpty = false := by
      cases its with
      | nil => exact absurd (List.eq_nil_of_length_eq_zero (by rw [← hle]; rfl)) hne
      | cons a b => rfl
    have c1 : (its.toArray.isEmpty || k == 1) = false := by
      rw [hi, Bool.false_or]
      exact beq_eq_false_iff_ne.mpr hk
    by_cases h0 : k ≤ 0
    · have c2 : (decide (k ≤ 0) || its.toArray.isEmpty) = true := by simp [h0]
      have e0 : k.toNat = 0 := by omega
      refine call_meets F.slot_tuple_mul ⟨_, ho, rfl⟩ F.entry_tuple_mul (F.args_tuple_mul_2 _ _) (tuple_mul_nil l its.toArray n dd sl k t c0 c1 c2) ⟨ho, ?_⟩
      refine ⟨.ref s.heap.objs.size, _, I.laid (t' := s.toks) (o := .tup []) (fun b ob q => Heap.get?_push_of_some _ q) (Nat.le_refl _) ?_, rfl, ?_⟩
      · exact ⟨Nat.zero_le _, [], .nil, IsTup.new _ _⟩
      · have := q2 hne hk _ (I.hok.fresh (Nat.le_refl _))
        rw [e0] at this
        exact this
    · have hm : ((its.toArray.size : Nat) : Int) * k ≤ 16777216 := by
        rw [hsz0]
        have e : (k.toNat : Int) = k := by omega
        rw [← e]
        have := Int.ofNat_le.mpr hz
        simpa using this
      have flen : (List.replicate k.toNat its).flatten.length ≤ sizeLine := by
        rw [PyProof.Rows.lm_len_rep_flat, hle, sizeLine_eq, Nat.mul_comm]
        exact hz
      have c2 : (decide (k ≤ 0) || its.toArray.isEmpty) = false := by
        rw [hi, Bool.or_false]
        exact decide_eq_false (by omega)
      have c4 : Builtin.Tuple.tupleTooMany (((its.toArray.size : Nat) : Int) * k) = false := by
        unfold Builtin.Tuple.tupleTooMany
        rw [sizeLine_eq]
        exact decide_eq_false (by omega)
      refine call_meets F.slot_tuple_mul ⟨_, ho, rfl⟩ F.entry_tuple_mul (F.args_tuple_mul_2 _ _) (tuple_mulW l its.toArray n dd sl k t c0 c1 c2 (by omega) c4 (by rw [size_rep, List.size_toArray]; exact flen)) ⟨ho, ?_⟩
      rw [size_rep]
      refine ⟨.ref s.heap.objs.size, _, I.laid (t' := s.toks) (o := .tup (List.replicate k.toNat xs).flatten) (fun b ob q => Heap.get?_push_of_some _ q) (Nat.le_refl _) ?_, rfl, q2 hne hk _ (I.hok.fresh (Nat.le_refl _))⟩
      exact ⟨by rw [PyProof.Rows.lm_len_rep_flat, sizeLine_eq, Nat.mul_comm]; exact hz, _, r.rep k.toNat, IsTup.new _ _⟩
def gMul : GD
  | .int i, .int j, Q => IntMulOk i j ∧ Q (.int (i * j))
  | .tup xs, .int k, Q => (-(2 ^ 63) ≤ k ∧ k < 2 ^ 40 ∧ xs.length * k.toNat ≤ 16777216) ∧ Q (.tup (List.replicate k.toNat xs).flatten)
  | .lst xs, .int k, Q => (-(2 ^ 63) ≤ k ∧ k < 2 ^ 40 ∧ xs.length * k.toNat ≤ 16777216) ∧ Q (.lst (List.replicate k.toNat xs).flatten)
  | _, _, _ => False
theorem op_mulA : OpR X (binaryOp .Mult) (rI IntMulOk fun i j => .int (i * j)) := opI fun _ _ _ _ _ _ _ hc q => mul_int q hc
theorem od_mul (hK : T.K = X.K) : OpD X T (binaryOp .Mult) gMul := by
  intro pins s σ H x y v u Q I rx ry ⟨F, Pm, dx, dy, Qd, hx, hy, hF, hg, hq⟩
  cases dx <;> try exact hg.elim
  · cases dy <;> try exact hg.elim
    exact op_mulA pins s σ H x y v u Q I rx ry ⟨_, _, hx, hy, hg.1, hq _ hg.2 _ H (fun _ _ z => z) (by simp [Rep])⟩
  · rename_i xs
    cases dy <;> try exact hg.elim
    rename_i k
    simp only [RepT, Rep] at hx hy
    obtain ⟨a, vs, rfl, ha, ra⟩ := hx
    have l1 := ra.len
    obtain ⟨⟨h1, h2, h3⟩, hg⟩ := hg
    refine op_repN pins s σ H _ _ v u Q I rx ry ⟨a, k, vs, rfl, hy, hK ▸ tupAt ha, h1, h2, by rw [l1]; exact h3, fun e => ?_, fun _ _ p hp => ?_⟩
    · refine hq _ hg _ H (fun _ _ z => z) ?_
      simp only [Rep]
      refine ⟨a, vs, rfl, ha, ?_⟩
      rcases e with e | e
      · have : xs = [] := List.eq_nil_of_length_eq_zero (by rw [← l1, e]; rfl)
        subst this
        rw [show (List.replicate k.toNat ([] : List D)).flatten = [] by simp]
        exact ra
      · subst e
        simpa using ra
    · obtain ⟨kk, n⟩ := upN hF hp (o := .tup (List.replicate k.toNat vs).flatten)
      refine hq _ hg _ _ (ext_upd hp) ?_
      simp only [Rep]
      exact ⟨p, _, rfl, .inl ⟨upd_same, n⟩, Reps.kp kk _ _ (ra.rep _)⟩
  · rename_i xs
    cases dy <;> try exact hg.elim
    rename_i k
    obtain ⟨a, vs, rfl, ha, _, ra⟩ := hx
    have l1 := ra.len
    obtain ⟨⟨h1, h2, h3⟩, hg⟩ := hg
    refine op_rep pins s σ H _ _ v u Q I rx ry ⟨a, k, vs, rfl, hy, ha, h1, by omega, sz16 (by rw [l1]; exact h3), fun p hp => ?_⟩
    obtain ⟨kk, n⟩ := upN hF hp (o := .lst (List.replicate k.toNat vs).flatten)
    refine hq _ hg _ _ (ext_upd hp) ?_
    simp only [Rep]
    exact ⟨p, _, rfl, upd_same, n, Reps.kp kk _ _ (ra.rep _)⟩
theorem id_mulI : OpD X T (inplaceOp .Mult) (gI CMul fun i j => i * j) := od_I iop_mul

/-! ### == over data -/
mutual
def toPy : D → PyData
  | .non => .none
  | .bl b => .bool b
  | .int i => .int i
  | .str x => .str x
  | .tup xs => .tuple (toPys xs)
  | .lst xs => .list (toPys xs)
  | _ => .dict []
def toPys : List D → List PyData
  | [] => []
  | d :: ds => toPy d :: toPys ds
end
/-- == is told of it: no objects, no dicts, not too deep -/
def shp (d : D) : Bool := SeqAt.shaped (toPy d)
def deq (x y : D) : Bool := PyData.eqv (toPy x) (toPy y)
mutual
theorem rep_dp {F Pm : Addr → Prop} {H : Hp} : ∀ (d : D) (v : V), Rep T F H d v → (toPy d).canLay0 = true → Dp T.K H v (toPy d)
  | .non, v, h, _ => by simp only [Rep] at h; subst h; exact .non
  | .bl b, v, h, _ => by simp only [Rep] at h; subst h; exact .bl b
  | .int i, v, h, _ => by simp only [Rep] at h; subst h; exact .int i
  | .str x, v, h, _ => by simp only [Rep] at h; subst h; exact .str x
  | .tup xs, v, h, c => by
    simp only [Rep] at h
    obtain ⟨a, vs, e, h, r⟩ := h
    subst e
    have c : (PyData.tuple (toPys xs)).canLay0 = true := by simpa only [toPy] using c
    have c : PyData.canLayAll0 (toPys xs) = true := by simpa only [PyData.canLay0] using c
    simp only [toPy]
    exact .tup (tupAt h) (reps_dp (Pm := Pm) xs vs r c)
  | .lst xs, v, h, c => by
    simp only [Rep] at h
    obtain ⟨a, vs, e, h, _, r⟩ := h
    subst e
    have c : (PyData.list (toPys xs)).canLay0 = true := by simpa only [toPy] using c
    have c : PyData.canLayAll0 (toPys xs) = true := by simpa only [PyData.canLay0] using c
    simp only [toPy]
    exact .lst (.of h) (reps_dp (Pm := Pm) xs vs r c)
  | .ty n, v, h, c => by simp [toPy, PyData.canLay0] at c
  | .ref a, v, h, c => by simp [toPy, PyData.canLay0] at c
  | .dct _ _, v, h, c => by simp [toPy, PyData.canLay0] at c
  | .ins _ _ _, v, h, c => by simp [toPy, PyData.canLay0] at c
  | .scr _, v, h, c => by simp [toPy, PyData.canLay0] at c
theorem reps_dp {F Pm : Addr → Prop} {H : Hp} : ∀ (ds : List D) (vs : List V), Reps T F H ds vs → PyData.canLayAll0 (toPys ds) = true → DpAll T.K H vs (toPys ds)
  | [], vs, h, _ => by simp only [Reps] at h; subst h; simp only [toPys]; exact .nil
  | d :: ds, vs, h, c => by
    simp only [Reps] at h
    obtain ⟨v, r, e, h1, h2⟩ := h
    subst e
    simp only [toPys, PyData.canLayAll0, Bool.and_eq_true] at c ⊢
    exact .cons (rep_dp (Pm := Pm) d v h1 c.1) (reps_dp (Pm := Pm) ds r h2 c.2)
end
theorem shp_lay {d : D} (h : shp d = true) : (toPy d).canLay0 = true := (Bool.and_eq_true_iff.mp h).1
theorem repT_dp {F Pm : Addr → Prop} {H : Hp} {d : D} {v : V} (h : RepT T F Pm H d v) (c : shp d = true) : Dp T.K H v (toPy d) := by
  have c' := shp_lay c
  cases d with
  | lst xs =>
    obtain ⟨a, vs, e, h, _, r⟩ := h
    subst e
    have c2 : (PyData.list (toPys xs)).canLay0 = true := by simpa only [toPy] using c'
    have c2 : PyData.canLayAll0 (toPys xs) = true := by simpa only [PyData.canLay0] using c2
    simp only [toPy]
    exact .lst (.of h) (reps_dp (Pm := Pm) xs vs r c2)
  | tup xs => exact rep_dp (Pm := Pm) _ v h c'
  | scr xs => exact rep_dp (Pm := Pm) _ v h c'
  | non => exact rep_dp (F := F) (Pm := Pm) .non v (by simp only [Rep]; exact h) c'
  | bl b => exact rep_dp (F := F) (Pm := Pm) (.bl b) v (by simp only [Rep]; exact h) c'
  | int i => exact rep_dp (F := F) (Pm := Pm) (.int i) v (by simp only [Rep]; exact h) c'
  | str x => exact rep_dp (F := F) (Pm := Pm) (.str x) v (by simp only [Rep]; exact h) c'
  | ty n => simp [toPy, PyData.canLay0] at c'
  | ref a => simp [toPy, PyData.canLay0] at c'
  | dct _ _ => simp [toPy, PyData.canLay0] at c'
  | ins _ _ _ => simp [toPy, PyData.canLay0] at c'
def gEq : GD := fun x y Q => shp x = true ∧ shp y = true ∧ Q (.bl (deq x y))
def gNe : GD := fun x y Q => shp x = true ∧ shp y = true ∧ Q (.bl (!deq x y))
theorem od_eq (hK : T.K = X.K) (hu : X.A.units + 64 < cLine) : OpD X T (compareOp .Eq) gEq := by
  intro pins s σ H x y v u Q I rx ry ⟨F, Pm, dx, dy, Qd, hx, hy, hF, hg, hq⟩
  exact op_eqD hu pins s σ H x y v u Q I rx ry ⟨_, _, hK ▸ repT_dp hx hg.1, hK ▸ repT_dp hy hg.2.1, hg.1, hg.2.1, hq _ hg.2.2 _ H (fun _ _ z => z) (by simp [Rep, deq])⟩
theorem od_ne (hK : T.K = X.K) (hu : X.A.units + 64 < cLine) : OpD X T (compareOp .NotEq) gNe := by
  intro pins s σ H x y v u Q I rx ry ⟨F, Pm, dx, dy, Qd, hx, hy, hF, hg, hq⟩
  exact op_neD hu pins s σ H x y v u Q I rx ry ⟨_, _, hK ▸ repT_dp hx hg.1, hK ▸ repT_dp hy hg.2.1, hg.1, hg.2.1, hq _ hg.2.2 _ H (fun _ _ z => z) (by simp [Rep, deq])⟩

/-! ### is -/
def isNon : D → Bool
  | .non => true
  | _ => false
def gIs : GD
  | x, .non, Q => Q (.bl (isNon x))
  | .bl a, .bl b, Q => Q (.bl (decide (a = b)))
  | _, _, _ => False
def gIsNot : GD
  | x, .non, Q => Q (.bl (!isNon x))
  | .bl a, .bl b, Q => Q (.bl (!decide (a = b)))
  | _, _, _ => False
theorem isNon_rep {F Pm : Addr → Prop} {H : Hp} {d : D} {v : V} (h : RepT T F Pm H d v) : decide (v = .non) = isNon d := by
  cases d <;> simp only [RepT, Rep, isNon] at h ⊢
  case non => simp [h]
  case bl => simp [h]
  case int => simp [h]
  case str => simp [h]
  case ty => simp [h]
  case ref => simp [h]
  case tup => obtain ⟨a, vs, rfl, _⟩ := h; simp
  case lst => obtain ⟨a, vs, rfl, _⟩ := h; simp
  case dct => obtain ⟨a, vs, rfl, _⟩ := h; simp
  case ins => obtain ⟨a, dx, vs, rfl, _⟩ := h; simp
  case scr => obtain ⟨a, rfl, _⟩ := h; simp
theorem od_is : OpD X T (compareOp .Is) gIs := by
  intro pins s σ H x y v u Q I rx ry ⟨F, Pm, dx, dy, Qd, hx, hy, hF, hg, hq⟩
  by_cases e : dy = .non
  · subst e
    have hg : Qd (.bl (isNon dx)) := by simpa only [gIs] using hg
    exact op_isN pins s σ H x y v u Q I rx ry ⟨hy, hq _ hg _ H (fun _ _ z => z) (by simp [Rep, isNon_rep hx])⟩
  · cases dx <;> cases dy <;> first | exact (e rfl).elim | (simp only [gIs] at hg) | skip
    exact op_is_bl pins s σ H x y v u Q I rx ry ⟨_, _, hx, hy, hq _ hg _ H (fun _ _ z => z) (by simp [Rep])⟩
theorem od_isnot : OpD X T (compareOp .IsNot) gIsNot := by
  intro pins s σ H x y v u Q I rx ry ⟨F, Pm, dx, dy, Qd, hx, hy, hF, hg, hq⟩
  by_cases e : dy = .non
  · subst e
    have hg : Qd (.bl (!isNon dx)) := by simpa only [gIsNot] using hg
    exact op_notN pins s σ H x y v u Q I rx ry ⟨hy, hq _ hg _ H (fun _ _ z => z) (by simp [Rep, isNon_rep hx])⟩
  · cases dx <;> cases dy <;> first | exact (e rfl).elim | (simp only [gIsNot] at hg) | skip
    exact op_isnot_bl pins s σ H x y v u Q I rx ry ⟨_, _, hx, hy, hq _ hg _ H (fun _ _ z => z) (by simp [Rep])⟩
end
end N

set_option Elab.async false
set_option linter.all false
set_option maxRecDepth 100000
set_option maxHeartbeats 0
/-! NC3: in, items, slices, calls of built-ins over data -/
namespace N
open PySem PySem.Spec PyProof.Rows L2
section
variable {X : Cx} {T : Th}
/-! ### in -/
def flD : D → Bool
  | .non => true
  | .bl _ => true
  | .int _ => true
  | .str _ => true
  | _ => false
def vOf : D → V
  | .non => .non
  | .bl b => .bl b
  | .int i => .int i
  | .str x => .str x
  | _ => .non
theorem flD_rep {F : Addr → Prop} {H : Hp} {d : D} {v : V} (h : Rep T F H d v) (f : flD d = true) : v = vOf d ∧ flatV v = true := by
  cases d <;> simp only [Rep, flD, vOf] at h f ⊢ <;> first | (subst h; exact ⟨rfl, rfl⟩) | (cases f)
theorem flD_repT {F Pm : Addr → Prop} {H : Hp} {d : D} {v : V} (h : RepT T F Pm H d v) (f : flD d = true) : v = vOf d ∧ flatV v = true := by
  cases d <;> simp only [RepT, Rep, flD, vOf] at h f ⊢ <;> first | (subst h; exact ⟨rfl, rfl⟩) | (cases f)
theorem flD_reps {F : Addr → Prop} {H : Hp} : ∀ {ds : List D} {vs : List V}, Reps T F H ds vs → ds.all flD = true → vs = ds.map vOf ∧ vs.all flatV = true
  | [], vs, h, _ => by simp only [Reps] at h; subst h; exact ⟨rfl, rfl⟩
  | d :: ds, vs, h, f => by
    simp only [Reps] at h
    obtain ⟨v, r, e, h1, h2⟩ := h
    subst e
    simp only [List.all_cons, Bool.and_eq_true] at f ⊢
    obtain ⟨e1, f1⟩ := flD_rep h1 f.1
    obtain ⟨e2, f2⟩ := flD_reps h2 f.2
    rw [List.map_cons, ← e1, ← e2]
    exact ⟨rfl, f1, f2⟩
/-- is x among ys -/
def inD (x : D) (ys : List D) : Bool := inV (vOf x) (ys.map vOf)
def keyD : D → Option Key
  | .int i => some (.inl i)
  | .str x => some (.inr x)
  | _ => none
theorem keyD_rep {F Pm : Addr → Prop} {H : Hp} {d : D} {v : V} {k : Key} (h : RepT T F Pm H d v) (e : keyD d = some k) : v = kV k := by
  cases d <;> simp only [keyD, RepT] at e h <;> first | (cases e; rw [h]; rfl) | (cases e)
/-- the value at a key -/
def getD : List Key → List D → Key → Option D
  | k :: ks, d :: ds, x => if k = x then some d else getD ks ds x
  | _, _, _ => none
theorem getD_rep {F : Addr → Prop} {H : Hp} {x : Key} : ∀ {ks : List Key} {ds : List D} {vs : List V}, ks.length = ds.length → Reps T F H ds vs →
    (∀ d, getD ks ds x = some d → ∃ v, valV (ks.zip vs) x = some v ∧ Rep T F H d v) ∧ (getD ks ds x = none → valV (ks.zip vs) x = none)
  | [], ds, vs, l, r => ⟨fun d e => by simp [getD] at e, fun _ => rfl⟩
  | k :: ks, [], vs, l, r => by simp at l
  | k :: ks, d :: ds, vs, l, r => by
    simp only [Reps] at r
    obtain ⟨v, w, e, h1, h2⟩ := r
    subst e
    have ih := getD_rep (x := x) (by simpa using l) h2 (ks := ks)
    rw [List.zip_cons_cons]
    by_cases q : k = x
    · rw [valV_pos q]
      simp only [getD, if_pos q]
      exact ⟨fun d' e => ⟨v, rfl, by cases e; exact h1⟩, fun e => by cases e⟩
    · rw [valV_neg q]
      simp only [getD, if_neg q]
      exact ih
def gIn (neg : Bool) : GD
  | x, .tup ys, Q => flD x = true ∧ ys.all flD = true ∧ Q (.bl (if neg then !inD x ys else inD x ys))
  | x, .lst ys, Q => flD x = true ∧ ys.all flD = true ∧ Q (.bl (if neg then !inD x ys else inD x ys))
  | x, .dct ks ds, Q => match keyD x with
    | some k => Q (.bl (if neg then !(getD ks ds k).isSome else (getD ks ds k).isSome))
    | none => False
  | _, _, _ => False
theorem repT_seq (hK : T.K = X.K) {F Pm : Addr → Prop} {H : Hp} {v : V} : ∀ {d : D} {ys : List D}, d = .tup ys ∨ d = .lst ys → RepT T F Pm H d v → ∃ p vs, v = .ref p ∧ (SqL X.K H p vs ∨ SqT X.K H p vs) ∧ Reps T F H ys vs
  | _, ys, .inl rfl, h => by
    simp only [RepT, Rep] at h
    obtain ⟨a, vs, e, h, r⟩ := h
    exact ⟨a, vs, e, .inr (hK ▸ tupAt h), r⟩
  | _, ys, .inr rfl, h => by
    obtain ⟨a, vs, e, h, _, r⟩ := h
    exact ⟨a, vs, e, .inl (.of h), r⟩
theorem od_inX (hK : T.K = X.K) (hu : X.A.units + 1 < cLine) (neg : Bool) {op : CmpOp} (hs : OpR X (compareOp op) (rIn X.K neg))
    (hd : OpR X (compareOp op) (fun y x H Q => ∃ a o, x = .ref a ∧ DGet H a y o ∧ Q (.bl (if neg then !o.isSome else o.isSome)) H)) : OpD X T (compareOp op) (gIn neg) := by
  intro pins s σ H x y v u Q I rx ry ⟨F, Pm, dx, dy, Qd, hx, hy, hF, hg, hq⟩
  have go : ∀ ys, dy = .tup ys ∨ dy = .lst ys → (flD dx = true ∧ ys.all flD = true ∧ Qd (.bl (if neg then !inD dx ys else inD dx ys))) → wpAny (model X.prog X.w) X.A (compareOp op v u) (EP X pins σ Q) X.xe s := fun ys e hg => by
    obtain ⟨p, vs, rfl, h, r⟩ := repT_seq hK e hy
    obtain ⟨e1, f1⟩ := flD_repT hx hg.1
    obtain ⟨e2, f2⟩ := flD_reps r hg.2.1
    refine hs pins s σ H _ _ v u Q I rx ry ⟨p, vs, rfl, h, f1, f2, hq _ hg.2.2 _ H (fun _ _ z => z) ?_⟩
    simp only [Rep, inD, e1, e2]
  cases dy <;> try exact hg.elim
  · exact go _ (.inl rfl) hg
  · exact go _ (.inr rfl) hg
  · rename_i ks ds
    simp only [gIn] at hg
    split at hg
    · rename_i k ek
      obtain ⟨a, vs, rfl, h, _, l, r⟩ := hy
      have ex := keyD_rep hx ek
      subst ex
      refine hd pins s σ H _ _ v u Q I rx ry ⟨a, _, rfl, .inl ⟨_, k, h, rfl, rfl⟩, hq _ hg _ H (fun _ _ z => z) ?_⟩
      obtain ⟨g1, g2⟩ := getD_rep (x := k) l r
      simp only [Rep]
      cases q : getD ks ds k with
      | none => rw [g2 q]; rfl
      | some d => obtain ⟨z, e, _⟩ := g1 d q; rw [e]; rfl
    · exact hg.elim
theorem or_din (hu : X.A.units + 1 < cLine) : OpR X (compareOp .In) (fun y x H Q => ∃ a o, x = .ref a ∧ DGet H a y o ∧ Q (.bl (if false then !o.isSome else o.isSome)) H) := by
  intro pins s σ H y x iv u Q I ry rx ⟨a, ov, ex, g, q2⟩
  subst ex
  obtain rfl : u = Value.ref a := rx
  exact d_in hu I g ry fun s3 I3 => ⟨.bl ov.isSome, H, I3, rfl, q2⟩
theorem or_dnotin (hu : X.A.units + 1 < cLine) : OpR X (compareOp .NotIn) (fun y x H Q => ∃ a o, x = .ref a ∧ DGet H a y o ∧ Q (.bl (if true then !o.isSome else o.isSome)) H) := by
  intro pins s σ H y x iv u Q I ry rx ⟨a, ov, ex, g, q2⟩
  subst ex
  obtain rfl : u = Value.ref a := rx
  exact d_notIn hu I g ry fun s3 I3 => ⟨.bl (!ov.isSome), H, I3, rfl, q2⟩
theorem od_in (hK : T.K = X.K) (hu : X.A.units + 64 < cLine) : OpD X T (compareOp .In) (gIn false) := od_inX hK (by omega) false op_in_seq (or_din (by omega))
theorem od_notin (hK : T.K = X.K) (hu : X.A.units + 64 < cLine) : OpD X T (compareOp .NotIn) (gIn true) := od_inX hK (by omega) true op_notIn_seq (or_dnotin (by omega))

/-! ### items -/
def gIx : GD
  | .tup xs, .int i, Q => match atI xs i with | some d => Q d | none => False
  | .lst xs, .int i, Q => match atI xs i with | some d => Q d | none => False
  | .scr xs, .int i, Q => match atI xs i with | some d => Q (.int d) | none => False
  | .str z, .int i, Q => z.length ≤ 16777216 ∧ match atI z.cps.toList i with | some c => Q (.str ⟨#[c]⟩) | none => False
  | .dct ks ds, k, Q => match keyD k with
    | some k => (match getD ks ds k with | some d => Q d | none => False)
    | none => False
  | _, _, _ => False
theorem atI_rep {F : Addr → Prop} {H : Hp} {ds : List D} {vs : List V} {i : Int} {d : D} (r : Reps T F H ds vs) (h : atI ds i = some d) : ∃ v, atI vs i = some v ∧ Rep T F H d v := by
  unfold atI at h ⊢
  rw [r.len]
  cases e : ixN ds.length i with
  | none => rw [e] at h; cases h
  | some j =>
    rw [e] at h
    exact r.get h
def IxD (X : Cx) (T : Th) (g : GD) : Prop := IxR X (rD T g)
theorem ix_dict (hu : X.A.units + 1 < cLine) : IxR X (fun x y H Q => ∃ a v, x = .ref a ∧ DGet H a y (some v) ∧ Q v H) := by
  intro value slice pins s σ H x y v u Q I rx ry ⟨a, z, ex, g, q⟩ hs
  subst ex
  obtain rfl : v = Value.ref a := rx
  exact tail_any (dict_typeIs I g) PySem.F.slot_dict_getitem.lookup (d_getItem hu I g ry fun w' s3 I3 rw' => ⟨z, H, I3, rw', q⟩) hs
theorem id_ix (hK : T.K = X.K) (hu : X.A.units + 64 < cLine) : IxD X T gIx := by
  intro value slice pins s σ H x y v u Q I rx ry ⟨F, Pm, dx, dy, Qd, hx, hy, hF, hg, hq⟩ hs
  have fin : ∀ {d : D} {z : V}, Qd d → Rep T F H d z → Q z H := fun h r => hq _ h _ H (fun _ _ z => z) r
  have go : ∀ xs i, dx = .tup xs ∨ dx = .lst xs → dy = .int i → (match atI xs i with | some d => Qd d | none => False) → wpAny (model X.prog X.w) X.A (subscriptTail value slice v u) (EP X pins σ Q) X.xe s := fun xs i e ei hg2 => by
    subst ei
    obtain ⟨p, vs, rfl, h, r⟩ := repT_seq hK e hx
    cases ed : atI xs i with
    | some d =>
      rw [ed] at hg2
      obtain ⟨z, ez, rz⟩ := atI_rep r ed
      rcases h with h | h
      · exact ix_list value slice pins s σ H _ _ v u Q I rx ry ⟨p, vs, i, z, rfl, hy, h, ez, fin hg2 rz⟩ hs
      · exact ix_tup value slice pins s σ H _ _ v u Q I rx ry ⟨p, vs, i, z, rfl, hy, h, ez, fin hg2 rz⟩ hs
    | none => rw [ed] at hg2; exact hg2.elim
  cases dx <;> try exact hg.elim
  · cases dy <;> try exact hg.elim
    obtain ⟨hz, hg⟩ := hg
    split at hg
    · rename_i c ec
      exact ix_str value slice pins s σ H _ _ v u Q I rx ry ⟨_, _, c, hx, hy, sz16 hz, ec, fin hg (by simp [Rep])⟩ hs
    · exact hg.elim
  · cases dy <;> try exact hg.elim
    exact go _ _ (.inl rfl) rfl hg
  · cases dy <;> try exact hg.elim
    exact go _ _ (.inr rfl) rfl hg
  · rename_i ks ds
    simp only [gIx] at hg
    split at hg
    · rename_i k ek
      split at hg
      · rename_i d ed
        obtain ⟨a, vs, rfl, h, _, l, r⟩ := hx
        have ex := keyD_rep hy ek
        subst ex
        obtain ⟨z, ez, rz⟩ := (getD_rep (x := k) l r).1 d ed
        exact ix_dict (by omega) value slice pins s σ H _ _ v u Q I rx ry ⟨a, z, rfl, .inl ⟨_, k, h, rfl, ez.symm⟩, fin hg rz⟩ hs
      · exact hg.elim
    · exact hg.elim
  · cases dy <;> try exact hg.elim
    rename_i ns i
    simp only [RepT, Rep] at hx
    obtain ⟨a, rfl, h⟩ := hx
    simp only [gIx] at hg
    split at hg
    · rename_i n en
      have hl : SqL X.K H a (ns.map V.int) := h.elim (fun h => .inl h.1) (fun h => hK ▸ h.to)
      refine ix_list value slice pins s σ H _ _ v u Q I rx ry ⟨a, _, i, .int n, rfl, hy, hl, ?_, fin hg (by simp [Rep])⟩ hs
      unfold atI at en ⊢
      rw [List.length_map]
      cases e : ixN ns.length i with
      | none => rw [e] at en; cases en
      | some j =>
        rw [e] at en
        show (ns.map V.int)[j]? = _
        rw [List.getElem?_map, show ns[j]? = some n from en]
        rfl
    · exact hg.elim
theorem de_ix {P : Pm} {a b : Expr} {wa wb : WE} {pos : Pos} {g : GD} (ho : IxD X P.T g) (ha : DB X P a wa) (hb : DB X P b wb) (hs : PlainIx b := by exact fun _ _ => rfl) : DE X P (.Subscript a b pos) (wBin g wa wb) :=
  ⟨pe_imp (pe_ix ho ha.pe hb.pe hs) bin_imp⟩

/-! ### slices -/
abbrev WO := Gam → Om → (Option Int → Om → Prop) → RX → Prop
def tPo (P : Pm) (w : WO) : TO := fun σ H Q => ∃ G W Q0 R0, Sta P G W σ H ∧ w G W.Om Q0 R0 ∧ exOk P W H σ R0 ∧ ∀ b Om', Q0 b Om' → ∀ H' W', Step P.T W H W' H' → W'.Om = Om' → Q b H'
structure DO (X : Cx) (P : Pm) (e : Option Expr) (w : WO) : Prop where
  po : PO X e (tPo P w)
def woNone : WO := fun _ Om Q _ => Q none Om
def woSome (w : WE) : WO := fun G Om Q R => w G Om (fun d O => match d with | .int i => Q (some i) O | _ => False) R
variable {P : Pm} {e a b : Expr} {wa wb w : WE} {pos : Pos}
theorem po_imp {t t' : TO} {e : Option Expr} (h : PO X e t) (i : ∀ σ H Q, t' σ H Q → t σ H Q) : PO X e t' := ⟨fun pins s σ H Q I q => h.run pins s σ H Q I (i σ H Q q)⟩
theorem do_none : DO X P none woNone := ⟨po_imp po_none fun σ H Q ⟨G, W, Q0, R0, S, q, ex, hq⟩ => hq none _ q H W (Step.refl S.ok) rfl⟩
theorem do_some (h : DE X P e w) : DO X P (some e) (woSome w) := by
  refine ⟨po_imp (po_some h.pe) fun σ H Q q => ?_⟩
  obtain ⟨G, W, Q0, R0, S, q, ex, hq⟩ := q
  refine ⟨G, W, _, R0, S, q, ex, fun d O h1 v H1 W1 s1 e1 r => ?_⟩
  cases d <;> try exact h1.elim
  simp only [Rep] at r
  exact ⟨_, r, hq _ O h1 H1 W1 s1 e1⟩
def cutD {α : Type} (xs : List α) (lo hi : Option Int) : List α := (xs.drop (HT.sIx xs.length 0 lo)).take (HT.sIx xs.length xs.length hi - HT.sIx xs.length 0 lo)
def gSl : D → Option Int → Option Int → (D → Prop) → Prop
  | .tup xs, lo, hi, Q => Q (.tup (cutD xs lo hi))
  | .lst xs, lo, hi, Q => Q (.lst (cutD xs lo hi))
  | .str z, lo, hi, Q => z.length ≤ 16777216 ∧ Q (.str (cutS z lo hi))
  | _, _, _, _ => False
theorem cut_rep {F : Addr → Prop} {H : Hp} {ds : List D} {vs : List V} {lo hi : Option Int} (r : Reps T F H ds vs) : Reps T F H (cutD ds lo hi) (cutV vs lo hi) := by
  unfold cutD cutV
  rw [r.len]
  exact (r.drop _).take _
def rSlD (T : Th) : V → Option Int → Option Int → Hp → VK → Prop := fun x lo hi H Q => ∃ (F Pm : Addr → Prop) (dx : D) (Qd : D → Prop), RepT T F Pm H dx x ∧ (∀ b, F b → H b ≠ none) ∧ gSl dx lo hi Qd ∧ ∀ z, Qd z → ∀ v H', Nw H H' → Rep T F H' z v → Q v H'
theorem sl_D (hK : T.K = X.K) : L2.SlR X (rSlD T) := by
  intro pins s σ H x v vl vu lo hi sl Q I rx hs pl pu ⟨F, Pm, dx, Qd, hx, hF, hg, hq⟩
  cases dx <;> try exact hg.elim
  · exact sl_str pins s σ H x v vl vu lo hi sl Q I rx hs pl pu ⟨_, hx, sz16 hg.1, hq _ hg.2 _ H (fun _ _ z => z) (by simp [Rep])⟩
  · rename_i xs
    simp only [RepT, Rep] at hx
    obtain ⟨p, vs, rfl, h, r⟩ := hx
    have c := cut_rep (lo := lo) (hi := hi) r
    refine sl_tupA pins s σ H _ v vl vu lo hi sl Q I rx hs pl pu ⟨p, vs, rfl, hK ▸ tupAt h, fun e => ?_, fun e q hp => ?_⟩
    · refine hq _ hg _ H (fun _ _ z => z) ?_
      simp only [Rep]
      refine ⟨p, vs, rfl, h, ?_⟩
      have : cutV vs lo hi = vs := by
        unfold cutV
        rw [e.1, e.2]
        simp
      rw [this] at c
      exact c
    · obtain ⟨k, n⟩ := upN hF hp (o := .tup (cutV vs lo hi))
      refine hq _ hg _ _ (ext_upd hp) ?_
      simp only [Rep]
      exact ⟨q, _, rfl, .inl ⟨upd_same, n⟩, Reps.kp k _ _ c⟩
  · obtain ⟨p, vs, rfl, h, _, r⟩ := hx
    have c := cut_rep (lo := lo) (hi := hi) r
    refine sl_list pins s σ H _ v vl vu lo hi sl Q I rx hs pl pu ⟨p, vs, rfl, .of h, fun q hp => ?_⟩
    obtain ⟨k, n⟩ := upN hF hp (o := .lst (cutV vs lo hi))
    refine hq _ hg _ _ (ext_upd hp) ?_
    simp only [Rep]
    exact ⟨q, _, rfl, upd_same, n, Reps.kp k _ _ c⟩
def wSl (w : WE) (lo hi : WO) : WE := fun G Om Q R => w G Om (fun x O => lo G O (fun l O1 => hi G O1 (fun h O2 => gSl x l h fun z => Q z O2) R) R) R
theorem de_sl {lo hi : Option Expr} {wl wh : WO} {p2 : Pos} (hK : P.T.K = X.K) (he : DB X P e w) (hl : DO X P lo wl) (hh : DO X P hi wh) : DE X P (.Subscript e (.Slice lo hi none p2) pos) (wSl w wl wh) := by
  refine ⟨pe_imp (pe_slice (sl_D hK) he.pe hl.po hh.po) fun σ H Q q => ?_⟩
  obtain ⟨G, W, Q0, R0, S, q, ex, hq⟩ := q
  refine ⟨G, W, _, R0, S, q, ex, fun d O h1 v H1 W1 s1 e1 r => ?_⟩
  subst e1
  refine ⟨G, W1, _, R0, S.step s1, h1, ex.step s1, fun l O2 h2 H2 W2 s2 e2 => ?_⟩
  subst e2
  refine ⟨G, W2, _, R0, (S.step s1).step s2, h2, (ex.step s1).step s2, fun h O3 h3 H3 W3 s3 e3 => ?_⟩
  refine ⟨W3.F, W3.pm, d, _, (r.step s2 s1.ok).step s3 s2.ok, s3.ok.trk, h3, fun z hz u H4 xt r4 => ?_⟩
  exact hq z O3 hz u H4 W3 (((s1.trans s2).trans s3).trans (Step.ext s3.ok xt)) e3 r4
end
end N

set_option Elab.async false
set_option linter.all false
set_option maxRecDepth 100000
set_option maxHeartbeats 0
/-! ND: calls of built-ins; what is walked; targets; comprehensions -/
namespace N
open PySem PySem.Spec PyProof.Rows L2
section
variable {X : Cx} {T : Th} {P : Pm}
abbrev GC := List D → (D → Prop) → Prop
def rC (T : Th) (g : GC) : List V → Hp → VK → Prop := fun xs H Q => ∃ (F Pm : Addr → Prop) (ds : List D) (Qd : D → Prop), RepsT T F Pm H ds xs ∧ (∀ b, F b → H b ≠ none) ∧ g ds Qd ∧ ∀ z, Qd z → ∀ v H', Nw H H' → Rep T F H' z v → Q v H'
def CallD (X : Cx) (T : Th) (f : Value) (g : GC) : Prop := CallR X f (rC T g)
abbrev GCF := List D → (MO → Prop) → Prop
def rCF (T : Th) (g : GCF) : List V → Hp → VK → Prop := fun xs H Q => ∃ (F Pm : Addr → Prop) (ds : List D) (Qd : MO → Prop), RepsT T F Pm H ds xs ∧ (∀ b, F b → H b ≠ none) ∧ g ds Qd ∧ ∀ z, Qd z → ∀ p o, H p = none → MRo T F H z o → Q (.ref p) (upd H p o)
def CallF (X : Cx) (T : Th) (f : Value) (g : GCF) : Prop := CallR X f (rCF T g)
def wCall (g : GC) (wa : WA) : WE := fun G Om Q R => wa G Om (fun ds O => g ds fun z => Q z O) R
def wCallF (g : GCF) (wa : WA) : WF := fun G Om Q R => wa G Om (fun ds O => g ds fun z => Q z O) R
variable {e a b c : Expr} {es : List Expr} {w wa wb : WE} {wl : WA} {pos p : Pos} {x : Str} {id TT : String}
theorem call_imp {g : GC} : ∀ σ H Q, tE P (wCall g wl) σ H Q → tCB (rC P.T g) (tAB P wl) σ H Q := fun σ H Q h => by
  obtain ⟨G, W, Q0, R0, S, q, ex, hq⟩ := h
  refine ⟨G, W, _, R0, S, q, ex, fun ds O h1 vs H1 W1 s1 e1 r => ⟨W1.F, W1.pm, ds, _, r, s1.ok.trk, h1, fun z hz u H2 xt r2 => ?_⟩⟩
  exact hq z O hz u H2 W1 (s1.trans (Step.ext s1.ok xt)) e1 r2
theorem callF_imp {g : GCF} : ∀ σ H Q, tF P (wCallF g wl) σ H Q → tCB (rCF P.T g) (tAB P wl) σ H Q := fun σ H Q h => by
  obtain ⟨G, W, Q0, R0, S, q, ex, hq⟩ := h
  refine ⟨G, W, _, R0, S, q, ex, fun ds O h1 vs H1 W1 s1 e1 r => ⟨W1.F, W1.pm, ds, _, r, s1.ok.trk, h1, fun z hz p o hp r2 => ?_⟩⟩
  obtain ⟨s2, a1, a2, a3, a4⟩ := newOwn_fin (o := o) (m := z) s1.ok hp r2
  exact hq z O hz p _ (W1.add p) (s1.trans s2) e1 (s1.back hp) a1 a2 a3 a4
theorem de_callB {g : GC} (hc : CallD X P.T (.builtin id) g) (hm : X.mg x = none) (ha : DAB X P (e :: es) wl) (hv : bootBuiltins x = some (.builtin id) := by decide +kernel) (hg : Gl X x := by rfl) (hn : x ≠ "__name__" := by decide) (hdb : (x == ("__debug__" : Str)) = false := by decide)
    (he : starEach (e :: es) X.env = (false, eval e X.env) :: starEach es X.env := by rfl) (hpl : (backTo pos (starEach es X.env)).any (·.1) = false := by rfl) : DE X P (.Call (.Name x p) (e :: es) [] pos) (wCall g wl) :=
  ⟨pe_imp (pe_callB hc hg hm hv ha.pa hn hdb he hpl) call_imp⟩
theorem de_callT {g : GC} (hc : CallD X P.T (.type TT) g) (hm : X.mg x = none) (ha : DAB X P (e :: es) wl) (hv : bootBuiltins x = some (.type TT) := by decide +kernel) (hg : Gl X x := by rfl) (hn : x ≠ "__name__" := by decide) (hdb : (x == ("__debug__" : Str)) = false := by decide)
    (he : starEach (e :: es) X.env = (false, eval e X.env) :: starEach es X.env := by rfl) (hpl : (backTo pos (starEach es X.env)).any (·.1) = false := by rfl) : DE X P (.Call (.Name x p) (e :: es) [] pos) (wCall g wl) :=
  ⟨pe_imp (pe_callTy hc hg hm hv ha.pa hn hdb he hpl) call_imp⟩
theorem df_callB {g : GCF} (hc : CallF X P.T (.builtin id) g) (hm : X.mg x = none) (ha : DAB X P (e :: es) wl) (hv : bootBuiltins x = some (.builtin id) := by decide +kernel) (hg : Gl X x := by rfl) (hn : x ≠ "__name__" := by decide) (hdb : (x == ("__debug__" : Str)) = false := by decide)
    (he : starEach (e :: es) X.env = (false, eval e X.env) :: starEach es X.env := by rfl) (hpl : (backTo pos (starEach es X.env)).any (·.1) = false := by rfl) : DF X P (.Call (.Name x p) (e :: es) [] pos) (wCallF g wl) :=
  ⟨pe_imp (pe_callB hc hg hm hv ha.pa hn hdb he hpl) callF_imp⟩
theorem df_callT {g : GCF} (hc : CallF X P.T (.type TT) g) (hm : X.mg x = none) (ha : DAB X P (e :: es) wl) (hv : bootBuiltins x = some (.type TT) := by decide +kernel) (hg : Gl X x := by rfl) (hn : x ≠ "__name__" := by decide) (hdb : (x == ("__debug__" : Str)) = false := by decide)
    (he : starEach (e :: es) X.env = (false, eval e X.env) :: starEach es X.env := by rfl) (hpl : (backTo pos (starEach es X.env)).any (·.1) = false := by rfl) : DF X P (.Call (.Name x p) (e :: es) [] pos) (wCallF g wl) :=
  ⟨pe_imp (pe_callTy hc hg hm hv ha.pa hn hdb he hpl) callF_imp⟩

/-! ### the built-ins -/
theorem reps1 {F Pm : Addr → Prop} {H : Hp} {d : D} {xs : List V} (h : RepsT T F Pm H [d] xs) : ∃ v, xs = [v] ∧ RepT T F Pm H d v := by
  obtain ⟨v, r, e, h1, h2⟩ := h
  have h2 : r = [] := h2
  subst h2
  exact ⟨v, e, h1⟩
theorem reps2 {F Pm : Addr → Prop} {H : Hp} {d d' : D} {xs : List V} (h : RepsT T F Pm H [d, d'] xs) : ∃ v v', xs = [v, v'] ∧ RepT T F Pm H d v ∧ RepT T F Pm H d' v' := by
  obtain ⟨v, r, e, h1, h2⟩ := h
  obtain ⟨v', r', e', h3, h4⟩ := h2
  have h4 : r' = [] := h4
  subst h4
  subst e'
  exact ⟨v, v', e, h1, h3⟩
def gLen : GC
  | [.tup xs], Q => Q (.int xs.length)
  | [.lst xs], Q => Q (.int xs.length)
  | [.scr xs], Q => Q (.int xs.length)
  | [.str z], Q => z.length ≤ 16777216 ∧ Q (.int z.length)
  | [.dct ks _], Q => Q (.int ks.length)
  | _, _ => False
theorem call_lenR : CallR X (.builtin "len") (fun xs H Q => ∃ a kvs, xs = [V.ref a] ∧ Rd H a (.dK kvs) ∧ Q (.int kvs.length) H) := by
  intro pins s σ H xs us Q I r h
  obtain ⟨a, kvs, rfl, ha, q⟩ := h
  obtain ⟨u, rfl, ru⟩ := vals1 r
  cases ru
  exact d_len I ha fun t s' I' => ⟨.int kvs.length, H, I', ⟨t, rfl⟩, q⟩
theorem cd_len (hK : T.K = X.K) : CallD X T (.builtin "len") gLen := by
  intro pins s σ H xs us Q I r ⟨F, Pm, ds, Qd, hx, hF, hg, hq⟩
  match ds, hg with
  | [.tup xs], hg =>
    obtain ⟨v, rfl, h⟩ := reps1 hx
    obtain ⟨p, vs, rfl, h, r2⟩ := repT_seq hK (.inl rfl) h
    exact call_len_seq pins s σ H _ us Q I r ⟨p, vs, rfl, h, hq _ hg _ H (fun _ _ z => z) (by simp [Rep, r2.len])⟩
  | [.lst xs], hg =>
    obtain ⟨v, rfl, h⟩ := reps1 hx
    obtain ⟨p, vs, rfl, h, r2⟩ := repT_seq hK (.inr rfl) h
    exact call_len_seq pins s σ H _ us Q I r ⟨p, vs, rfl, h, hq _ hg _ H (fun _ _ z => z) (by simp [Rep, r2.len])⟩
  | [.scr ns], hg =>
    obtain ⟨v, rfl, h⟩ := reps1 hx
    simp only [RepT, Rep] at h
    obtain ⟨p, rfl, h⟩ := h
    have hl : SqL X.K H p (ns.map V.int) := h.elim (fun h => .inl h.1) (fun h => hK ▸ h.to)
    exact call_len_seq pins s σ H _ us Q I r ⟨p, _, rfl, .inl hl, hq _ hg _ H (fun _ _ z => z) (by simp [Rep])⟩
  | [.str z], hg =>
    obtain ⟨v, rfl, h⟩ := reps1 hx
    exact call_len_str pins s σ H _ us Q I r ⟨z, by rw [show v = .str z from h], sz16 hg.1, hq _ hg.2 _ H (fun _ _ z => z) (by simp [Rep])⟩
  | [.dct ks vs], hg =>
    obtain ⟨v, rfl, h⟩ := reps1 hx
    obtain ⟨a, ws, rfl, h, _, l, r2⟩ := h
    refine call_lenR pins s σ H _ us Q I r ⟨a, _, rfl, h, hq _ hg _ H (fun _ _ z => z) ?_⟩
    simp only [Rep, List.length_zip, r2.len, l, Nat.min_self]
def gInt : GC
  | [.int i], Q => Q (.int i)
  | [.bl b], Q => Q (.int (if b then 1 else 0))
  | _, _ => False
theorem cd_int : CallD X T (.type "int") gInt := by
  intro pins s σ H xs us Q I r ⟨F, Pm, ds, Qd, hx, hF, hg, hq⟩
  match ds, hg with
  | [.int i], hg =>
    obtain ⟨v, rfl, h⟩ := reps1 hx
    exact call_int1 pins s σ H _ us Q I r (.inl ⟨i, by rw [show v = .int i from h], hq _ hg _ H (fun _ _ z => z) (by simp [Rep])⟩)
  | [.bl i], hg =>
    obtain ⟨v, rfl, h⟩ := reps1 hx
    exact call_int1 pins s σ H _ us Q I r (.inr ⟨i, by rw [show v = .bl i from h], hq _ hg _ H (fun _ _ z => z) (by simp [Rep])⟩)
def gAbs : GC
  | [.int i], Q => Q (.int (if i < 0 then -i else i))
  | _, _ => False
theorem cd_abs : CallD X T (.builtin "abs") gAbs := by
  intro pins s σ H xs us Q I r ⟨F, Pm, ds, Qd, hx, hF, hg, hq⟩
  match ds, hg with
  | [.int i], hg =>
    obtain ⟨v, rfl, h⟩ := reps1 hx
    exact call_abs pins s σ H _ us Q I r ⟨i, by rw [show v = .int i from h], hq _ hg _ H (fun _ _ z => z) (by simp [Rep])⟩
def isL : List D → Option (List Int)
  | [] => some []
  | .int i :: r => (isL r).map (i :: ·)
  | _ :: _ => none
def bsL : List D → Option (List Bool)
  | [] => some []
  | .bl i :: r => (bsL r).map (i :: ·)
  | _ :: _ => none
theorem isL_map : ∀ {ds : List D} {ns : List Int}, isL ds = some ns → ds = ns.map D.int
  | [], ns, h => by simp only [isL] at h; cases h; rfl
  | d :: r, ns, h => by
    cases d <;> simp only [isL] at h <;> try cases h
    cases e : isL r with
    | none => rw [e] at h; cases h
    | some ms =>
      rw [e] at h
      cases h
      rw [isL_map e, List.map_cons]
theorem bsL_map : ∀ {ds : List D} {ns : List Bool}, bsL ds = some ns → ds = ns.map D.bl
  | [], ns, h => by simp only [bsL] at h; cases h; rfl
  | d :: r, ns, h => by
    cases d <;> simp only [bsL] at h <;> try cases h
    cases e : bsL r with
    | none => rw [e] at h; cases h
    | some ms =>
      rw [e] at h
      cases h
      rw [bsL_map e, List.map_cons]
theorem isL_ints : ∀ ns : List Int, isL (ns.map D.int) = some ns
  | [] => rfl
  | n :: r => by simp [isL, isL_ints r]
theorem bsL_bls : ∀ ns : List Bool, bsL (ns.map D.bl) = some ns
  | [] => rfl
  | n :: r => by simp [bsL, bsL_bls r]
/-- a list of ints, of bools -/
def gLI (f : List Int → (D → Prop) → Prop) : GC
  | [.lst ds], Q => match isL ds with | some ns => f ns Q | none => False
  | _, _ => False
def gLB (f : List Bool → Bool) : GC
  | [.lst ds], Q => match bsL ds with | some ns => Q (.bl (f ns)) | none => False
  | _, _ => False
theorem lst_ints {F Pm : Addr → Prop} {H : Hp} {ds : List D} {ns : List Int} {v : V} (h : RepT T F Pm H (.lst ds) v) (e : isL ds = some ns) : ∃ p, v = .ref p ∧ H p = some (.lst (ns.map V.int)) := by
  obtain ⟨p, vs, rfl, h, _, r⟩ := h
  rw [isL_map e] at r
  rw [r.ofInts] at h
  exact ⟨p, rfl, h⟩
theorem lst_bls {F Pm : Addr → Prop} {H : Hp} {ds : List D} {ns : List Bool} {v : V} (h : RepT T F Pm H (.lst ds) v) (e : bsL ds = some ns) : ∃ p, v = .ref p ∧ H p = some (.lst (ns.map V.bl)) := by
  obtain ⟨p, vs, rfl, h, _, r⟩ := h
  rw [bsL_map e] at r
  rw [r.ofBls] at h
  exact ⟨p, rfl, h⟩
abbrev gAll : GC := gLB fun bs => bs.all _root_.id
abbrev gAny : GC := gLB fun bs => bs.any _root_.id
theorem cd_all (hc : X.calm = true) : CallD X T (.builtin "all") gAll := by
  intro pins s σ H xs us Q I r ⟨F, Pm, ds, Qd, hx, hF, hg, hq⟩
  match ds, hg with
  | [.lst ds], hg =>
    obtain ⟨v, rfl, h⟩ := reps1 hx
    simp only [gAll, gLB] at hg
    split at hg
    · rename_i ns e
      obtain ⟨p, rfl, h9⟩ := lst_bls h e
      exact cr_all hc pins s σ H _ us Q I r ⟨p, ns, rfl, .of h9, hq _ hg _ H (fun _ _ z => z) (by simp [Rep])⟩
    · exact hg.elim
theorem cd_any (hc : X.calm = true) : CallD X T (.builtin "any") gAny := by
  intro pins s σ H xs us Q I r ⟨F, Pm, ds, Qd, hx, hF, hg, hq⟩
  match ds, hg with
  | [.lst ds], hg =>
    obtain ⟨v, rfl, h⟩ := reps1 hx
    simp only [gAny, gLB] at hg
    split at hg
    · rename_i ns e
      obtain ⟨p, rfl, h9⟩ := lst_bls h e
      exact cr_any hc pins s σ H _ us Q I r ⟨p, ns, rfl, .of h9, hq _ hg _ H (fun _ _ z => z) (by simp [Rep])⟩
    · exact hg.elim
abbrev gSum : GC := gLI fun ns Q => Q (.int ns.sum)
theorem cd_sum (hc : X.calm = true) : CallD X T (.builtin "sum") gSum := by
  intro pins s σ H xs us Q I r ⟨F, Pm, ds, Qd, hx, hF, hg, hq⟩
  match ds, hg with
  | [.lst ds], hg =>
    obtain ⟨v, rfl, h⟩ := reps1 hx
    simp only [gSum, gLI] at hg
    split at hg
    · rename_i ns e
      obtain ⟨p, rfl, h9⟩ := lst_ints h e
      exact cr_sum hc pins s σ H _ us Q I r ⟨p, ns, rfl, .of h9, hq _ hg _ H (fun _ _ z => z) (by simp [Rep])⟩
    · exact hg.elim
def gMax : GC
  | [.lst ds], Q => match isL ds with | some ns => 0 < ns.length ∧ ∀ m, m ∈ ns → (∀ y, y ∈ ns → y ≤ m) → Q (.int m) | none => False
  | [.int i, .int j], Q => Q (.int (if j > i then j else i))
  | _, _ => False
def gMin : GC
  | [.lst ds], Q => match isL ds with | some ns => 0 < ns.length ∧ ∀ m, m ∈ ns → (∀ y, y ∈ ns → m ≤ y) → Q (.int m) | none => False
  | [.int i, .int j], Q => Q (.int (if j < i then j else i))
  | _, _ => False
theorem cd_max (hc : X.calm = true) : CallD X T (.builtin "max") gMax := by
  intro pins s σ H xs us Q I r ⟨F, Pm, ds, Qd, hx, hF, hg, hq⟩
  match ds, hg with
  | [.lst ds], hg =>
    obtain ⟨v, rfl, h⟩ := reps1 hx
    simp only [gMax] at hg
    split at hg
    · rename_i ns e
      obtain ⟨p, rfl, h9⟩ := lst_ints h e
      exact cr_max hc pins s σ H _ us Q I r ⟨p, ns, rfl, .of h9, hg.1, fun m h1 h2 => hq _ (hg.2 m h1 h2) _ H (fun _ _ z => z) (by simp [Rep])⟩
    · exact hg.elim
  | [.int i, .int j], hg =>
    obtain ⟨v, v', rfl, h, h'⟩ := reps2 hx
    exact call_max2 hc pins s σ H _ us Q I r ⟨i, j, by rw [show v = .int i from h, show v' = .int j from h'], hq _ hg _ H (fun _ _ z => z) (by simp [Rep])⟩
theorem cd_min (hc : X.calm = true) : CallD X T (.builtin "min") gMin := by
  intro pins s σ H xs us Q I r ⟨F, Pm, ds, Qd, hx, hF, hg, hq⟩
  match ds, hg with
  | [.lst ds], hg =>
    obtain ⟨v, rfl, h⟩ := reps1 hx
    simp only [gMin] at hg
    split at hg
    · rename_i ns e
      obtain ⟨p, rfl, h9⟩ := lst_ints h e
      exact cr_min hc pins s σ H _ us Q I r ⟨p, ns, rfl, .of h9, hg.1, fun m h1 h2 => hq _ (hg.2 m h1 h2) _ H (fun _ _ z => z) (by simp [Rep])⟩
    · exact hg.elim
  | [.int i, .int j], hg =>
    obtain ⟨v, v', rfl, h, h'⟩ := reps2 hx
    exact call_min2 hc pins s σ H _ us Q I r ⟨i, j, by rw [show v = .int i from h, show v' = .int j from h'], hq _ hg _ H (fun _ _ z => z) (by simp [Rep])⟩
/-- tuple(list), tuple(tuple); list(list), list(tuple) -/
def gTuple : GC
  | [.tup xs], Q => Q (.tup xs)
  | [.lst xs], Q => Q (.tup xs)
  | _, _ => False
theorem cd_tuple (hK : T.K = X.K) : CallD X T (.type "tuple") gTuple := by
  intro pins s σ H xs us Q I r ⟨F, Pm, ds, Qd, hx, hF, hg, hq⟩
  match ds, hg with
  | [.tup xs], hg =>
    obtain ⟨v, rfl, h⟩ := reps1 hx
    simp only [RepT, Rep] at h
    obtain ⟨p, vs, rfl, h, r2⟩ := h
    refine call_tuple_of pins s σ H _ us Q I r ⟨p, vs, rfl, .inr ⟨hK ▸ tupAt h, hq _ hg _ H (fun _ _ z => z) ?_⟩⟩
    simp only [Rep]
    exact ⟨p, vs, rfl, h, r2⟩
  | [.lst xs], hg =>
    obtain ⟨v, rfl, h⟩ := reps1 hx
    obtain ⟨p, vs, rfl, h, _, r2⟩ := h
    refine call_tuple_of pins s σ H _ us Q I r ⟨p, vs, rfl, .inl ⟨.of h, fun q hp => ?_⟩⟩
    obtain ⟨k, n⟩ := upN hF hp (o := .tup vs)
    refine hq _ hg _ _ (ext_upd hp) ?_
    simp only [Rep]
    exact ⟨q, _, rfl, .inl ⟨upd_same, n⟩, Reps.kp k _ _ r2⟩
def gList : GCF
  | [.tup xs], Q => Q (.lst xs)
  | [.lst xs], Q => Q (.lst xs)
  | [.scr xs], Q => Q (.lst (xs.map D.int))
  | _, _ => False
theorem cf_list (hK : T.K = X.K) : CallF X T (.type "list") gList := by
  intro pins s σ H xs us Q I r ⟨F, Pm, ds, Qd, hx, hF, hg, hq⟩
  have go : ∀ p vs ys, (SqL X.K H p vs ∨ SqT X.K H p vs) → Reps T F H ys vs → xs = [.ref p] → Qd (.lst ys) → wpAny (model X.prog X.w) X.A (call (.type "list") us) (EP X pins σ Q) X.xe s := fun p vs ys h r2 e hg =>
    call_list_of pins s σ H _ us Q I r ⟨p, vs, e, h, fun l hl => hq (.lst ys) hg l (.lst vs) hl r2⟩
  match ds, hg with
  | [.tup xs], hg =>
    obtain ⟨v, rfl, h⟩ := reps1 hx
    obtain ⟨p, vs, rfl, h, r2⟩ := repT_seq hK (.inl rfl) h
    exact go p vs _ h r2 rfl hg
  | [.lst xs], hg =>
    obtain ⟨v, rfl, h⟩ := reps1 hx
    obtain ⟨p, vs, rfl, h, r2⟩ := repT_seq hK (.inr rfl) h
    exact go p vs _ h r2 rfl hg
  | [.scr ns], hg =>
    obtain ⟨v, rfl, h⟩ := reps1 hx
    simp only [RepT, Rep] at h
    obtain ⟨p, rfl, h⟩ := h
    exact go p _ _ (.inl (h.elim (fun h => .inl h.1) (fun h => hK ▸ h.to))) (Reps.ints ns) rfl hg
/-- isinstance -/
def tyS : D → Option String
  | .non => some "NoneType"
  | .bl _ => some "bool"
  | .int _ => some "int"
  | .str _ => some "str"
  | .tup _ => some "tuple"
  | .lst _ => some "list"
  | .dct _ _ => some "dict"
  | _ => none
def isiS (a b : String) : Bool := a == b || (a == "bool" && b == "int")
def okTy (b : String) : Bool := ["bool", "int", "str", "tuple", "list", "dict"].contains b
theorem kit_tab : (["NoneType", "bool", "int", "str", "tuple", "list", "dict"].all fun a => ["bool", "int", "str", "tuple", "list", "dict"].all fun b => kitB a b == some (isiS a b)) = true := by decide +kernel
theorem kit_at {K : PySem.W.Frag} {d : D} {a b : String} (h : tyS d = some a) (hb : okTy b = true) : PySem.W.kitOne K (.type a) (.type b) = some (isiS a b) := by
  refine kit_ty ?_
  have ha : a ∈ ["NoneType", "bool", "int", "str", "tuple", "list", "dict"] := by
    cases d <;> simp only [tyS] at h <;> cases h <;> simp
  have hb' : b ∈ ["bool", "int", "str", "tuple", "list", "dict"] := by simpa [okTy] using hb
  have t := kit_tab
  rw [List.all_eq_true] at t
  have t2 := t a ha
  rw [List.all_eq_true] at t2
  simpa using t2 b hb'
theorem ty_at (hK : T.K = X.K) {F Pm : Addr → Prop} {H : Hp} {d : D} {v : V} {a : String} (h : RepT T F Pm H d v) (e : tyS d = some a) : TyX X.K H v (.type a) := by
  cases d <;> simp only [tyS] at e <;> cases e
  case non => rw [show v = .non from h]; exact .base .non
  case bl => rw [show v = .bl _ from h]; exact .base (.bl _)
  case int => rw [show v = .int _ from h]; exact .base (.int _)
  case str => rw [show v = .str _ from h]; exact .base (.str _)
  case tup =>
    simp only [RepT, Rep] at h
    obtain ⟨p, vs, rfl, h, _⟩ := h
    rcases h with h | h
    · exact .base (.tup h.1)
    · rcases h with (h | ⟨_, h⟩) | ⟨o, its, n, h1, h2, _⟩
      · cases h
      · cases h
      · exact .kTuple (hK ▸ h1) h2
  case lst =>
    obtain ⟨p, vs, rfl, h, _⟩ := h
    exact .base (.lst h)
  case dct =>
    obtain ⟨p, vs, rfl, h, _⟩ := h
    rcases h with h | ⟨o, h⟩
    · exact .base (.dK h)
    · exact .fDict h
def tyL : List D → Option (List String)
  | [] => some []
  | .ty n :: r => if okTy n then (tyL r).map (n :: ·) else none
  | _ :: _ => none
def gIsi : GC
  | [d, .ty b], Q => okTy b = true ∧ match tyS d with | some a => Q (.bl (isiS a b)) | none => False
  | [d, .tup ts], Q => match tyS d with | some a => (match tyL ts with | some bs => Q (.bl (bs.any (isiS a))) | none => False) | none => False
  | _, _ => False
theorem tyL_any {K : PySem.W.Frag} {d : D} {a : String} (h : tyS d = some a) : ∀ {ts : List D} {bs : List String}, tyL ts = some bs → PySem.W.kitAny K (.type a) (bs.map Value.type) = some (bs.any (isiS a))
  | [], bs, e => by simp only [tyL] at e; cases e; rfl
  | t :: ts, bs, e => by
    cases t <;> simp only [tyL] at e <;> try cases e
    split at e
    · rename_i n hn
      cases e2 : tyL ts with
      | none => rw [e2] at e; cases e
      | some cs =>
        rw [e2] at e
        cases e
        have ih := tyL_any (K := K) h e2
        rw [List.map_cons]
        refine kitAny_cons (kit_at h hn) (fun z => ?_) (fun z => ?_)
        · rw [ih]; simp [z]
        · simp [z]
    · cases e
theorem tyL_vals {F : Addr → Prop} {H : Hp} : ∀ {ts : List D} {vs : List V} {bs : List String}, Reps T F H ts vs → tyL ts = some bs → vs = bs.map V.ty
  | [], vs, bs, h, e => by simp only [tyL] at e; cases e; simpa [Reps] using h
  | t :: ts, vs, bs, h, e => by
    cases t <;> simp only [tyL] at e <;> try cases e
    split at e
    · cases e2 : tyL ts with
      | none => rw [e2] at e; cases e
      | some cs =>
        rw [e2] at e
        cases e
        simp only [Reps, Rep] at h
        obtain ⟨v, r, e3, h1, h2⟩ := h
        rw [e3, h1, tyL_vals h2 e2, List.map_cons]
    · cases e
theorem clsV_tys : ∀ bs : List String, Paired ClsV (bs.map V.ty) (bs.map Value.type)
  | [] => .nil
  | b :: r => .cons (.ty b) (clsV_tys r)
theorem vals_tys : ∀ {bs : List String} {us : List Value}, Vals (bs.map V.ty) us → us = bs.map Value.type
  | [], _, .nil => rfl
  | b :: r, _, .cons h t => by rw [show _ = Value.type b from h, vals_tys t]; rfl
theorem cd_isi (hK : T.K = X.K) : CallD X T (.builtin "isinstance") gIsi := by
  intro pins s σ H xs us Q I r ⟨F, Pm, ds, Qd, hx, hF, hg, hq⟩
  match ds, hg with
  | [d, .ty b], hg =>
    obtain ⟨v, v', rfl, h, h'⟩ := reps2 hx
    obtain ⟨hb, hg⟩ := hg
    split at hg
    · rename_i a e
      refine call_isi pins s σ H _ us Q I r ⟨v, v', .type a, .type b, isiS a b, rfl, by rw [show v' = .ty b from h']; exact .ty b, ty_at hK h e, kit_at e hb, hq _ hg _ H (fun _ _ z => z) (by simp [Rep])⟩
    · exact hg.elim
  | [d, .tup ts], hg =>
    obtain ⟨v, v', rfl, h, h'⟩ := reps2 hx
    simp only [gIsi] at hg
    split at hg
    · rename_i a e
      split at hg
      · rename_i bs e2
        simp only [RepT, Rep] at h'
        obtain ⟨q, vs, rfl, h3, r2⟩ := h'
        have ev := tyL_vals r2 e2
        subst ev
        rcases h3 with h3 | h3
        · exact call_isiT pins s σ H _ us Q I r ⟨v, q, _, .type a, bs.map Value.type, _, rfl, h3.1, clsV_tys bs, ty_at hK h e, tyL_any e e2, hq _ hg _ H (fun _ _ z => z) (by simp [Rep])⟩
        · rcases h3 with (h3 | ⟨_, h3⟩) | ⟨⟨oc, dd, od, sl⟩, its, n, h1, h2, h4, h5, h6⟩
          · cases h3
          · cases h3
          · simp only at h2 h4
            subst h2 h4
            have := vals_tys h6
            refine call_isiK pins s σ H _ us Q I r ⟨v, q, dd, bs.map Value.type, n, sl, .type a, _, rfl, ?_, ty_at hK h e, tyL_any e e2, hq _ hg _ H (fun _ _ z => z) (by simp [Rep])⟩
            rw [← this]
            exact hK ▸ h1
      · exact hg.elim
    · exact hg.elim
end
end N

set_option Elab.async false
set_option linter.all false
set_option maxRecDepth 100000
set_option maxHeartbeats 0
/-! NE: what is walked, targets, comprehensions -/
namespace N
open PySem PySem.Spec PyProof.Rows L2

/-! ### what is walked -/
abbrev Rl := Wd → Hp → Wd → Hp → Prop
def RF (T : Th) : Rl := fun W H W' H' => Kp W.F H W'.F H' ∧ WOk T W' H'
def RS (T : Th) : Rl := fun W H W' H' => Step T W H W' H'
theorem Kp.trans {F F1 F2 : Addr → Prop} {H H1 H2 : Hp} (a : Kp F H F1 H1) (b : Kp F1 H1 F2 H2) : Kp F H F2 H2 where
  same' := fun c o h t n => b.same' c o (a.same' c o h t n) t fun z => (a.fnew c z).elim n fun q => by rw [h] at q; cases q
  fnew := fun c h => (b.fnew c h).elim (a.fnew c) fun n => .inr (by
    cases q : H c with
    | none => rfl
    | some o => exact absurd n (a.trk c (by rw [q]; simp)))
  trk := fun c h => b.trk c (a.trk c h)
/-- the iterator J gives just the items, as long as Rl holds -/
def Wk (T : Th) (R : Rl) (W1 : Wd) (H1 : Hp) (items : List D) (J : It) : Prop := ∃ (Gd : Hp → Prop) (Y : Nat → Hp → V → Hp → Prop), Walk J items.length Gd Y ∧
  ∀ W2 H2, R W1 H1 W2 H2 → Gd H2 ∧ ∀ (i : Nat) d, items[i]? = some d → ∀ x H3, Y i H2 x H3 → Nw H2 H3 ∧ Rep T W2.F H3 d x
def tI (P : Pm) (R : Rl) (w : WA) : TI := fun σ H K => ∃ G W Q0 R0, Sta P G W σ H ∧ w G W.Om Q0 R0 ∧ exOk P W H σ R0 ∧
  ∀ items Om', Q0 items Om' → ∀ J H1 W1, Step P.T W H W1 H1 → W1.Om = Om' → Wk P.T R W1 H1 items J → K J H1
structure DI (X : Cx) (P : Pm) (R : Rl) (tg iter : Expr) (w : WA) : Prop where
  pi : PI X tg iter (tI P R w)
theorem pi_imp {X : Cx} {tg iter : Expr} {t t' : TI} (h : PI X tg iter t) (i : ∀ σ H Q, t' σ H Q → t σ H Q) : PI X tg iter t' := ⟨fun pins s σ H Q I q => h.run pins s σ H Q I (i σ H Q q)⟩
section
variable {X : Cx} {P : Pm} {tg iter a b c e e2 : Expr} {w : WE} {wl : WA} {pos p tpos : Pos}
/-- a list, a tuple, a text, whatever comes -/
def iAny (K : PySem.W.Frag) (t : TE) : TI := fun σ H R => t σ H fun x H1 => (∃ a, x = .ref a ∧ (∃ xs, SqL K H1 a xs) ∧ R (Itl K a) H1) ∨ (∃ a, x = .ref a ∧ (∃ xs, SqT K H1 a xs) ∧ R (Itt K a) H1) ∨ ∃ z, x = .str z ∧ R (Its z) H1
theorem pi_any {t : TE} (h : PE X iter t) : PI X tg iter (iAny X.K t) := by
  refine ⟨fun pins s σ H R I q => ?_⟩
  refine thn (h.run pins s σ H _ I q) fun v s1 ⟨x, H1, I1, r1, q1⟩ => ?_
  rcases q1 with ⟨a, e, ⟨xs, hq⟩, q⟩ | ⟨a, e, ⟨xs, hq⟩, q⟩ | ⟨z, e, q⟩
  · subst e
    cases r1
    obtain ⟨its, rv, pl, _⟩ := I1.list hq
    exact wpAny_pyIter_list pl.isList (pi_one (tk := s1.toks) I1 _ (turn_list a _) ⟨_, Heap.get?_push_size _ rfl, rfl, rfl⟩ q)
  · subst e
    cases r1
    obtain ⟨its, rv, pl, _⟩ := I1.tuple hq
    exact wpAny_pyIter_tuple (show s1.heap.IsTuple a its.toArray from pl) (pi_one (tk := s1.toks) I1 _ (turn_tuple a _) ⟨_, Heap.get?_push_size _ rfl, rfl, rfl⟩ q)
  · subst e
    obtain ⟨t, rfl⟩ := r1
    cases ha : z.cps.all (· < 128)
    · exact wpAny_pyIter_wide ha (pi_one (tk := s1.toks) I1 _ (turn_str _ z t "str_iterator" (.inr rfl)) ⟨_, Heap.get?_push_size _ rfl, rfl, rfl⟩ q)
    · exact wpAny_pyIter_ascii ha (pi_one (tk := s1.toks) I1 _ (turn_str _ z t "str_ascii_iterator" (.inl rfl)) ⟨_, Heap.get?_push_size _ rfl, rfl, rfl⟩ q)
def gIt : D → (List D → Prop) → Prop
  | .tup xs, Q => Q xs
  | .lst xs, Q => Q xs
  | .scr ns, Q => Q (ns.map D.int)
  | .str z, Q => Q (z.cps.toList.map fun c => D.str ⟨#[c]⟩)
  | _, _ => False
def wIt (w : WE) : WA := fun G Om Q R => w G Om (fun d O => gIt d fun xs => Q xs O) R
theorem wk_str {T : Th} {R : Rl} {W1 : Wd} {H1 : Hp} (z : Str) : Wk T R W1 H1 (z.cps.toList.map fun c => D.str ⟨#[c]⟩) (Its z) := by
  refine ⟨_, _, (by rw [List.length_map, Array.length_toList]; exact walk_str), fun W2 H2 _ => ⟨trivial, fun i d e x H3 y => ?_⟩⟩
  obtain ⟨rfl, c, ec, rfl⟩ := y
  refine ⟨fun _ _ z => z, ?_⟩
  rw [List.getElem?_map, Array.getElem?_toList, ec] at e
  cases e
  simp [Rep]
theorem wk_at {T : Th} {R : Rl} {W1 : Wd} {H1 : Hp} {ds : List D} {vs : List V} {J : It} {Gd : Hp → Prop} (l : vs.length = ds.length) (wk : Walk J vs.length Gd (YAt vs)) (h : ∀ W2 H2, R W1 H1 W2 H2 → Gd H2 ∧ Reps T W2.F H2 ds vs) : Wk T R W1 H1 ds J := by
  refine ⟨Gd, YAt vs, l ▸ wk, fun W2 H2 r => ⟨(h W2 H2 r).1, fun i d e x H3 y => ?_⟩⟩
  obtain ⟨rfl, ex⟩ := y
  obtain ⟨v, ev, rv⟩ := (h W2 _ r).2.get e
  rw [ex] at ev
  cases ev
  exact ⟨fun _ _ z => z, rv⟩
theorem seqL_kp {K : PySem.W.Frag} {F F' : Addr → Prop} {H H' : Hp} {a : Addr} {vs : List V} (k : Kp F H F' H') (h : (Rd H a (.lst vs) ∧ ¬ F a) ∨ KL K a vs) : SqL K H' a vs := h.elim (fun h => .inl (k.rd h.1 h.2).1) KL.to
theorem di_val (hK : P.T.K = X.K) (h : DE X P iter w) : DI X P (RF P.T) tg iter (wIt w) := by
  refine ⟨pi_imp (pi_any h.pe) fun σ H R q => ?_⟩
  obtain ⟨G, W, Q0, R0, S, q, ex, hq⟩ := q
  refine ⟨G, W, _, R0, S, q, ex, fun d O h1 v H1 W1 s1 e1 r => ?_⟩
  cases d <;> try exact h1.elim
  · simp only [Rep] at r
    exact .inr (.inr ⟨_, r, hq _ O h1 _ H1 W1 s1 e1 (wk_str _)⟩)
  · simp only [Rep] at r
    obtain ⟨a, vs, rfl, ha, r⟩ := r
    refine .inr (.inl ⟨a, rfl, ⟨vs, hK ▸ tupAt ha⟩, hq _ O h1 _ H1 W1 s1 e1 (wk_at r.len walk_tup fun W2 H2 k => ⟨?_, Reps.kp k.1 _ _ r⟩)⟩)
    exact hK ▸ tupAt (F := W2.F) (ha.imp (fun h => ⟨k.1.same _ _ h.1 h.2, (k.1.rd (.inl h.1) h.2).2⟩) id)
  · simp only [Rep] at r
    obtain ⟨a, vs, rfl, ha, n, r⟩ := r
    exact .inl ⟨a, rfl, ⟨vs, .of ha⟩, hq _ O h1 _ H1 W1 s1 e1 (wk_at r.len walk_list fun W2 H2 k => ⟨.of (k.1.same _ _ ha n), Reps.kp k.1 _ _ r⟩)⟩
  · simp only [Rep] at r
    obtain ⟨a, rfl, ha⟩ := r
    exact .inl ⟨a, rfl, ⟨_, hK ▸ seqL_kp Kp.refl ha⟩, hq _ O h1 _ H1 W1 s1 e1 (wk_at (by simp) walk_list fun W2 H2 k => ⟨hK ▸ seqL_kp k.1 ha, Reps.ints _⟩)⟩
/-- .. in a comprehension the list may be one's own -/
theorem di_valB (hK : P.T.K = X.K) (h : DB X P iter w) : DI X P (RS P.T) tg iter (wIt w) := by
  refine ⟨pi_imp (pi_any h.pe) fun σ H R q => ?_⟩
  obtain ⟨G, W, Q0, R0, S, q, ex, hq⟩ := q
  refine ⟨G, W, _, R0, S, q, ex, fun d O h1 v H1 W1 s1 e1 r => ?_⟩
  cases d <;> try exact h1.elim
  · exact .inr (.inr ⟨_, r, hq _ O h1 _ H1 W1 s1 e1 (wk_str _)⟩)
  · simp only [RepT, Rep] at r
    obtain ⟨a, vs, rfl, ha, r⟩ := r
    refine .inr (.inl ⟨a, rfl, ⟨vs, hK ▸ tupAt ha⟩, hq _ O h1 _ H1 W1 s1 e1 (wk_at r.len walk_tup fun W2 H2 k => ⟨?_, Reps.kp (Step.kp k s1.ok) _ _ r⟩)⟩)
    have k := Step.kp k s1.ok
    exact hK ▸ tupAt (F := W2.F) (ha.imp (fun h => ⟨k.same _ _ h.1 h.2, (k.rd (.inl h.1) h.2).2⟩) id)
  · obtain ⟨a, vs, rfl, ha, n, r⟩ := r
    exact .inl ⟨a, rfl, ⟨vs, .of ha⟩, hq _ O h1 _ H1 W1 s1 e1 (wk_at r.len walk_list fun W2 H2 k => ⟨.of (Step.keep k _ _ ha n), Reps.kp (Step.kp k s1.ok) _ _ r⟩)⟩
  · simp only [RepT, Rep] at r
    obtain ⟨a, rfl, ha⟩ := r
    exact .inl ⟨a, rfl, ⟨_, hK ▸ seqL_kp Kp.refl ha⟩, hq _ O h1 _ H1 W1 s1 e1 (wk_at (by simp) walk_list fun W2 H2 k => ⟨hK ▸ seqL_kp (Step.kp k s1.ok) ha, Reps.ints _⟩)⟩
/-- ranges -/
theorem wk_fn {T : Th} {R : Rl} {W1 : Wd} {H1 : Hp} {n : Nat} {J : It} {f : Nat → Int} (wk : Walk J n (fun _ => True) (YFn fun i => .int (f i))) : Wk T R W1 H1 ((List.range n).map fun i => .int (f i)) J := by
  refine ⟨_, _, (by rw [List.length_map, List.length_range]; exact wk), fun W2 H2 _ => ⟨trivial, fun i d e x H3 y => ?_⟩⟩
  obtain ⟨rfl, rfl⟩ := y
  refine ⟨fun _ _ z => z, ?_⟩
  rw [List.getElem?_map] at e
  cases q : (List.range n)[i]? with
  | none => rw [q] at e; cases e
  | some j =>
    rw [q] at e
    obtain ⟨hj, ej⟩ := List.getElem?_eq_some_iff.mp q
    rw [List.getElem_range] at ej
    cases e
    rw [ej]
    simp [Rep]
def rngL (lo : Int) (n : Nat) : List D := (List.range n).map fun (i : Nat) => .int (lo + (i : Int))
def rngC (lo c : Int) (n : Nat) : List D := (List.range n).map fun (i : Nat) => .int (lo + (i : Int) * c)
def gRng1 : List D → (List D → Prop) → Prop
  | [.int j], Q => (-(2 ^ 62) ≤ j ∧ j < 2 ^ 62) ∧ Q (rngL 0 j.toNat)
  | _, _ => False
def gRng2 : List D → (List D → Prop) → Prop
  | [.int i, .int j], Q => (-(2 ^ 62) ≤ i ∧ i < 2 ^ 62 ∧ -(2 ^ 62) ≤ j ∧ j < 2 ^ 62) ∧ Q (rngL i (j - i).toNat)
  | _, _ => False
def gRng3 : List D → (List D → Prop) → Prop
  | [.int i, .int j, .int c], Q => ∃ n, RgC i j c n ∧ Q (rngC i c n)
  | _, _ => False
def wRng (g : List D → (List D → Prop) → Prop) (w : WA) : WA := fun G Om Q R => w G Om (fun ds O => g ds fun xs => Q xs O) R
variable {R : Rl}
theorem di_rng1 (hm : X.mg "range" = none) (h : DA X P [a] wl) (hg : Gl X "range" := by rfl) (hs : starEach [a] X.env = [(false, eval a X.env)] := by rfl) : DI X P R tg (.Call (.Name "range" p) [a] [] pos) (wRng gRng1 wl) := by
  refine ⟨pi_imp (pi_range1 hg hm h.pa hs) fun σ H K q => ?_⟩
  obtain ⟨G, W, Q0, R0, S, q, ex, hq⟩ := q
  refine ⟨G, W, _, R0, S, q, ex, fun ds O h1 vs H1 W1 s1 e1 r => ?_⟩
  match ds, h1, r with
  | [.int j], h1, r =>
    have := Reps.ofInts (ns := [j]) r
    subst this
    exact ⟨j, rfl, h1.1.1, h1.1.2, hq _ O h1.2 _ H1 W1 s1 e1 (wk_fn (f := fun i => 0 + (i : Int)) walk_range)⟩
theorem di_rng2 (hm : X.mg "range" = none) (h : DA X P [a, b] wl) (hg : Gl X "range" := by rfl) (hs : starEach [a, b] X.env = [(false, eval a X.env), (false, eval b X.env)] := by rfl) (hs2 : starEach [b] X.env = [(false, eval b X.env)] := by rfl) :
    DI X P R tg (.Call (.Name "range" p) [a, b] [] pos) (wRng gRng2 wl) := by
  refine ⟨pi_imp (pi_range2 hg hm h.pa hs hs2) fun σ H K q => ?_⟩
  obtain ⟨G, W, Q0, R0, S, q, ex, hq⟩ := q
  refine ⟨G, W, _, R0, S, q, ex, fun ds O h1 vs H1 W1 s1 e1 r => ?_⟩
  match ds, h1, r with
  | [.int i, .int j], h1, r =>
    have := Reps.ofInts (ns := [i, j]) r
    subst this
    exact ⟨i, j, rfl, h1.1, hq _ O h1.2 _ H1 W1 s1 e1 (wk_fn (f := fun k => i + (k : Int)) walk_range)⟩
theorem di_rng3 (hm : X.mg "range" = none) (h : DA X P [a, b, c] wl) (hg : Gl X "range" := by rfl) (hs : starEach [a, b, c] X.env = (false, eval a X.env) :: starEach [b, c] X.env := by rfl) (hpl : (backTo pos (starEach [b, c] X.env)).any (·.1) = false := by rfl) :
    DI X P R tg (.Call (.Name "range" p) [a, b, c] [] pos) (wRng gRng3 wl) := by
  refine ⟨pi_imp (pi_range3 hg hm h.pa hs hpl) fun σ H K q => ?_⟩
  obtain ⟨G, W, Q0, R0, S, q, ex, hq⟩ := q
  refine ⟨G, W, _, R0, S, q, ex, fun ds O h1 vs H1 W1 s1 e1 r => ?_⟩
  match ds, h1, r with
  | [.int i, .int j, .int c], h1, r =>
    have := Reps.ofInts (ns := [i, j, c]) r
    subst this
    obtain ⟨n, hn, h1⟩ := h1
    exact ⟨i, j, c, n, rfl, hn, hq _ O h1 _ H1 W1 s1 e1 (wk_fn (f := fun k => i + (k : Int) * c) walk_rangeC)⟩
end

/-! ### targets -/
/-- all but the slots of is are as they were -/
def Ag (is : List Nat) (σ σ' : L2.St) : Prop := σ'.length = σ.length ∧ ∀ j, j ∉ is → σ'[j]? = σ[j]?
theorem Ag.refl {is : List Nat} {σ : L2.St} : Ag is σ σ := ⟨rfl, fun _ _ => rfl⟩
theorem Ag.trans {is is' : List Nat} {σ σ1 σ2 : L2.St} (a : Ag is σ σ1) (b : Ag is' σ1 σ2) : Ag (is ++ is') σ σ2 :=
  ⟨b.1.trans a.1, fun j h => by
    rw [List.mem_append, not_or] at h
    exact (b.2 j h.2).trans (a.2 j h.1)⟩
theorem wipe_get (σ : L2.St) (j : Nat) : ∀ vs : List Nat, (wipe σ vs)[j]? = if j ∈ vs then (if j < σ.length then some none else none) else σ[j]?
  | [] => by simp [wipe]
  | v :: vs => by
    unfold wipe
    by_cases e : v = j
    · subst e
      rw [List.getElem?_set, if_pos rfl, wipe_length, if_pos List.mem_cons_self]
    · rw [List.getElem?_set_ne e, wipe_get σ j vs]
      have : (j ∈ v :: vs) = (j ∈ vs) := by
        simp only [List.mem_cons, eq_iff_iff]
        exact ⟨fun h => h.elim (fun h => absurd h.symm e) _root_.id, .inr⟩
      simp only [this]
theorem Ag.wipe {is vs : List Nat} {σ σ' : L2.St} (a : Ag is (wipe σ vs) σ') (h : ∀ i ∈ is, i ∈ vs) : L2.wipe σ' vs = L2.wipe σ vs := by
  refine List.ext_getElem? fun j => ?_
  rw [wipe_get, wipe_get]
  have l : σ'.length = σ.length := a.1.trans (wipe_length σ vs)
  rw [l]
  by_cases q : j ∈ vs
  · rw [if_pos q, if_pos q]
  · rw [if_neg q, if_neg q, a.2 j fun z => q (h j z), wipe_get, if_neg q]
def wipeG (G : Gam) : List Nat → Gam
  | [] => G
  | v :: vs => (wipeG G vs).set v .no
theorem wipeG_length (G : Gam) : ∀ vs : List Nat, (wipeG G vs).length = G.length
  | [] => rfl
  | v :: vs => by unfold wipeG; rw [List.length_set, wipeG_length G vs]
theorem wipeG_get (G : Gam) (j : Nat) : ∀ vs : List Nat, (wipeG G vs)[j]? = if j ∈ vs then (if j < G.length then some .no else none) else G[j]?
  | [] => by simp [wipeG]
  | v :: vs => by
    unfold wipeG
    by_cases e : v = j
    · subst e
      rw [List.getElem?_set, if_pos rfl, wipeG_length, if_pos List.mem_cons_self]
    · rw [List.getElem?_set_ne e, wipeG_get G j vs]
      have : (j ∈ v :: vs) = (j ∈ vs) := by
        simp only [List.mem_cons, eq_iff_iff]
        exact ⟨fun h => h.elim (fun h => absurd h.symm e) _root_.id, .inr⟩
      simp only [this]
section
variable {P : Pm} {G : Gam} {W : Wd} {σ : L2.St} {H : Hp}
theorem Sta.wipe (S : Sta P G W σ H) (vs : List Nat) : Sta P (wipeG G vs) W (wipe σ vs) H := by
  have out : ∀ (j : Nat) s, (wipeG G vs)[j]? = some s → s ≠ .no → j ∉ vs ∧ G[j]? = some s := fun j s e n => by
    rw [wipeG_get] at e
    by_cases q : j ∈ vs
    · rw [if_pos q] at e
      split at e
      · cases e; exact absurd rfl n
      · cases e
    · rw [if_neg q] at e
      exact ⟨q, e⟩
  refine ⟨S.st, by rw [wipeG_length, wipe_length, S.len], fun i s e => ?_, fun i j m m' a e1 e2 h1 h2 => ?_⟩
  · by_cases n : s = .no
    · subst n; trivial
    · obtain ⟨q, e⟩ := out i s e n
      rw [wipe_get, if_neg q]
      exact S.sl i s e
  · obtain ⟨q1, e1⟩ := out i _ e1 (by intro z; cases z)
    obtain ⟨q2, e2⟩ := out j _ e2 (by intro z; cases z)
    rw [wipe_get, if_neg q1] at h1
    rw [wipe_get, if_neg q2] at h2
    exact S.ap i j m m' a e1 e2 h1 h2
theorem Sta.set (S : Sta P G W σ H) {i : Nat} {d : D} {v : V} (r : Rep P.T W.F H d v) : Sta P (G.set i (.val d)) W (σ.set i (some v)) H := by
  have out : ∀ (j : Nat) m, (G.set i (.val d))[j]? = some (.own m) → j ≠ i ∧ G[j]? = some (.own m) := fun j m e => by
    by_cases q : i = j
    · subst q
      rw [List.getElem?_set, if_pos rfl] at e
      split at e <;> cases e
    · rw [List.getElem?_set_ne q] at e
      exact ⟨Ne.symm q, e⟩
  refine ⟨S.st, by simp [S.len], fun j s e => ?_, fun j k m m' a e1 e2 h1 h2 => ?_⟩
  · by_cases q : i = j
    · subst q
      rw [List.getElem?_set, if_pos rfl] at e
      split at e
      · rename_i hl
        cases e
        rw [List.getElem?_set, if_pos rfl, if_pos (by rw [← S.len]; exact hl)]
        exact ⟨v, rfl, r⟩
      · cases e
    · rw [List.getElem?_set_ne q] at e
      rw [List.getElem?_set_ne q]
      exact S.sl j s e
  · obtain ⟨q1, e1⟩ := out j m e1
    obtain ⟨q2, e2⟩ := out k m' e2
    rw [List.getElem?_set_ne (Ne.symm q1)] at h1
    rw [List.getElem?_set_ne (Ne.symm q2)] at h2
    exact S.ap j k m m' a e1 e2 h1 h2
end
abbrev WG := D → Gam → (Gam → Prop) → Prop
def tG (P : Pm) (is : List Nat) (f : WG) : TG := fun v σ H Q => ∃ G W d Q0, Sta P G W σ H ∧ Rep P.T W.F H d v ∧ f d G Q0 ∧ ∀ G', Q0 G' → ∀ σ', Sta P G' W σ' H → Ag is σ σ' → Q σ' H
def tGs (P : Pm) (is : List Nat) (f : List D → Gam → (Gam → Prop) → Prop) : TGs := fun vs σ H Q => ∃ G W ds Q0, Sta P G W σ H ∧ Reps P.T W.F H ds vs ∧ f ds G Q0 ∧ ∀ G', Q0 G' → ∀ σ', Sta P G' W σ' H → Ag is σ σ' → Q σ' H
structure DG (X : Cx) (P : Pm) (e : Expr) (is : List Nat) (f : WG) : Prop where
  pg : PG X e (tG P is f)
structure DGs (X : Cx) (P : Pm) (es : List Expr) (is : List Nat) (f : List D → Gam → (Gam → Prop) → Prop) : Prop where
  pg : PGs X es (tGs P is f)
section
variable {X : Cx} {P : Pm} {e : Expr} {es : List Expr} {pos : Pos}
theorem pg_imp {t t' : TG} (h : PG X e t) (i : ∀ v σ H Q, t' v σ H Q → t v σ H Q) : PG X e t' := ⟨fun pins s σ H v u Q I r q => h.run pins s σ H v u Q I r (i v σ H Q q)⟩
theorem pgs_imp {t t' : TGs} (h : PGs X es t) (i : ∀ v σ H Q, t' v σ H Q → t v σ H Q) : PGs X es t' := ⟨fun pins s σ H v u Q I r q => h.run pins s σ H v u Q I r (i v σ H Q q)⟩
def fName (i : Nat) : WG := fun d G Q => Q (G.set i (.val d))
def fNil : List D → Gam → (Gam → Prop) → Prop
  | [], G, Q => Q G
  | _ :: _, _, _ => False
def fCons (f : WG) (r : List D → Gam → (Gam → Prop) → Prop) : List D → Gam → (Gam → Prop) → Prop
  | [], _, _ => False
  | d :: ds, G, Q => f d G fun G' => r ds G' Q
def fTup (n : Nat) (f : List D → Gam → (Gam → Prop) → Prop) : WG
  | .tup ds, G, Q => ds.length = n ∧ f ds G Q
  | _, _, _ => False
theorem dg_name (hN : X.N.Nodup) (i : Nat) {x : Str} (hi : X.N[i]? = some x := by rfl) (hx : Loc X.env.scope x := by first | exact Or.inl rfl | exact Or.inr rfl) (hf : X.fn x = true ∨ X.env.scope.names.lookup x = some .local := by first | exact .inl rfl | exact .inr rfl) :
    DG X P (.Name x pos) [i] (fName i) := by
  refine ⟨pg_imp (pg_name hN hi hx hf) fun v σ H Q ⟨G, W, d, Q0, S, r, f, hq⟩ => ?_⟩
  exact hq _ f _ (S.set r) ⟨List.length_set, fun j hj => List.getElem?_set_ne fun z => hj (by rw [z]; exact List.mem_cons_self)⟩
theorem dgs_nil : DGs X P [] [] fNil := by
  refine ⟨pgs_imp pgs_nil fun vs σ H Q ⟨G, W, ds, Q0, S, r, f, hq⟩ => ?_⟩
  cases ds with
  | nil => exact ⟨by simpa [Reps] using r, hq _ f _ S .refl⟩
  | cons d ds => exact f.elim
theorem dgs_cons {is js : List Nat} {f : WG} {g : List D → Gam → (Gam → Prop) → Prop} (h1 : DG X P e is f) (h2 : DGs X P es js g) (hs : (assignEach (e :: es) X.env).map (·.2) = assign e X.env :: (assignEach es X.env).map (·.2) := by rfl) : DGs X P (e :: es) (is ++ js) (fCons f g) := by
  refine ⟨pgs_imp (pgs_cons h1.pg h2.pg hs) fun vs σ H Q ⟨G, W, ds, Q0, S, r, q, hq⟩ => ?_⟩
  cases ds with
  | nil => exact q.elim
  | cons d ds =>
    simp only [Reps] at r
    obtain ⟨v, vr, e, r1, r2⟩ := r
    refine ⟨v, vr, e, G, W, d, _, S, r1, q, fun G1 q1 σ1 S1 a1 => ⟨G1, W, ds, _, S1, r2, q1, fun G2 q2 σ2 S2 a2 => hq _ q2 _ S2 (a1.trans a2)⟩⟩
theorem dg_tup {n k : Nat} {is : List Nat} {f : List D → Gam → (Gam → Prop) → Prop} (hK : P.T.K = X.K) (hc : X.calm = true) (h : DGs X P es is f) (hn : (assignEach es X.env).length = n := by rfl) (hst : (assignEach es X.env).findIdx? (·.1) = none := by rfl) : DG X P (.Tuple es k pos) is (fTup n f) := by
  refine ⟨pg_imp (pg_tup hc h.pg hn hst) fun v σ H Q ⟨G, W, d, Q0, S, r, q, hq⟩ => ?_⟩
  cases d <;> try exact q.elim
  simp only [Rep] at r
  obtain ⟨a, vs, rfl, ha, r⟩ := r
  exact ⟨a, vs, rfl, hK ▸ tupAt ha, r.len.trans q.1, G, W, _, Q0, S, r, q.2, hq⟩
end
end N

set_option Elab.async false
set_option linter.all false
set_option maxRecDepth 100000
set_option maxHeartbeats 0
/-! NF: comprehensions -/
namespace N
open PySem PySem.Spec PyProof.Rows L2
section
variable {X : Cx} {P : Pm}
structure DTs (X : Cx) (P : Pm) (ifs : List Expr) (w : WT) : Prop where
  pt : PTs X ifs (tT P w)
def wtYes : WT := fun _ Om Q _ => Q true Om
theorem dts_nil : DTs X P [] wtYes := ⟨⟨fun pins s σ H Q I ⟨G, W, Q0, R0, S, q, ex, hq⟩ => pts_nil.run pins s σ H Q I (hq true _ q H W (Step.refl S.ok) rfl)⟩⟩
theorem dts_one {c : Expr} {w : WT} (h : DT X P c w) : DTs X P [c] w := ⟨pts_one h.pt⟩
def noR : RX := fun _ _ => False
theorem exNo {P : Pm} {W : Wd} {H : Hp} {σ : L2.St} : exOk P W H σ noR := fun _ _ h => h.elim
/-- the turns of a comprehension -/
def wTurns (f : WG) (wt : WT) (we : WE) (G : Gam) : List D → List D → Om → (List D → Om → Prop) → Prop
  | [], acc, O, Q => Q acc O
  | d :: r, acc, O, Q => acc.length < 16777216 ∧ f d G fun G2 => wt G2 O (fun b O2 => br b (we G2 O2 (fun x O3 => wTurns f wt we G r (acc ++ [x]) O3 Q) noR) (wTurns f wt we G r acc O2 Q)) noR
def wComp (wi : WA) (f : WG) (wt : WT) (we : WE) (vs : List Nat) : WF := fun G Om Q R => wi G Om (fun items O1 => wTurns f wt we (wipeG G vs) items [] O1 fun ds O2 => Q (.lst ds) O2) R
theorem lc_imp {wi : WA} {f : WG} {wt : WT} {we : WE} {vs is : List Nat} (hsub : ∀ i ∈ is, i ∈ vs) :
    ∀ σ H Q, tF P (wComp wi f wt we vs) σ H Q → tLc (tI P (RS P.T) wi) (tG P.noW is f) (tT P.noW wt) (tE P.noW we) vs σ H Q := fun σ H Q q => by
  obtain ⟨G, W, Q0, R0, S, q, ex, hq⟩ := q
  refine ⟨G, W, _, R0, S, q, ex, fun items O h1 J H1 W1 s1 e1 wk D hD => ?_⟩
  subst e1
  obtain ⟨Gd, Y, wk, hy⟩ := wk
  have S1 := S.step s1
  have n0 : Step P.T W1 H1 (W1.add D) (upd H1 D (.lst [])) := Step.newOwn s1.ok hD
  have npm0 : ¬ W1.pm D := fun z => s1.ok.trk D (s1.ok.sub D z) hD
  refine lc_it wk (fun i Hc => ∃ Wt acc vacc, Step P.T W1 H1 Wt Hc ∧ Wt.F D ∧ ¬ Wt.pm D ∧ Hc D = some (.lst vacc) ∧ Reps P.T Wt.F Hc acc vacc ∧ wTurns f wt we (wipeG G vs) (items.drop i) acc Wt.Om fun ds O2 => Q0 (.lst ds) O2)
    ⟨W1.add D, [], [], n0, .inr rfl, npm0, upd_same, .nil, h1⟩ (fun i Hc _ ⟨Wt, acc, vacc, st, _⟩ => (hy Wt Hc st).1) (fun i x Hc H' hi ⟨Wt, acc, vacc, st, hF, hpm, hl, hr, ht⟩ hyx => ?_) (fun Hc ⟨Wt, acc, vacc, st, hF, hpm, hl, hr, ht⟩ => ?_)
  · obtain ⟨_, hy2⟩ := hy Wt Hc st
    have gi : items[i]? = some items[i] := List.getElem?_eq_getElem hi
    obtain ⟨nw, rx⟩ := hy2 i _ gi x H' hyx
    have dr : items.drop i = items[i] :: items.drop (i + 1) := List.drop_eq_getElem_cons hi
    rw [dr] at ht
    obtain ⟨hsz, ht⟩ := ht
    have st' : Step P.T W1 H1 Wt H' := st.trans (Step.ext st.ok nw)
    have S2 : Sta P.noW (wipeG G vs) Wt (wipe σ vs) H' := ((S1.step st').noW).wipe vs
    refine ⟨wipeG G vs, Wt, items[i], _, S2, rx, ht, fun G2 h2 σ2 S3 ag => ⟨ag.wipe hsub, ?_⟩⟩
    refine ⟨G2, Wt, _, noR, S3, h2, exNo, fun b O2 h3 H3 W3 s3 e3 => ?_⟩
    subst e3
    have hl3 : H3 D = some (.lst vacc) := s3.keep D _ (nw D _ hl) hpm
    have npm3 : ¬ W3.pm D := s3.pm (nw D _ hl) hpm
    have hr3 : Reps P.T W3.F H3 acc vacc := Reps.kp (s3.kp st'.ok) _ _ (Reps.kp ((Step.ext st.ok nw).kp st.ok) _ _ hr)
    have st3 := st'.trans s3
    cases b with
    | false => exact ⟨W3, acc, vacc, st3, s3.sub D hF, npm3, hl3, hr3, h3⟩
    | true =>
      rw [if_pos rfl]
      refine ⟨G2, W3, _, noR, S3.step s3, h3, exNo, fun d O4 h4 y H4 W4 s4 e4 ry => ?_⟩
      subst e4
      have hl4 : H4 D = some (.lst vacc) := s4.keep D _ hl3 npm3
      have npm4 : ¬ W4.pm D := s4.pm hl3 npm3
      have hF4 := s4.sub D (s3.sub D hF)
      have hr4 : Reps P.T W4.F H4 acc vacc := Reps.kp (s4.kp s3.ok) _ _ hr3
      refine ⟨vacc, hl4, Nat.lt_of_lt_of_le (by rw [hr4.len]; exact hsz) (by decide), W4, acc ++ [d], vacc ++ [y], (st3.trans s4).mutO hD hF4 npm4, hF4, npm4, upd_same, ?_, h4⟩
      exact Reps.kp (Kp.mut hF4) _ _ (hr4.app (.cons ry .nil))
  · rw [List.drop_length] at ht
    have nOm : Wt.Om D = none := by
      cases q : Wt.Om D with
      | none => rfl
      | some m => exact (hpm ⟨D, by rw [q]; simp, (st.ok.at_ D m q).2⟩).elim
    exact hq _ _ ht D Hc Wt (s1.trans st) rfl (s1.back hD) hF hpm nOm ⟨vacc, hl, hr⟩
variable {elt tg iter : Expr} {ifs : List Expr} {scope : Scope} {own : List (Str × Nat)} {pos : Pos} {wi : WA} {f : WG} {wt : WT} {we : WE} {is : List Nat}
theorem df_lc (hc : X.calm = true) (hN : X.N.Nodup) (own : List (Str × Nat)) (hi : DI X P (RS P.T) tg iter wi)
    (hg : ∀ (s : Shared) (H : Hp) (C : Addr) (cl : List (Str × Addr)) (fp : List Addr), DG (X.blk s H scope (compEnvC scope cl C X.env) fp) P.noW tg is f)
    (ht : ∀ (s : Shared) (H : Hp) (C : Addr) (cl : List (Str × Addr)) (fp : List Addr), DTs (X.blk s H scope (compEnvC scope cl C X.env) fp) P.noW ifs wt)
    (he : ∀ (s : Shared) (H : Hp) (C : Addr) (cl : List (Str × Addr)) (fp : List Addr), DE (X.blk s H scope (compEnvC scope cl C X.env) fp) P.noW elt we)
    (ok : blkC X.N X.env.scope scope own = true := by kernel_rfl) (hsub : ∀ i ∈ is, i ∈ own.map (·.2) := by decide) (hs : ∀ x, foldedSetIterable iter X.env x = pure x := by intro _; rfl) :
    DF X P (.ListComp elt [⟨tg, iter, ifs, 0⟩] scope pos) (wComp wi f wt we (own.map (·.2))) :=
  ⟨pe_imp (pe_lc hc hN hi.pi (blkOk_by ok) (fun s H C cl fp => (hg s H C cl fp).pg) (fun s H C cl fp => (ht s H C cl fp).pt) (fun s H C cl fp => (he s H C cl fp).pe) hs) (lc_imp hsub)⟩
end
end N

set_option Elab.async false
set_option linter.all false
set_option maxRecDepth 100000
set_option maxHeartbeats 0
/-! NG: statements, defs, calls -/
namespace N
open PySem PySem.Spec PyProof.Rows L2
structure Post where
  nx : Gam → Om → Prop
  rt : D → Om → Prop
  bk : Gam → Om → Prop
  ct : Gam → Om → Prop
  ex : Exn → Gam → Om → Prop
abbrev WS := Gam → Om → Post → Prop
structure PostOk (P : Pm) (W : Wd) (H : Hp) (Po : Post) (E : Ends) (rt : VK) (bk ct : L2.St → Hp → Prop) : Prop where
  nx : ∀ G' O, Po.nx G' O → ∀ σ' H' W', Kp W.F H W'.F H' → Sta P G' W' σ' H' → W'.Om = O → E.nx σ' H'
  rt : ∀ d O, Po.rt d O → ∀ v H' W', Step P.T P.W0 P.H0 W' H' → W'.Om = O → Rep P.T W'.F H' d v → rt v H'
  bk : ∀ G' O, Po.bk G' O → ∀ σ' H' W', Kp W.F H W'.F H' → Sta P G' W' σ' H' → W'.Om = O → bk σ' H'
  ct : ∀ G' O, Po.ct G' O → ∀ σ' H' W', Kp W.F H W'.F H' → Sta P G' W' σ' H' → W'.Om = O → ct σ' H'
  ex : ∀ x G' O, Po.ex x G' O → ∀ cls dd σ' H' W', Kp W.F H W'.F H' → Sta P G' W' σ' H' → W'.Om = O → XRep P.T W'.F H' x cls dd → P.W cls dd σ' H'
def tS (P : Pm) (w : WS) : TS := fun E σ H => ∃ G W Po, Sta P G W σ H ∧ w G W.Om Po ∧ PostOk P W H Po E E.rt E.bk E.ct
structure DS (X : Cx) (P : Pm) (s : Stmt) (w : WS) : Prop where
  ps : PS X s (tS P w)
structure DSs (X : Cx) (P : Pm) (s : List Stmt) (w : WS) : Prop where
  ps : PSs X s (tS P w)
theorem ps_imp {X : Cx} {s : Stmt} {t t' : TS} (h : PS X s t) (i : ∀ D σ H, t' D σ H → t D σ H) : PS X s t' := ⟨fun pins s σ H D I q => h.run pins s σ H D I (i D σ H q)⟩
theorem pss_imp {X : Cx} {s : List Stmt} {t t' : TS} (h : PSs X s t) (i : ∀ D σ H, t' D σ H → t D σ H) : PSs X s t' := ⟨fun pins s σ H D I q => h.run pins s σ H D I (i D σ H q)⟩
section
variable {P : Pm} {G : Gam} {W W' : Wd} {σ : L2.St} {H H' : Hp} {Po : Post} {E : Ends} {rt : VK} {bk ct : L2.St → Hp → Prop}
theorem PostOk.exE (h : PostOk P W H Po E rt bk ct) (S : Sta P G W σ H) : exOk P W H σ fun x O => Po.ex x G O :=
  fun x O q cls dd H' W' s e r => h.ex x G O q cls dd σ H' W' (s.kp S.ok) (S.step s) e r
/-- from a later state on -/
theorem PostOk.kp (h : PostOk P W H Po E rt bk ct) (k : Kp W.F H W'.F H') : PostOk P W' H' Po E rt bk ct :=
  ⟨fun G' O q σ' H2 W2 k2 => h.nx G' O q σ' H2 W2 (k.trans k2), h.rt, fun G' O q σ' H2 W2 k2 => h.bk G' O q σ' H2 W2 (k.trans k2), fun G' O q σ' H2 W2 k2 => h.ct G' O q σ' H2 W2 (k.trans k2), fun x G' O q cls dd σ' H2 W2 k2 => h.ex x G' O q cls dd σ' H2 W2 (k.trans k2)⟩
end
section
variable {X : Cx} {P : Pm} {s : Stmt} {rest : List Stmt} {e a b c : Expr} {w wa wb : WE} {u v : WS} {pos pos' : Pos}
def wSeq (u v : WS) : WS := fun G Om Po => u G Om { Po with nx := fun G' O => v G' O Po }
def wNext : WS := fun G Om Po => Po.nx G Om
theorem dss_nil : DSs X P [] wNext := ⟨pss_imp pss_nil fun D σ H ⟨G, W, Po, S, q, h⟩ => h.nx G _ q σ H W Kp.refl S rfl⟩
theorem dss_cons (h1 : DS X P s u) (h2 : DSs X P rest v) : DSs X P (s :: rest) (wSeq u v) := by
  refine ⟨pss_imp (pss_cons h1.ps h2.ps) fun D σ H ⟨G, W, Po, S, q, h⟩ => ?_⟩
  exact ⟨G, W, _, S, q, ⟨fun G' O q' σ' H' W' k S' e => ⟨G', W', Po, S', by rw [e]; exact q', h.kp k⟩, h.rt, h.bk, h.ct, h.ex⟩⟩
theorem dss_one (h1 : DS X P s u) : DSs X P [s] u := ⟨pss_one h1.ps⟩
theorem ds_pass : DS X P (.Pass pos) wNext := ⟨ps_imp ps_pass fun D σ H ⟨G, W, Po, S, q, h⟩ => h.nx G _ q σ H W Kp.refl S rfl⟩
def wBrk : WS := fun G Om Po => Po.bk G Om
def wCnt : WS := fun G Om Po => Po.ct G Om
theorem ds_brk : DS X P (.Break pos) wBrk := ⟨ps_imp ps_break fun D σ H ⟨G, W, Po, S, q, h⟩ => h.bk G _ q σ H W Kp.refl S rfl⟩
theorem ds_cnt : DS X P (.Continue pos) wCnt := ⟨ps_imp ps_continue fun D σ H ⟨G, W, Po, S, q, h⟩ => h.ct G _ q σ H W Kp.refl S rfl⟩
def wNev : WS := fun _ _ _ => False
theorem ds_never : DS X P s wNev := ⟨ps_imp ps_never fun D σ H ⟨G, W, Po, S, q, h⟩ => q⟩
theorem dss_never {st : List Stmt} : DSs X P st wNev := ⟨pss_imp pss_never fun D σ H ⟨G, W, Po, S, q, h⟩ => q⟩
/-- a value that is dropped -/
def wDrop (w : WE) : WS := fun G Om Po => w G Om (fun _ O => Po.nx G O) fun x O => Po.ex x G O
theorem ds_expr (h : DE X P e w) (hs : swapsWith e none pos.line X.env = pure false := by rfl) : DS X P (.Expr e pos) (wDrop w) :=
  ⟨ps_imp (ps_expr h.pe hs) fun D σ H ⟨G, W, Po, S, q, h⟩ => ⟨G, W, _, _, S, q, h.exE S, fun d O q' v H' W' s' e r => h.nx G O q' σ H' W' (s'.kp S.ok) (S.step s') e⟩⟩
def wRet (w : WE) : WS := fun G Om Po => w G Om Po.rt fun x O => Po.ex x G O
theorem ds_ret (h : DE X P e w) : DS X P (.Return (some e) pos) (wRet w) :=
  ⟨ps_imp (ps_ret h.pe) fun D σ H ⟨G, W, Po, S, q, h⟩ => ⟨G, W, _, _, S, q, h.exE S, fun d O q' v H' W' s' e r => h.rt d O q' v H' W' (S.st.trans s') e r⟩⟩
def wRetN : WS := fun _ Om Po => Po.rt .non Om
theorem ds_retN : DS X P (.Return none pos) wRetN := ⟨ps_imp ps_retN fun D σ H ⟨G, W, Po, S, q, h⟩ => h.rt _ _ q _ H W S.st rfl (by simp [Rep])⟩
/-- an own thing is handed back: it is own no more -/
def wRetO (i : Nat) : WS := fun G Om Po => match getSl G i with | .val d => Po.rt d Om | .own m => Po.rt m.see Om | .no => False
theorem ds_retO (i : Nat) {x : Str} {p2 : Pos} (ok0 : WOk P.T P.W0 P.H0) (hN : X.N[i]? = some x := by rfl) (hv : Vis X.env.scope x := by first | exact Or.inl rfl | exact Or.inr (Or.inl rfl) | exact Or.inr (Or.inr rfl)) (hd : (x == ("__debug__" : Str)) = false := by decide)
    (hcd : (x == ("__classdict__" : Str)) = false := by decide) : DS X P (.Return (some (.Name x p2)) pos) (wRetO i) := by
  refine ⟨ps_imp (ps_ret (pe_lock (pe_var hN hv hd hcd))) fun D σ H ⟨G, W, Po, S, q, h⟩ => ?_⟩
  unfold wRetO at q
  split at q
  · rename_i d e
    have g := getSl_get G i (by rw [e]; intro z; cases z)
    rw [e] at g
    obtain ⟨v, e1, r⟩ := S.sl i _ g
    exact ⟨v, e1, .inl (h.rt d _ q v H W S.st rfl r)⟩
  · rename_i m e
    have g := getSl_get G i (by rw [e]; intro z; cases z)
    rw [e] at g
    obtain ⟨a, e1, o⟩ := S.sl i _ g
    exact ⟨.ref a, e1, own_see S.st ok0 o.n o.f o.p o.r fun H' s2 _ r2 => h.rt _ _ q _ H' (W.del a) s2 rfl r2⟩
  · exact q.elim
/-- name = value -/
def wSet (i : Nat) (w : WE) : WS := fun G Om Po => w G Om (fun d O => Po.nx (G.set i (.val d)) O) fun x O => Po.ex x G O
theorem set_imp {i : Nat} : ∀ D σ H, tS P (wSet i w) D σ H → tAsg (tE P w) (gName i) D σ H := fun D σ H ⟨G, W, Po, S, q, h⟩ =>
  ⟨G, W, _, _, S, q, h.exE S, fun d O q' v H' W' s' e r => h.nx _ O q' _ H' W' (s'.kp S.ok) ((S.step s').set r) e⟩
theorem ds_set (hN : X.N.Nodup) (i : Nat) {x : Str} (h : DE X P e w) (hi : X.N[i]? = some x := by rfl) (hx : Loc X.env.scope x := by first | exact Or.inl rfl | exact Or.inr rfl) (hs : swapsWith e (some (.Name x pos')) pos.line X.env = pure false := by rfl) (hf : X.fn x = true ∨ X.env.scope.names.lookup x = some .local := by first | exact .inl rfl | exact .inr rfl) :
    DS X P (.Assign [.Name x pos'] e pos) (wSet i w) := ⟨ps_imp (ps_set hN hi hx h.pe hs hf) set_imp⟩
/-- name = a new thing that is to be changed later -/
def wSetO (i : Nat) (w : WF) : WS := fun G Om Po => w G Om (fun m O => Po.nx (G.set i (.own m)) O) fun x O => Po.ex x G O
theorem Sta.setO {G : Gam} {W W' : Wd} {σ : L2.St} {H H' : Hp} (S : Sta P G W σ H) {i : Nat} {p : Addr} {m : MO} (s : Step P.T W H W' H') (n1 : H p = none) (a1 : W'.F p) (a2 : ¬ W'.pm p) (a3 : W'.Om p = none) (r : MRep P.T W'.F (fun _ => False) H' p m) :
    Sta P (G.set i (.own m)) W' (σ.set i (some (.ref p))) H' := by
  have S1 := S.step s
  have h0 : P.H0 p = none := S.st.back n1
  have ne : ∀ (j : Nat) m' a, G[j]? = some (.own m') → σ[j]? = some (some (.ref a)) → a ≠ p := fun j m' a e1 e2 z => by
    obtain ⟨b, e3, o⟩ := S.sl j _ e1
    rw [e2] at e3
    cases e3
    obtain ⟨u, q⟩ := o.there S.ok
    rw [z, n1] at q; cases q
  refine ⟨S1.st, by simp [S.len], fun j x e => ?_, fun j k m1 m2 a e1 e2 h1 h2 => ?_⟩
  · by_cases q : i = j
    · subst q
      rw [List.getElem?_set, if_pos rfl] at e
      split at e
      · rename_i hl
        cases e
        rw [List.getElem?_set, if_pos rfl, if_pos (by rw [← S.len]; exact hl)]
        exact ⟨p, rfl, ⟨a1, a3, a2, h0, r⟩⟩
      · cases e
    · rw [List.getElem?_set_ne q] at e
      rw [List.getElem?_set_ne q]
      exact S1.sl j x e
  · by_cases q : i = j <;> by_cases q2 : i = k
    · rw [← q, ← q2]
    · subst q
      rw [List.getElem?_set_ne q2] at e2 h2
      rw [List.getElem?_set, if_pos rfl] at h1
      split at h1
      · cases h1
        exact absurd rfl (ne k m2 _ e2 h2)
      · cases h1
    · subst q2
      rw [List.getElem?_set_ne q] at e1 h1
      rw [List.getElem?_set, if_pos rfl] at h2
      split at h2
      · cases h2
        exact absurd rfl (ne j m1 _ e1 h1)
      · cases h2
    · rw [List.getElem?_set_ne q] at e1 h1
      rw [List.getElem?_set_ne q2] at e2 h2
      exact S.ap j k m1 m2 a e1 e2 h1 h2
theorem setO_imp {i : Nat} {w : WF} : ∀ D σ H, tS P (wSetO i w) D σ H → tAsg (tF P w) (gName i) D σ H := fun D σ H ⟨G, W, Po, S, q, h⟩ =>
  ⟨G, W, _, _, S, q, h.exE S, fun m O q' p H' W' s' e n1 a1 a2 a3 r => h.nx _ O q' _ H' W' (s'.kp S.ok) (S.setO s' n1 a1 a2 a3 r) e⟩
def ndQ : MO → Prop → Prop
  | .dct _ _, _ => False
  | _, p => p
theorem ndQ_ok : ∀ {m : MO} {p : Prop}, ndQ m p → noDct m ∧ p
  | .dct _ _, _, h => h.elim
  | .lst _, _, h => ⟨trivial, h⟩
  | .ins _ _ _, _, h => ⟨trivial, h⟩
  | .abs _, _, h => ⟨trivial, h⟩
theorem setF_imp {i : Nat} {w : WF} (hl : ∀ G Om Q R, w G Om Q R → w G Om (fun m O => ndQ m (Q m O)) R) : ∀ D σ H, tS P (wSet i (wFrz w)) D σ H → tAsg (tF P w) (gName i) D σ H := fun D σ H ⟨G, W, Po, S, q, h⟩ =>
  ⟨G, W, _, _, S, hl _ _ _ _ q, h.exE S, fun m O q' p H' W' s' e n1 a1 a2 a3 r => have q' := ndQ_ok q'; h.nx _ O q'.2 _ H' (W'.del p) ((s'.del S.ok n1 a2).kp S.ok) ((S.step (s'.del S.ok n1 a2)).set (rep_see (fun z => z.2 rfl) q'.1 (noFp (fp := fun _ => False) (Kp.less fun b h => h.1) rfl r))) e⟩
theorem ds_setO (hN : X.N.Nodup) (i : Nat) {w : WF} {x : Str} (h : DF X P e w) (hi : X.N[i]? = some x := by rfl) (hx : Loc X.env.scope x := by first | exact Or.inl rfl | exact Or.inr rfl) (hs : swapsWith e (some (.Name x pos')) pos.line X.env = pure false := by rfl) (hf : X.fn x = true ∨ X.env.scope.names.lookup x = some .local := by first | exact .inl rfl | exact .inr rfl) :
    DS X P (.Assign [.Name x pos'] e pos) (wSetO i w) := ⟨ps_imp (ps_set hN hi hx h.pe hs hf) setO_imp⟩
/-- name = [.. for ..] on one line -/
theorem ps_lc {elt tg iter : Expr} {ifs : List Expr} {scope : Scope} {spos lpos : Pos} {wi : WA} {f : WG} {wt : WT} {we : WE} {is : List Nat} {y : Str} {py : Pos} (hc : X.calm = true) (hN : X.N.Nodup) (i : Nat) (own : List (Str × Nat)) (hi : DI X P (RS P.T) tg iter wi)
    (hg : ∀ (s : Shared) (H : Hp) (C : Addr) (cl : List (Str × Addr)) (fp : List Addr), DG (X.blk s H scope (compEnvC scope cl C X.env) fp) P.noW tg is f)
    (ht : ∀ (s : Shared) (H : Hp) (C : Addr) (cl : List (Str × Addr)) (fp : List Addr), DTs (X.blk s H scope (compEnvC scope cl C X.env) fp) P.noW ifs wt)
    (he : ∀ (s : Shared) (H : Hp) (C : Addr) (cl : List (Str × Addr)) (fp : List Addr), DE (X.blk s H scope (compEnvC scope cl C X.env) fp) P.noW elt we)
    (hy : X.N[i]? = some y) (hyl : X.env.scope.names.lookup y = some .local) (hsw : swapsWith (.ListComp elt [⟨tg, iter, ifs, 0⟩] scope lpos) (some (.Name y py)) spos.line X.env = pure true)
    (ok : blkC X.N X.env.scope scope own = true) (hsub : ∀ i ∈ is, i ∈ own.map (·.2)) (hs : ∀ x, foldedSetIterable iter X.env x = pure x) {t : TS} (himp : ∀ D σ H, t D σ H → tAsg (tF P (wComp wi f wt we (own.map (·.2)))) (gName i) D σ H) :
    PS X (.Assign [.Name y py] (.ListComp elt [⟨tg, iter, ifs, 0⟩] scope lpos) spos) t :=
  ps_imp (ps_setLc hc hN hy hyl hsw hi.pi (blkOk_by ok) (fun s H C cl fp => (hg s H C cl fp).pg) (fun s H C cl fp => (ht s H C cl fp).pt) (fun s H C cl fp => (he s H C cl fp).pe) hs) fun D σ H q => lc_imp hsub σ H _ (himp D σ H q)
theorem ds_setLc {elt tg iter : Expr} {ifs : List Expr} {scope : Scope} {spos lpos : Pos} {wi : WA} {f : WG} {wt : WT} {we : WE} {is : List Nat} {y : Str} {py : Pos} (hc : X.calm = true) (hN : X.N.Nodup) (i : Nat) (own : List (Str × Nat)) (hi : DI X P (RS P.T) tg iter wi)
    (hg : ∀ (s : Shared) (H : Hp) (C : Addr) (cl : List (Str × Addr)) (fp : List Addr), DG (X.blk s H scope (compEnvC scope cl C X.env) fp) P.noW tg is f)
    (ht : ∀ (s : Shared) (H : Hp) (C : Addr) (cl : List (Str × Addr)) (fp : List Addr), DTs (X.blk s H scope (compEnvC scope cl C X.env) fp) P.noW ifs wt)
    (he : ∀ (s : Shared) (H : Hp) (C : Addr) (cl : List (Str × Addr)) (fp : List Addr), DE (X.blk s H scope (compEnvC scope cl C X.env) fp) P.noW elt we)
    (hy : X.N[i]? = some y := by rfl) (hyl : X.env.scope.names.lookup y = some .local := by rfl) (hsw : swapsWith (.ListComp elt [⟨tg, iter, ifs, 0⟩] scope lpos) (some (.Name y py)) spos.line X.env = pure true := by exact sw_true rfl rfl rfl (by decide +kernel))
    (ok : blkC X.N X.env.scope scope own = true := by kernel_rfl) (hsub : ∀ i ∈ is, i ∈ own.map (·.2) := by decide) (hs : ∀ x, foldedSetIterable iter X.env x = pure x := by intro _; rfl) :
    DS X P (.Assign [.Name y py] (.ListComp elt [⟨tg, iter, ifs, 0⟩] scope lpos) spos) (wSet i (wFrz (wComp wi f wt we (own.map (·.2))))) := ⟨ps_lc hc hN i own hi hg ht he hy hyl hsw ok hsub hs (setF_imp fun _ _ _ _ h => h)⟩
theorem ds_setLcO {elt tg iter : Expr} {ifs : List Expr} {scope : Scope} {spos lpos : Pos} {wi : WA} {f : WG} {wt : WT} {we : WE} {is : List Nat} {y : Str} {py : Pos} (hc : X.calm = true) (hN : X.N.Nodup) (i : Nat) (own : List (Str × Nat)) (hi : DI X P (RS P.T) tg iter wi)
    (hg : ∀ (s : Shared) (H : Hp) (C : Addr) (cl : List (Str × Addr)) (fp : List Addr), DG (X.blk s H scope (compEnvC scope cl C X.env) fp) P.noW tg is f)
    (ht : ∀ (s : Shared) (H : Hp) (C : Addr) (cl : List (Str × Addr)) (fp : List Addr), DTs (X.blk s H scope (compEnvC scope cl C X.env) fp) P.noW ifs wt)
    (he : ∀ (s : Shared) (H : Hp) (C : Addr) (cl : List (Str × Addr)) (fp : List Addr), DE (X.blk s H scope (compEnvC scope cl C X.env) fp) P.noW elt we)
    (hy : X.N[i]? = some y := by rfl) (hyl : X.env.scope.names.lookup y = some .local := by rfl) (hsw : swapsWith (.ListComp elt [⟨tg, iter, ifs, 0⟩] scope lpos) (some (.Name y py)) spos.line X.env = pure true := by exact sw_true rfl rfl rfl (by decide +kernel))
    (ok : blkC X.N X.env.scope scope own = true := by kernel_rfl) (hsub : ∀ i ∈ is, i ∈ own.map (·.2) := by decide) (hs : ∀ x, foldedSetIterable iter X.env x = pure x := by intro _; rfl) :
    DS X P (.Assign [.Name y py] (.ListComp elt [⟨tg, iter, ifs, 0⟩] scope lpos) spos) (wSetO i (wComp wi f wt we (own.map (·.2)))) := ⟨ps_lc hc hN i own hi hg ht he hy hyl hsw ok hsub hs setO_imp⟩
/-- target = value, the target a tuple of names -/
def wAsg (w : WE) (f : WG) : WS := fun G Om Po => w G Om (fun d O => f d G fun G' => Po.nx G' O) fun x O => Po.ex x G O
theorem ds_asg {tg : Expr} {is : List Nat} {f : WG} (he : DE X P e w) (hg : DG X P tg is f) (hs : swapsWithSole [tg] e pos.line X.env = pure false := by rfl) (hw : swappedStores [tg] e X.env = pure none := by rfl) (h1 : (assignEach [tg] X.env).map (·.2) = [assign tg X.env] := by rfl) : DS X P (.Assign [tg] e pos) (wAsg w f) :=
  ⟨ps_imp (ps_asg he.pe hg.pg hs hw h1) fun D σ H ⟨G, W, Po, S, q, h⟩ => ⟨G, W, _, _, S, q, h.exE S, fun d O q' v H' W' s' e r => ⟨G, W', d, _, S.step s', r, q', fun G' q2 σ' S' _ => h.nx _ O q2 σ' H' W' (s'.kp S.ok) S' e⟩⟩⟩
/-- a, b = x, y -/
def wPar (i j : Nat) (w : WA) : WS := fun G Om Po => w G Om (fun ds O => match ds with | [d, d'] => Po.nx ((G.set i (.val d)).set j (.val d')) O | _ => False) fun x O => Po.ex x G O
theorem ds_par (i j : Nat) {x y : Str} {px py pt : Pos} {kt k2 pt2} {wl : WA} (hc : X.calm = true) (hN : X.N.Nodup) (ha : DA X P [a, b] wl) (hi : X.N[i]? = some x := by rfl) (hj : X.N[j]? = some y := by rfl) (hij : i ≠ j := by decide)
    (hx : X.env.scope.names.lookup x = some .local := by rfl) (hy : X.env.scope.names.lookup y = some .local := by rfl)
    (hw : swappedStores [.Tuple [.Name x px, .Name y py] kt pt] (.Tuple [a, b] k2 pt2) X.env = pure (some [x, y]) := by rfl)
    (hs : swapsWithSole [.Tuple [.Name x px, .Name y py] kt pt] (.Tuple [a, b] k2 pt2) pos.line X.env = pure false := by rfl) : DS X P (.Assign [.Tuple [.Name x px, .Name y py] kt pt] (.Tuple [a, b] k2 pt2) pos) (wPar i j wl) := by
  refine ⟨ps_imp (ps_par hc hN hi hj hij hx hy ha.pa hw hs) fun D σ H ⟨G, W, Po, S, q, h⟩ => ⟨G, W, _, _, S, q, h.exE S, fun ds O q' vs H' W' s' e r => ?_⟩⟩
  match ds, q' with
  | [d, d'], q' =>
    simp only [Reps] at r
    obtain ⟨v, _, e1, r1, v', _, e2, r2, e3⟩ := r
    subst e3 e2 e1
    exact ⟨v, v', rfl, h.nx _ O q' _ H' W' (s'.kp S.ok) (((S.step s').set r1).set r2) e⟩
/-- name op= value -/
def wAug (i : Nat) (g : GD) (w : WE) : WS := fun G Om Po => match getSl G i with
  | .val d => w G Om (fun y O => g d y fun z => Po.nx (G.set i (.val z)) O) fun x O => Po.ex x G O
  | _ => False
theorem ds_aug (hN : X.N.Nodup) (i : Nat) {x : Str} {op : Operator} {g : GD} (ho : OpD X P.T (inplaceOp op) g) (h : DE X P e w) (hi : X.N[i]? = some x := by rfl) (hx : Loc X.env.scope x := by first | exact Or.inl rfl | exact Or.inr rfl) (hf : X.fn x = true ∨ X.env.scope.names.lookup x = some .local := by first | exact .inl rfl | exact .inr rfl) :
    DS X P (.AugAssign (.Name x pos') op e pos) (wAug i g w) := by
  refine ⟨ps_imp (ps_aug hN hi hx h.pe ho hf) fun D σ H ⟨G, W, Po, S, q, h⟩ => ?_⟩
  unfold wAug at q
  split at q
  · rename_i d ed
    have gg := getSl_get G i (by rw [ed]; intro z; cases z)
    rw [ed] at gg
    obtain ⟨v, e1, r⟩ := S.sl i _ gg
    refine ⟨v, e1, G, W, _, _, S, q, h.exE S, fun y O q' u H' W' s' e ry => ?_⟩
    refine ⟨W'.F, W'.pm, d, y, _, (r.t S.ok.sub).step s' S.ok, ry.t s'.ok.sub, s'.ok.trk, q', fun z hz v2 H2 xt rz => ?_⟩
    exact h.nx _ O hz _ H2 W' ((s'.trans (Step.ext s'.ok xt)).kp S.ok) ((S.step (s'.trans (Step.ext s'.ok xt))).set rz) e
  · exact q.elim
def wIfS (c : WT) (u v : WS) : WS := fun G Om Po => c G Om (fun b O => br b (u G O Po) (v G O Po)) fun x O => Po.ex x G O
theorem ds_if {sa sb : List Stmt} {wc : WT} (hc : DT X P c wc) (ha : DSs X P sa u) (hb : DSs X P sb v) : DS X P (.If c sa sb pos) (wIfS wc u v) := by
  refine ⟨ps_imp (ps_if hc.pt ha.ps hb.ps) fun D σ H ⟨G, W, Po, S, q, h⟩ => ⟨G, W, _, _, S, q, h.exE S, fun k O q' H' W' s' e => ?_⟩⟩
  subst e
  cases k with
  | true => exact ⟨G, W', Po, S.step s', q', h.kp (s'.kp S.ok)⟩
  | false => exact ⟨G, W', Po, S.step s', q', h.kp (s'.kp S.ok)⟩
/-- while, by its number of turns -/
def wWhN (c : WT) (u : WS) : Nat → WS
  | 0 => fun _ _ _ => False
  | n + 1 => fun G Om Po => c G Om (fun b O => br b (u G O { Po with nx := fun G' O' => wWhN c u n G' O' Po, ct := fun G' O' => wWhN c u n G' O' Po, bk := Po.nx }) (Po.nx G O)) fun x O => Po.ex x G O
def wWh (c : WT) (u : WS) : WS := fun G Om Po => ∃ n, wWhN c u n G Om Po
theorem ds_while {sb : List Stmt} {wc : WT} (hp : PassesOwn (model X.prog X.w) X.A X.env X.xe) (hc : DT X P c wc) (hb : DSs X P sb u) : DS X P (.While c sb [] pos) (wWh wc u) := by
  refine ⟨ps_imp (ps_while hp hc.pt hb.ps) fun D σ H ⟨G, W, Po, S, ⟨n, q⟩, h⟩ => ?_⟩
  refine ⟨fun m σ' H' => ∃ G' W', Kp W.F H W'.F H' ∧ Sta P G' W' σ' H' ∧ wWhN wc u m G' W'.Om Po, ⟨n, G, W, Kp.refl, S, q⟩, fun m σ' H' ⟨G', W', k, S', q'⟩ => ?_⟩
  cases m with
  | zero => exact q'.elim
  | succ m =>
    have h' := h.kp k
    refine ⟨G', W', _, _, S', q', h'.exE S', fun b O q2 H2 W2 s2 e2 => ?_⟩
    subst e2
    have k2 := s2.kp S'.ok
    cases b with
    | false => exact h'.nx _ _ q2 _ H2 W2 k2 (S'.step s2) rfl
    | true =>
      refine ⟨fun σ3 H3 => ∃ G3 W3, Kp W.F H W3.F H3 ∧ Sta P G3 W3 σ3 H3 ∧ wWhN wc u m G3 W3.Om Po, fun σ3 H3 h3 => ⟨m, Nat.lt_succ_self m, h3⟩, ?_⟩
      have h2 := h'.kp k2
      refine ⟨G', W2, _, S'.step s2, q2, ⟨fun G3 O3 q3 σ3 H3 W3 k3 S3 e3 => ⟨G3, W3, (k.trans k2).trans k3, S3, by rw [e3]; exact q3⟩, h2.rt, fun G3 O3 q3 σ3 H3 W3 k3 S3 e3 => h2.nx G3 O3 q3 σ3 H3 W3 k3 S3 e3, fun G3 O3 q3 σ3 H3 W3 k3 S3 e3 => ⟨G3, W3, (k.trans k2).trans k3, S3, by rw [e3]; exact q3⟩, h2.ex⟩⟩
/-- for, item by item -/
def wForL (f : WG) (u : WS) : List D → WS
  | [] => fun G Om Po => Po.nx G Om
  | d :: r => fun G Om Po => f d G fun G' => u G' Om { Po with nx := fun G2 O2 => wForL f u r G2 O2 Po, ct := fun G2 O2 => wForL f u r G2 O2 Po, bk := Po.nx }
def wFor (wi : WA) (f : WG) (u : WS) : WS := fun G Om Po => wi G Om (fun items O => wForL f u items G O Po) fun x O => Po.ex x G O
theorem ds_for {tg iter : Expr} {sb : List Stmt} {wi : WA} {f : WG} {is : List Nat} (hp : PassesOwn (model X.prog X.w) X.A X.env X.xe) (hc : X.calm = true) (hi : DI X P (RF P.T) tg iter wi) (hg : DG X P tg is f) (hb : DSs X P sb u)
    (hs : ∀ x, foldedSetIterable iter X.env x = pure x := by intro _; rfl) : DS X P (.For tg iter sb [] pos) (wFor wi f u) := by
  refine ⟨ps_imp (ps_for hp hc hi.pi hg.pg hb.ps hs) fun D σ H ⟨G, W, Po, S, q, h⟩ => ?_⟩
  refine ⟨G, W, _, _, S, q, h.exE S, fun items O q1 J H1 W1 s1 e1 wk => ?_⟩
  subst e1
  obtain ⟨Gd, Y, wk, hy⟩ := wk
  have h1 := h.kp (s1.kp S.ok)
  refine for_it wk (fun i σ' H' => ∃ G' W', Kp W1.F H1 W'.F H' ∧ Sta P G' W' σ' H' ∧ wForL f u (items.drop i) G' W'.Om Po) ⟨G, W1, Kp.refl, S.step s1, q1⟩ (fun i σ' H' _ ⟨G', W', k, S', _⟩ => (hy W' H' ⟨k, S'.ok⟩).1)
    (fun i x σ' Hc H' hi ⟨G', W', k, S', q'⟩ hyx => ?_) (fun σ' H' ⟨G', W', k, S', q'⟩ => ?_)
  · have gi : items[i]? = some items[i] := List.getElem?_eq_getElem hi
    obtain ⟨nw, rx⟩ := (hy W' Hc ⟨k, S'.ok⟩).2 i _ gi x H' hyx
    rw [List.drop_eq_getElem_cons hi] at q'
    have sx : Step P.T W' Hc W' H' := Step.ext S'.ok nw
    have kx := k.trans (sx.kp S'.ok)
    refine ⟨G', W', _, _, S'.step sx, rx, q', fun G2 q2 σ2 S2 _ => ?_⟩
    have h2 := h1.kp kx
    exact ⟨G2, W', _, S2, q2, ⟨fun G3 O3 q3 σ3 H3 W3 k3 S3 e3 => ⟨G3, W3, kx.trans k3, S3, by rw [e3]; exact q3⟩, h2.rt, fun G3 O3 q3 σ3 H3 W3 k3 S3 e3 => h2.nx G3 O3 q3 σ3 H3 W3 k3 S3 e3, fun G3 O3 q3 σ3 H3 W3 k3 S3 e3 => ⟨G3, W3, kx.trans k3, S3, by rw [e3]; exact q3⟩, h2.ex⟩⟩
  · rw [List.drop_length] at q'
    exact h1.nx _ _ q' σ' H' W' k S' rfl

/-! ### an own thing is changed -/
theorem Sta.mut {G : Gam} {W : Wd} {σ : L2.St} {H : Hp} (S : Sta P G W σ H) {i : Nat} {a : Addr} {m m' : MO} {o : HO} (g : G[i]? = some (.own m)) (e : σ[i]? = some (some (.ref a))) (r : MRep P.T W.F (fun _ => False) (upd H a o) a m') :
    Sta P (G.set i (.own m')) W σ (upd H a o) ∧ Kp W.F H W.F (upd H a o) := by
  obtain ⟨a', e', oa⟩ := S.sl i _ g
  rw [e] at e'
  cases e'
  have kp : Kp W.F H W.F (upd H a o) := Kp.mut oa.f
  refine ⟨⟨S.st.mutO oa.n oa.f oa.p (MRep.noCode r upd_same), by simp [S.len], fun j x ex => ?_, fun j k m1 m2 b e1 e2 h1 h2 => ?_⟩, kp⟩
  · by_cases q : i = j
    · subst q
      rw [List.getElem?_set, if_pos rfl] at ex
      split at ex
      · cases ex
        exact ⟨a, e, ⟨oa.f, oa.o, oa.p, oa.n, r⟩⟩
      · cases ex
    · rw [List.getElem?_set_ne q] at ex
      have z := S.sl j x ex
      cases x with
      | no => trivial
      | val d =>
        obtain ⟨v, e1, r1⟩ := z
        exact ⟨v, e1, Rep.kp kp d v r1⟩
      | own mm =>
        obtain ⟨b, e1, ob⟩ := z
        have hne : b ≠ a := fun z => q (S.ap i j m mm a g ex e (z ▸ e1))
        exact ⟨b, e1, ⟨ob.f, ob.o, ob.p, ob.n, noFp (fp := fun _ => False) kp (upd_ne hne) ob.r⟩⟩
  · have back : ∀ (j : Nat) mm, (G.set i (.own m'))[j]? = some (.own mm) → ∃ mm', G[j]? = some (.own mm') := fun j mm e => by
      by_cases q : i = j
      · subst q; exact ⟨m, g⟩
      · rw [List.getElem?_set_ne q] at e; exact ⟨mm, e⟩
    obtain ⟨_, e1⟩ := back j m1 e1
    obtain ⟨_, e2⟩ := back k m2 e2
    exact S.ap j k _ _ b e1 e2 h1 h2
/-- x.append(e) -/
def wApp (i : Nat) (w : WE) : WS := fun G Om Po => match getSl G i with
  | .own (.lst xs) => w G Om (fun d O => xs.length < 16777216 ∧ Po.nx (G.set i (.own (.lst (xs ++ [d])))) O) fun x O => Po.ex x G O
  | _ => False
theorem ds_app (hK : P.T.K = X.K) (i : Nat) {x : Str} {p1 p2 p3 p4 : Pos} (h : DE X P e w) (hN : X.N[i]? = some x := by rfl) (hv : Vis X.env.scope x := by first | exact Or.inl rfl | exact Or.inr (Or.inl rfl) | exact Or.inr (Or.inr rfl)) (hd : (x == ("__debug__" : Str)) = false := by decide)
    (hcd : (x == ("__classdict__" : Str)) = false := by decide)
    (hbase : attributeBase (.Name x p1) "append" X.env (eval (.Name x p1) X.env) = eval (.Name x p1) X.env := by rfl)
    (hfew : ((backTo p3 (starEach [e] X.env)).all (fun x => !x.1) && (backToKw p3 (keywordEach [] X.env)).all (fun x => x.1.isSome) && decide ([e].length + ([] : List Keyword).length + (if ([] : List Keyword).isEmpty then 0 else 1) < 30)) = true := by rfl)
    (hline : (p2.endLine == p3.line) = true := by rfl) (hs1 : starEach [e] X.env = (false, eval e X.env) :: starEach [] X.env := by rfl) (hplain : (backTo p3 (starEach [] X.env)).any (·.1) = false := by rfl)
    (hs : swapsWith (.Call (.Attribute (.Name x p1) "append" p2) [e] [] p3) none p4.line X.env = pure false := by rfl) :
    DS X P (.Expr (.Call (.Attribute (.Name x p1) "append" p2) [e] [] p3) p4) (wApp i w) := by
  refine ⟨ps_imp (ps_expr (pe_bm PySem.F.plainAttrs_list PySem.F.slot_list_append PySem.F.type_list_append mt_append (pe_var hN hv hd hcd) (pa_cons h.pe pa_nil hs1) hbase hfew hline hs1 hplain) hs) fun D σ H ⟨G, W, Po, S, q, h⟩ => ?_⟩
  unfold wApp at q
  split at q
  · rename_i xs ed
    have gg := getSl_get G i (by rw [ed]; intro z; cases z)
    rw [ed] at gg
    obtain ⟨a, e1, oa⟩ := S.sl i _ gg
    obtain ⟨vs, hl, rl⟩ := oa.r
    refine ⟨.ref a, e1, .inl ⟨rfl, vs, .of hl⟩, G, W, _, _, S, q, h.exE S, fun d O q' v H' W' s' e r => ?_⟩
    have S' := S.step s'
    obtain ⟨a2, e2, oa'⟩ := S'.sl i _ gg
    rw [e1] at e2; cases e2
    obtain ⟨ws, hl', rl'⟩ := oa'.r
    have hsz : ws.length < sizeLine := Nat.lt_of_lt_of_le (by rw [rl'.len]; exact q'.1) (by decide)
    obtain ⟨S2, k2⟩ := S'.mut (o := .lst (ws ++ [v])) (m' := .lst (xs ++ [d])) gg e1 ⟨ws ++ [v], upd_same, Reps.kp (Kp.mut oa'.f) _ _ (rl'.app (.cons r .nil))⟩
    exact ⟨a, ws, v, rfl, rfl, hl', hsz, h.nx _ O q'.2 _ _ W' ((s'.kp S.ok).trans k2) S2 e⟩
  · exact q.elim
end
end N

set_option Elab.async false
set_option linter.all false
set_option maxRecDepth 100000
set_option maxHeartbeats 0
/-! NH: defs and their calls -/
namespace N
open PySem PySem.Spec PyProof.Rows L2
abbrev DSp := List D → Om → (D → Om → Prop) → RX → Prop
/-- the promise of a def, told over data -/
def toSp (T : Th) (n : Nat) (S : DSp) : Sp := fun vs H Q E => ∃ ds W Q0 R0, ds.length = n ∧ Reps T W.F H ds vs ∧ WOk T W H ∧ S ds W.Om Q0 R0 ∧
  (∀ d O, Q0 d O → ∀ v H' W', Step T W H W' H' → W'.Om = O → Rep T W'.F H' d v → Q v H') ∧ (∀ x O, R0 x O → ∀ cls dd H' W', Step T W H W' H' → W'.Om = O → XRep T W'.F H' x cls dd → E cls dd H')
theorem toSp_imp {T : Th} {n : Nat} {S S' : DSp} (h : ∀ ds Om Q R, ds.length = n → S' ds Om Q R → S ds Om Q R) : ∀ vs H Q E, toSp T n S' vs H Q E → toSp T n S vs H Q E :=
  fun _ _ _ _ ⟨ds, W, Q0, R0, l, r, ok, s, a, b⟩ => ⟨ds, W, Q0, R0, l, r, ok, h _ _ _ _ l s, a, b⟩
def startG (n : Nat) (ds : List D) : Gam := ds.map .val ++ List.replicate (n - ds.length) .no
def wFn (n : Nat) (w : WS) : DSp := fun ds Om Q R => w (startG n ds) Om ⟨fun _ O => Q .non O, Q, fun _ _ => False, fun _ _ => False, fun x _ O => R x O⟩
abbrev pmOf (T : Th) (E : XK) (W : Wd) (H : Hp) : Pm := ⟨T, fun cls dd _ H => E cls dd H, W, H⟩
section
variable {PR : Program} {w : World} {K : PySem.W.Frag} {mg : Str → Option Value} {base : Heap}
theorem startG_len {N : Nat} {ds : List D} (h : ds.length ≤ N) : (startG N ds).length = N := by simp [startG]; omega
theorem sta_start {T : Th} {E : XK} {W : Wd} {H : Hp} {N : List Str} {ds : List D} {vs : List V} (ok : WOk T W H) (r : Reps T W.F H ds vs) (hl : ds.length ≤ N.length) : Sta (pmOf T E W H) (startG N.length ds) W (L2.start N vs) H := by
  have lv := r.len
  have noown : ∀ (i : Nat) m, (startG N.length ds)[i]? ≠ some (.own m) := fun i m e => by
    unfold startG at e
    by_cases hi : i < ds.length
    · rw [List.getElem?_append_left (by simpa using hi), List.getElem?_map] at e
      cases q : ds[i]? with
      | none => rw [q] at e; cases e
      | some d => rw [q] at e; cases e
    · rw [List.getElem?_append_right (by simpa using hi), List.getElem?_replicate] at e
      split at e <;> cases e
  refine ⟨Step.refl ok, ?_, fun i s e => ?_, fun i j m m' a e1 _ _ _ => absurd e1 (noown i m)⟩
  · rw [startG_len hl]
    unfold L2.start
    simp [lv]
    omega
  · cases s with
    | no => trivial
    | own m => exact absurd e (noown i m)
    | val d =>
      unfold startG at e
      by_cases hi : i < ds.length
      · rw [List.getElem?_append_left (by simpa using hi), List.getElem?_map] at e
        cases q : ds[i]? with
        | none => rw [q] at e; cases e
        | some d' =>
          rw [q] at e
          cases e
          obtain ⟨v, ev, rv⟩ := r.get q
          refine ⟨v, ?_, rv⟩
          unfold L2.start
          rw [List.getElem?_append_left (by rw [List.length_map, lv]; exact hi), List.getElem?_map, ev]
          rfl
      · rw [List.getElem?_append_right (by simpa using hi), List.getElem?_replicate] at e
        split at e <;> cases e
theorem toSp_len {T : Th} {n : Nat} {S : DSp} : ∀ vs H Q E, toSp T n S vs H Q E → vs.length = n := fun vs H Q E ⟨ds, W, Q0, R0, l, r, _⟩ => r.len.trans l
/-- THE RULE: a def by its body -/
theorem fn_ok {x qual : Str} {st : Stmt} {f : Addr} {fd : FuncData} {N ps : List Str} {k : Nat} (F : Fun K x qual st f fd) (S : FnScope N ps (defScope st)) (T : Th) (ws : WS)
    (body : ∀ (cdv : Value) (A : Around) (outer : List Env) (s : Shared) (H : Hp) (E : XK) (W : Wd), WOk T W H → Room k (A.deeper (envOfC qual (defScope st) s.heap.objs.size f cdv)) →
      Takes (cxOf (L2.CX PR w) PR w K mg base N qual (defScope st) f cdv A outer s H E) (pmOf T E W H).W →
      PassesOwn (model PR w) (A.deeper (envOfC qual (defScope st) s.heap.objs.size f cdv)) (envOfC qual (defScope st) s.heap.objs.size f cdv) (cxOf (L2.CX PR w) PR w K mg base N qual (defScope st) f cdv A outer s H E).xe →
      DSs (cxOf (L2.CX PR w) PR w K mg base N qual (defScope st) f cdv A outer s H E) (pmOf T E W H) (defBody st) ws) : FnOk PR w K mg base (L2.CX PR w) (k + 1) f fd ps (toSp T ps.length (wFn N.length ws)) := by
  have hpl : ps.length ≤ N.length := by have := congrArg List.length S.pre; rw [List.length_take] at this; omega
  refine F.okX S toSp_len fun cdv A outer s H vs Q E hr ⟨ds, W, Q0, R0, l, r, ok, hw, hq, he⟩ => ?_
  refine ⟨_, (body cdv A outer s H E W ok hr (takes_of rfl rfl rfl rfl) (passes_of (X := cxOf (L2.CX PR w) PR w K mg base N qual (defScope st) f cdv A outer s H E) rfl)).ps, startG N.length ds, W, _, sta_start ok r (by rw [l]; exact hpl), hw, ⟨fun G' O q σ' H' W' k S' e => ?_, fun d O q v H' W' s e r => ?_, fun _ _ z => z.elim, fun _ _ z => z.elim, fun x G' O q cls dd σ' H' W' _ S' e r => ?_⟩⟩
  · exact hq _ O q _ H' W' S'.st e (by simp [Rep])
  · exact hq d O q v H' W' s e r
  · exact he x O q cls dd H' W' S'.st e r
/-- .. of a def with defaults -/
theorem fn_okD {x qual : Str} {st : Stmt} {dvs : List V} {kws : List (Str × V)} {f : Addr} {fd : FuncData} {N ps : List Str} {k : Nat} (F : FunD K x qual (defArgs st) (defBody st) (defScope st) dvs kws f fd) (S : FnScope N ps (defScope st)) (T : Th) (ws : WS)
    (body : ∀ (cdv : Value) (A : Around) (outer : List Env) (s : Shared) (H : Hp) (E : XK) (W : Wd), WOk T W H → Room k (A.deeper (envOfC qual (defScope st) s.heap.objs.size f cdv)) →
      Takes (cxOf (L2.CX PR w) PR w K mg base N qual (defScope st) f cdv A outer s H E) (pmOf T E W H).W →
      PassesOwn (model PR w) (A.deeper (envOfC qual (defScope st) s.heap.objs.size f cdv)) (envOfC qual (defScope st) s.heap.objs.size f cdv) (cxOf (L2.CX PR w) PR w K mg base N qual (defScope st) f cdv A outer s H E).xe →
      DSs (cxOf (L2.CX PR w) PR w K mg base N qual (defScope st) f cdv A outer s H E) (pmOf T E W H) (defBody st) ws) : FnOk PR w K mg base (L2.CX PR w) (k + 1) f fd ps (toSp T ps.length (wFn N.length ws)) := by
  have hpl : ps.length ≤ N.length := by have := congrArg List.length S.pre; rw [List.length_take] at this; omega
  refine F.ok S toSp_len fun cdv A outer s H vs Q E hr ⟨ds, W, Q0, R0, l, r, ok, hw, hq, he⟩ => ?_
  refine ⟨_, (body cdv A outer s H E W ok hr (takes_of rfl rfl rfl rfl) (passes_of (X := cxOf (L2.CX PR w) PR w K mg base N qual (defScope st) f cdv A outer s H E) rfl)).ps, startG N.length ds, W, _, sta_start ok r (by rw [l]; exact hpl), hw, ⟨fun G' O q σ' H' W' k S' e => ?_, fun d O q v H' W' s e r => ?_, fun _ _ z => z.elim, fun _ _ z => z.elim, fun x G' O q cls dd σ' H' W' _ S' e r => ?_⟩⟩
  · exact hq _ O q _ H' W' S'.st e (by simp [Rep])
  · exact hq d O q v H' W' s e r
  · exact he x O q cls dd H' W' S'.st e r
end
section
variable {X : Cx} {P : Pm} {k : Nat} {f : Addr} {fd : FuncData} {ps : List Str} {x : Str} {p pos : Pos} {e : Expr} {es : List Expr} {wl wk : WA} {S : DSp} {n : Nat}
/-- a call's end -/
theorem sp_of {T : Th} {W0 W : Wd} {H0 H : Hp} {σ : L2.St} {ds : List D} {vs : List V} {Q0 : D → Om → Prop} {R0 : RX} {Q : VK} (hT : P.T = T) (ok0 : WOk T W0 H0) (s : Step T W0 H0 W H) (l : ds.length = n) (r : Reps T W.F H ds vs) (h : S ds W.Om Q0 R0) (ex : exOk P W0 H0 σ R0)
    (hq : ∀ d O, Q0 d O → ∀ v H' W', Step T W0 H0 W' H' → W'.Om = O → Rep T W'.F H' d v → Q v H') : toSp T n S vs H Q (fun cls dd H' => P.W cls dd σ H') := by
  subst hT
  exact ⟨ds, W, Q0, R0, l, r, s.ok, h, fun d O q v H' W' s' e r' => hq d O q v H' W' (s.trans s') e r', fun x O q cls dd H' W' s' e r' => ex x O q cls dd H' W' (s.trans s') e r'⟩
/-- f(e, ..); dds: the defaults that fill up -/
def wCallU (n : Nat) (S : DSp) (dds : List D) (wa : WA) : WE := fun G Om Q R => wa G Om (fun ds O => (ds ++ dds).length = n ∧ S (ds ++ dds) O Q R) R
theorem de_callD (dds : List D) {dvs : List V} {dvl : List Value} (F : FnOk X.prog X.w X.K X.mg X.base (L2.CX X.prog X.w) k f fd ps (toSp P.T n S)) (hr : Room k X.A) (hm : X.mg x = some (.ref f)) (hk : PySem.W.keepIn X.K (.ref f) = true) (hb : Binds X.K fd ps dvl) (hd : Vals dvs dvl) (hdd : ∀ T F H, Reps T F H dds dvs) (tk : Takes X P.W) (ha : DA X P (e :: es) wl)
    (hg : Gl X x := by rfl) (hdb : (x == ("__debug__" : Str)) = false := by decide) (he : starEach (e :: es) X.env = (false, eval e X.env) :: starEach es X.env := by rfl) (hpl : (backTo pos (starEach es X.env)).any (·.1) = false := by rfl) :
    DE X P (.Call (.Name x p) (e :: es) [] pos) (wCallU n S dds wl) := by
  refine ⟨pe_imp (pe_callSD F hr hg hm hk hb hd (fun σ => passAt tk σ) ha.pa hdb he hpl) fun σ H Q ⟨G, W, Q0, R0, S0, q, ex, hq⟩ => ?_⟩
  refine ⟨G, W, _, R0, S0, q, ex, fun ds O h1 vs H1 W1 s1 e1 r => ?_⟩
  subst e1
  exact sp_of rfl S0.ok s1 h1.1 (r.app (hdd _ _ _)) h1.2 ex hq
theorem de_call (F : FnOk X.prog X.w X.K X.mg X.base (L2.CX X.prog X.w) k f fd ps (toSp P.T n S)) (hr : Room k X.A) (hm : X.mg x = some (.ref f)) (hk : PySem.W.keepIn X.K (.ref f) = true) (hb : Binds X.K fd ps []) (tk : Takes X P.W) (ha : DA X P (e :: es) wl)
    (hg : Gl X x := by rfl) (hdb : (x == ("__debug__" : Str)) = false := by decide) (he : starEach (e :: es) X.env = (false, eval e X.env) :: starEach es X.env := by rfl) (hpl : (backTo pos (starEach es X.env)).any (·.1) = false := by rfl) :
    DE X P (.Call (.Name x p) (e :: es) [] pos) (wCallU n S [] wl) := de_callD [] F hr hm hk hb .nil (fun _ _ _ => .nil) tk ha hg hdb he hpl
/-- keywords -/
structure DK (X : Cx) (P : Pm) (kws : List Keyword) (w : WA) : Prop where
  pk : PK X kws (tA P w)
theorem pk_imp {kws : List Keyword} {t t' : TA} (h : PK X kws t) (i : ∀ σ H Q, t' σ H Q → t σ H Q) : PK X kws t' := ⟨fun pos pins s σ H Q I q => h.run pos pins s σ H Q I (i σ H Q q)⟩
theorem dk_nil : DK X P [] waNil := ⟨pk_imp pk_nil fun σ H Q ⟨G, W, Q0, R0, S, q, ex, hq⟩ => hq [] _ q [] H W (Step.refl S.ok) rfl .nil⟩
theorem dk_cons {kws : List Keyword} {w : WE} {wr : WA} {nm : Option Str} {kpos : Pos} (h : DE X P e w) (r : DK X P kws wr) : DK X P (⟨nm, e, kpos⟩ :: kws) (waCons w wr) := by
  refine ⟨pk_imp (pk_cons h.pe r.pk) fun σ H Q q => ?_⟩
  obtain ⟨G, W, Q0, R0, S, q, ex, hq⟩ := q
  refine ⟨G, W, _, R0, S, q, ex, fun d O h1 v H1 W1 s1 e1 r1 => ?_⟩
  subst e1
  refine ⟨G, W1, _, R0, S.step s1, h1, ex.step s1, fun ds O' h' vs H' W' s' e' r' => ?_⟩
  exact hq _ O' h' _ H' W' (s1.trans s') e' (.cons (Rep.kp (s'.kp s1.ok) _ _ r1) r')
/-- f(e, .., k = v, ..): the positional ones, then the keywords as they are written -/
structure KB (K : PySem.W.Frag) (fd : FuncData) (ps : List Str) (n : Nat) (ks : List Str) : Prop where
  to : ∀ (s : Shared) (us ws : List Value), K.In s.heap → us.length = n → ws.length = ks.length → BindsTo s fd ⟨us, ks.zip ws⟩ (ps.zip (us ++ ws))
theorem KB.of {K : PySem.W.Frag} {n : Nat} {ks : List Str} (h : ∀ us ws : List Value, us.length = n → ws.length = ks.length → bindArgs fd ⟨us, ks.zip ws⟩ = pure (ps.zip (us ++ ws))) : KB K fd ps n ks := ⟨fun s us ws _ h1 h2 => .of_eq (h us ws h1 h2)⟩
def wCallK (m n : Nat) (S : DSp) (wa wk : WA) : WE := fun G Om Q R => wa G Om (fun ds O => ds.length = m ∧ wk G O (fun es O' => (ds ++ es).length = n ∧ S (ds ++ es) O' Q R) R) R
theorem de_callK {kws : List Keyword} {ks : List Str} {m : Nat} (F : FnOk X.prog X.w X.K X.mg X.base (L2.CX X.prog X.w) k f fd ps (toSp P.T n S)) (hr : Room k X.A) (hm : X.mg x = some (.ref f)) (hk : PySem.W.keepIn X.K (.ref f) = true) (hb : KB X.K fd ps m ks) (tk : Takes X P.W) (ha : DA X P (e :: es) wl) (hkw : DK X P kws wk)
    (hnk : n = m + ks.length := by rfl) (hg : Gl X x := by rfl) (hall : (backToKw pos (keywordEach kws X.env)).all (·.1.isSome) = true := by rfl) (hks : (backToKw pos (keywordEach kws X.env)).filterMap (·.1) = ks := by rfl)
    (hdb : (x == ("__debug__" : Str)) = false := by decide) (he : starEach (e :: es) X.env = (false, eval e X.env) :: starEach es X.env := by rfl)
    (hpl : ((backTo pos (starEach (e :: es) X.env)).any (·.1) || (backToKw pos (keywordEach kws X.env)).any (·.1.isNone)) = false := by rfl) :
    DE X P (.Call (.Name x p) (e :: es) kws pos) (wCallK m n S wl wk) := by
  refine ⟨⟨fun pins s σ H Q I q => ?_⟩⟩
  obtain ⟨G, W, Q0, R0, S0, q, ex, hq⟩ := q
  refine wpAny_Call_Name_kw (ld_glob I hg hm ?_ hdb)
  refine PySem.W.callWith_KW (h₀ := X.base) I.ok.mod.kin hk hall (thn (ha.pa.run pos pins s σ H (fun vs H1 => ∃ ds W1, Step P.T W H W1 H1 ∧ Reps P.T W1.F H1 ds vs ∧ ds.length = m ∧ wk G W1.Om (fun es O' => (ds ++ es).length = n ∧ S (ds ++ es) O' Q0 R0) R0) I
    ⟨G, W, _, R0, S0, q, ex, fun ds O h1 vs H1 W1 s1 e1 r => ⟨ds, W1, s1, r, h1.1, by rw [e1]; exact h1.2⟩⟩) fun us s1 ⟨vs, H1, I1, r, ds, W1, st1, r1, l1, q1⟩ => ?_) hpl he
  refine thn (hkw.pk.run pos pins s1 σ H1 (fun zs H2 => ∃ es W2, Step P.T W H W2 H2 ∧ Reps P.T W2.F H2 (ds ++ es) (vs ++ zs) ∧ (ds ++ es).length = n ∧ S (ds ++ es) W2.Om Q0 R0) I1
    ⟨G, W1, _, R0, S0.step st1, q1, ex.step st1, fun es O h2 zs H2 W2 st2 e2 r2 => ⟨es, W2, st1.trans st2, (Reps.kp (st2.kp st1.ok) _ _ r1).app r2, h2.1, by rw [e2]; exact h2.2⟩⟩) fun ws s2 ⟨zs, H2, I2, rz, es, W2, st2, r2, l2, q2⟩ => ⟨I2.kIn, ?_⟩
  rw [hks]
  have lu : us.length = m := by rw [← r.length, r1.len, l1]
  have lw : ws.length = ks.length := by
    have h1 : (vs ++ zs).length = n := r2.len.trans l2
    rw [List.length_append, r.length, rz.length, lu] at h1
    omega
  have sp := sp_of (Q := Q) rfl S0.ok st2 l2 r2 q2 ex hq
  refine wpAny_call (codeAny_mono (F.run X.A X.stack s2 H2 ⟨us, ks.zip ws⟩ (us ++ ws) (vs ++ zs) Q _ hr I2.env0 (hb.to s2 us ws I2.kIn lu lw) (r.append rz) sp) fun rr s' hr' => ?_)
  cases rr with
  | error er => exact passAt tk σ pins H2 s2 er s' I2 hr'
  | ok fl =>
    cases fl with
    | ret u => exact I2.after hr'
    | next => exact False.elim hr'
    | brk => exact False.elim hr'
    | cont => exact False.elim hr'
end
end N

set_option Elab.async false
set_option linter.all false
set_option maxRecDepth 100000
set_option maxHeartbeats 0
/-! NI: callables in short; small further rules -/
namespace N
open PySem PySem.Spec PyProof.Rows L2
/-- the module's name x is a def of n parameters that keeps S -/
structure Cl (PR : Program) (w : World) (K : PySem.W.Frag) (mg : Str → Option Value) (base : Heap) (T : Th) (k : Nat) (x : Str) (n : Nat) (S : DSp) : Prop where
  ex : ∃ f fd ps, FnOk PR w K mg base (L2.CX PR w) k f fd ps (toSp T n S) ∧ mg x = some (.ref f) ∧ PySem.W.keepIn K (.ref f) = true ∧ Binds K fd ps []
structure ClK (PR : Program) (w : World) (K : PySem.W.Frag) (mg : Str → Option Value) (base : Heap) (T : Th) (k : Nat) (x : Str) (n m : Nat) (ks : List Str) (S : DSp) : Prop where
  ex : ∃ f fd ps, FnOk PR w K mg base (L2.CX PR w) k f fd ps (toSp T n S) ∧ mg x = some (.ref f) ∧ PySem.W.keepIn K (.ref f) = true ∧ KB K fd ps m ks ∧ n = m + ks.length
theorem Cl.imp {PR : Program} {w : World} {K : PySem.W.Frag} {mg : Str → Option Value} {base : Heap} {T : Th} {k : Nat} {x : Str} {n : Nat} {S S' : DSp} (c : Cl PR w K mg base T k x n S) (h : ∀ ds Om Q R, ds.length = n → S' ds Om Q R → S ds Om Q R) : Cl PR w K mg base T k x n S' :=
  let ⟨f, fd, ps, F, a, b, d⟩ := c.ex
  ⟨f, fd, ps, F.imp (toSp_imp h), a, b, d⟩
theorem Cl.mono {PR : Program} {w : World} {K : PySem.W.Frag} {mg : Str → Option Value} {base : Heap} {T : Th} {j k : Nat} {x : Str} {n : Nat} {S : DSp} (c : Cl PR w K mg base T j x n S) (h : j ≤ k) : Cl PR w K mg base T k x n S :=
  let ⟨f, fd, ps, F, a, b, d⟩ := c.ex
  ⟨f, fd, ps, F.mono h, a, b, d⟩
theorem ClK.imp {PR : Program} {w : World} {K : PySem.W.Frag} {mg : Str → Option Value} {base : Heap} {T : Th} {k : Nat} {x : Str} {n m : Nat} {ks : List Str} {S S' : DSp} (c : ClK PR w K mg base T k x n m ks S) (h : ∀ ds Om Q R, ds.length = n → S' ds Om Q R → S ds Om Q R) : ClK PR w K mg base T k x n m ks S' :=
  let ⟨f, fd, ps, F, a, b, d⟩ := c.ex
  ⟨f, fd, ps, F.imp (toSp_imp h), a, b, d⟩
section
variable {X : Cx} {P : Pm} {k : Nat} {x : Str} {p pos : Pos} {e a : Expr} {es : List Expr} {wl wk : WA} {w : WE} {S : DSp} {n m : Nat} {ks : List Str} {j}
theorem de_cl (c : Cl X.prog X.w X.K X.mg X.base P.T k x n S) (hr : Room k X.A) (tk : Takes X P.W) (ha : DA X P (e :: es) wl)
    (hg : Gl X x := by rfl) (hdb : (x == ("__debug__" : Str)) = false := by decide) (he : starEach (e :: es) X.env = (false, eval e X.env) :: starEach es X.env := by rfl) (hpl : (backTo pos (starEach es X.env)).any (·.1) = false := by rfl) :
    DE X P (.Call (.Name x p) (e :: es) [] pos) (wCallU n S [] wl) :=
  let ⟨_, _, _, F, hm, hk, hb⟩ := c.ex
  de_call F hr hm hk hb tk ha hg hdb he hpl
theorem de_clK {kws : List Keyword} (c : ClK X.prog X.w X.K X.mg X.base P.T k x n m ks S) (hr : Room k X.A) (tk : Takes X P.W) (ha : DA X P (e :: es) wl) (hkw : DK X P kws wk)
    (hg : Gl X x := by rfl) (hall : (backToKw pos (keywordEach kws X.env)).all (·.1.isSome) = true := by rfl) (hks : (backToKw pos (keywordEach kws X.env)).filterMap (·.1) = ks := by rfl)
    (hdb : (x == ("__debug__" : Str)) = false := by decide) (he : starEach (e :: es) X.env = (false, eval e X.env) :: starEach es X.env := by rfl)
    (hpl : ((backTo pos (starEach (e :: es) X.env)).any (·.1) || (backToKw pos (keywordEach kws X.env)).any (·.1.isNone)) = false := by rfl) : DE X P (.Call (.Name x p) (e :: es) kws pos) (wCallK m n S wl wk) :=
  let ⟨_, _, _, F, hm, hk, hb, hn⟩ := c.ex
  de_callK F hr hm hk hb tk ha hkw hn hg hall hks hdb he hpl
theorem de_gintE {i : Int} {pos : Pos} (hm : ∃ t, X.mg x = some (.int i t)) (hg : Gl X x := by rfl) (hd : (x == ("__debug__" : Str)) = false := by decide) : DE X P (.Name x pos) (wC (.int i)) := let ⟨_, h⟩ := hm; de_gint h hg hd
theorem de_gstrE {s : Str} {pos : Pos} (hm : ∃ t, X.mg x = some (.str s t)) (hg : Gl X x := by rfl) (hd : (x == ("__debug__" : Str)) = false := by decide) : DE X P (.Name x pos) (wC (.str s)) := let ⟨_, h⟩ := hm; de_gstr h hg hd
def gNeg : D → (D → Prop) → Prop
  | .int i, Q => Q (.int (-i))
  | _, _ => False
theorem ud_neg {T : Th} : UnD X T (unaryOp .USub) gNeg := by
  intro pins s σ H x v Q I rx ⟨F, Pm, dx, Qd, hx, hg, hq⟩
  cases dx <;> try exact hg.elim
  exact un_neg pins s σ H x v Q I rx ⟨_, hx, hq _ hg _ H (fun _ _ z => z) (by simp [Rep])⟩
end
end N

set_option Elab.async false
set_option linter.all false
set_option maxRecDepth 100000
/-! NS: lemmas for the plain side: frames, comprehensions, small facts -/
namespace N
open PySem PySem.Spec PyProof.Rows L2
theorem startG_c (n : Nat) (d : D) (ds : List D) : startG (n + 1) (d :: ds) = .val d :: startG n ds := by simp [startG]
theorem startG_n (n : Nat) : startG (n + 1) [] = .no :: startG n [] := by simp [startG, List.replicate_succ]
theorem startG_z : startG 0 [] = [] := rfl
theorem getSl_z (s : Sl) (r : Gam) : getSl (s :: r) 0 = s := rfl
theorem getSl_s (s : Sl) (r : Gam) (i : Nat) : getSl (s :: r) (i + 1) = getSl r i := rfl
theorem br_t {A B : Prop} : br true A B = A := rfl
theorem br_f {A B : Prop} : br false A B = B := rfl
theorem br_if {b : Bool} {A B : Prop} (h1 : b = true → A) (h2 : b = false → B) : br b A B := by
  cases b
  · exact h2 rfl
  · exact h1 rfl
theorem br_d {p : Prop} [Decidable p] {A B : Prop} (h1 : p → A) (h2 : ¬ p → B) : br (decide p) A B := br_if (fun e => h1 (of_decide_eq_true e)) (fun e => h2 (of_decide_eq_false e))
theorem br_dt {p : Prop} [Decidable p] {A B : Prop} (h : p) (h1 : A) : br (decide p) A B := by rw [decide_eq_true h]; exact h1
theorem br_df {p : Prop} [Decidable p] {A B : Prop} (h : ¬ p) (h1 : B) : br (decide p) A B := by rw [decide_eq_false h]; exact h1
section
variable {f : WG} {we : WE} {wt : WT} {G : Gam} {O : Om} {Q : List D → Om → Prop}
/-- a comprehension whose element is a function of the item -/
theorem turns_map (g : D → D) : ∀ (items acc : List D), acc.length + items.length ≤ 16777216 → (∀ d ∈ items, ∀ K : D → Om → Prop, K (g d) O → f d G fun G2 => we G2 O K noR) → Q (acc ++ items.map g) O → wTurns f wtYes we G items acc O Q
  | [], acc, _, _, q => by simpa [wTurns] using q
  | d :: r, acc, l, h, q => by
    rw [List.length_cons] at l
    refine ⟨by omega, h d List.mem_cons_self _ (turns_map g r (acc ++ [g d]) (by rw [List.length_append, List.length_singleton]; omega) (fun d' h' => h d' (List.mem_cons_of_mem _ h')) (by simpa using q))⟩
/-- .. with a test -/
theorem turns_filter (t : D → Bool) (g : D → D) : ∀ (items acc : List D), acc.length + items.length ≤ 16777216 →
    (∀ d ∈ items, ∀ (K1 : D → Om → Prop) (K2 : Om → Prop), (t d = true → K1 (g d) O) → (t d = false → K2 O) → f d G fun G2 => wt G2 O (fun b O2 => br b (we G2 O2 K1 noR) (K2 O2)) noR) → Q (acc ++ (items.filter t).map g) O → wTurns f wt we G items acc O Q
  | [], acc, _, _, q => by simpa [wTurns] using q
  | d :: r, acc, l, h, q => by
    rw [List.length_cons] at l
    refine ⟨by omega, h d List.mem_cons_self _ _ (fun e => turns_filter t g r (acc ++ [g d]) (by rw [List.length_append, List.length_singleton]; omega) (fun d' h' => h d' (List.mem_cons_of_mem _ h')) ?_) (fun e => turns_filter t g r acc (by omega) (fun d' h' => h d' (List.mem_cons_of_mem _ h')) ?_)⟩
    · rw [List.filter_cons, if_pos e] at q
      simpa using q
    · rw [List.filter_cons, if_neg (by rw [e]; decide)] at q
      exact q
/-- a comprehension whose element is told by a relation -/
theorem turns_rel (Pd : D → D → Prop) : ∀ (items acc : List D), acc.length + items.length ≤ 16777216 → (∀ d ∈ items, ∀ K : D → Om → Prop, (∀ x, Pd d x → K x O) → f d G fun G2 => we G2 O K noR) →
    (∀ ds : List D, ds.length = items.length → (∀ (i : Nat) d x, items[i]? = some d → ds[i]? = some x → Pd d x) → Q (acc ++ ds) O) → wTurns f wtYes we G items acc O Q
  | [], acc, _, _, q => by simpa [wTurns] using q [] rfl (by simp)
  | d :: r, acc, l, h, q => by
    rw [List.length_cons] at l
    refine ⟨by omega, h d List.mem_cons_self _ fun x hx => turns_rel Pd r (acc ++ [x]) (by rw [List.length_append, List.length_singleton]; omega) (fun d' h' => h d' (List.mem_cons_of_mem _ h')) fun ds hl hp => ?_⟩
    have := q (x :: ds) (by simp [hl]) fun i d' x' e1 e2 => by
      cases i with
      | zero => simp at e1 e2; subst e1 e2; exact hx
      | succ i => exact hp i d' x' (by simpa using e1) (by simpa using e2)
    simpa using this
end
/-! ### numbers -/
theorem mulL {i j : Int} (h : -(2 ^ 64) < i) (h2 : i < 2 ^ 64) : IntMulOk i j := .of_left (intBits_le_64 h h2)
theorem mulR {i j : Int} (h : -(2 ^ 64) < j) (h2 : j < 2 ^ 64) : IntMulOk i j := .of_right (intBits_le_64 h h2)
theorem shlI {i j : Int} {n : Nat} (h0 : 0 ≤ i) (h : i < 2 ^ n) (hj : 0 ≤ j) (hn : (n : Int) + j ≤ 134217728) : CShl i j := by
  have e : ((j.toNat : Nat) : Int) = j := by omega
  have := shl_ok (i := i) (j := j.toNat) (n := n) (by
    have : ((i.natAbs : Nat) : Int) = i := by omega
    have h2 : ((i.natAbs : Nat) : Int) < ((2 ^ n : Nat) : Int) := by rw [this]; simpa using h
    exact Int.ofNat_lt.mp h2) (by omega)
  rw [e] at this
  exact this
/-! ### equality of data -/
theorem shp_int (i : Int) : shp (.int i) = true := rfl
theorem shp_bl (i : Bool) : shp (.bl i) = true := rfl
theorem shp_non : shp .non = true := rfl
theorem deq_int (i j : Int) : deq (.int i) (.int j) = decide (i = j) := by
  show (i == j) = _
  exact Bool.beq_eq_decide_eq _ _
theorem toPys_map {α : Type} (f : α → D) (xs : List α) : toPys (xs.map f) = xs.map fun x => toPy (f x) := by
  induction xs with
  | nil => rfl
  | cons x r ih => simp only [List.map_cons, toPys, ih]
theorem lay_ints (ns : List Int) : PyData.canLayAll0 (toPys (ns.map D.int)) = true := by
  induction ns with
  | nil => rfl
  | cons n r ih => simp only [List.map_cons, toPys, toPy, PyData.canLayAll0, PyData.canLay0, ih, Bool.and_self]
theorem eqv_ints (ns ms : List Int) : PyData.eqvAll (toPys (ns.map D.int)) (toPys (ms.map D.int)) = decide (ns = ms) := by
  induction ns generalizing ms with
  | nil => cases ms <;> simp [toPys, PyData.eqvAll]
  | cons n r ih =>
    cases ms with
    | nil => simp [toPys, PyData.eqvAll]
    | cons m s =>
      simp only [List.map_cons, toPys, PyData.eqvAll, ih, toPy, PyData.eqv]
      by_cases h : n = m <;> by_cases h2 : r = s <;> simp [h, h2]
end N
namespace N
open PySem PySem.Spec PyProof.Rows L2
theorem depth_ints (ns : List Int) : PyData.depthAll (toPys (ns.map D.int)) = 0 := by
  induction ns with
  | nil => rfl
  | cons n r ih => simp [List.map_cons, toPys, toPy, PyData.depthAll, PyData.depth, ih]
theorem shp_tints (ns : List Int) : shp (.tup (ns.map D.int)) = true := by
  simp [shp, SeqAt.shaped, toPy, PyData.canLay0, PyData.depth, lay_ints, depth_ints]
theorem shp_lints (ns : List Int) : shp (.lst (ns.map D.int)) = true := by
  simp [shp, SeqAt.shaped, toPy, PyData.canLay0, PyData.depth, lay_ints, depth_ints]
theorem deq_tints (ns ms : List Int) : deq (.tup (ns.map D.int)) (.tup (ms.map D.int)) = decide (ns = ms) := by
  simp only [deq, toPy, PyData.eqv, eqv_ints]
theorem deq_lints (ns ms : List Int) : deq (.lst (ns.map D.int)) (.lst (ms.map D.int)) = decide (ns = ms) := by
  simp only [deq, toPy, PyData.eqv, eqv_ints]
end N

set_option Elab.async false
set_option linter.all false
set_option maxRecDepth 100000
/-! NW: more lemmas of the plain side -/
namespace N
open PySem PySem.Spec PyProof.Rows L2
theorem gIx_list {xs : List D} {i : Int} {j : Nat} {d : D} {Q : D → Prop} (hi : i = (j : Int)) (hd : xs[j]? = some d) (q : Q d) : gIx (.lst xs) (.int i) Q := by
  subst hi
  simp only [gIx, atI_nat hd]
  exact q
theorem gIx_tup {xs : List D} {i : Int} {j : Nat} {d : D} {Q : D → Prop} (hi : i = (j : Int)) (hd : xs[j]? = some d) (q : Q d) : gIx (.tup xs) (.int i) Q := by
  subst hi
  simp only [gIx, atI_nat hd]
  exact q
theorem gIx_scr {xs : List Int} {i : Int} {j : Nat} {d : Int} {Q : D → Prop} (hi : i = (j : Int)) (hd : xs[j]? = some d) (q : Q (.int d)) : gIx (.scr xs) (.int i) Q := by
  subst hi
  simp only [gIx, atI_nat hd]
  exact q
/-- an index within, whatever it is -/
theorem gIx_any {xs : List D} {i : Int} {Q : D → Prop} (h0 : 0 ≤ i) (h1 : i < xs.length) (q : ∀ d ∈ xs, Q d) : gIx (.lst xs) (.int i) Q := by
  have hj : i.toNat < xs.length := by omega
  exact gIx_list (j := i.toNat) (d := xs[i.toNat]) (by omega) (List.getElem?_eq_getElem hj) (q _ (List.getElem_mem hj))
theorem mem_rngL {d : D} {lo : Int} {n : Nat} (h : d ∈ rngL lo n) : ∃ i : Nat, i < n ∧ d = .int (lo + i) := by
  obtain ⟨i, hi, rfl⟩ := List.mem_map.mp h
  exact ⟨i, List.mem_range.mp hi, rfl⟩
theorem mem_rngC {d : D} {lo c : Int} {n : Nat} (h : d ∈ rngC lo c n) : ∃ i : Nat, i < n ∧ d = .int (lo + i * c) := by
  obtain ⟨i, hi, rfl⟩ := List.mem_map.mp h
  exact ⟨i, List.mem_range.mp hi, rfl⟩
theorem rngL_len {lo : Int} {n : Nat} : (rngL lo n).length = n := by simp [rngL]
theorem rngC_len {lo c : Int} {n : Nat} : (rngC lo c n).length = n := by simp [rngC]
theorem rngL_map {lo : Int} {n : Nat} (g : D → D) (h : Nat → D) (e : ∀ i < n, g (.int (lo + (i : Nat))) = h i) : (rngL lo n).map g = (List.range n).map h := by
  simp only [rngL, List.map_map]
  exact List.map_congr_left fun i hi => e i (List.mem_range.mp hi)
theorem rngC_map {lo c : Int} {n : Nat} (g : D → D) (h : Nat → D) (e : ∀ i < n, g (.int (lo + (i : Nat) * c)) = h i) : (rngC lo c n).map g = (List.range n).map h := by
  simp only [rngC, List.map_map]
  exact List.map_congr_left fun i hi => e i (List.mem_range.mp hi)
theorem cut_nat {α : Type} (xs : List α) (a b : Nat) : cutD xs (some (a : Int)) (some (b : Int)) = (xs.drop a).take (b - a) := by
  unfold cutD
  rw [HT.sIx_nat, HT.sIx_nat]
  by_cases ha : a ≤ xs.length
  · rw [Nat.min_eq_left ha]
    by_cases hb : b ≤ xs.length
    · rw [Nat.min_eq_left hb]
    · rw [Nat.min_eq_right (by omega), List.take_of_length_le (by simp), List.take_of_length_le (by simp; omega)]
  · rw [Nat.min_eq_right (show xs.length ≤ a by omega), List.drop_of_length_le (Nat.le_refl _), List.drop_of_length_le (by omega)]
    simp
theorem cut_to {α : Type} (xs : List α) (b : Nat) : cutD xs none (some (b : Int)) = xs.take b := by
  unfold cutD
  rw [HT.sIx_none, HT.sIx_nat, List.drop_zero, Nat.sub_zero]
  by_cases hb : b ≤ xs.length
  · rw [Nat.min_eq_left hb]
  · rw [Nat.min_eq_right (by omega), List.take_of_length_le (Nat.le_refl _), List.take_of_length_le (by omega)]
theorem cut_from {α : Type} (xs : List α) (a : Nat) : cutD xs (some (a : Int)) none = xs.drop a := by
  unfold cutD
  rw [HT.sIx_none, HT.sIx_nat]
  by_cases ha : a ≤ xs.length
  · rw [Nat.min_eq_left ha, List.take_of_length_le (by simp)]
  · rw [Nat.min_eq_right (by omega), List.drop_of_length_le (Nat.le_refl _), List.drop_of_length_le (by omega)]
    simp
/-- all ints -/
theorem all_ints {p : Int → Prop} : ∀ {ds : List D}, (∀ x ∈ ds, ∃ v, x = .int v ∧ p v) → ∃ os : List Int, ds = os.map D.int ∧ (∀ o ∈ os, p o)
  | [], _ => ⟨[], rfl, by simp⟩
  | d :: r, h => by
    obtain ⟨v, rfl, hv⟩ := h d List.mem_cons_self
    obtain ⟨os, e, ho⟩ := all_ints (ds := r) fun x hx => h x (List.mem_cons_of_mem _ hx)
    exact ⟨v :: os, by rw [e, List.map_cons], fun o h => (List.mem_cons.mp h).elim (fun e => e ▸ hv) (ho o)⟩
theorem bsL_map' {α : Type} (g : α → Bool) (xs : List α) : bsL (xs.map fun x => .bl (g x)) = some (xs.map g) := by
  rw [show (xs.map fun x => D.bl (g x)) = (xs.map g).map D.bl by rw [List.map_map]; rfl]
  exact bsL_bls _
theorem divOk {i j : Int} (h0 : 0 < j) (h1 : j < 1073741824) : CDv i j := .inl ⟨h0, h1⟩
end N
namespace N
open PySem PySem.Spec PyProof.Rows L2
section
variable {C : Int → Int → Prop} {f : Int → Int → Int} {p : Int → Int → Bool} {i j : Int} {Q : D → Prop} {xs ys : List D} {x y : D} {z z' : Str} {b b' : Bool} {QL : List D → Prop} {QM : MO → Prop}
theorem gI_i : gI C f (.int i) (.int j) Q = (C i j ∧ Q (.int (f i j))) := rfl
theorem gI0_i : gI0 f (.int i) (.int j) Q = Q (.int (f i j)) := rfl
theorem gB0_i : gB0 p (.int i) (.int j) Q = Q (.bl (p i j)) := rfl
theorem gAdd_i : gAdd (.int i) (.int j) Q = Q (.int (i + j)) := rfl
theorem gAdd_t : gAdd (.tup xs) (.tup ys) Q = (xs.length + ys.length ≤ 16777216 ∧ Q (.tup (xs ++ ys))) := rfl
theorem gAdd_l : gAdd (.lst xs) (.lst ys) Q = (xs.length + ys.length ≤ 16777216 ∧ Q (.lst (xs ++ ys))) := rfl
theorem gAdd_s : gAdd (.str z) (.str z') Q = (z.length + z'.length ≤ 16777216 ∧ Q (.str (z ++ z'))) := rfl
theorem gMul_i : gMul (.int i) (.int j) Q = (IntMulOk i j ∧ Q (.int (i * j))) := rfl
theorem gMul_t : gMul (.tup xs) (.int i) Q = ((-(2 ^ 63) ≤ i ∧ i < 2 ^ 40 ∧ xs.length * i.toNat ≤ 16777216) ∧ Q (.tup (List.replicate i.toNat xs).flatten)) := rfl
theorem gMul_l : gMul (.lst xs) (.int i) Q = ((-(2 ^ 63) ≤ i ∧ i < 2 ^ 40 ∧ xs.length * i.toNat ≤ 16777216) ∧ Q (.lst (List.replicate i.toNat xs).flatten)) := rfl
theorem gEq_ : gEq x y Q = (shp x = true ∧ shp y = true ∧ Q (.bl (deq x y))) := rfl
theorem gNe_ : gNe x y Q = (shp x = true ∧ shp y = true ∧ Q (.bl (!deq x y))) := rfl
theorem gIs_n : gIs x .non Q = Q (.bl (isNon x)) := by cases x <;> rfl
theorem gIs_b : gIs (.bl b) (.bl b') Q = Q (.bl (decide (b = b'))) := rfl
theorem gIsNot_n : gIsNot x .non Q = Q (.bl (!isNon x)) := by cases x <;> rfl
theorem gIsNot_b : gIsNot (.bl b) (.bl b') Q = Q (.bl (!decide (b = b'))) := rfl
theorem isNon_n : isNon .non = true := rfl
theorem isNon_i : isNon (.int i) = false := rfl
theorem isNon_b : isNon (.bl b) = false := rfl
theorem isNon_t : isNon (.tup xs) = false := rfl
theorem isNon_l : isNon (.lst xs) = false := rfl
theorem isNon_s : isNon (.str z) = false := rfl
theorem gNeg_i : gNeg (.int i) Q = Q (.int (-i)) := rfl
theorem gTuple_t : gTuple [.tup xs] Q = Q (.tup xs) := rfl
theorem gTuple_l : gTuple [.lst xs] Q = Q (.tup xs) := rfl
theorem gList_t : gList [.tup xs] QM = QM (.lst xs) := rfl
theorem gList_l : gList [.lst xs] QM = QM (.lst xs) := rfl
theorem gList_s {ns : List Int} : gList [.scr ns] QM = QM (.lst (ns.map D.int)) := rfl
theorem gLen_t : gLen [.tup xs] Q = Q (.int xs.length) := rfl
theorem gLen_l : gLen [.lst xs] Q = Q (.int xs.length) := rfl
theorem gLen_s {ns : List Int} : gLen [.scr ns] Q = Q (.int ns.length) := rfl
theorem gLen_d {ks : List Key} : gLen [.dct ks xs] Q = Q (.int ks.length) := rfl
theorem gInt_i : gInt [.int i] Q = Q (.int i) := rfl
theorem gInt_b : gInt [.bl b] Q = Q (.int (if b then 1 else 0)) := rfl
theorem gAbs_i : gAbs [.int i] Q = Q (.int (if i < 0 then -i else i)) := rfl
theorem gMax_i : gMax [.int i, .int j] Q = Q (.int (if j > i then j else i)) := rfl
theorem gMin_i : gMin [.int i, .int j] Q = Q (.int (if j < i then j else i)) := rfl
theorem gSl_t {lo hi : Option Int} : gSl (.tup xs) lo hi Q = Q (.tup (cutD xs lo hi)) := rfl
theorem gSl_l {lo hi : Option Int} : gSl (.lst xs) lo hi Q = Q (.lst (cutD xs lo hi)) := rfl
theorem gIt_t : gIt (.tup xs) QL = QL xs := rfl
theorem gIt_l : gIt (.lst xs) QL = QL xs := rfl
theorem gIt_s {ns : List Int} : gIt (.scr ns) QL = QL (ns.map D.int) := rfl
theorem gRng1_i : gRng1 [.int j] QL = ((-(2 ^ 62) ≤ j ∧ j < 2 ^ 62) ∧ QL (rngL 0 j.toNat)) := rfl
theorem gRng2_i : gRng2 [.int i, .int j] QL = ((-(2 ^ 62) ≤ i ∧ i < 2 ^ 62 ∧ -(2 ^ 62) ≤ j ∧ j < 2 ^ 62) ∧ QL (rngL i (j - i).toNat)) := rfl
theorem gRng3_i {c : Int} : gRng3 [.int i, .int j, .int c] QL = ∃ n, RgC i j c n ∧ QL (rngC i c n) := rfl
theorem gAll_b {bs : List Bool} : gAll [.lst (bs.map D.bl)] Q = Q (.bl (bs.all _root_.id)) := by simp only [gAll, gLB, bsL_bls]
theorem gAny_b {bs : List Bool} : gAny [.lst (bs.map D.bl)] Q = Q (.bl (bs.any _root_.id)) := by simp only [gAny, gLB, bsL_bls]
theorem gSum_i {ns : List Int} : gSum [.lst (ns.map D.int)] Q = Q (.int ns.sum) := by simp only [gSum, gLI, isL_ints]
theorem gIsi_1 {t : String} {a : String} (h : okTy t = true) (h2 : tyS x = some a) (q : Q (.bl (isiS a t))) : gIsi [x, .ty t] Q := ⟨h, by rw [h2]; exact q⟩
theorem gIsi_i {t : String} : gIsi [.int i, .ty t] Q = (okTy t = true ∧ Q (.bl (isiS "int" t))) := rfl
theorem gIsi_b {t : String} : gIsi [.bl b, .ty t] Q = (okTy t = true ∧ Q (.bl (isiS "bool" t))) := rfl
theorem gIsi_t {t : String} : gIsi [.tup xs, .ty t] Q = (okTy t = true ∧ Q (.bl (isiS "tuple" t))) := rfl
theorem gIsi_l {t : String} : gIsi [.lst xs, .ty t] Q = (okTy t = true ∧ Q (.bl (isiS "list" t))) := rfl
theorem gIsi_s {t : String} : gIsi [.str z, .ty t] Q = (okTy t = true ∧ Q (.bl (isiS "str" t))) := rfl
theorem gIsi_n {t : String} : gIsi [.non, .ty t] Q = (okTy t = true ∧ Q (.bl (isiS "NoneType" t))) := rfl
theorem gIsi_d {t : String} {ks : List Key} : gIsi [.dct ks xs, .ty t] Q = (okTy t = true ∧ Q (.bl (isiS "dict" t))) := rfl
theorem wVar_v {k : Nat} {G : Gam} {Om : N.Om} {QQ : D → N.Om → Prop} {R : RX} {d : D} (h : getSl G k = .val d) : wVar k G Om QQ R = QQ d Om := by unfold wVar; rw [h]
end
end N
namespace N
open PySem PySem.Spec PyProof.Rows L2
theorem isi_NoneType_bool : isiS "NoneType" "bool" = false := rfl
theorem isi_NoneType_int : isiS "NoneType" "int" = false := rfl
theorem isi_NoneType_str : isiS "NoneType" "str" = false := rfl
theorem isi_NoneType_tuple : isiS "NoneType" "tuple" = false := rfl
theorem isi_NoneType_list : isiS "NoneType" "list" = false := rfl
theorem isi_NoneType_dict : isiS "NoneType" "dict" = false := rfl
theorem isi_bool_bool : isiS "bool" "bool" = true := rfl
theorem isi_bool_int : isiS "bool" "int" = true := rfl
theorem isi_bool_str : isiS "bool" "str" = false := rfl
theorem isi_bool_tuple : isiS "bool" "tuple" = false := rfl
theorem isi_bool_list : isiS "bool" "list" = false := rfl
theorem isi_bool_dict : isiS "bool" "dict" = false := rfl
theorem isi_int_bool : isiS "int" "bool" = false := rfl
theorem isi_int_int : isiS "int" "int" = true := rfl
theorem isi_int_str : isiS "int" "str" = false := rfl
theorem isi_int_tuple : isiS "int" "tuple" = false := rfl
theorem isi_int_list : isiS "int" "list" = false := rfl
theorem isi_int_dict : isiS "int" "dict" = false := rfl
theorem isi_str_bool : isiS "str" "bool" = false := rfl
theorem isi_str_int : isiS "str" "int" = false := rfl
theorem isi_str_str : isiS "str" "str" = true := rfl
theorem isi_str_tuple : isiS "str" "tuple" = false := rfl
theorem isi_str_list : isiS "str" "list" = false := rfl
theorem isi_str_dict : isiS "str" "dict" = false := rfl
theorem isi_tuple_bool : isiS "tuple" "bool" = false := rfl
theorem isi_tuple_int : isiS "tuple" "int" = false := rfl
theorem isi_tuple_str : isiS "tuple" "str" = false := rfl
theorem isi_tuple_tuple : isiS "tuple" "tuple" = true := rfl
theorem isi_tuple_list : isiS "tuple" "list" = false := rfl
theorem isi_tuple_dict : isiS "tuple" "dict" = false := rfl
theorem isi_list_bool : isiS "list" "bool" = false := rfl
theorem isi_list_int : isiS "list" "int" = false := rfl
theorem isi_list_str : isiS "list" "str" = false := rfl
theorem isi_list_tuple : isiS "list" "tuple" = false := rfl
theorem isi_list_list : isiS "list" "list" = true := rfl
theorem isi_list_dict : isiS "list" "dict" = false := rfl
theorem isi_dict_bool : isiS "dict" "bool" = false := rfl
theorem isi_dict_int : isiS "dict" "int" = false := rfl
theorem isi_dict_str : isiS "dict" "str" = false := rfl
theorem isi_dict_tuple : isiS "dict" "tuple" = false := rfl
theorem isi_dict_list : isiS "dict" "list" = false := rfl
theorem isi_dict_dict : isiS "dict" "dict" = true := rfl
theorem okTy_bool : okTy "bool" = true := rfl
theorem okTy_int : okTy "int" = true := rfl
theorem okTy_str : okTy "str" = true := rfl
theorem okTy_tuple : okTy "tuple" = true := rfl
theorem okTy_list : okTy "list" = true := rfl
theorem okTy_dict : okTy "dict" = true := rfl
end N

set_option Elab.async false
set_option linter.all false
set_option maxRecDepth 100000
set_option maxHeartbeats 0
/-! NJ: shared things, instances, methods, errors -/
namespace N
open PySem PySem.Spec PyProof.Rows L2
def putO (O : Om) (a : Addr) (m : MO) : Om := fun b => if b = a then some m else O b
def delO (O : Om) (a : Addr) : Om := fun b => if b = a then none else O b
theorem putO_same {O : Om} {a : Addr} {m : MO} : putO O a m a = some m := if_pos rfl
theorem putO_ne {O : Om} {a b : Addr} {m : MO} (h : b ≠ a) : putO O a m b = O b := if_neg h
theorem putO_put {O : Om} {a : Addr} {m m' : MO} : putO (putO O a m) a m' = putO O a m' := funext fun b => by unfold putO; split <;> rfl
theorem delO_put {O : Om} {a : Addr} {m : MO} (h : O a = none) : delO (putO O a m) a = O := funext fun b => by
  unfold delO putO
  by_cases e : b = a
  · rw [if_pos e, e, h]
  · rw [if_neg e, if_neg e]
def Wd.setO (W : Wd) (a : Addr) (m : MO) : Wd := { W with Om := putO W.Om a m }
def Wd.addS (W : Wd) (a : Addr) (m : MO) : Wd := ⟨putO W.Om a m, fun x b => if x = a then b = a else W.fp x b, fun b => W.F b ∨ b = a⟩
def Wd.delS (W : Wd) (a : Addr) : Wd := ⟨delO W.Om a, W.fp, fun b => W.F b ∧ b ≠ a⟩
section
variable {T : Th} {W W1 : Wd} {H H1 : Hp} {a : Addr} {o : HO} {m m' : MO}
theorem Step.mutS (ok : WOk T W H) (e : W.Om a = some m) (r : MRep T W.F (W.fp a) (upd H a o) a m') (no : ∀ q, o ≠ LamX.CodeO a q := by intro _ z; cases z) : Step T W H (W.setO a m') (upd H a o) := by
  have fa : W.fp a a := (ok.at_ a m e).2
  have ea : W.Om a ≠ none := by rw [e]; simp
  have Fa : W.F a := ok.sub a ⟨a, ea, fa⟩
  have kp : Kp W.F H W.F (upd H a o) := Kp.mut Fa
  have old : ∀ b, (W.setO a m').Om b ≠ none → W.Om b ≠ none := fun b h => by
    by_cases q : b = a
    · rw [q]; exact ea
    · rwa [show (W.setO a m').Om b = W.Om b from putO_ne q] at h
  have new : ∀ b, W.Om b ≠ none → (W.setO a m').Om b ≠ none := fun b h => by
    by_cases q : b = a
    · rw [q, show (W.setO a m').Om a = some m' from putO_same]; simp
    · rwa [show (W.setO a m').Om b = W.Om b from putO_ne q]
  have pm : ∀ b, (W.setO a m').pm b → W.pm b := fun b ⟨x, h, f⟩ => ⟨x, old x h, f⟩
  refine ⟨⟨fun b mb eb => ?_, fun b h => ok.sub b (pm b h), fun x y b h h' => ok.dis x y b (old x h) (old y h'), fun b h => ?_, fun b q h => ?_⟩, fun b u eb _ n => ?_, fun b h => ?_, fun _ h => h, fun _ h => .inl h, fun x h => ⟨new x h, rfl⟩, fun x b h h' => absurd h (old x h')⟩
  · by_cases q : b = a
    · subst q
      rw [show (W.setO b m').Om b = some m' from putO_same] at eb
      cases eb
      exact ⟨r, fa⟩
    · rw [show (W.setO a m').Om b = W.Om b from putO_ne q] at eb
      obtain ⟨r', f'⟩ := ok.at_ b mb eb
      exact ⟨MRep.kp kp (fun c hc => upd_ne fun z => q (ok.dis b a c (by rw [eb]; simp) ea hc (z ▸ fa))) f' r', f'⟩
  · by_cases z : b = a
    · rw [z, upd_same]; simp
    · rw [upd_ne z]; exact ok.trk b h
  · by_cases z : b = a
    · subst z
      rw [upd_same]
      exact fun z => no q (Option.some.inj z)
    · rw [upd_ne z]; exact ok.code b q h
  · rw [upd_ne fun z => n ⟨a, ea, by rw [z]; exact fa⟩]; exact eb
  · by_cases z : b = a
    · rw [z, upd_same]; simp
    · rw [upd_ne z]; exact h
theorem om_none (ok : WOk T W H) (h : H a = none) : W.Om a = none := by
  cases q : W.Om a with
  | none => rfl
  | some m => exact absurd h (ok.trk a (ok.sub a ⟨a, by rw [q]; simp, (ok.at_ a m q).2⟩))
theorem Step.newS (ok : WOk T W H) (h : H a = none) (r : MRep T (W.addS a m).F (fun b => b = a) (upd H a o) a m) (no : ∀ q, o ≠ LamX.CodeO a q := by intro _ z; cases z) : Step T W H (W.addS a m) (upd H a o) := by
  have na := om_none ok h
  have nf : ¬ W.F a := fun z => ok.trk a z h
  have kp : Kp W.F H (W.addS a m).F (upd H a o) := ⟨fun b u e _ _ => ext_upd h b u e, fun b q => q.imp _root_.id fun e => by rw [e]; exact h, trk_upd⟩
  have om : ∀ b, b ≠ a → (W.addS a m).Om b = W.Om b := fun b q => putO_ne q
  have fp : ∀ b, b ≠ a → (W.addS a m).fp b = W.fp b := fun b q => funext fun c => if_neg q
  have fpa : ∀ c, (W.addS a m).fp a c ↔ c = a := fun c => by show (if a = a then c = a else W.fp a c) ↔ c = a; rw [if_pos rfl]
  have nfp : ∀ b, W.Om b ≠ none → ¬ W.fp b a := fun b hb hf => nf (ok.sub a ⟨b, hb, hf⟩)
  refine ⟨⟨fun b mb eb => ?_, fun b ⟨x, hx, hf⟩ => ?_, fun x y b hx hy fx fy => ?_, fun b q => ?_, fun b y q => ?_⟩, fun b u e _ _ => ext_upd h b u e, fun b q => ?_, fun b q => .inl q, kp.fnew, fun x hx => ?_, fun x b hx hx' hf => ?_⟩
  · by_cases q : b = a
    · subst q
      rw [show (W.addS b m).Om b = some m from putO_same] at eb
      cases eb
      have e2 : (W.addS b m).fp b = fun c => c = b := funext fun c => propext (fpa c)
      rw [e2]
      exact ⟨r, rfl⟩
    · rw [om b q] at eb
      rw [fp b q]
      obtain ⟨r', f'⟩ := ok.at_ b mb eb
      exact ⟨MRep.kp kp (fun c hc => upd_ne fun z => nfp b (by rw [eb]; simp) (z ▸ hc)) f' r', f'⟩
  · by_cases q : x = a
    · subst q
      exact .inr ((fpa b).mp hf)
    · rw [om x q] at hx
      rw [fp x q] at hf
      exact .inl (ok.sub b ⟨x, hx, hf⟩)
  · by_cases q : x = a <;> by_cases q2 : y = a
    · rw [q, q2]
    · subst q
      rw [(fpa b).mp fx, fp y q2] at fy
      rw [om y q2] at hy
      exact absurd fy (nfp y hy)
    · subst q2
      rw [(fpa b).mp fy, fp x q] at fx
      rw [om x q] at hx
      exact absurd fx (nfp x hx)
    · rw [om x q] at hx; rw [om y q2] at hy; rw [fp x q] at fx; rw [fp y q2] at fy
      exact ok.dis x y b hx hy fx fy
  · by_cases z : b = a
    · rw [z, upd_same]; simp
    · rw [upd_ne z]; exact ok.trk b (q.resolve_right z)
  · by_cases z : b = a
    · subst z
      rw [upd_same]
      exact fun z => no y (Option.some.inj z)
    · rw [upd_ne z]; exact ok.code b y (q.resolve_right z)
  · by_cases z : b = a
    · rw [z, upd_same]; simp
    · rw [upd_ne z]; exact q
  · have q : x ≠ a := fun z => hx (z ▸ na)
    rw [om x q, fp x q]
    exact ⟨hx, rfl⟩
  · by_cases q : x = a
    · subst q
      rw [(fpa b).mp hf]; exact h
    · rw [om x q] at hx'; exact absurd hx hx'
/-- a shared thing is shared no more: nothing changes it from now on -/
theorem Step.frzS (s : Step T W1 H1 W H) (ok : WOk T W1 H1) (hn : H1 a = none) (e : W.Om a = some m) : Step T W1 H1 (W.delS a) H := by
  have na := om_none ok hn
  have ea : W.Om a ≠ none := by rw [e]; simp
  have fa := (s.ok.at_ a m e).2
  have om : ∀ b, b ≠ a → (W.delS a).Om b = W.Om b := fun b q => if_neg q
  have oma : (W.delS a).Om a = none := if_pos rfl
  have nea : ∀ b, (W.delS a).Om b ≠ none → b ≠ a ∧ W.Om b ≠ none := fun b h => by
    have q : b ≠ a := fun z => h (z ▸ oma)
    rw [om b q] at h
    exact ⟨q, h⟩
  refine ⟨⟨fun b mb eb => ?_, fun b ⟨x, hx, hf⟩ => ?_, fun x y b hx hy => s.ok.dis x y b (nea x hx).2 (nea y hy).2, fun b h => s.ok.trk b h.1, fun b q h => s.ok.code b q h.1⟩, s.keep', s.trk, fun b h => ⟨s.sub b h, fun z => ok.trk b h (by rw [z]; exact hn)⟩, fun b h => s.fnew b h.1, fun x hx => ?_, fun x b h h' hf => s.new x b h (nea x h').2 hf⟩
  · obtain ⟨q, eb'⟩ := nea b (by rw [eb]; simp)
    rw [om b q] at eb
    obtain ⟨r, f⟩ := s.ok.at_ b mb eb
    exact ⟨MRep.kp (Kp.less fun c h => h.1) (fun _ _ => rfl) f r, f⟩
  · obtain ⟨q, hx⟩ := nea x hx
    exact ⟨s.ok.sub b ⟨x, hx, hf⟩, fun z => q (s.ok.dis x a b hx ea hf (z ▸ fa))⟩
  · have q : x ≠ a := fun z => hx (z ▸ na)
    rw [om x q]
    exact s.om x hx
end
/-! ### instances -/
def insOf (O : Om) : D → Option (Nat × List Str × List D)
  | .ins c ns vs => some (c, ns, vs)
  | .ref a => match O a with
    | some (.ins c ns vs) => some (c, ns, vs)
    | _ => none
  | _ => none
theorem insOf_put {O : Om} {a : Addr} {c : Nat} {ns : List Str} {vs : List D} : insOf (putO O a (.ins c ns vs)) (.ref a) = some (c, ns, vs) := by
  unfold insOf
  simp only [putO_same]
theorem insOf_ref {O : Om} {a : Addr} {c : Nat} {ns : List Str} {vs : List D} (h : O a = some (.ins c ns vs)) : insOf O (.ref a) = some (c, ns, vs) := by
  unfold insOf
  simp only [h]
theorem insOf_ins {O : Om} {c : Nat} {ns : List Str} {vs : List D} : insOf O (.ins c ns vs) = some (c, ns, vs) := rfl
section
variable {T : Th} {W : Wd} {H : Hp} {d : D} {v : V} {c : Nat} {ns : List Str} {vs : List D}
theorem ins_at (ok : WOk T W H) (r : RepT T W.F W.pm H d v) (e : insOf W.Om d = some (c, ns, vs)) : ∃ a dx ws, v = .ref a ∧ H a = some (.ins (T.cm c) dx (ns.zip ws)) ∧ ns.length = vs.length ∧ Reps T W.F H vs ws := by
  cases d <;> try cases e
  · rename_i a
    have e : (match W.Om a with | some (.ins c ns vs) => some (c, ns, vs) | _ => none) = some (c, ns, vs) := e
    split at e
    · rename_i hh
      obtain ⟨⟨dx, ws, h, l, r2⟩, _⟩ := ok.at_ a _ hh
      cases e
      exact ⟨a, dx, ws, r, h, l, r2⟩
    · cases e
  · obtain ⟨a, dx, ws, e1, h, _, l, r2⟩ := r
    exact ⟨a, dx, ws, e1, h, l, r2⟩
end
def lk : List Str → List D → Str → Option D
  | n :: ns, v :: vs, f => bif f == n then some v else lk ns vs f
  | _, _, _ => none
theorem lk_hit {n : Str} {ns : List Str} {v : D} {vs : List D} : lk (n :: ns) (v :: vs) n = some v := by
  unfold lk
  rw [beq_self_eq_true]
  rfl
theorem lk_miss {f n : Str} {ns : List Str} {v : D} {vs : List D} (h : (f == n) = false) : lk (n :: ns) (v :: vs) f = lk ns vs f := by
  conv => lhs; unfold lk
  rw [h]
  rfl
theorem lk_nil {f : Str} {vs : List D} : lk [] vs f = none := by unfold lk; rfl
theorem lk_at {T : Th} {F : Addr → Prop} {H : Hp} {f : Str} {d : D} : ∀ {ns : List Str} {vs : List D} {ws : List V}, Reps T F H vs ws → lk ns vs f = some d → ∃ v, (ns.zip ws).lookup f = some v ∧ Rep T F H d v
  | [], _, _, _, e => by rw [lk_nil] at e; cases e
  | _ :: _, [], _, _, e => by simp [lk] at e
  | n :: ns, x :: vs, ws, r, e => by
    simp only [Reps] at r
    obtain ⟨v, w, e1, r1, r2⟩ := r
    subst e1
    unfold lk at e
    rw [List.zip_cons_cons, List.lookup_cons]
    cases q : (f == n) with
    | true =>
      rw [q] at e
      cases e
      exact ⟨v, rfl, r1⟩
    | false =>
      rw [q] at e
      exact lk_at r2 e
theorem lk_no {T : Th} {F : Addr → Prop} {H : Hp} {f : Str} : ∀ {ns : List Str} {vs : List D} {ws : List V}, ns.length = vs.length → Reps T F H vs ws → lk ns vs f = none → (ns.zip ws).lookup f = none
  | [], _, _, _, _, _ => by simp
  | n :: ns, [], ws, l, _, _ => by cases l
  | n :: ns, x :: vs, ws, l, r, e => by
    simp only [Reps] at r
    obtain ⟨v, w, e1, r1, r2⟩ := r
    subst e1
    unfold lk at e
    rw [List.zip_cons_cons, List.lookup_cons]
    cases q : (f == n) with
    | true => rw [q] at e; cases e
    | false =>
      rw [q] at e
      exact lk_no (by simpa using l) r2 e
/-- x.f = v -/
def setN : List Str → Str → List Str
  | [], f => [f]
  | n :: ns, f => bif n == f then n :: ns else n :: setN ns f
def setV : List Str → List D → Str → D → List D
  | [], _, _, d => [d]
  | _, [], _, _ => []
  | n :: ns, v :: vs, f, d => bif n == f then d :: vs else v :: setV ns vs f d
theorem setN_nil {f : Str} : setN [] f = [f] := rfl
theorem setN_hit {ns : List Str} {f : Str} : setN (f :: ns) f = f :: ns := by unfold setN; rw [beq_self_eq_true]; rfl
theorem setN_miss {ns : List Str} {n f : Str} (h : (n == f) = false) : setN (n :: ns) f = n :: setN ns f := by
  conv => lhs; unfold setN
  rw [h]
  rfl
theorem setV_nil {vs : List D} {f : Str} {d : D} : setV [] vs f d = [d] := by unfold setV; rfl
theorem setV_hit {ns : List Str} {v : D} {vs : List D} {f : Str} {d : D} : setV (f :: ns) (v :: vs) f d = d :: vs := by unfold setV; rw [beq_self_eq_true]; rfl
theorem setV_miss {ns : List Str} {v : D} {vs : List D} {n f : Str} {d : D} (h : (n == f) = false) : setV (n :: ns) (v :: vs) f d = v :: setV ns vs f d := by
  conv => lhs; unfold setV
  rw [h]
  rfl
theorem set_at {T : Th} {F : Addr → Prop} {H : Hp} {f : Str} {d : D} {y : V} (ry : Rep T F H d y) : ∀ {ns : List Str} {vs : List D} {ws : List V}, ns.length = vs.length → Reps T F H vs ws →
    ∃ us, putF f y (ns.zip ws) = (setN ns f).zip us ∧ (setN ns f).length = (setV ns vs f d).length ∧ Reps T F H (setV ns vs f d) us
  | [], vs, ws, l, r => ⟨[y], by simp [putF, setN], by simp [setN, setV], by unfold setV; exact .cons ry .nil⟩
  | n :: ns, [], ws, l, _ => by cases l
  | n :: ns, x :: vs, ws, l, r => by
    simp only [Reps] at r
    obtain ⟨v, w, e1, r1, r2⟩ := r
    subst e1
    rw [List.zip_cons_cons]
    by_cases q : n = f
    · have h : (n == f) = true := beq_iff_eq.mpr q
      refine ⟨y :: w, ?_, ?_, ?_⟩
      · unfold putF setN
        rw [if_pos q, h]
        rfl
      · unfold setN setV
        rw [h]
        simpa using l
      · unfold setV
        rw [h]
        exact .cons ry r2
    · have h : (n == f) = false := beq_eq_false_iff_ne.mpr q
      obtain ⟨us, h1, h2, h3⟩ := set_at (ns := ns) (vs := vs) (ws := w) ry (by simpa using l) r2
      refine ⟨v :: us, ?_, ?_, ?_⟩
      · conv => lhs; unfold putF
        unfold setN
        rw [if_neg q, h, h1]
        rfl
      · unfold setN setV
        rw [h]
        simpa using h2
      · unfold setV
        rw [h]
        exact .cons r1 h3
section
variable {X : Cx} {P : Pm} {e o a b : Expr} {es : List Expr} {f x m : Str} {pos pos' p apos tpos : Pos} {w wo : WE} {wl : WA} {k n c : Nat} {S : DSp}
/-- the classes of cs know no f -/
def FC (K : PySem.W.Frag) (T : Th) (f : Str) (cs : List Nat) : Prop := ∀ c ∈ cs, Cls K (T.cm c) ∧ NoAttr K (T.cm c) f
theorem fc_nil {K : PySem.W.Frag} {T : Th} : FC K T f [] := fun _ h => by cases h
theorem fc_cons {K : PySem.W.Frag} {T : Th} {cs : List Nat} (h : Cls K (T.cm c)) (h' : NoAttr K (T.cm c) f) (r : FC K T f cs) : FC K T f (c :: cs) := fun d hd => by
  cases hd with
  | head => exact ⟨h, h'⟩
  | tail _ hd => exact r d hd
def wFld (cs : List Nat) (f : Str) (w : WE) : WE := fun G Om Q R => w G Om (fun d O => match insOf O d with
  | some (c, ns, vs) => c ∈ cs ∧ (match lk ns vs f with | some v => Q v O | none => False)
  | none => False) R
theorem de_fld {cs : List Nat} (hC : FC X.K P.T f cs) (h : DB X P e w) (hb : attributeBase e f X.env (eval e X.env) = eval e X.env := by rfl) : DE X P (.Attribute e f pos) (wFld cs f w) := by
  refine ⟨pe_imp (pe_fld h.pe hb) fun σ H Q q => ?_⟩
  obtain ⟨G, W, Q0, R0, S, q, ex, hq⟩ := q
  refine ⟨G, W, _, R0, S, q, ex, fun d O h1 v H1 W1 s1 e1 r => ?_⟩
  subst e1
  split at h1
  · rename_i c ns vs ei
    obtain ⟨hc, h1⟩ := h1
    split at h1
    · rename_i z ez
      obtain ⟨a, dx, ws, e2, ha, l, rs⟩ := ins_at s1.ok r ei
      obtain ⟨y, ey, ry⟩ := lk_at rs ez
      exact ⟨a, P.T.cm c, dx, _, y, e2, ha, (hC c hc).1, (hC c hc).2, ey, hq z _ h1 y H1 W1 s1 rfl ry⟩
    · exact h1.elim
  · exact h1.elim
/-- o.f = e -/
def wSetF (cs : List Nat) (f : Str) (we wo : WE) : WS := fun G Om Po => we G Om (fun d O => wo G O (fun z O' => match z with
  | .ref a => (match O' a with
    | some (.ins c ns vs) => c ∈ cs ∧ ns.length < 1000 ∧ Po.nx G (putO O' a (.ins c (setN ns f) (setV ns vs f d)))
    | _ => False)
  | _ => False) fun x O' => Po.ex x G O') fun x O => Po.ex x G O
theorem ds_setF {cs : List Nat} {value : Expr} (hC : FC X.K P.T f cs) (he : DE X P value w) (ho : DE X P o wo) (hs : swapsWith value (some (.Attribute o f pos')) pos.line X.env = pure false := by rfl) : DS X P (.Assign [.Attribute o f pos'] value pos) (wSetF cs f w wo) := by
  refine ⟨ps_imp (ps_fld ho.pe he.pe hs) fun D σ H ⟨G, W, Po, S, q, h⟩ => ⟨G, W, _, _, S, q, h.exE S, fun d O q' y H1 W1 s1 e1 ry => ?_⟩⟩
  subst e1
  have h1 := h.kp (s1.kp S.ok)
  refine ⟨G, W1, _, _, S.step s1, q', h1.exE (S.step s1), fun z O' q2 v H2 W2 s2 e2 rz => ?_⟩
  subst e2
  cases z <;> try exact q2.elim
  rename_i a
  have q2' : (match W2.Om a with | some (.ins c ns vs) => c ∈ cs ∧ ns.length < 1000 ∧ Po.nx G (putO W2.Om a (.ins c (setN ns f) (setV ns vs f d))) | _ => False) := q2
  split at q2'
  · rename_i c ns vs ea
    obtain ⟨hc, hl, qn⟩ := q2'
    obtain ⟨⟨dx, ws, ha, l, rs⟩, fa⟩ := s2.ok.at_ a _ ea
    obtain ⟨us, e3, l3, r3⟩ := set_at (Rep.kp (s2.kp s1.ok) _ _ ry) l rs
    have Fa : W2.F a := s2.ok.sub a ⟨a, by rw [ea]; simp, fa⟩
    have sm : Step P.T W2 H2 (W2.setO a (.ins c (setN ns f) (setV ns vs f d))) (upd H2 a (.ins (P.T.cm c) dx (putF f y (ns.zip ws)))) :=
      Step.mutS s2.ok ea ⟨dx, us, by rw [upd_same, e3], l3, Reps.kp (Kp.mut Fa) _ _ r3⟩
    refine ⟨a, P.T.cm c, dx, ns.zip ws, (by simpa only [Rep] using rz), ha, (hC c hc).1, (hC c hc).2, ?_, ?_⟩
    · rw [List.length_zip]; omega
    · exact h1.nx _ _ qn _ _ _ ((s2.trans sm).kp s1.ok) ((S.step s1).step (s2.trans sm)) rfl
  · exact q2'.elim
/-- o.m(..) -/
def tMethQ (C : Addr) (m : Str) (sp : Sp) (E : L2.St → XK) (ta : TE) (t : TA) : TE := fun σ H Q => ta σ H fun x H1 => ∃ a dx fs, x = .ref a ∧ H1 a = some (.ins C dx fs) ∧ fs.lookup m = none ∧ t σ H1 fun vs H2 => sp (x :: vs) H2 Q (E σ)
theorem pe_methQ {C g : Addr} {fd : FuncData} {ps : List Str} {sp : Sp} {E : L2.St → XK} {ta : TE} {t : TA} {pl : Sem Bool} (he : PE X o ta) (cl : Cls X.K C) (hm : Meth X.K C m g) (F : FnOk X.prog X.w X.K X.mg X.base (L2.CX X.prog X.w) k g fd ps sp) (hr : Room k X.A) (hb : Binds X.K fd ps [])
    (hx : ∀ σ, PassesAt (L2.CX X.prog X.w) X σ (E σ)) (ha : PA X (e :: es) t) (hst : starEach (e :: es) X.env = (false, eval e X.env) :: starEach es X.env := by rfl) (hpl : (backTo pos (starEach es X.env)).any (·.1) = false := by rfl)
    (ht : eval (.Call (.Attribute o m apos) (e :: es) [] pos) X.env = (do
      let ov ← eval o X.env
      standAt apos.atName
      let (f, first) ← holding [ov] (getMethod ov m pl)
      callWith pos f first (backTo pos (starEach (e :: es) X.env)) (backToKw pos (keywordEach [] X.env))) := by rfl) : PE X (.Call (.Attribute o m apos) (e :: es) [] pos) (tMethQ C m sp E ta t) := by
  refine ⟨fun pins s σ H Q I h => PySem.W.methodCall_KW (pl := pl) (thn (he.run pins s σ H _ I h) fun u s1 ⟨x, H1, I1, rx, a, dx, fs, ex, ea, l, q⟩ => ?_) ht⟩
  subst ex
  obtain rfl : u = Value.ref a := rx
  refine getmeth_ok I1 ea cl hm l (PySem.W.callWith_K (first := [.ref a]) (h₀ := X.base) I.ok.mod.kin hm.kp (thn (ha.run pos pins s1 σ H1 _ I1 q) fun us s2 ⟨vs, H2, I2, r, q2⟩ => ⟨I2.kIn, ?_⟩) hst hpl)
  exact run_fnS (us := .ref a :: us) (vs := .ref a :: vs) F hr hb (hx σ) I2 (.cons rfl r) q2
theorem pe_methQ0 {C g : Addr} {fd : FuncData} {ps : List Str} {sp : Sp} {E : L2.St → XK} {ta : TE} {pl : Sem Bool} (he : PE X o ta) (cl : Cls X.K C) (hm : Meth X.K C m g) (F : FnOk X.prog X.w X.K X.mg X.base (L2.CX X.prog X.w) k g fd ps sp) (hr : Room k X.A) (hb : Binds X.K fd ps [])
    (hx : ∀ σ, PassesAt (L2.CX X.prog X.w) X σ (E σ))
    (ht : eval (.Call (.Attribute o m apos) [] [] pos) X.env = (do
      let ov ← eval o X.env
      standAt apos.atName
      let (f, first) ← holding [ov] (getMethod ov m pl)
      callWith pos f first (backTo pos (starEach [] X.env)) (backToKw pos (keywordEach [] X.env))) := by rfl) : PE X (.Call (.Attribute o m apos) [] [] pos) (tMethQ C m sp E ta tNil) := by
  refine ⟨fun pins s σ H Q I h => PySem.W.methodCall_KW (pl := pl) (thn (he.run pins s σ H _ I h) fun u s1 ⟨x, H1, I1, rx, a, dx, fs, ex, ea, l, q⟩ => ?_) ht⟩
  subst ex
  obtain rfl : u = Value.ref a := rx
  exact getmeth_ok I1 ea cl hm l (PySem.W.callWith_K0 (first := [.ref a]) I1.kIn hm.kp (run_fnS (us := [.ref a]) (vs := [.ref a]) F hr hb (hx σ) I1 (.cons rfl .nil) q))
/-- the class's method m is a def of n parameters that keeps S -/
structure ClM (PR : Program) (w : World) (K : PySem.W.Frag) (mg : Str → Option Value) (base : Heap) (T : Th) (k : Nat) (c : Nat) (m : Str) (n : Nat) (S : DSp) : Prop where
  ex : ∃ f fd ps, FnOk PR w K mg base (L2.CX PR w) k f fd ps (toSp T n S) ∧ Cls K (T.cm c) ∧ Meth K (T.cm c) m f ∧ Binds K fd ps []
structure ClI (PR : Program) (w : World) (K : PySem.W.Frag) (mg : Str → Option Value) (base : Heap) (T : Th) (k : Nat) (c : Nat) (x : Str) (n : Nat) (S : DSp) : Prop where
  ex : ∃ f fd ps, FnOk PR w K mg base (L2.CX PR w) k f fd ps (toSp T n S) ∧ mg x = some (.ref (T.cm c)) ∧ Mk K (T.cm c) f ∧ Binds K fd ps []
def wMeth (c : Nat) (m : Str) (n : Nat) (S : DSp) (wo : WE) (wa : WA) : WE := fun G Om Q R => wo G Om (fun d O => (match insOf O d with
  | some (c', ns, vs) => c' = c ∧ lk ns vs m = none
  | none => False) ∧ wa G O (fun ds O' => (d :: ds).length = n ∧ S (d :: ds) O' Q R) R) R
theorem da0 : ∀ σ H Q, tA P waNil σ H Q → tNil σ H Q := fun _ H _ ⟨G, W, Q0, R0, S0, q, ex, hq⟩ => hq [] _ q [] H W (Step.refl S0.ok) rfl .nil
theorem meth_imp {ta : TA} (i : ∀ σ H Q, tA P wl σ H Q → ta σ H Q) : ∀ σ H Q, tE P (wMeth c m n S wo wl) σ H Q → tMethQ (P.T.cm c) m (toSp P.T n S) (L2.WE P.W) (tE P wo) ta σ H Q := fun σ H Q q => by
  obtain ⟨G, W, Q0, R0, S0, q, ex, hq⟩ := q
  refine ⟨G, W, _, R0, S0, q, ex, fun d O h1 v H1 W1 s1 e1 r => ?_⟩
  subst e1
  obtain ⟨h1, h2⟩ := h1
  split at h1
  · rename_i c' ns vs ei
    obtain ⟨rfl, hl⟩ := h1
    obtain ⟨a, dx, ws, e2, ha, l, rs⟩ := ins_at s1.ok (r.t s1.ok.sub) ei
    refine ⟨a, dx, _, e2, ha, lk_no l rs hl, i _ _ _ ⟨G, W1, _, R0, S0.step s1, h2, ex.step s1, fun ds O' h3 us H2 W2 s2 e3 r2 => ?_⟩⟩
    subst e3
    exact sp_of rfl S0.ok (s1.trans s2) h3.1 (.cons (Rep.kp (s2.kp s1.ok) _ _ r) r2) h3.2 ex hq
  · exact h1.elim
theorem de_meth {pl : Sem Bool} (cl : ClM X.prog X.w X.K X.mg X.base P.T k c m n S) (hr : Room k X.A) (tk : Takes X P.W) (he : DE X P o wo) (ha : DA X P (e :: es) wl)
    (hst : starEach (e :: es) X.env = (false, eval e X.env) :: starEach es X.env := by rfl) (hpl : (backTo pos (starEach es X.env)).any (·.1) = false := by rfl)
    (ht : eval (.Call (.Attribute o m apos) (e :: es) [] pos) X.env = (do
      let ov ← eval o X.env
      standAt apos.atName
      let (f, first) ← holding [ov] (getMethod ov m pl)
      callWith pos f first (backTo pos (starEach (e :: es) X.env)) (backToKw pos (keywordEach [] X.env))) := by rfl) : DE X P (.Call (.Attribute o m apos) (e :: es) [] pos) (wMeth c m n S wo wl) :=
  let ⟨_, _, _, F, h1, h2, hb⟩ := cl.ex
  ⟨pe_imp (pe_methQ he.pe h1 h2 F hr hb (fun σ => passAt tk σ) ha.pa hst hpl ht) (meth_imp fun _ _ _ z => z)⟩
theorem de_meth0 {pl : Sem Bool} (cl : ClM X.prog X.w X.K X.mg X.base P.T k c m n S) (hr : Room k X.A) (tk : Takes X P.W) (he : DE X P o wo)
    (ht : eval (.Call (.Attribute o m apos) [] [] pos) X.env = (do
      let ov ← eval o X.env
      standAt apos.atName
      let (f, first) ← holding [ov] (getMethod ov m pl)
      callWith pos f first (backTo pos (starEach [] X.env)) (backToKw pos (keywordEach [] X.env))) := by rfl) : DE X P (.Call (.Attribute o m apos) [] [] pos) (wMeth c m n S wo waNil) :=
  let ⟨_, _, _, F, h1, h2, hb⟩ := cl.ex
  ⟨pe_imp (pe_methQ0 he.pe h1 h2 F hr hb (fun σ => passAt tk σ) ht) (meth_imp da0)⟩
/-- C(..) -/
def tMakeQ (C : Addr) (sp : Sp) (E : L2.St → XK) (t : TA) : TE := fun σ H Q => t σ H fun vs H1 => ∀ x dx, H1 x = none → H1 dx = none → dx ≠ x → sp (.ref x :: vs) (upd (upd H1 dx (.own x)) x (.ins C dx [])) (fun v H2 => v = .non ∧ Q (.ref x) H2) (E σ)
theorem run_makeQ {C g : Addr} {fd : FuncData} {ps : List Str} {sp : Sp} {E : XK} {pins : List (Addr × Obj)} {σ : L2.St} {H : Hp} {s : Shared} {Q : VK} {us : List Value} {vs : List V} (M : Mk X.K C g) (F : FnOk X.prog X.w X.K X.mg X.base (L2.CX X.prog X.w) k g fd ps sp) (hr : Room (k + 1) X.A) (hb : Binds X.K fd ps [])
    (hx : PassesAt (L2.CX X.prog X.w) X σ E) (I : Inv X pins σ H s) (r : Vals vs us) (h : ∀ x dx, H x = none → H dx = none → dx ≠ x → sp (.ref x :: vs) (upd (upd H dx (.own x)) x (.ins C dx [])) (fun v H2 => v = .non ∧ Q (.ref x) H2) E) :
    wpAny (model X.prog X.w) X.A (call (.ref C) us) (EP X pins σ Q) X.xe s := by
  have I2 := Inv.made (C := C) I
  have hq := h _ _ (I.hok.fresh (Nat.le_succ s.heap.objs.size)) (I.hok.fresh (Nat.le_refl _)) (Nat.ne_of_lt (Nat.lt_succ_self _))
  have r2 : Vals (V.ref (s.heap.objs.size + 1) :: vs) (Value.ref (s.heap.objs.size + 1) :: us) := .cons rfl r
  have hl : (Value.ref (s.heap.objs.size + 1) :: us ++ []).length = ps.length := by
    rw [List.append_nil, ← F.len _ _ _ _ hq, r2.length]
  have bb := hb _ (Value.ref (s.heap.objs.size + 1) :: us) I2.kIn hl
  rw [List.append_nil] at bb
  refine wpAny_call (make_map (f := g) I.kIn M.makes M.init (beq_iff_eq.mp M.fn) (codeAny_mono (F.run _ X.stack _ _ _ _ _ _ E (hr.make C us []) (I2.env0.make C us []) bb r2 hq) fun rr s' hq' => ?_))
  cases rr with
  | error er => exact hx pins _ _ er s' I2 hq'
  | ok fl =>
    cases fl with
    | ret u =>
      obtain ⟨v, H', I3, rv, ev, q3⟩ := I2.after hq'
      subst ev
      exact ⟨rv, ⟨V.ref (s.heap.objs.size + 1), H', I3, rfl, q3⟩⟩
    | next => exact False.elim hq'
    | brk => exact False.elim hq'
    | cont => exact False.elim hq'
theorem pe_makeQ {C g : Addr} {fd : FuncData} {ps : List Str} {sp : Sp} {E : L2.St → XK} {t : TA} (M : Mk X.K C g) (F : FnOk X.prog X.w X.K X.mg X.base (L2.CX X.prog X.w) k g fd ps sp) (hr : Room (k + 1) X.A) (hg : Gl X x) (hm : X.mg x = some (.ref C)) (hb : Binds X.K fd ps [])
    (hx : ∀ σ, PassesAt (L2.CX X.prog X.w) X σ (E σ)) (ha : PA X (e :: es) t) (hdb : (x == ("__debug__" : Str)) = false := by decide) (he : starEach (e :: es) X.env = (false, eval e X.env) :: starEach es X.env := by rfl) (hpl : (backTo pos (starEach es X.env)).any (·.1) = false := by rfl) :
    PE X (.Call (.Name x p) (e :: es) [] pos) (tMakeQ C sp E t) :=
  ⟨fun pins s σ H Q I h => wpAny_Call_Name_kw (ld_glob I hg hm (PySem.W.callWith_K (h₀ := X.base) I.ok.mod.kin M.kp (thn (ha.run pos pins s σ H _ I h) fun us s1 ⟨vs, H1, I1, r, q⟩ => ⟨I1.kIn, run_makeQ M F hr hb (hx σ) I1 r q⟩) he hpl) hdb)⟩
theorem pe_makeQ0 {C g : Addr} {fd : FuncData} {ps : List Str} {sp : Sp} {E : L2.St → XK} (M : Mk X.K C g) (F : FnOk X.prog X.w X.K X.mg X.base (L2.CX X.prog X.w) k g fd ps sp) (hr : Room (k + 1) X.A) (hg : Gl X x) (hm : X.mg x = some (.ref C)) (hb : Binds X.K fd ps [])
    (hx : ∀ σ, PassesAt (L2.CX X.prog X.w) X σ (E σ)) (hdb : (x == ("__debug__" : Str)) = false := by decide) : PE X (.Call (.Name x p) [] [] pos) (tMakeQ C sp E tNil) :=
  ⟨fun pins s σ H Q I h => wpAny_Call_Name_kw (ld_glob I hg hm (PySem.W.callWith_K0 I.kIn M.kp (run_makeQ (us := []) M F hr hb (hx σ) I .nil h)) hdb)⟩
/-- .. shared from now on -/
def wMake (c n : Nat) (S : DSp) (wa : WA) : WE := fun G Om Q R => wa G Om (fun ds O => ds.length + 1 = n ∧ ∀ a, O a = none → S (.ref a :: ds) (putO O a (.ins c [] [])) (fun d O' => d = .non ∧ Q (.ref a) O') R) R
/-- .. never changed again -/
def wMakeF (c n : Nat) (S : DSp) (wa : WA) : WE := fun G Om Q R => wa G Om (fun ds O => ds.length + 1 = n ∧ ∀ a, O a = none → S (.ref a :: ds) (putO O a (.ins c [] [])) (fun d O' => d = .non ∧ ∃ ns vs, O' = putO O a (.ins c ns vs) ∧ Q (.ins c ns vs) O) R) R
theorem make_st {T : Th} {W1 : Wd} {H1 : Hp} {y dx : Addr} (ok : WOk T W1 H1) (h1 : H1 y = none) (h2 : H1 dx = none) (ne : dx ≠ y) :
    Step T W1 H1 (W1.addS y (.ins c [] [])) (upd (upd H1 dx (.own y)) y (.ins (T.cm c) dx [])) := by
  have s1 : Step T W1 H1 W1 (upd H1 dx (.own y)) := Step.new1 ok h2
  refine s1.trans (Step.newS s1.ok (by rw [upd_ne ne.symm]; exact h1) ⟨dx, [], by rw [upd_same]; rfl, rfl, .nil⟩)
theorem make_imp {ta : TA} (i : ∀ σ H Q, tA P wl σ H Q → ta σ H Q) : ∀ σ H Q, tE P (wMake c n S wl) σ H Q → tMakeQ (P.T.cm c) (toSp P.T n S) (L2.WE P.W) ta σ H Q := fun σ H Q q => by
  obtain ⟨G, W, Q0, R0, S0, q, ex, hq⟩ := q
  refine i _ _ _ ⟨G, W, _, R0, S0, q, ex, fun ds O h1 vs H1 W1 s1 e1 r y dx hy hd ne => ?_⟩
  subst e1
  obtain ⟨hn, h1⟩ := h1
  have s2 := make_st (c := c) s1.ok hy hd ne
  have s3 := s1.trans s2
  refine sp_of rfl S0.ok s3 (ds := .ref y :: ds) (vs := .ref y :: vs) (by simpa using hn) (.cons (by simp [Rep]) (Reps.kp (s2.kp s1.ok) _ _ r)) (h1 y (om_none s1.ok hy)) ex fun d O' q2 v H' W' s' e' r' => ?_
  obtain ⟨rfl, q2⟩ := q2
  exact ⟨by simpa [Rep] using r', hq _ _ q2 _ H' W' s' e' (by simp [Rep])⟩
theorem makeF_imp {ta : TA} (i : ∀ σ H Q, tA P wl σ H Q → ta σ H Q) : ∀ σ H Q, tE P (wMakeF c n S wl) σ H Q → tMakeQ (P.T.cm c) (toSp P.T n S) (L2.WE P.W) ta σ H Q := fun σ H Q q => by
  obtain ⟨G, W, Q0, R0, S0, q, ex, hq⟩ := q
  refine i _ _ _ ⟨G, W, _, R0, S0, q, ex, fun ds O h1 vs H1 W1 s1 e1 r y dx hy hd ne => ?_⟩
  subst e1
  obtain ⟨hn, h1⟩ := h1
  have s2 := make_st (c := c) s1.ok hy hd ne
  have s3 := s1.trans s2
  have ny := om_none s1.ok hy
  refine sp_of rfl S0.ok s3 (ds := .ref y :: ds) (vs := .ref y :: vs) (by simpa using hn) (.cons (by simp [Rep]) (Reps.kp (s2.kp s1.ok) _ _ r)) (h1 y ny) ex fun d O' q2 v H' W' s' e' r' => ?_
  obtain ⟨rfl, ns, us, e4, q2⟩ := q2
  have ea : W'.Om y = some (.ins c ns us) := by rw [e', e4]; exact putO_same
  obtain ⟨⟨dx', ws, ha, l, rs⟩, fy⟩ := s'.ok.at_ y _ ea
  have s5 : Step P.T W H (W'.delS y) H' := s'.frzS S0.ok (s1.back hy) ea
  refine ⟨by simpa [Rep] using r', hq _ _ q2 _ H' (W'.delS y) s5 (show delO W'.Om y = W1.Om from by rw [e', e4]; exact delO_put ny) ?_⟩
  simp only [Rep]
  exact ⟨y, dx', ws, rfl, ha, fun z => z.2 rfl, l, Reps.kp (Kp.less fun b h => h.1) _ _ rs⟩
theorem de_make (cl : ClI X.prog X.w X.K X.mg X.base P.T k c x n S) (hr : Room (k + 1) X.A) (tk : Takes X P.W) (ha : DA X P (e :: es) wl) (hg : Gl X x := by rfl) (hdb : (x == ("__debug__" : Str)) = false := by decide)
    (he : starEach (e :: es) X.env = (false, eval e X.env) :: starEach es X.env := by rfl) (hpl : (backTo pos (starEach es X.env)).any (·.1) = false := by rfl) : DE X P (.Call (.Name x p) (e :: es) [] pos) (wMake c n S wl) :=
  let ⟨_, _, _, F, h1, h2, hb⟩ := cl.ex
  ⟨pe_imp (pe_makeQ h2 F hr hg h1 hb (fun σ => passAt tk σ) ha.pa hdb he hpl) (make_imp fun _ _ _ z => z)⟩
theorem de_makeF (cl : ClI X.prog X.w X.K X.mg X.base P.T k c x n S) (hr : Room (k + 1) X.A) (tk : Takes X P.W) (ha : DA X P (e :: es) wl) (hg : Gl X x := by rfl) (hdb : (x == ("__debug__" : Str)) = false := by decide)
    (he : starEach (e :: es) X.env = (false, eval e X.env) :: starEach es X.env := by rfl) (hpl : (backTo pos (starEach es X.env)).any (·.1) = false := by rfl) : DE X P (.Call (.Name x p) (e :: es) [] pos) (wMakeF c n S wl) :=
  let ⟨_, _, _, F, h1, h2, hb⟩ := cl.ex
  ⟨pe_imp (pe_makeQ h2 F hr hg h1 hb (fun σ => passAt tk σ) ha.pa hdb he hpl) (makeF_imp fun _ _ _ z => z)⟩
theorem de_make0 (cl : ClI X.prog X.w X.K X.mg X.base P.T k c x n S) (hr : Room (k + 1) X.A) (tk : Takes X P.W) (hg : Gl X x := by rfl) (hdb : (x == ("__debug__" : Str)) = false := by decide) : DE X P (.Call (.Name x p) [] [] pos) (wMake c n S waNil) :=
  let ⟨_, _, _, F, h1, h2, hb⟩ := cl.ex
  ⟨pe_imp (pe_makeQ0 h2 F hr hg h1 hb (fun σ => passAt tk σ) hdb) (make_imp da0)⟩
end
end N

set_option Elab.async false
set_option linter.all false
set_option maxRecDepth 100000
set_option maxHeartbeats 0
/-! NE2: enumerate(tuple), at the level below -/
namespace N
open PySem PySem.Spec PyProof.Rows L2 RZ
section
variable {prog : Program} {w : World} {A : Around} {E : Value → Shared → Prop} {s : Shared}
theorem meets_enumT (l : Addr) (items : Array Value) :
    Meets (Builtin.«enumerate.__new__» ⟨[.type "enumerate", .ref l], []⟩) (fun _ R s => s.heap.IsTuple l items ∧
      R (.ok (.ret (.ref (s.heap.push { cls := .type "tuple_iterator", data := .fields #[.ref l, .int 0 0] }).objs.size)))
        { s with heap := (s.heap.push { cls := .type "tuple_iterator", data := .fields #[.ref l, .int 0 0] }).push { cls := .type "enumerate", data := .fields #[.none, .bool false, .ref s.heap.objs.size, rawInt 0, .none, .none] } }) :=
  .of_wp fun prog w A R s h => by
    obtain ⟨hp, g, d, tk, os⟩ := s; obtain ⟨hl, h⟩ := h
    have hsub := sub_enumerate
    have hL : Heap.IsTuple (Shared.heap ⟨hp, g, d, tk, os⟩) l items := hl
    obtain ⟨⟨c0, dct, dt, sl⟩, hl0, hc0, n, hd0⟩ := id hl
    replace hc0 : c0 = .type "tuple" := hc0
    replace hd0 : dt = .seq items n := hd0
    subst hc0 hd0
    wp_walk using AutoSeq1.wpAny_loadPart' hl0
    refine wpAny_stack_any fun st => wpAny_pure ?_
    split
    · rename_i c _ _ _ _ _
      cases (c == Value.type "enumerate")
      · wp_walk using AutoSeq1.wpAny_loadPart' hl0, wpAny_pyIter_tuple hL
        exact ⟨_, rfl, h⟩
      · wp_walk using AutoSeq1.wpAny_loadPart' hl0, wpAny_pyIter_tuple hL
        exact ⟨_, rfl, h⟩
    · wp_walk using AutoSeq1.wpAny_loadPart' hl0, wpAny_pyIter_tuple hL
      exact ⟨_, rfl, h⟩
theorem call_enumT {l : Addr} {items : Array Value} {Q : Value → Shared → Prop} (hL : s.heap.IsTuple l items)
    (h : ∀ h', IsEnum h' (s.heap.objs.size + 1) s.heap.objs.size 0 .none → h'.IsTupleIter s.heap.objs.size l 0 → (∀ b o, s.heap.get? b = some o → h'.get? b = some o) → Q (.ref (s.heap.objs.size + 1)) { s with heap := h' }) :
    wpAny (model prog w) A (call (.type "enumerate") [.ref l]) Q E s := by
  refine callType_new F.called_enumerate (by decide) (F.typeCall_enumerate_1 _) (F.newCall_enumerate_1 _) (fun obj => F.args_object_init_2 obj _) F.entry_enumerate_new (meets_enumT l items) ⟨hL, ?_⟩
  have hz : (s.heap.push { cls := .type "tuple_iterator", data := .fields #[.ref l, .int 0 0] }).objs.size = s.heap.objs.size + 1 := Heap.size_push ..
  show _ ∧ _
  rw [hz]
  have he : IsEnum ((s.heap.push { cls := .type "tuple_iterator", data := .fields #[.ref l, .int 0 0] }).push
      { cls := .type "enumerate", data := .fields #[.none, .bool false, .ref s.heap.objs.size, rawInt 0, .none, .none] }) (s.heap.objs.size + 1) s.heap.objs.size 0 .none := by
    have q := Heap.get?_push_size (s.heap.push { cls := .type "tuple_iterator", data := .fields #[.ref l, .int 0 0] }) (o := { cls := .type "enumerate", data := .fields #[.none, .bool false, .ref s.heap.objs.size, rawInt 0, .none, .none] }) rfl
    rw [hz] at q
    exact q
  exact ⟨⟨_, he, rfl⟩, h _ he ⟨_, Heap.get?_push_of_some _ (Heap.get?_push_size _ rfl), rfl, rfl⟩ fun b o x => Heap.get?_push_of_some _ (Heap.get?_push_of_some _ x)⟩
theorem drawsT {it l : Addr} {items : Array Value} (hh : A.handled = none) (hne : it ≠ l) : Draws prog w A.in1 it [it, l] items.size (fun i x => items[i]? = some x) (fun i h => h.IsTupleIter it l i ∧ h.IsTuple l items) where
  live := fun i h st => let ⟨o, q, _⟩ := st.1; ⟨o, q⟩
  frame := fun i h h' st k => ⟨st.1.at fun o q => k it (by simp) o q, st.2.at fun o q => k l (by simp) o q⟩
  item := fun i s Q E hi st hQ => nextOf_tuple_item st.1 st.2 (x := items[i]) (by simp [hi]) fun h' a b => hQ items[i] h' s.toks (by simp [hi]) ⟨a, st.2.at fun o q => (b.2 l hne.symm).trans q⟩ b
  done := fun s Q E st hE => nextOf_tuple_end hh st.1 st.2 (by simp) hE
end
/-- enumerate of the tuple at a -/
def IteT (K : PySem.W.Frag) (a : Addr) : It :=
  ⟨fun i H => ∃ (xs : List V) (x : V), SqT K H a xs ∧ xs[i]? = some x, fun i H v H' => ∃ T x, v = .ref T ∧ H T = none ∧ H' = upd H T (.tup [.int (i : Nat), x]) ∧ ∀ xs, SqT K H a xs → xs[i]? = some x, fun i H => ∃ xs : List V, SqT K H a xs ∧ xs.length = i⟩
theorem turn_enumT {P : Program} {w : World} {K : PySem.W.Frag} {elts : List Expr} {kk : Nat} {tpos : Pos} (a e it : Addr) :
    Turn P w K (.Tuple elts kk tpos) (IteT K a) [e, it] e (fun i h => (∃ old, IsEnum h e it ((i : Nat) : Int) old) ∧ h.IsTupleIter it a i ∧ e ≠ it) where
  mem := by simp
  obj := fun i h st b hb => by
    obtain ⟨⟨old, he⟩, ⟨o, ho, hc, hd⟩, _⟩ := st
    have e' : b = e ∨ b = it := by simpa using hb
    rcases e' with z | z
    · rw [z]; exact ⟨_, he, fun v q => nomatch q⟩
    · rw [z]; exact ⟨o, ho, fun v q => by rw [hd] at q; cases q⟩
  keep := fun i h h' st k => let ⟨⟨old, he⟩, hi, hne⟩ := st; ⟨⟨old, k e (by simp) _ he⟩, hi.at fun o q => k it (by simp) o q, hne⟩
  item := by
    intro X hP hw hK hc i pins s σ H E I hf st hg
    subst hP hw hK
    obtain ⟨⟨old, he⟩, hit, hne⟩ := st
    obtain ⟨xs, x, hq, hx⟩ := hg
    obtain ⟨its, rv, p, hz⟩ := I.tuple hq
    obtain ⟨u, hu, ru⟩ := rv.get hx
    have hel : e < s.heap.objs.size := Heap.lt_size he
    have hil : it < s.heap.objs.size := by obtain ⟨_, q, _⟩ := hit; exact Heap.lt_size q
    have pT : s.heap.IsTuple a its.toArray := p
    have nea : e ≠ a := fun z => by
      obtain ⟨o, ho, hc, _⟩ := pT
      rw [← z, show s.heap.get? e = some _ from he] at ho
      cases ho
      have hc : Value.type "enumerate" = .type "tuple" := hc
      simp at hc
    have nia : it ≠ a := fun z => by
      obtain ⟨o, ho, hc, _⟩ := pT
      obtain ⟨o', ho', hc', _⟩ := hit
      rw [← z, ho'] at ho
      cases ho
      rw [hc'] at hc
      simp at hc
    have hlt : i < its.toArray.size := by
      have := (List.getElem?_eq_some_iff.mp hu).1
      simpa using this
    refine wpAny_pyNext_enum_itemD (drawsT (A := X.A) (I.ok.hd hc) nia) he ⟨hit, pT⟩ hlt hne (by simp [hne, nea]) fun x' h' tk hx' ho st' hT hsz hk => ?_
    have ex : x' = u := by
      rw [List.getElem?_toArray, hu] at hx'
      exact (Option.some.inj hx').symm
    subst ex
    refine ⟨_, rfl, wpAny_letOwnedTupleGo_enum (s := { s with heap := h', toks := tk + 1 }) ho fun h'' he' sb => ?_⟩
    have hT2 : h''.get? s.heap.objs.size = some { cls := .type "tuple", data := .seq #[.int i tk, x'] } := (sb.2 _ (Nat.ne_of_gt hel)).trans hT
    have new : ObjOk X.prog X.w (upd H s.heap.objs.size (.tup [.int (i : Nat), x])) h'' s.heap.objs.size (.tup [.int (i : Nat), x]) :=
      ⟨by show 2 ≤ sizeLine; decide, [.int i tk, x'], .cons ⟨_, rfl⟩ (.cons ru .nil), ⟨_, hT2, rfl, _, rfl⟩⟩
    have I1 : Inv X pins σ (upd H s.heap.objs.size (.tup [.int (i : Nat), x])) { s with heap := h'', toks := tk + 1 } :=
      I.turnedNew (ch := [e, it]) (fun b ob hb q => (sb.2 b (fun z => hb (by simp [z]))).trans (hk b ob (fun z => hb (by simp [z])) (fun z => hb (by simp [z])) q)) hf (Nat.le_refl _) new
    refine ⟨.ref s.heap.objs.size, _, I1, rfl, ⟨_, x, rfl, I.hok.fresh (Nat.le_refl _), rfl, fun ys hy => by rw [I.tuple_inj hy hq]; exact hx⟩, ⟨⟨x', ?_⟩, st'.1.at fun o q => (sb.2 it (Ne.symm hne)).trans q, hne⟩, fun b hb => ?_⟩
    · have e1 : ((i + 1 : Nat) : Int) = (i : Int) + 1 := by omega
      rw [e1]; exact he'
    · have hb' : b < s.heap.objs.size := by
        have e' : b = e ∨ b = it := by simpa using hb
        rcases e' with z | z
        · rw [z]; exact hel
        · rw [z]; exact hil
      rw [upd_ne (Nat.ne_of_lt hb')]
      exact (hf b hb).1
  done := by
    intro X hP hw hK hc i pins s σ H E I hf st hg
    subst hP hw hK
    obtain ⟨⟨old, he⟩, hit, hne⟩ := st
    obtain ⟨xs, hq, hx⟩ := hg
    obtain ⟨its, rv, p, hz⟩ := I.tuple hq
    have hl := rv.length
    subst hx
    have pT : s.heap.IsTuple a its.toArray := p
    have nia : it ≠ a := fun z => by
      obtain ⟨o, ho, hc, _⟩ := pT
      obtain ⟨o', ho', hc', _⟩ := hit
      rw [← z, ho'] at ho
      cases ho
      rw [hc'] at hc
      simp at hc
    obtain ⟨f0, f1, f2, f3, f4, f5⟩ := hf it (by simp)
    have en : its.toArray.size = xs.length := by simp [hl]
    refine wpAny_pyNext_enum_endD (drawsT (A := X.A) (items := its.toArray) (I.ok.hd hc) nia) he (by rw [en]; exact ⟨hit, pT⟩) fun h' eb => ⟨rfl, I.turned (t' := s.toks) (fun b o hb q => eb b o hb q) f0 f1 f3 f4 f5⟩
  self := fun A i s Q E st h => let ⟨⟨_, he⟩, _⟩ := st; wpAny_pyIter_enum he h
theorem walk_enumT {K : PySem.W.Frag} {a : Addr} {xs : List V} : Walk (IteT K a) xs.length (fun H => SqT K H a xs) (YPair (fun i => some (.int (i : Nat))) (fun i => xs[i]?)) := by
  refine ⟨fun i _ hi q => ⟨xs, xs[i], q, by simp [hi]⟩, fun _ q => ⟨xs, q, rfl⟩, fun i H v H' _ q y => ?_⟩
  obtain ⟨T, x, h1, h2, h3, h4⟩ := y
  exact ⟨T, .int (i : Nat), x, h1, h2, h3, rfl, h4 xs q⟩
/-- enumerate of a list or a tuple -/
def iEnumA (K : PySem.W.Frag) (ta : TA) : TI := fun σ H R => ta σ H fun vs H1 => ∃ a xs, vs = [.ref a] ∧ ((SqL K H1 a xs ∧ R (Ite K a) H1) ∨ (SqT K H1 a xs ∧ R (IteT K a) H1))
theorem pi_enumA {X : Cx} {e : Expr} {ta : TA} {p pos tpos : Pos} {elts : List Expr} {kk : Nat} (hg : Gl X "enumerate") (hm : X.mg "enumerate" = none) (ha : PA X [e] ta) (hs : starEach [e] X.env = [(false, eval e X.env)] := by rfl) :
    PI X (.Tuple elts kk tpos) (.Call (.Name "enumerate" p) [e] [] pos) (iEnumA X.K ta) := by
  refine ⟨fun pins s σ H R I h => ?_⟩
  refine Call_ (ld_blt I hg hm boot_enumerate (PyProof.Rows.callWith_type1 (thn (ha.run pos pins s σ H _ I h) fun us s1 ⟨vs, H1, I1, r1, q1⟩ => ?_) hs rfl))
  obtain ⟨a, xs, ex, q1⟩ := q1
  subst ex
  cases r1 with
  | cons r rr =>
    cases rr
    cases r
    have fresh : ∀ b, b ∈ [s1.heap.objs.size + 1, s1.heap.objs.size] → FpOk X pins H1 b := fun b hb => by
      have e' : b = s1.heap.objs.size + 1 ∨ b = s1.heap.objs.size := by simpa using hb
      have hle : s1.heap.objs.size ≤ b := by
        rcases e' with z | z
        · rw [z]; exact Nat.le_add_right _ _
        · rw [z]; exact Nat.le_refl _
      exact I1.fpOk hle (I1.hok.fresh hle)
    rcases q1 with ⟨hq, q⟩ | ⟨hq, q⟩
    · obtain ⟨its, rv, p', hz⟩ := I1.list hq
      refine call_enumerate_list p'.isList fun h' he hit hsz hk => wpAny_pyIter_enum he ?_
      exact ⟨s1.heap.objs.size + 1, [s1.heap.objs.size + 1, s1.heap.objs.size], _, _, H1, rfl, I1.kept (t' := s1.toks) hk, turn_enum a (s1.heap.objs.size + 1) s1.heap.objs.size, ⟨⟨.none, he⟩, hit, Nat.succ_ne_self _⟩, fresh, q⟩
    · obtain ⟨its, rv, p', hz⟩ := I1.tuple hq
      refine call_enumT (show s1.heap.IsTuple a its.toArray from p') fun h' he hit hk => wpAny_pyIter_enum he ?_
      exact ⟨s1.heap.objs.size + 1, [s1.heap.objs.size + 1, s1.heap.objs.size], _, _, H1, rfl, I1.kept (t' := s1.toks) hk, turn_enumT a (s1.heap.objs.size + 1) s1.heap.objs.size, ⟨⟨.none, he⟩, hit, Nat.succ_ne_self _⟩, fresh, q⟩
end N

set_option Elab.async false
set_option linter.all false
set_option maxRecDepth 100000
set_option maxHeartbeats 0
/-! NE3: x[::-1]; extend by a tuple; enumerate, zip over data; raise, try -/
namespace N
open PySem PySem.Spec PyProof.Rows L2 RZ
section
variable {prog : Program} {w : World} {A : Around} {E : Value → Shared → Prop} {s : Shared}
theorem fmCongr {α β : Type} {f g : α → Option β} : ∀ {l : List α}, (∀ x ∈ l, f x = g x) → l.filterMap f = l.filterMap g
  | [], _ => rfl
  | x :: r, h => by
    rw [List.filterMap_cons, List.filterMap_cons, h x List.mem_cons_self, fmCongr fun y hy => h y (List.mem_cons_of_mem _ hy)]
theorem pick_rev (its : List Value) : ((List.range its.length).filterMap fun (m : Nat) => its.toArray[(((its.length : Int) - 1) + (m : Int) * (-1)).toNat]?) = its.reverse := by
  have e : ((List.range its.length).filterMap fun (m : Nat) => its.toArray[(((its.length : Int) - 1) + (m : Int) * (-1)).toNat]?) = (List.range its.length).filterMap fun (m : Nat) => its.reverse[m]? := by
    refine fmCongr fun m hm => ?_
    have hm := List.mem_range.mp hm
    rw [List.getElem?_toArray, List.getElem?_reverse hm]
    congr 1
    omega
  rw [e]
  have := HT.pick_gen its.reverse.toArray 0 its.length
  simp only [Int.zero_add, Int.mul_one] at this
  have h2 := congrArg Array.toList this
  simp only [List.toList_toArray] at h2
  have e3 : ((List.range its.length).filterMap fun (m : Nat) => its.reverse[m]?) = (List.range its.length).filterMap fun (m : Nat) => its.reverse.toArray[((0 : Nat) + (m : Int)).toNat]? := by
    refine fmCongr fun m hm => ?_
    rw [List.getElem?_toArray]
    congr 1
    omega
  rw [e3]
  have e4 := h2
  simp only [List.drop_zero] at e4
  refine Eq.trans ?_ (e4.trans ?_)
  · refine fmCongr fun m hm => ?_
    congr 1
    try omega
  · rw [← List.length_reverse, List.take_length]
theorem slicePick_rev (its : List Value) : slicePick its.toArray none none (some (-1)) = its.reverse.toArray := by
  unfold slicePick sliceBounds sliceRange
  simp only [Option.getD_some, show ¬ ((-1 : Int) > 0) by decide, if_false, List.size_toArray]
  congr 1
  by_cases h : its = []
  · subst h; rfl
  · have hp : 0 < its.length := List.length_pos_iff.mpr h
    have h1 : ((its.length : Int) - 1 > -1) := by omega
    rw [if_pos h1]
    have h2 : (((its.length : Int) - 1 - -1 - -1 - 1) / -(-1)).toNat = its.length := by
      rw [show -(-1 : Int) = 1 by decide, Int.ediv_one]
      omega
    rw [h2, List.filterMap_map, ← pick_rev its]
    refine fmCongr fun m hm => ?_
    show its.toArray[(((its.length : Int) - 1) + (-1) * (m : Int)).toNat]? = its.toArray[(((its.length : Int) - 1) + (m : Int) * (-1)).toNat]?
    rw [Int.mul_comm]
theorem sliceApplied_rev {sl : Addr} {t : Tok} {n : Nat} {Q : Int × Int × Nat → Shared → Prop} (hs : s.heap.IsSliceOf sl .none .none (.int (-1) t)) (h : Q ((n : Int) - 1, -1, n) s) : wpAny (model prog w) A (Builtin.Slice.sliceApplied (.ref sl) (pure (n : Int))) Q E s := by
  obtain ⟨os, hos, hcs, hds⟩ := id hs
  unfold Builtin.Slice.sliceApplied Builtin.Slice.sliceFields
  refine wpAny_bind (wpAny_bind (wpAny_field hos hds (x := .none) rfl (wpAny_bind (wpAny_field hos hds (x := .none) rfl (wpAny_bind (wpAny_field hos hds (x := .int (-1) t) rfl (wpAny_pure ?_)))))))
  refine wpAny_bind (PyProof.Rows.slicePart_int ?_)
  show wpAny _ _ (if ((-1 : Int) == 0) = true then _ else _) _ _ s
  rw [if_neg (by decide)]
  refine wpAny_bind (HT.slicePart_ IsPart.none (wpAny_bind (HT.slicePart_ IsPart.none (wpAny_bind (wpAny_pure ?_)))))
  show wpAny _ _ (match Builtin.Slice.sliceAdjust none none (-1) (n : Int) with | (lo, hi) => pure (lo, (-1 : Int), Builtin.Slice.slicePlaces lo hi (-1))) _ _ s
  have e1 : Builtin.Slice.sliceAdjust none none (-1) (n : Int) = ((n : Int) - 1, -1) := by unfold Builtin.Slice.sliceAdjust; rfl
  have e2 : Builtin.Slice.slicePlaces ((n : Int) - 1) (-1) (-1) = n := by
    unfold Builtin.Slice.slicePlaces
    simp
    try split <;> omega
  rw [e1]
  show wpAny _ _ (pure ((n : Int) - 1, (-1 : Int), Builtin.Slice.slicePlaces ((n : Int) - 1) (-1) (-1))) _ _ s
  rw [e2]
  exact wpAny_pure h
theorem getItem_tuple_rev {t sl : Addr} {its : List Value} {tk : Tok} {Q : Value → Shared → Prop} (ht : IsTup s.heap t its.toArray) (hs : s.heap.IsSliceOf sl .none .none (.int (-1) tk))
    (h : Q (.ref s.heap.objs.size) { s with heap := s.heap.push { cls := .type "tuple", data := .seq its.reverse.toArray } }) (hsz : its.length ≤ sizeLine) : wpAny (model prog w) A (getItem (.ref t) (.ref sl)) Q E s := by
  have htake : sizeOk (.seq its.reverse.toArray) := by
    show its.reverse.toArray.size ≤ sizeLine
    simpa using hsz
  obtain ⟨os, hos, hcs, hds⟩ := id hs
  have hTs : s.TypeIs (.ref sl) "slice" := ⟨os, hos, hcs⟩
  unfold getItem
  try with_reducible refine wpAny_holding ?_
  first | refine wpAny_bind (wpAny_pure ?_) | skip
  refine wpAny_bind (wpAny_sequenceKey ht.typeIs (by decide) ?_)
  refine wpAny_bind (wpAny_callSpecial?_slot (name := Str.ofString "__getitem__") ht.typeIs PyProof.Rows.slot_tuple_getitem
    (wpAny_call_entry PyProof.Rows.slot_tuple_getitem ht.typeIs PyProof.Rows.entry_tuple_getitem ?_ (PyProof.Rows.args_tuple_getitem _ _)))
  show wpAny _ _ (Builtin.Tuple.tupleItemsOf (.ref t) >>= _) _ _ s
  refine wpAny_bind (PyProof.Rows.tupleItemsOf_ ht ?_)
  refine wpAny_bind (wpAny_typeOf hTs ?_)
  rw [if_pos (by decide)]
  refine wpAny_bind (sliceApplied_rev hs ?_)
  have hz : its.toArray.size = its.length := List.size_toArray ..
  have hno : ¬ ((((its.toArray.size : Int) - 1) == 0 && (-1 : Int) == 1 && its.toArray.size == its.toArray.size) = true) := by simp
  show wpAny _ _ (if (((its.toArray.size : Int) - 1) == 0 && (-1 : Int) == 1 && its.toArray.size == its.toArray.size) = true then _ else _) _ _ s
  rw [if_neg hno, hz, pick_rev]
  first
    | exact wpAny_bind (m := Builtin.Tuple.tupleExact _) (wpAny_newObj_type (wpAny_pure ⟨_, rfl, wpAny_pure h⟩) htake)
    | exact wpAny_bind (m := Builtin.Tuple.tupleExact _) (wpAny_newObj_type (wpAny_bind (wpAny_pure (wpAny_pure ⟨_, rfl, wpAny_pure h⟩))) htake)
    | exact wpAny_bind (wpAny_bind (m := Builtin.Tuple.tupleExact _) (wpAny_newObj_type (wpAny_pure (wpAny_pure ⟨_, rfl, wpAny_pure h⟩)) htake))
    | exact wpAny_bind (wpAny_bind (m := Builtin.Tuple.tupleExact _) (wpAny_newObj_type (wpAny_pure ⟨_, rfl, wpAny_pure h⟩) htake))
end
section
variable {X : Cx} {P : Pm} {e : Expr} {w : WE} {pos p2 : Pos}
theorem valsRev {xs : List V} {us : List Value} (h : Vals xs us) : Vals xs.reverse us.reverse := L2.Vals.reverse h
def tRev (K : PySem.W.Frag) (te : TE) : TE := fun σ H Q => te σ H fun x H1 => ∃ a xs, x = .ref a ∧ ((SqL K H1 a xs ∧ ∀ p, H1 p = none → Q (.ref p) (upd H1 p (.lst xs.reverse))) ∨ (SqT K H1 a xs ∧ ∀ p, H1 p = none → Q (.ref p) (upd H1 p (.tup xs.reverse))))
theorem pe_rev {te : TE} {p3 p4 : Pos} {k : Nat} (he : PE X e te) : PE X (.Subscript e (.Slice none none (some (.UnaryOp .USub (.Constant (.int 1) k p3) p4)) p2) pos) (tRev X.K te) := by
  refine ⟨fun pins s σ H Q I h => ?_⟩
  refine Subscript_ (thn (he.run pins s σ H _ I h) fun v s1 ⟨x, H1, I1, r1, a, xs, ex, q1⟩ => ?_)
  subst ex
  obtain rfl : v = Value.ref a := r1
  refine wpAny_Slice ?_
  rw [evalPart_none]
  refine wpAny_pure (wpAny_pure ?_)
  rw [evalPart_some]
  refine thn ((pe_un un_neg pe_int).run pins s1 σ H1 (fun y H2 => y = .int (-1) ∧ H2 = H1) I1 ⟨1, rfl, rfl, rfl⟩) fun vs s3 ⟨y, H3, I3, ry, ey, eH⟩ => ?_
  subst ey eH
  obtain ⟨t, rfl⟩ := ry
  have I4 : Inv X pins σ H3 { s3 with heap := s3.heap.push { cls := .type "slice", data := .fields #[.none, .none, .int (-1) t] } } := I3.kept (t' := s3.toks) fun b ob q => Heap.get?_push_of_some _ q
  have hs := Heap.IsSliceOf.new (h := s3.heap) .none .none (.int (-1) t)
  have go : ∀ {T : String} {id}, typeLookup (.type T) "__getitem__" = pure (some (.builtin id)) → Shared.TypeIs { s3 with heap := s3.heap.push { cls := .type "slice", data := .fields #[.none, .none, .int (-1) t] } } (.ref a) T →
      wpAny (model X.prog X.w) X.A (getItem (.ref a) (.ref s3.heap.objs.size)) (EP X pins σ Q) X.xe { s3 with heap := s3.heap.push { cls := .type "slice", data := .fields #[.none, .none, .int (-1) t] } } →
      wpAny (model X.prog X.w) X.A (subscriptTail e (.Slice none none (some (.UnaryOp .USub (.Constant (.int 1) k p3) p4)) p2) (.ref a) (.ref s3.heap.objs.size)) (EP X pins σ Q) X.xe { s3 with heap := s3.heap.push { cls := .type "slice", data := .fields #[.none, .none, .int (-1) t] } } := fun hT ht hg => tail_any (ops := [.ref a, .ref s3.heap.objs.size]) ht hT hg (by with_unfolding_all rfl)
  rcases q1 with ⟨hx, q⟩ | ⟨hx, q⟩
  · obtain ⟨its, r, ht, hz⟩ := I4.list hx
    have hlen := r.length
    refine go slot_list_getitem.lookup ht.isList.typeIs (wpAny_getItem_list_slice ht.isList hs .none .none (.int (-1) t) (by decide) ?_ (by rw [List.size_toArray] <;> omega))
    rw [slicePick_rev]
    refine ⟨.ref _, _, I4.laid (t' := s3.toks) (o := .lst xs.reverse) (fun b ob q => Heap.get?_push_of_some _ q) (Nat.le_refl _) ?_, rfl, q _ (I4.hok.fresh (Nat.le_refl _))⟩
    exact ⟨by rw [List.length_reverse]; exact hz, _, 0, valsRev r, Heap.get?_push_size _ rfl⟩
  · obtain ⟨its, r, ht, hz⟩ := I4.tuple hx
    have hlen := r.length
    refine go PyProof.Rows.slot_tuple_getitem.lookup ht.typeIs (getItem_tuple_rev ht hs ?_ (by omega))
    refine ⟨.ref _, _, I4.laid (t' := s3.toks) (o := .tup xs.reverse) (fun b ob q => Heap.get?_push_of_some _ q) (Nat.le_refl _) ?_, rfl, q _ (I4.hok.fresh (Nat.le_refl _))⟩
    exact ⟨by rw [List.length_reverse]; exact hz, _, valsRev r, IsTup.new _ _⟩
end
end N

set_option Elab.async false
set_option linter.all false
set_option maxRecDepth 100000
set_option maxHeartbeats 0
/-! NK: over data: x[::-1], extend, enumerate, zip, raise, try -/
namespace N
open PySem PySem.Spec PyProof.Rows L2 RZ
section
variable {X : Cx} {P : Pm} {tg iter e e2 : Expr} {es : List Expr} {w : WE} {wl : WA} {pos p tpos : Pos}
def wRev (w : WE) : WE := fun G Om Q R => w G Om (fun d O => match d with | .lst xs => Q (.lst xs.reverse) O | .tup xs => Q (.tup xs.reverse) O | _ => False) R
theorem Reps.rev {T : Th} {F : Addr → Prop} {H : Hp} : ∀ {ds : List D} {vs : List V}, Reps T F H ds vs → Reps T F H ds.reverse vs.reverse
  | [], vs, h => by simp only [Reps] at h; subst h; exact .nil
  | d :: ds, vs, h => by
    simp only [Reps] at h
    obtain ⟨v, r, e, h1, h2⟩ := h
    subst e
    rw [List.reverse_cons, List.reverse_cons]
    exact (Reps.rev h2).app (.cons h1 .nil)
theorem de_rev {p2 p3 p4 : Pos} {k : Nat} (hK : P.T.K = X.K) (h : DB X P e w) : DE X P (.Subscript e (.Slice none none (some (.UnaryOp .USub (.Constant (.int 1) k p3) p4)) p2) pos) (wRev w) := by
  refine ⟨pe_imp (pe_rev h.pe) fun σ H Q q => ?_⟩
  obtain ⟨G, W, Q0, R0, S, q, ex, hq⟩ := q
  refine ⟨G, W, _, R0, S, q, ex, fun d O h1 v H1 W1 s1 e1 r => ?_⟩
  cases d <;> try exact h1.elim
  · simp only [RepT, Rep] at r
    obtain ⟨a, vs, rfl, ha, r⟩ := r
    refine ⟨a, vs, rfl, .inr ⟨hK ▸ tupAt ha, fun p hp => hq _ O h1 _ _ W1 (s1.trans (Step.new1 s1.ok hp)) e1 ?_⟩⟩
    simp only [Rep]
    exact ⟨p, _, rfl, .inl ⟨upd_same, nF s1.ok hp⟩, Reps.kp ((Step.new1 s1.ok hp).kp s1.ok) _ _ r.rev⟩
  · obtain ⟨a, vs, rfl, ha, n, r⟩ := r
    refine ⟨a, vs, rfl, .inl ⟨.of ha, fun p hp => hq _ O h1 _ _ W1 (s1.trans (Step.new1 s1.ok hp)) e1 ?_⟩⟩
    simp only [Rep]
    exact ⟨p, _, rfl, upd_same, nF s1.ok hp, Reps.kp ((Step.new1 s1.ok hp).kp s1.ok) _ _ r.rev⟩
/-! ### enumerate, zip -/
def enumF : Nat → List D → List D
  | _, [] => []
  | k, d :: r => .tup [.int (k : Int), d] :: enumF (k + 1) r
theorem enumF_len : ∀ (k : Nat) (ds : List D), (enumF k ds).length = ds.length
  | _, [] => rfl
  | k, d :: r => by rw [enumF, List.length_cons, List.length_cons, enumF_len]
theorem enumF_get : ∀ (k : Nat) (ds : List D) (i : Nat), (enumF k ds)[i]? = ds[i]?.map fun d => .tup [.int ((k + i : Nat) : Int), d]
  | _, [], i => by simp [enumF]
  | k, d :: r, 0 => by simp [enumF]
  | k, d :: r, i + 1 => by
    rw [enumF, List.getElem?_cons_succ, List.getElem?_cons_succ, enumF_get]
    congr 2
    funext x
    rw [show k + 1 + i = k + (i + 1) by omega]
def zipF : List D → List D → List D
  | a :: r, b :: r' => .tup [a, b] :: zipF r r'
  | _, _ => []
theorem zipF_len : ∀ xs ys : List D, (zipF xs ys).length = min xs.length ys.length
  | [], ys => by simp [zipF]
  | a :: r, [] => by simp [zipF]
  | a :: r, b :: r' => by rw [zipF, List.length_cons, List.length_cons, List.length_cons, zipF_len]; omega
theorem zipF_get : ∀ (xs ys : List D) (i : Nat) (d : D), (zipF xs ys)[i]? = some d → ∃ a b, xs[i]? = some a ∧ ys[i]? = some b ∧ d = .tup [a, b]
  | [], ys, i, d, h => by simp [zipF] at h
  | a :: r, [], i, d, h => by simp [zipF] at h
  | a :: r, b :: r', 0, d, h => by simp [zipF] at h; exact ⟨a, b, rfl, rfl, h.symm⟩
  | a :: r, b :: r', i + 1, d, h => by rw [zipF, List.getElem?_cons_succ] at h; exact zipF_get r r' i d h
def KpOk (T : Th) (R : Rl) : Prop := ∀ W H W' H', WOk T W H → R W H W' H' → Kp W.F H W'.F H' ∧ WOk T W' H'
theorem kpRF {T : Th} : KpOk T (RF T) := fun _ _ _ _ _ k => k
theorem kpRS {T : Th} : KpOk T (RS T) := fun _ _ _ _ ok k => ⟨Step.kp k ok, Step.ok k⟩
theorem pair_rep {T : Th} {W : Wd} {H H' : Hp} {p : Addr} {a b : D} {x y : V} (ok : WOk T W H) (hp : H p = none) (e : H' = upd H p (.tup [x, y])) (ra : Rep T W.F H a x) (rb : Rep T W.F H b y) : Nw H H' ∧ Rep T W.F H' (.tup [a, b]) (.ref p) := by
  subst e
  refine ⟨ext_upd hp, ?_⟩
  simp only [Rep]
  exact ⟨p, _, rfl, .inl ⟨upd_same, nF ok hp⟩, Reps.kp ((Step.new1 ok hp).kp ok) _ _ (.cons ra (.cons rb .nil))⟩
theorem wk_enum {T : Th} {R : Rl} {W1 : Wd} {H1 : Hp} {J : It} {Gd : Hp → Prop} {ds : List D} {vs : List V} (l : vs.length = ds.length) (wk : Walk J vs.length Gd (YPair (fun i => some (.int (i : Nat))) (fun i => vs[i]?))) (h : ∀ W2 H2, R W1 H1 W2 H2 → Gd H2 ∧ WOk T W2 H2 ∧ Reps T W2.F H2 ds vs) :
    Wk T R W1 H1 (enumF 0 ds) J := by
  refine ⟨Gd, _, (by rw [enumF_len, ← l]; exact wk), fun W2 H2 r => ⟨(h W2 H2 r).1, fun i d e x H3 y => ?_⟩⟩
  obtain ⟨p, x', y', rfl, hp, eH, e1, e2⟩ := y
  rw [enumF_get] at e
  cases q : ds[i]? with
  | none => rw [q] at e; cases e
  | some d' =>
    rw [q] at e
    cases e
    obtain ⟨v, ev, rv⟩ := (h W2 _ r).2.2.get q
    have e2 : vs[i]? = some y' := e2
    rw [e2] at ev
    cases ev
    cases e1
    refine pair_rep (h W2 _ r).2.1 hp eH ?_ rv
    simp [Rep]
theorem wk_zip {T : Th} {R : Rl} {W1 : Wd} {H1 : Hp} {J : It} {Gd : Hp → Prop} {ds es : List D} {vs ws : List V} (l : vs.length = ds.length) (l' : ws.length = es.length) (wk : Walk J (min vs.length ws.length) Gd (YPair (fun i => vs[i]?) (fun i => ws[i]?)))
    (h : ∀ W2 H2, R W1 H1 W2 H2 → Gd H2 ∧ WOk T W2 H2 ∧ Reps T W2.F H2 ds vs ∧ Reps T W2.F H2 es ws) : Wk T R W1 H1 (zipF ds es) J := by
  refine ⟨Gd, _, (by rw [zipF_len, ← l, ← l']; exact wk), fun W2 H2 r => ⟨(h W2 H2 r).1, fun i d e x H3 y => ?_⟩⟩
  obtain ⟨p, x', y', rfl, hp, eH, e1, e2⟩ := y
  obtain ⟨a, b, ea, eb, rfl⟩ := zipF_get _ _ _ _ e
  obtain ⟨_, ok, r1, r2⟩ := h W2 _ r
  obtain ⟨v, ev, rv⟩ := r1.get ea
  obtain ⟨v', ev', rv'⟩ := r2.get eb
  have e1 : vs[i]? = some x' := e1
  have e2 : ws[i]? = some y' := e2
  rw [e1] at ev
  rw [e2] at ev'
  cases ev
  cases ev'
  exact pair_rep ok hp eH rv rv'
theorem walk_zipT {K : PySem.W.Frag} {a b : Addr} {xs ys : List V} {n : Nat} (hn : n = min xs.length ys.length) : Walk (ItzT K a b) n (fun H => SqT K H a xs ∧ SqT K H b ys) (YPair (fun i => xs[i]?) (fun i => ys[i]?)) := by
  subst hn
  refine ⟨fun i _ hi q => ?_, fun _ q => ⟨xs, ys, q.1, q.2, by omega⟩, fun i H v H' _ q y => ?_⟩
  · have h1 : i < xs.length := by omega
    have h2 : i < ys.length := by omega
    exact ⟨xs, ys, xs[i], ys[i], q.1, q.2, by simp [h1], by simp [h2]⟩
  · obtain ⟨T, x, z, h1, h2, h3, h4, h5⟩ := y
    exact ⟨T, x, z, h1, h2, h3, h4 xs q.1, h5 ys q.2⟩
def gEnum : List D → (List D → Prop) → Prop
  | [.tup xs], Q => Q (enumF 0 xs)
  | [.lst xs], Q => Q (enumF 0 xs)
  | _, _ => False
def gZip : List D → (List D → Prop) → Prop
  | [.tup xs, .tup ys], Q => Q (zipF xs ys)
  | [.lst xs, .lst ys], Q => Q (zipF xs ys)
  | _, _ => False
variable {R : Rl}
theorem tup_kp {K : PySem.W.Frag} {F F' : Addr → Prop} {H H' : Hp} {a : Addr} {vs : List V} (k : Kp F H F' H') (h : (H a = some (.tup vs) ∧ ¬ F a) ∨ KT K a vs) : SqT K H' a vs :=
  tupAt (F := F') (h.imp (fun h => ⟨k.same _ _ h.1 h.2, (k.rd (.inl h.1) h.2).2⟩) id)
theorem di_enum {elts : List Expr} {kk : Nat} (hK : P.T.K = X.K) (kR : KpOk P.T R) (hm : X.mg "enumerate" = none) (h : DA X P [e] wl) (hg : Gl X "enumerate" := by rfl) (hs : starEach [e] X.env = [(false, eval e X.env)] := by rfl) :
    DI X P R (.Tuple elts kk tpos) (.Call (.Name "enumerate" p) [e] [] pos) (wRng gEnum wl) := by
  refine ⟨pi_imp (pi_enumA hg hm h.pa hs) fun σ H K q => ?_⟩
  obtain ⟨G, W, Q0, R0, S, q, ex, hq⟩ := q
  refine ⟨G, W, _, R0, S, q, ex, fun ds O h1 vs H1 W1 s1 e1 r => ?_⟩
  match ds, h1, r with
  | [.tup xs], h1, r =>
    simp only [Reps, Rep] at r
    obtain ⟨v, _, e2, ⟨a, us, rfl, ha, r⟩, rfl⟩ := r
    exact ⟨a, us, e2, .inr ⟨hK ▸ tupAt ha, hq _ O h1 _ H1 W1 s1 e1 (wk_enum r.len walk_enumT fun W2 H2 k => have kk := kR _ _ _ _ s1.ok k; ⟨hK ▸ tup_kp kk.1 ha, kk.2, Reps.kp kk.1 _ _ r⟩)⟩⟩
  | [.lst xs], h1, r =>
    simp only [Reps, Rep] at r
    obtain ⟨v, _, e2, ⟨a, us, rfl, ha, n, r⟩, rfl⟩ := r
    exact ⟨a, us, e2, .inl ⟨.of ha, hq _ O h1 _ H1 W1 s1 e1 (wk_enum r.len walk_enum fun W2 H2 k => have kk := kR _ _ _ _ s1.ok k; ⟨.of (kk.1.same _ _ ha n), kk.2, Reps.kp kk.1 _ _ r⟩)⟩⟩
theorem di_zip {elts : List Expr} {kk : Nat} (hK : P.T.K = X.K) (kR : KpOk P.T R) (hm : X.mg "zip" = none) (h : DA X P [e, e2] wl) (hg : Gl X "zip" := by rfl) (hs : starEach [e, e2] X.env = (false, eval e X.env) :: starEach [e2] X.env := by rfl) (hpl : (backTo pos (starEach [e2] X.env)).any (·.1) = false := by rfl) :
    DI X P R (.Tuple elts kk tpos) (.Call (.Name "zip" p) [e, e2] [] pos) (wRng gZip wl) := by
  refine ⟨pi_imp (pi_zipA hg hm h.pa hs hpl) fun σ H K q => ?_⟩
  obtain ⟨G, W, Q0, R0, S, q, ex, hq⟩ := q
  refine ⟨G, W, _, R0, S, q, ex, fun ds O h1 vs H1 W1 s1 e1 r => ?_⟩
  match ds, h1, r with
  | [.tup xs, .tup ys], h1, r =>
    simp only [Reps, Rep] at r
    obtain ⟨v, _, e2, ⟨a, us, rfl, ha, r⟩, v', _, rfl, ⟨b, us', rfl, hb, r'⟩, rfl⟩ := r
    exact ⟨a, b, us, us', e2, .inr ⟨hK ▸ tupAt ha, hK ▸ tupAt hb, hq _ O h1 _ H1 W1 s1 e1 (wk_zip r.len r'.len (walk_zipT rfl) fun W2 H2 k => have kk := kR _ _ _ _ s1.ok k; ⟨⟨hK ▸ tup_kp kk.1 ha, hK ▸ tup_kp kk.1 hb⟩, kk.2, Reps.kp kk.1 _ _ r, Reps.kp kk.1 _ _ r'⟩)⟩⟩
  | [.lst xs, .lst ys], h1, r =>
    simp only [Reps, Rep] at r
    obtain ⟨v, _, e2, ⟨a, us, rfl, ha, n, r⟩, v', _, rfl, ⟨b, us', rfl, hb, n', r'⟩, rfl⟩ := r
    exact ⟨a, b, us, us', e2, .inl ⟨.of ha, .of hb, hq _ O h1 _ H1 W1 s1 e1 (wk_zip r.len r'.len (walk_zip rfl) fun W2 H2 k => have kk := kR _ _ _ _ s1.ok k; ⟨⟨.of (kk.1.same _ _ ha n), .of (kk.1.same _ _ hb n')⟩, kk.2, Reps.kp kk.1 _ _ r, Reps.kp kk.1 _ _ r'⟩)⟩⟩
end
end N
namespace N
open PySem PySem.Spec PyProof.Rows L2 RZ
open PySem.AutoSeq1 (wpAny_loadPart')
/-! ### extend -/
theorem extend_tupG (l : Addr) (items : Array Value) (n : Nat) (b : Addr) (items2 : Array Value) (n2 : Nat) (dct : Option Addr) (sl : Array (Option Value)) (hs0 : ¬(!items.isEmpty && Builtin.List.listTooLong (items.size + items2.size)) = true) (hs1 : items.size ≤ sizeLine) (hs2 : items.size + items2.size ≤ sizeLine + 1) :
    Meets (Builtin.«list.extend» ⟨[.ref l, .ref b], []⟩) (fun _ R s => s.heap.get? l = some { cls := .type "list", dict := none, data := .seq items n, slots := #[] } ∧ s.heap.get? b = some { cls := .type "tuple", dict := dct, data := .seq items2 n2, slots := sl } ∧
      R (.ok (.ret Value.none)) { s with heap := s.heap.update l (Obj.mapSeq fun x => x ++ items2), toks := s.toks }) :=
  .of_wp fun prog w A R s h => by
    obtain ⟨hp, g, d, tk, os⟩ := s; obtain ⟨hl, hb, h⟩ := h; have f1 := AutoSeq1.idx_int; have f2 := AutoSeq1.sub_tuple_tuple; have f3 := AutoSeq1.sub_list_list; have f4 := AutoSeq1.sub_tuple_list; have f5 := AutoSeq1.sub_list_tuple;
    have hz' : (items ++ items2).size ≤ sizeLine + 1 := by rw [Array.size_append]; exact hs2
    wp_walk using (wpAny_updateSeq hl rfl (hz := hs1) (_hz' := hz')), wpAny_loadPart' hl, wpAny_loadPart' hb; exact ⟨_, rfl, h⟩
def rExtA (K : PySem.W.Frag) : V → List V → Hp → VK → Prop := fun x vs H Q => ∃ l b xs zs, x = .ref l ∧ vs = [.ref b] ∧ H l = some (.lst xs) ∧ (H b = some (.lst zs) ∨ SqT K H b zs) ∧ xs.length + zs.length ≤ sizeLine ∧ Q .non (upd H l (.lst (xs ++ zs)))
theorem mt_extendA {X : Cx} : MtM X "list.extend" (rExtA X.K) := by
  intro pins s σ H x vs v us Q I rx rv h
  obtain ⟨l, b, xs, zs, rfl, rfl, hH, hB, hz, q⟩ := h
  rcases hB with hB | hB
  · exact mt_extend pins s σ H _ _ v us Q I rx rv ⟨l, b, xs, zs, rfl, rfl, hH, hB, hz, q⟩
  cases rx
  obtain ⟨u, rfl, ru⟩ := rv.one
  cases ru
  obtain ⟨z, its, n, r, hl, e⟩ := I.lstM hH
  obtain ⟨its2, r2, ht, hl2⟩ := I.tuple hB
  obtain ⟨⟨oc, od, dt, sl⟩, e2, hc, n2, hd⟩ := ht
  replace hc : oc = .type "tuple" := hc
  replace hd : dt = .seq its2.toArray n2 := hd
  subst hc hd
  have l1 := r.length
  have l2 := r2.length
  have hsz : its.toArray.size + its2.toArray.size ≤ sizeLine := by rw [List.size_toArray, List.size_toArray]; omega
  have hlong : ¬ (!its.toArray.isEmpty && Builtin.List.listTooLong (its.toArray.size + its2.toArray.size)) = true := by
    rw [notLongL hsz, Bool.and_false]
    exact Bool.false_ne_true
  refine call_meets F.slot_list_extend ⟨_, e, rfl⟩ F.entry_list_extend (F.args_list_extend_2 _ _) (extend_tupG l its.toArray n b its2.toArray n2 od sl hlong (by rw [List.size_toArray]; omega) (by omega)) ⟨e, e2, ?_⟩
  refine ⟨.non, _, I.lset (its' := its ++ its2) hH e (by simp) (r.append r2) ?_, rfl, q⟩
  rw [List.length_append]
  omega
section
variable {X : Cx} {P : Pm} {e : Expr} {w : WE}
def wExt (i : Nat) (w : WE) : WS := fun G Om Po => match getSl G i with
  | .own (.lst xs) => w G Om (fun d O => match d with
    | .lst ys => xs.length + ys.length ≤ 16777216 ∧ Po.nx (G.set i (.own (.lst (xs ++ ys)))) O
    | .tup ys => xs.length + ys.length ≤ 16777216 ∧ Po.nx (G.set i (.own (.lst (xs ++ ys)))) O
    | _ => False) fun x O => Po.ex x G O
  | _ => False
theorem ds_ext (hK : P.T.K = X.K) (i : Nat) {x : Str} {p1 p2 p3 p4 : Pos} (h : DE X P e w) (hN : X.N[i]? = some x := by rfl) (hv : Vis X.env.scope x := by first | exact Or.inl rfl | exact Or.inr (Or.inl rfl) | exact Or.inr (Or.inr rfl)) (hd : (x == ("__debug__" : Str)) = false := by decide)
    (hcd : (x == ("__classdict__" : Str)) = false := by decide)
    (hbase : attributeBase (.Name x p1) "extend" X.env (eval (.Name x p1) X.env) = eval (.Name x p1) X.env := by rfl)
    (hfew : ((backTo p3 (starEach [e] X.env)).all (fun x => !x.1) && (backToKw p3 (keywordEach [] X.env)).all (fun x => x.1.isSome) && decide ([e].length + ([] : List Keyword).length + (if ([] : List Keyword).isEmpty then 0 else 1) < 30)) = true := by rfl)
    (hline : (p2.endLine == p3.line) = true := by rfl) (hs1 : starEach [e] X.env = (false, eval e X.env) :: starEach [] X.env := by rfl) (hplain : (backTo p3 (starEach [] X.env)).any (·.1) = false := by rfl)
    (hs : swapsWith (.Call (.Attribute (.Name x p1) "extend" p2) [e] [] p3) none p4.line X.env = pure false := by rfl) :
    DS X P (.Expr (.Call (.Attribute (.Name x p1) "extend" p2) [e] [] p3) p4) (wExt i w) := by
  refine ⟨ps_imp (ps_expr (pe_bm PySem.F.plainAttrs_list PySem.F.slot_list_extend PySem.F.type_list_extend mt_extendA (pe_var hN hv hd hcd) (pa_cons h.pe pa_nil hs1) hbase hfew hline hs1 hplain) hs) fun D σ H ⟨G, W, Po, S, q, h⟩ => ?_⟩
  unfold wExt at q
  split at q
  · rename_i xs ed
    have gg := getSl_get G i (by rw [ed]; intro z; cases z)
    rw [ed] at gg
    obtain ⟨a, e1, oa⟩ := S.sl i _ gg
    obtain ⟨vs, hl, rl⟩ := oa.r
    refine ⟨.ref a, e1, .inl ⟨rfl, vs, .of hl⟩, G, W, _, _, S, q, h.exE S, fun d O q' v H' W' s' e r => ?_⟩
    have S' := S.step s'
    obtain ⟨a2, e2, oa'⟩ := S'.sl i _ gg
    rw [e1] at e2; cases e2
    obtain ⟨ws, hl', rl'⟩ := oa'.r
    have fin : ∀ b ys zs, v = .ref b → (H' b = some (.lst zs) ∨ SqT X.K H' b zs) → Reps P.T W'.F H' ys zs → xs.length + ys.length ≤ 16777216 → Po.nx (G.set i (.own (.lst (xs ++ ys)))) O → rExtA X.K (.ref a) [v] H' (fun _ H2 => D.nx σ H2) := fun b ys zs ev hb ry hz hn => by
      obtain ⟨S2, k2⟩ := S'.mut (o := .lst (ws ++ zs)) (m' := .lst (xs ++ ys)) gg e1 ⟨ws ++ zs, upd_same, Reps.kp (Kp.mut oa'.f) _ _ (rl'.app ry)⟩
      exact ⟨a, b, ws, zs, rfl, by rw [ev], hl', hb, sz16 (by rw [rl'.len, ry.len]; exact hz), h.nx _ O hn _ _ W' ((s'.kp S.ok).trans k2) S2 e⟩
    cases d <;> try exact q'.elim
    · simp only [Rep] at r
      obtain ⟨b, zs, rfl, hb, ry⟩ := r
      exact fin b _ zs rfl (.inr (hK ▸ tupAt hb)) ry q'.1 q'.2
    · simp only [Rep] at r
      obtain ⟨b, zs, rfl, hb, _, ry⟩ := r
      exact fin b _ zs rfl (.inl hb) ry q'.1 q'.2
  · exact q.elim
end
/-! ### errors of own classes -/
structure ClX (K : PySem.W.Frag) (mg : Str → Option Value) (T : Th) (c : Nat) (x : Str) : Prop where
  g : mg x = some (.ref (T.cm c))
  q : PySem.W.excIn K (T.cm c) He.veBase "ValueError.__new__" = true
  k : PySem.W.keepIn K (.ref (T.cm c)) = true
  s : PySem.W.subIn K (.ref (T.cm c)) (.type "BaseException") = some true
  t : PySem.W.typeIn K (.ref (T.cm c)) = some (.type "type")
section
variable {X : Cx} {P : Pm} {x : Str} {p pos pos' np : Pos} {c : Nat}
theorem pmk_own0 {C : Addr} {bmB : List Value} {B newId initId : String} (F : ExcBaseFacts B newId initId bmB) (q : PySem.W.excIn X.K C bmB newId = true) (gC : X.mg x = some (.ref C)) (kC : PySem.W.keepIn X.K (.ref C) = true) (r : Raises X (.ref C)) (hg : Gl X x)
    (hdb : (x == ("__debug__" : Str)) = false := by decide) : PMk X (.Call (.Name x p) [] [] pos) (fun _ H Q => Q (.ref C) none H) := by
  intro pins s σ H Q I h
  refine wpAny_Call_Name_kw (ld_glob I hg gC (PySem.W.callWith_K0 (first := []) I.kIn kC ?_) hdb)
  show wpAny _ _ (call (.ref C) []) _ _ _
  obtain ⟨bm, N, nm, qn, bs, hdct, sn, sub, ab, col, dd, k0, k1, k2, k3, k5, mN, hC, hN, hni, T⟩ := exc_obj I.kIn q
  refine wpAny_call_exc_subT F T hC hN hni (fun h' e hm => ?_) (Nat.zero_le _)
  exact mk_of I hm r h (I.hok.gone hm.new)
def wRaise (c : Nat) : WS := fun G Om Po => Po.ex ⟨c, [], []⟩ G Om
theorem ds_raise (cl : ClX X.K X.mg P.T c x) (tk : Takes X P.W) (hc : X.calm = true := by rfl) (hg : Gl X x := by rfl) (hdb : (x == ("__debug__" : Str)) = false := by decide) : DS X P (.Raise (some (.Call (.Name x p) [] [] pos)) none pos') (wRaise c) :=
  ⟨ps_imp (ps_raise hc tk (pmk_own0 PySem.F.excBase_ValueError cl.q cl.g cl.k (raises_own cl.s cl.t) hg hdb)) fun D σ H ⟨G, W, Po, S, q, h⟩ => h.ex _ G _ q _ _ σ H W Kp.refl S rfl ⟨rfl, .inl ⟨rfl, rfl⟩⟩⟩
/-- try: body / except X: suite; tab: which classes are X's -/
def wTry (tab : List (Nat × Bool)) (u v : WS) : WS := fun G Om Po => u G Om { Po with ex := fun x G' O => match tab.lookup x.c with
  | some true => v G' O { Po with ex := fun _ _ _ => False }
  | some false => Po.ex x G' O
  | none => False }
theorem Sta.chW {P : Pm} {W1 : WX} {G : Gam} {W : Wd} {σ : L2.St} {H : Hp} (S : Sta P G W σ H) : Sta { P with W := W1 } G W σ H :=
  ⟨S.st, S.len, fun i x e => by
    have q := S.sl i x e
    cases x with
    | no => trivial
    | val d => exact q
    | own m => obtain ⟨a, e, o⟩ := q; exact ⟨a, e, ⟨o.f, o.o, o.p, o.n, o.r⟩⟩, S.ap⟩
theorem Sta.unW {P : Pm} {W1 : WX} {G : Gam} {W : Wd} {σ : L2.St} {H : Hp} (S : Sta { P with W := W1 } G W σ H) : Sta P G W σ H := Sta.chW (P := { P with W := W1 }) (W1 := P.W) S
theorem ds_try {tab : List (Nat × Bool)} {body suite : List Stmt} {b₀ : Stmt} {u v : WS} (hx : ∀ j b, tab.lookup j = some b → PySem.W.exmOne X.K (.ref (P.T.cm j)) (.ref (P.T.cm c)) = some b) (gX : X.mg x = some (.ref (P.T.cm c))) (tk : Takes X P.W)
    (hb : ∀ (W : WX) (pn : List (Addr × Obj)) (xe : Value → Shared → Prop), Takes (X.tr pn xe) W → PassesOwn (model X.prog X.w) X.A X.env xe → DSs (X.tr pn xe) { P with W := W } body u)
    (hsu : ∀ (a : Addr) (oe : Obj) (pn : List (Addr × Obj)), DSs (X.suite a ((a, oe) :: pn)) P.noW (b₀ :: suite) v)
    (hg : Gl X x := by rfl) (hdb : (x == ("__debug__" : Str)) = false := by decide) (hs : X.stack = X.env :: X.outer := by rfl) (hf : X.env.frame = some X.env.locals := by rfl) : DS X P (.Try body [.ExceptHandler (some (.Name x np)) none (b₀ :: suite) pos'] [] [] pos) (wTry tab u v) := by
  refine ⟨ps_imp (ps_try_only (c := .ref (P.T.cm c)) (Wout := P.W) (tb := fun W => tS { P with W := W } u) (ts := fun _ _ _ => tS P.noW v) hs hf ⟨hg, hdb, .inl gX⟩ tk (fun W pn xe tk' po => (hb W pn xe tk' po).ps) (fun a oe cls d pn _ _ => (hsu a oe pn).ps)) fun D σ H ⟨G, W, Po, S, q, h⟩ => ?_⟩
  refine ⟨G, W, _, S.chW, q, ⟨fun G' O q' σ' H' W' k S' e => h.nx G' O q' σ' H' W' k S'.unW e, h.rt, fun G' O q' σ' H' W' k S' e => h.bk G' O q' σ' H' W' k S'.unW e, fun G' O q' σ' H' W' k S' e => h.ct G' O q' σ' H' W' k S'.unW e, fun z G' O q' cls dd σ' H' W' k S' e r => ?_⟩⟩
  have q' : (match tab.lookup z.c with | some true => v G' O { Po with ex := fun _ _ _ => False } | some false => Po.ex z G' O | none => False) := q'
  have ec : cls = .ref (P.T.cm z.c) := r.1
  cases et : tab.lookup z.c with
  | none => rw [et] at q'; exact q'.elim
  | some b =>
    rw [et] at q'
    refine ⟨b, by rw [ec]; exact hx _ _ et, fun hbt a _ => ?_, fun hbf => ?_⟩
    · subst hbt
      subst e
      have h' := h.kp k
      exact ⟨G', W', _, Sta.chW (P := P) S'.unW, q', ⟨fun G2 O2 q2 σ2 H2 W2 k2 S2 e2 => h'.nx G2 O2 q2 σ2 H2 W2 k2 S2.unW e2, h'.rt, fun G2 O2 q2 σ2 H2 W2 k2 S2 e2 => h'.bk G2 O2 q2 σ2 H2 W2 k2 S2.unW e2, fun G2 O2 q2 σ2 H2 W2 k2 S2 e2 => h'.ct G2 O2 q2 σ2 H2 W2 k2 S2.unW e2, fun _ _ _ z => z.elim⟩⟩
    · subst hbf
      exact h.ex z G' O q' cls dd σ' H' W' k S'.unW e r
end
end N
namespace N
open PySem PySem.Spec PyProof.Rows L2
/-! ### an own thing is frozen; defaults -/
section
variable {X : Cx} {P : Pm} {e : Expr} {es : List Expr} {w : WE} {wl : WA} {x : Str} {p pos : Pos} {k n : Nat} {S : DSp}
theorem Sta.frz {G : Gam} {W : Wd} {σ : L2.St} {H : Hp} {i : Nat} {m : MO} (S : Sta P G W σ H) (ok0 : WOk P.T P.W0 P.H0) (nd : noDct m) (g : G[i]? = some (.own m)) : ∃ W', W'.Om = W.Om ∧ Kp W.F H W'.F H ∧ Sta P (G.set i (.val m.see)) W' σ H := by
  obtain ⟨a, e, o⟩ := S.sl i _ g
  have kp : Kp W.F H (W.del a).F H := Kp.less fun b h => h.1
  refine ⟨W.del a, rfl, kp, S.st.del ok0 o.n o.p, by simp [S.len], fun j s es => ?_, fun j k m1 m2 b e1 e2 h1 h2 => ?_⟩
  · by_cases q : i = j
    · subst q
      rw [List.getElem?_set, if_pos rfl] at es
      split at es
      · cases es
        exact ⟨.ref a, e, rep_see (fun z => z.2 rfl) nd (noFp (fp := fun _ => False) kp rfl o.r)⟩
      · cases es
    · rw [List.getElem?_set_ne q] at es
      have z := S.sl j s es
      cases s with
      | no => trivial
      | val d =>
        obtain ⟨v, e1, r⟩ := z
        exact ⟨v, e1, Rep.kp kp d v r⟩
      | own m' =>
        obtain ⟨b, e1, ob⟩ := z
        have hne : b ≠ a := fun z => q (S.ap i j m m' a g es e (z ▸ e1))
        exact ⟨b, e1, ⟨⟨ob.f, hne⟩, ob.o, ob.p, ob.n, noFp (fp := fun _ => False) kp rfl ob.r⟩⟩
  · have back : ∀ (j : Nat) mm, (G.set i (.val m.see))[j]? = some (.own mm) → G[j]? = some (.own mm) := fun j mm e => by
      by_cases q : i = j
      · subst q
        rw [List.getElem?_set, if_pos rfl] at e
        split at e <;> cases e
      · rwa [List.getElem?_set_ne q] at e
    exact S.ap j k m1 m2 b (back j m1 e1) (back k m2 e2) h1 h2
def wFz (i : Nat) (w : WS) : WS := fun G Om Po => match getSl G i with
  | .own (.dct _ _) => False
  | .own m => w (G.set i (.val m.see)) Om Po
  | _ => w G Om Po
theorem dss_fz (i : Nat) {ss : List Stmt} {u : WS} (ok0 : WOk P.T P.W0 P.H0) (h : DSs X P ss u) : DSs X P ss (wFz i u) := by
  refine ⟨pss_imp h.ps fun D σ H ⟨G, W, Po, S, q, hp⟩ => ?_⟩
  unfold wFz at q
  split at q
  · exact q.elim
  · rename_i m hm ed
    have nd : noDct m := by cases m <;> first | trivial | exact (hm _ _ rfl).elim
    have gg := getSl_get G i (by rw [ed]; intro z; cases z)
    rw [ed] at gg
    obtain ⟨W', eO, k, S'⟩ := S.frz ok0 nd gg
    exact ⟨_, W', Po, S', by rw [eO]; exact q, hp.kp k⟩
  · exact ⟨G, W, Po, S, q, hp⟩
/-- a def with defaults that fill up -/
structure ClD (PR : Program) (w : World) (K : PySem.W.Frag) (mg : Str → Option Value) (base : Heap) (T : Th) (k : Nat) (x : Str) (n : Nat) (S : DSp) (dds : List D) : Prop where
  ex : ∃ f fd ps dvs dvl, FnOk PR w K mg base (L2.CX PR w) k f fd ps (toSp T n S) ∧ mg x = some (.ref f) ∧ PySem.W.keepIn K (.ref f) = true ∧ Binds K fd ps dvl ∧ Vals dvs dvl ∧ ∀ T F H, Reps T F H dds dvs
theorem de_clD {dds : List D} (c : ClD X.prog X.w X.K X.mg X.base P.T k x n S dds) (hr : Room k X.A) (tk : Takes X P.W) (ha : DA X P (e :: es) wl)
    (hg : Gl X x := by rfl) (hdb : (x == ("__debug__" : Str)) = false := by decide) (he : starEach (e :: es) X.env = (false, eval e X.env) :: starEach es X.env := by rfl) (hpl : (backTo pos (starEach es X.env)).any (·.1) = false := by rfl) :
    DE X P (.Call (.Name x p) (e :: es) [] pos) (wCallU n S dds wl) :=
  let ⟨_, _, _, _, _, F, hm, hk, hb, hd, hdd⟩ := c.ex
  de_callD dds F hr hm hk hb hd hdd tk ha hg hdb he hpl
/-- x.bit_length() -/
def wBits (w : WE) : WE := fun G Om Q R => w G Om (fun d O => match d with | .int i => Q (.int (Builtin.Int.intBits i : Nat)) O | _ => False) R
theorem de_bits {o : Expr} {apos : Pos} (ho : DE X P o w) (hbase : attributeBase o "bit_length" X.env (eval o X.env) = eval o X.env := by rfl) (hline : (apos.endLine == pos.line) = true := by rfl) : DE X P (.Call (.Attribute o "bit_length" apos) [] [] pos) (wBits w) := by
  refine ⟨pe_imp (pe_bits ho.pe hbase hline) fun σ H Q q => ?_⟩
  obtain ⟨G, W, Q0, R0, S, q, ex, hq⟩ := q
  refine ⟨G, W, _, R0, S, q, ex, fun d O h1 v H1 W1 s1 e1 r => ?_⟩
  cases d <;> try exact h1.elim
  exact ⟨_, by simpa only [Rep] using r, hq _ O h1 _ H1 W1 s1 e1 (by simp [Rep])⟩
/-- tables of classes -/
theorem tab_nil {K : PySem.W.Frag} {T : Th} {c : Nat} : ∀ j b, ([] : List (Nat × Bool)).lookup j = some b → PySem.W.exmOne K (.ref (T.cm j)) (.ref (T.cm c)) = some b := fun _ _ h => by cases h
theorem tab_cons {K : PySem.W.Frag} {T : Th} {c j0 : Nat} {b0 : Bool} {tab : List (Nat × Bool)} (h : PySem.W.exmOne K (.ref (T.cm j0)) (.ref (T.cm c)) = some b0) (r : ∀ j b, tab.lookup j = some b → PySem.W.exmOne K (.ref (T.cm j)) (.ref (T.cm c)) = some b) :
    ∀ j b, ((j0, b0) :: tab).lookup j = some b → PySem.W.exmOne K (.ref (T.cm j)) (.ref (T.cm c)) = some b := fun j b e => by
  rw [List.lookup_cons] at e
  cases q : (j == j0) with
  | true =>
    rw [q] at e
    have e := Option.some.inj e
    rw [beq_iff_eq.mp q, ← e]
    exact h
  | false =>
    rw [q] at e
    exact r j b e
end
def clsAt (s : Stmt) (j : Nat) : Stmt := match s with
  | .ClassDef (body := b) .. => b.getD j (.Pass ⟨0, 0, 0, 0⟩)
  | s => s
end N

set_option Elab.async false
set_option linter.all false
set_option maxRecDepth 100000
set_option maxHeartbeats 0
/-! NX: a law's end -/
namespace N
open PySem PySem.Spec PyProof.Rows L2
abbrev FnP (K : PySem.W.Frag) (x qual : Str) (st : Stmt) (kws : List (Str × V)) (f : Addr) (fd : FuncData) : Prop := FunD K x qual (defArgs st) (defBody st) (defScope st) [] kws f fd
abbrev defD (x : Str) (st : Stmt) : He.DefD := ⟨(x, none), x, x, defArgs st, defBody st, defScope st, [], []⟩
abbrev defK (x : Str) (st : Stmt) (kwd : List (Str × He.Dv)) : He.DefD := ⟨(x, none), x, x, defArgs st, defBody st, defScope st, [], kwd⟩
abbrev defM (c x qual : Str) (st : Stmt) : He.DefD := ⟨(c, some x), x, qual, defArgs st, defBody st, defScope st, [], []⟩
/-- the classes' places, by their names -/
def cmL (K : PySem.W.Frag) (l : List Str) (c : Nat) : Addr := He.ga K (l.getD c "")
theorem clM_mk {PR : Program} {w : World} {K : PySem.W.Frag} {mg : Str → Option Value} {base : Heap} {T : Th} {k c : Nat} {m : Str} {n : Nat} {S S' : DSp} {f : Addr} {fd : FuncData} {ps : List Str} (F : FnOk PR w K mg base (L2.CX PR w) k f fd ps (toSp T n S')) (h : ∀ ds Om Q R, ds.length = n → S ds Om Q R → S' ds Om Q R)
    (cl : Cls K (T.cm c)) (hm : Meth K (T.cm c) m f) (b : Binds K fd ps []) : ClM PR w K mg base T k c m n S := ⟨_, _, _, F.imp (toSp_imp h), cl, hm, b⟩
theorem clI_mk {PR : Program} {w : World} {K : PySem.W.Frag} {mg : Str → Option Value} {base : Heap} {T : Th} {k c : Nat} {x : Str} {n : Nat} {S S' : DSp} {f : Addr} {fd : FuncData} {ps : List Str} (F : FnOk PR w K mg base (L2.CX PR w) k f fd ps (toSp T n S')) (h : ∀ ds Om Q R, ds.length = n → S ds Om Q R → S' ds Om Q R)
    (g : mg x = some (.ref (T.cm c))) (hm : Mk K (T.cm c) f) (b : Binds K fd ps []) : ClI PR w K mg base T k c x n S := ⟨_, _, _, F.imp (toSp_imp h), g, hm, b⟩
theorem clX_mk {K : PySem.W.Frag} {h : Heap} {mg : Str → Option Value} {T : Th} {c : Nat} {x : Str} (e : T.cm c = He.ga K x) (X : K.In h) (G : h.Ns mainGlobals mg) (f1 : (He.Fa.glo x).ok K = true) (f2 : (He.Fa.exc x).ok K = true) : ClX K mg T c x :=
  have q := He.exc_ok f2
  ⟨by rw [e]; exact He.glo_ok X G f1, by rw [e]; exact q.1, by rw [e]; exact q.2.1, by rw [e]; exact q.2.2.1, by rw [e]; exact q.2.2.2⟩
theorem clD_mk {PR : Program} {w : World} {K : PySem.W.Frag} {mg : Str → Option Value} {base : Heap} {T : Th} {k : Nat} {x : Str} {n : Nat} {S S' : DSp} {dds : List D} {f : Addr} {fd : FuncData} {ps : List Str} {dvs : List V} (F : FnOk PR w K mg base (L2.CX PR w) k f fd ps (toSp T n S')) (h : ∀ ds Om Q R, ds.length = n → S ds Om Q R → S' ds Om Q R)
    (g : mg x = some (.ref f)) (kp : PySem.W.keepIn K (.ref f) = true) (b : ∃ ds, Vals dvs ds ∧ Binds K fd ps ds) (hd : ∀ T F H, Reps T F H dds dvs) : ClD PR w K mg base T k x n S dds := let ⟨_, hv, hb⟩ := b; ⟨_, _, _, _, _, F.imp (toSp_imp h), g, kp, hb, hv, hd⟩
theorem kb_of {K : PySem.W.Frag} {x qual : Str} {params : Arguments} {body : List Stmt} {scope : Scope} {kws : List (Str × V)} {f : Addr} {fd : FuncData} {ps : List Str} {n : Nat} {ks : List Str} (F : FunD K x qual params body scope [] kws f fd)
    (h : ∀ (kV doc pm : Value) (an : Option Addr) (cdv ct : Value) (us ws : List Value), us.length = n → ws.length = ks.length → bindArgs (PySem.W.fnOf x qual params body scope .none kV doc pm an cdv ct) ⟨us, ks.zip ws⟩ = pure (ps.zip (us ++ ws))) : KB K fd ps n ks := by
  obtain ⟨oc, od, dV, kV, doc, pm, an, cdv, ct, osl, rfl, lk, hcd, hD, hK⟩ := F.ex
  rcases hD with ⟨_, rfl⟩ | ⟨e, _⟩
  · exact .of (h kV doc pm an cdv ct)
  · exact absurd rfl e
/-- a callable of a lower level whose promise asks the impossible -/
theorem cl_mk {PR : Program} {w : World} {K : PySem.W.Frag} {mg : Str → Option Value} {base : Heap} {T : Th} {k : Nat} {x : Str} {n : Nat} {S S' : DSp} {f : Addr} {fd : FuncData} {ps : List Str} (F : FnOk PR w K mg base (L2.CX PR w) k f fd ps (toSp T n S')) (h : ∀ ds Om Q R, ds.length = n → S ds Om Q R → S' ds Om Q R)
    (g : mg x = some (.ref f)) (kp : PySem.W.keepIn K (.ref f) = true) (b : Binds K fd ps []) : Cl PR w K mg base T k x n S := ⟨_, _, _, F.imp (toSp_imp h), g, kp, b⟩
theorem clK_mk {PR : Program} {w : World} {K : PySem.W.Frag} {mg : Str → Option Value} {base : Heap} {T : Th} {k : Nat} {x : Str} {n m : Nat} {ks : List Str} {S S' : DSp} {f : Addr} {fd : FuncData} {ps : List Str} (F : FnOk PR w K mg base (L2.CX PR w) k f fd ps (toSp T n S')) (h : ∀ ds Om Q R, ds.length = n → S ds Om Q R → S' ds Om Q R)
    (g : mg x = some (.ref f)) (kp : PySem.W.keepIn K (.ref f) = true) (b : KB K fd ps m ks) (e : n = m + ks.length) : ClK PR w K mg base T k x n m ks S := ⟨_, _, _, F.imp (toSp_imp h), g, kp, b, e⟩
/-- a callable of which nothing is asked -/
theorem cl_no {PR : Program} {w : World} {K : PySem.W.Frag} {mg : Str → Option Value} {base : Heap} {T : Th} {k : Nat} {x : Str} {n : Nat} {f : Addr} {fd : FuncData} {ps : List Str}
    (g : mg x = some (.ref f)) (kp : PySem.W.keepIn K (.ref f) = true) (b : Binds K fd ps []) : Cl PR w K mg base T k x n (fun _ _ _ _ => False) :=
  have no : ∀ vs H Q E, toSp T n (fun _ _ _ _ => False) vs H Q E → False := fun _ _ _ _ ⟨_, _, _, _, _, _, _, z, _⟩ => z
  ⟨_, _, _, ⟨fun _ _ _ _ h => (no _ _ _ _ h).elim, fun _ _ _ _ _ _ _ _ _ _ _ _ _ h => (no _ _ _ _ h).elim⟩, g, kp, b⟩
/-- the law's own promise -/
theorem sp_start {T : Th} {S : DSp} {H : Hp} {a : Addr} {ns : List Int} (h : SqL T.K H a (ns.map V.int)) (hs : S [.scr ns] (fun _ => none) (fun d _ => d = .bl true) (fun _ _ => False)) : toSp T 1 S [.ref a] H (fun v _ => v = .bl true) fun _ _ _ => False := by
  refine ⟨[.scr ns], ⟨fun _ => none, fun _ _ => False, fun _ => False⟩, _, _, rfl, .cons ?_ .nil, ⟨fun _ _ e => (by cases e), fun b ⟨_, z, _⟩ => (z rfl).elim, fun _ _ _ z => (z rfl).elim, fun _ z => z.elim, fun _ _ z => z.elim⟩, hs, fun d O q v H' W' s e r => ?_, fun x O z => z.elim⟩
  · simp only [Rep]
    refine ⟨a, rfl, ?_⟩
    rcases h with h | h
    · exact .inl ⟨h, fun z => z⟩
    · exact .inr (.inr h)
  · subst q
    simpa [Rep] using r
theorem walk_of {l : PySem.W.OpenLaw} {n k : Nat} {q : Program} {loose : List Str} {XP : (Str → Option Value) → Heap → Prop} {YP : World → Heap → Prop} {d : DefRec} {x : Str}
    (hn : l.most = some n) (hn2 : n ≤ sizeLine) (hdf : d.params.defaults = []) (hr : Room k callerA)
    (F : ∀ (w : World) (mg : Str → Option Value) (fa : Addr) (h : Heap), YP w h → h.Ns mainGlobals mg → mg d.name = some (.ref fa) →
      ∃ (T : Th) (fd : FuncData) (S : DSp), T.K.In h ∧ (∀ (s : Shared) (u : Value), BindsTo s fd ⟨[u], []⟩ [(x, u)]) ∧
        (∀ ns : List Int, ns.length ≤ n → (∀ z ∈ ns, Builtin.Int.intBits z ≤ 1048576) → S [.scr ns] (fun _ => none) (fun d _ => d = .bl true) (fun _ _ => False)) ∧
        ∀ base : Heap, T.K.In base → base.Ns mainGlobals mg → FnOk l.prog w T.K mg base (L2.CX l.prog w) k fa fd [x] (toSp T 1 S)) :
    PySem.W.WalkO q loose XP YP l.row.toRowW d [] (fun f vs => PySem.call f vs) := by
  refine Att.attach_callB hn hdf fun w s₀ s₁ mg mb fa o pm cd doc a vs ns G Y ho hd hcd hmg hobj hints hlen hbits hg => ?_
  obtain ⟨T, fd, S, KX, hb, hsp, hF⟩ := F w mg fa _ Y G.T.g hmg
  refine law_call (CX := L2.CX l.prog w) KX G.T.g G.T.b G.T.builtins G.T.nolimit hg hobj hints (Nat.le_trans hlen hn2) hr hF hb (fun H hO hS => sp_start hS (hsp ns hlen hbits)) fun H e s' h => ?_
  obtain ⟨_, _, h⟩ := h
  simp at h
end N

set_option Elab.async false
set_option linter.all false
set_option maxRecDepth 100000
/-! LT: digests, trees, ways: plain -/
namespace N
open PySem PySem.Spec PyProof.Rows L2
def Oct (os : List Int) : Prop := ∀ o ∈ os, 0 ≤ o ∧ o < 256
abbrev iD (os : List Int) : List D := os.map D.int
abbrev oD (os : List Int) : D := .tup (iD os)
def octs (n : Int) (k : Nat) : List Int := (List.range k).map fun (i : Nat) => n / 2 ^ (8 * (k - 1 - i)) % 256
def tot (m : Int) (os : List Int) : Int := os.foldl (fun t o => (t * 31 + o + 1) % m) 1
def dig (n : Nat) (os : List Int) : List Int := octs (tot (2 ^ (8 * n)) os) n
theorem octs_len (n : Int) (k : Nat) : (octs n k).length = k := by simp [octs]
theorem octs_oct (n : Int) (k : Nat) : Oct (octs n k) := fun o h => by
  obtain ⟨i, _, rfl⟩ := List.mem_map.mp h
  exact ⟨Int.emod_nonneg _ (by decide), Int.emod_lt_of_pos _ (by decide)⟩
theorem dig_len (n : Nat) (os : List Int) : (dig n os).length = n := octs_len _ _
theorem dig_oct (n : Nat) (os : List Int) : Oct (dig n os) := octs_oct _ _
theorem tot_fold (m : Int) (hm : 1 < m) : ∀ (os : List Int) (t : Int), 0 ≤ t → t < m → 0 ≤ os.foldl (fun t o => (t * 31 + o + 1) % m) t ∧ os.foldl (fun t o => (t * 31 + o + 1) % m) t < m
  | [], t, h0, h1 => ⟨h0, h1⟩
  | o :: os, t, h0, h1 => tot_fold m hm os _ (Int.emod_nonneg _ (by omega)) (Int.emod_lt_of_pos _ (by omega))
theorem tot_rng (m : Int) (hm : 1 < m) (os : List Int) : 0 ≤ tot m os ∧ tot m os < m := tot_fold m hm os 1 (by omega) hm
/-! ### trees -/
def halve (f : List Int → List Int) : List (List Int) → List (List Int)
  | a :: b :: r => f (1 :: (a ++ b)) :: halve f r
  | _ => []
theorem halve_len (f : List Int → List Int) : ∀ row : List (List Int), (halve f row).length = row.length / 2
  | [] => rfl
  | [_] => by simp [halve]
  | a :: b :: r => by
    rw [halve, List.length_cons, halve_len f r]
    simp only [List.length_cons]
    omega
theorem halve_get (f : List Int → List Int) : ∀ (row : List (List Int)) (k : Nat) (a b : List Int), row[2 * k]? = some a → row[2 * k + 1]? = some b → (halve f row)[k]? = some (f (1 :: (a ++ b)))
  | [], k, a, b, h, _ => by simp at h
  | [x], k, a, b, _, h => by simp at h
  | x :: y :: r, 0, a, b, h, h2 => by simp at h h2; subst h h2; rfl
  | x :: y :: r, k + 1, a, b, h, h2 => by
    rw [halve, List.getElem?_cons_succ]
    exact halve_get f r k a b (by rw [← h, show 2 * (k + 1) = 2 * k + 1 + 1 by omega]; rfl) (by rw [← h2, show 2 * (k + 1) + 1 = 2 * k + 1 + 1 + 1 by omega]; rfl)
def lev (f : List Int → List Int) : Nat → List (List Int) → List (List (List Int))
  | 0, row => [row]
  | d + 1, row => row :: lev f d (halve f row)
theorem lev_len (f : List Int → List Int) : ∀ (d : Nat) (row : List (List Int)), (lev f d row).length = d + 1
  | 0, _ => rfl
  | d + 1, row => by rw [lev, List.length_cons, lev_len f d]
def dep (c : Nat) : Nat := if c ≤ 1 then 0 else Nat.log2 (c - 1) + 1
theorem dep_le (c : Nat) : c ≤ 2 ^ dep c := by
  unfold dep
  by_cases h : c ≤ 1
  · rw [if_pos h]; simpa using h
  · rw [if_neg h]
    have := Nat.lt_log2_self (n := c - 1)
    omega
theorem dep_lt (c d : Nat) (h : d < dep c) : 2 ^ d < c := by
  unfold dep at h
  by_cases hc : c ≤ 1
  · rw [if_pos hc] at h; omega
  · rw [if_neg hc] at h
    have h1 := Nat.log2_self_le (n := c - 1) (by omega)
    have h2 : 2 ^ d ≤ 2 ^ Nat.log2 (c - 1) := Nat.pow_le_pow_right (by omega) (by omega)
    omega
def row0 (f : List Int → List Int) (ps : List (List Int)) : List (List Int) := ps.map (fun p => f (0 :: p)) ++ List.replicate (2 ^ dep ps.length - ps.length) (f [2])
theorem row0_len (f : List Int → List Int) (ps : List (List Int)) : (row0 f ps).length = 2 ^ dep ps.length := by
  have := dep_le ps.length
  simp [row0]
  omega
def rows (f : List Int → List Int) (ps : List (List Int)) : List (List (List Int)) := lev f (dep ps.length) (row0 f ps)
def topR (rs : List (List (List Int))) : List Int := (rs.getLastD []).headD []
def sib (j : Nat) : Nat := j + 1 - 2 * (j % 2)
def prf (rs : List (List (List Int))) (i : Nat) : List (List Int) := (List.range (rs.length - 1)).map fun h => (rs.getD h []).getD (sib (i / 2 ^ h)) []
def nod (f : List Int → List Int) (i h : Nat) (t o : List Int) : List Int := if i / 2 ^ h % 2 = 1 then 1 :: (o ++ f t) else 1 :: (f t ++ o)
def wayG (f : List Int → List Int) (i : Nat) : Nat → List Int → List (List Int) → List (List Int)
  | _, t, [] => [t]
  | h, t, o :: r => t :: wayG f i (h + 1) (nod f i h t o) r
def way (f : List Int → List Int) (i : Nat) (p : List Int) (pr : List (List Int)) : List (List Int) := wayG f i 0 (0 :: p) pr
theorem wayG_len (f : List Int → List Int) (i : Nat) : ∀ (h : Nat) (t : List Int) (pr : List (List Int)), (wayG f i h t pr).length = pr.length + 1
  | _, _, [] => rfl
  | h, t, o :: r => by rw [wayG, List.length_cons, wayG_len f i, List.length_cons]
theorem way_len (f : List Int → List Int) (i : Nat) (p : List Int) (pr : List (List Int)) : (way f i p pr).length = pr.length + 1 := wayG_len f i 0 _ pr
def fold (f : List Int → List Int) (i : Nat) (p : List Int) (pr : List (List Int)) : List Int := f ((way f i p pr).getLastD [])
/-- the first pair of different texts with one digest -/
def part (f : List Int → List Int) : List (List Int) → List (List Int) → Option (List Int × List Int)
  | a :: r, b :: r' => if a ≠ b ∧ f a = f b then some (a, b) else part f r r'
  | _, _ => none
/-! ### forms -/
mutual
def plD : D → Bool
  | .non => true
  | .bl _ => true
  | .int _ => true
  | .str _ => true
  | .tup xs => plL xs
  | .lst xs => plL xs
  | _ => false
def plL : List D → Bool
  | [] => true
  | d :: ds => plD d && plL ds
end
theorem plL_mem : ∀ {xs : List D}, plL xs = true → ∀ d ∈ xs, plD d = true
  | [], _, d, h => by cases h
  | x :: xs, h, d, hd => by
    simp only [plL, Bool.and_eq_true] at h
    cases hd with
    | head => exact h.1
    | tail _ hd => exact plL_mem h.2 d hd
theorem plL_of : ∀ {xs : List D}, (∀ d ∈ xs, plD d = true) → plL xs = true
  | [], _ => by simp [plL]
  | x :: xs, h => by
    simp only [plL, Bool.and_eq_true]
    exact ⟨h x List.mem_cons_self, plL_of fun d hd => h d (List.mem_cons_of_mem _ hd)⟩
theorem plL_ints (os : List Int) : plL (iD os) = true := plL_of fun d hd => by
  obtain ⟨o, _, rfl⟩ := List.mem_map.mp hd
  simp [plD]
theorem plD_o (os : List Int) : plD (oD os) = true := by
  show plD (.tup (iD os)) = true
  simp only [plD, plL_ints]
theorem plL_os (ps : List (List Int)) : plL (ps.map oD) = true := plL_of fun d hd => by
  obtain ⟨o, _, rfl⟩ := List.mem_map.mp hd
  exact plD_o o
def intB : D → Bool
  | .int _ => true
  | _ => false
def isOct : D → Bool
  | .int i => decide (0 ≤ i) && decide (i ≤ 255)
  | _ => false
def isOcts (sz : Option Nat) : D → Bool
  | .tup xs => (match sz with | none => true | some n => decide (xs.length = n)) && xs.all isOct
  | _ => false
def szD : Option Nat → D
  | none => .non
  | some n => .int n
def octB (os : List Int) : Bool := os.all fun o => decide (0 ≤ o) && decide (o ≤ 255)
theorem octB_of {os : List Int} (h : Oct os) : octB os = true := List.all_eq_true.mpr fun o ho => by
  have := h o ho
  simp
  omega
theorem isOcts_o (sz : Option Nat) (os : List Int) : isOcts sz (oD os) = ((match sz with | none => true | some n => decide (os.length = n)) && octB os) := by
  unfold isOcts octB
  cases sz <;> simp [List.all_map, Function.comp_def, isOct]
def isPrf (n c : Nat) : D → Bool
  | .tup xs => decide (xs.length = dep c) && xs.all (isOcts (some n))
  | _ => false
abbrev hN : List Str := ["kind", "size", "start", "rounds"]
abbrev kindD (n : Nat) : D := .tup [.str "sum", .int (n : Int)]
abbrev hV (n : Nat) : List D := [kindD n, .int (n : Int), .tup [], .tup []]
abbrev hashD (c n : Nat) : D := .ins c hN (hV n)
abbrev rowsD (rs : List (List (List Int))) : D := .lst (rs.map fun r => .lst (r.map oD))
abbrev osD (ps : List (List Int)) : D := .tup (ps.map oD)
def seqD (d : D) (ps : List (List Int)) : Prop := d = .tup (ps.map oD) ∨ d = .lst (ps.map oD)
end N
namespace N
open PySem PySem.Spec PyProof.Rows L2
theorem lk_kind {n : Nat} : lk hN (hV n) "kind" = some (kindD n) := rfl
theorem lk_size {n : Nat} : lk hN (hV n) "size" = some (.int (n : Int)) := rfl
theorem lk_digest {n : Nat} : lk hN (hV n) "digest" = none := rfl
theorem lk_is_digest {n : Nat} : lk hN (hV n) "is_digest" = none := rfl
section
variable {Q : List D → Prop} {xs ys : List D}
theorem gEnum_t : gEnum [.tup xs] Q = Q (enumF 0 xs) := rfl
theorem gEnum_l : gEnum [.lst xs] Q = Q (enumF 0 xs) := rfl
theorem gZip_t : gZip [.tup xs, .tup ys] Q = Q (zipF xs ys) := rfl
theorem gZip_l : gZip [.lst xs, .lst ys] Q = Q (zipF xs ys) := rfl
end
theorem mem1 {c : Nat} : (c ∈ [c]) = True := by simp
end N

set_option Elab.async false
set_option linter.all false
set_option maxRecDepth 100000
/-! CS: promises of defs that many laws share -/
namespace N
open PySem PySem.Spec PyProof.Rows L2
abbrev HC : Nat := 4
abbrev hsh (n : Nat) : D := hashD HC n
def Szs (ps : List (List Int)) : Prop := ps.length ≤ 5000 ∧ ∀ p ∈ ps, p.length ≤ 100000
def sp_is_integer : DSp := fun ds Om Q _ => ∃ d, ds = [d] ∧ plD d = true ∧ Q (.bl (intB d)) Om
def sp_is_octet : DSp := fun ds Om Q _ => ∃ d, ds = [d] ∧ plD d = true ∧ Q (.bl (isOct d)) Om
def sp_is_octets : DSp := fun ds Om Q _ => ∃ d sz, ds = [d, szD sz] ∧ plD d = true ∧ (∀ xs, d = .tup xs → xs.length ≤ 16777216) ∧ Q (.bl (isOcts sz d)) Om
def sp_as_octets : DSp := fun ds Om Q _ => ∃ (n : Int) (k : Nat), ds = [.int n, .int k] ∧ 0 ≤ n ∧ n < 2 ^ (8 * k) ∧ k ≤ 1000 ∧ Q (oD (octs n k)) Om
def sp_depth : DSp := fun ds Om Q _ => ∃ c : Nat, ds = [.int c] ∧ c ≤ 1048576 ∧ Q (.int (dep c)) Om
def sp_leaf_text : DSp := fun ds Om Q _ => ∃ os, ds = [oD os] ∧ os.length ≤ 1000000 ∧ Q (oD (0 :: os)) Om
def sp_node_text : DSp := fun ds Om Q _ => ∃ a b, ds = [oD a, oD b] ∧ a.length ≤ 1000000 ∧ b.length ≤ 1000000 ∧ Q (oD (1 :: (a ++ b))) Om
def sp_is_kind : DSp := fun ds Om Q _ => ∃ n : Nat, ds = [kindD n] ∧ 1 ≤ n ∧ n ≤ 8 ∧ Q (.bl true) Om
def sp_check_kind : DSp := fun ds Om Q _ => ∃ n : Nat, ds = [kindD n] ∧ 1 ≤ n ∧ n ≤ 8 ∧ Q .non Om
def sp_plain_sum : DSp := fun ds Om Q _ => ∃ (os : List Int) (n : Nat), ds = [oD os, .int n] ∧ 1 ≤ n ∧ n ≤ 8 ∧ Q (oD (dig n os)) Om
def sp_Hasher___init__ : DSp := fun ds Om Q _ => ∃ (a : Addr) (n : Nat), ds = [.ref a, kindD n] ∧ Om a = some (.ins HC [] []) ∧ 1 ≤ n ∧ n ≤ 8 ∧ Q .non (putO Om a (.ins HC hN (hV n)))
def sp_Hasher_digest : DSp := fun ds Om Q _ => ∃ (os : List Int) (n : Nat), ds = [hsh n, oD os] ∧ 1 ≤ n ∧ n ≤ 8 ∧ Q (oD (dig n os)) Om
def sp_Hasher_is_digest : DSp := fun ds Om Q _ => ∃ (d : D) (n : Nat), ds = [hsh n, d] ∧ plD d = true ∧ (∀ xs, d = .tup xs → xs.length ≤ 16777216) ∧ Q (.bl (isOcts (some n) d)) Om
def sp_levels : DSp := fun ds Om Q _ => ∃ (d : D) (ps : List (List Int)) (n : Nat), ds = [hsh n, d] ∧ seqD d ps ∧ Szs ps ∧ 1 ≤ n ∧ n ≤ 8 ∧ Q (rowsD (rows (dig n) ps)) Om
def sp_root : DSp := fun ds Om Q _ => ∃ (d : D) (ps : List (List Int)) (n : Nat), ds = [hsh n, d] ∧ seqD d ps ∧ Szs ps ∧ 1 ≤ n ∧ n ≤ 8 ∧ Q (oD (topR (rows (dig n) ps))) Om
def sp_proofs : DSp := fun ds Om Q _ => ∃ (d : D) (ps : List (List Int)) (n : Nat), ds = [hsh n, d] ∧ seqD d ps ∧ Szs ps ∧ 1 ≤ n ∧ n ≤ 8 ∧ Q (.tup ((List.range ps.length).map fun i => osD (prf (rows (dig n) ps) i))) Om
def sp_path : DSp := fun ds Om Q _ => ∃ (i : Nat) (p : List Int) (pr : List (List Int)) (n : Nat), ds = [hsh n, .int i, oD p, osD pr] ∧ p.length ≤ 100000 ∧ (∀ o ∈ pr, o.length ≤ 100000) ∧ pr.length ≤ 100 ∧ 1 ≤ n ∧ n ≤ 8 ∧ Q (.lst ((way (dig n) i p pr).map oD)) Om
def sp_fold : DSp := fun ds Om Q _ => ∃ (i : Nat) (p : List Int) (pr : List (List Int)) (n : Nat), ds = [hsh n, .int i, oD p, osD pr] ∧ p.length ≤ 100000 ∧ (∀ o ∈ pr, o.length ≤ 100000) ∧ pr.length ≤ 100 ∧ 1 ≤ n ∧ n ≤ 8 ∧ Q (oD (fold (dig n) i p pr)) Om
def sp_is_proof : DSp := fun ds Om Q _ => ∃ (c : Nat) (d : D) (n : Nat), ds = [hsh n, .int c, d] ∧ c ≤ 1048576 ∧ plD d = true ∧ (∀ xs, d = .tup xs → xs.length ≤ 16777216 ∧ ∀ x ∈ xs, ∀ ys, x = .tup ys → ys.length ≤ 16777216) ∧ Q (.bl (isPrf n c d)) Om
def sp_fits : DSp := fun ds Om Q _ => ∃ (n : Nat) (top : List Int) (c i : Nat) (p : List Int) (pr : List (List Int)), ds = [hsh n, oD top, .int c, .int i, oD p, osD pr] ∧ i < c ∧ c ≤ 1048576 ∧ Oct p ∧ p.length ≤ 100000 ∧ pr.length = dep c ∧ (∀ o ∈ pr, Oct o ∧ o.length = n) ∧ 1 ≤ n ∧ n ≤ 8 ∧ Q (.bl (decide (fold (dig n) i p pr = top))) Om
def prtD : Option (List Int × List Int) → D
  | some (a, b) => .tup [oD a, oD b]
  | none => .non
def sp_parted : DSp := fun ds Om Q R => ∃ (n : Nat) (ps : List (List Int)) (i : Nat) (p : List Int) (pr : List (List Int)), ds = [hsh n, osD ps, .int i, oD p, osD pr] ∧ i < ps.length ∧ Szs ps ∧ (∀ p ∈ ps, Oct p) ∧ Oct p ∧ p.length ≤ 100000 ∧ pr.length = dep ps.length ∧ (∀ o ∈ pr, Oct o ∧ o.length = n) ∧ 1 ≤ n ∧ n ≤ 8 ∧
  (fold (dig n) i p pr ≠ topR (rows (dig n) ps) → R ⟨3, [], []⟩ Om) ∧ (fold (dig n) i p pr = topR (rows (dig n) ps) → Q (prtD (part (dig n) (way (dig n) i (ps.getD i []) (prf (rows (dig n) ps) i)) (way (dig n) i p pr))) Om)
def sp__law_cell : DSp := fun ds Om Q _ => ∃ (ns : List Int) (k : Nat), ds = [.scr ns, .int k] ∧ ∀ c : Int, Q (.int c) Om
def sp__law_rich : DSp := fun ds Om Q _ => ∃ (c : Int) (k : Nat), ds = [.int c, .int k] ∧ k ≤ 1000 ∧ ∀ r : Int, 0 ≤ r → Q (.int r) Om
end N

set_option Elab.async false
set_option linter.all false
set_option maxRecDepth 100000
set_option maxHeartbeats 0
/-! NL: shared lists; the law's tape -/
namespace N
open PySem PySem.Spec PyProof.Rows L2
section
variable {X : Cx} {P : Pm} {a b e o i : Expr} {w wa wb wo wi : WE} {pos p apos : Pos}
theorem shl_at {T : Th} {W : Wd} {H : Hp} {q : Addr} {xs : List D} (ok : WOk T W H) (e : W.Om q = some (.lst xs)) : ∃ vs, H q = some (.lst vs) ∧ Reps T W.F H xs vs ∧ W.F q :=
  let ⟨⟨vs, h, r⟩, f⟩ := ok.at_ q _ e
  ⟨vs, h, r, ok.sub q ⟨q, by rw [e]; simp, f⟩⟩
theorem shl_set {T : Th} {W : Wd} {H : Hp} {q : Addr} {xs ys : List D} {ws : List V} (ok : WOk T W H) (e : W.Om q = some (.lst xs)) (r : Reps T W.F H ys ws) : Step T W H (W.setO q (.lst ys)) (upd H q (.lst ws)) := by
  obtain ⟨_, _, _, f⟩ := shl_at ok e
  exact Step.mutS ok e ⟨ws, upd_same, Reps.kp (Kp.mut f) _ _ r⟩
/-- x[i], x shared -/
def wIxS (wa wb : WE) : WE := fun G Om Q R => wa G Om (fun d O => wb G O (fun z O' => match d, z with
  | .ref q, .int k => (match O' q with
    | some (.lst xs) => (match atI xs k with | some y => Q y O' | none => False)
    | _ => False)
  | _, _ => False) R) R
theorem de_ixS (ha : DE X P a wa) (hb : DE X P b wb) (hs : PlainIx b := by first | exact fun _ _ => rfl | (intro _ _; rfl)) : DE X P (.Subscript a b pos) (wIxS wa wb) := by
  refine ⟨pe_imp (pe_ix ix_list ha.pe hb.pe hs) fun σ H Q q => ?_⟩
  obtain ⟨G, W, Q0, R0, S, q, ex, hq⟩ := q
  refine ⟨G, W, _, R0, S, q, ex, fun d O h1 v H1 W1 s1 e1 r1 => ?_⟩
  subst e1
  refine ⟨G, W1, _, R0, S.step s1, h1, ex.step s1, fun z O' h2 u H2 W2 s2 e2 r2 => ?_⟩
  subst e2
  cases d <;> try exact h2.elim
  cases z <;> try exact h2.elim
  rename_i q k
  simp only [Rep] at r1 r2
  have h2 : (match W2.Om q with | some (.lst xs) => (match atI xs k with | some y => Q0 y W2.Om | none => False) | _ => False) := h2
  split at h2
  · rename_i xs ex2
    split at h2
    · rename_i y ey
      obtain ⟨vs, hv, rv, _⟩ := shl_at s2.ok ex2
      obtain ⟨t, et, rt⟩ := atI_rep rv ey
      exact ⟨q, vs, k, t, r1, r2, .of hv, et, hq _ _ h2 _ H2 W2 (s1.trans s2) rfl rt⟩
    · exact h2.elim
  · exact h2.elim
/-- len(x), x shared -/
def wLenS (w : WE) : WE := fun G Om Q R => w G Om (fun d O => match d with
  | .ref q => (match O q with
    | some (.lst xs) => Q (.int xs.length) O
    | _ => False)
  | _ => False) R
theorem de_lenS (hm : X.mg "len" = none) (ha : DE X P e w) (hv : bootBuiltins "len" = some (.builtin "len") := by decide +kernel) (hg : Gl X "len" := by rfl) (hn : ("len" : Str) ≠ "__name__" := by decide) (hdb : (("len" : Str) == ("__debug__" : Str)) = false := by decide)
    (he : starEach [e] X.env = (false, eval e X.env) :: starEach [] X.env := by rfl) (hpl : (backTo pos (starEach [] X.env)).any (·.1) = false := by rfl) : DE X P (.Call (.Name "len" p) [e] [] pos) (wLenS w) := by
  refine ⟨pe_imp (pe_callB call_len_seq hg hm hv (pa_cons ha.pe pa_nil he) hn hdb he hpl) fun σ H Q q => ?_⟩
  obtain ⟨G, W, Q0, R0, S, q, ex, hq⟩ := q
  refine ⟨G, W, _, R0, S, q, ex, fun d O h1 v H1 W1 s1 e1 r1 => ?_⟩
  subst e1
  cases d <;> try exact h1.elim
  rename_i q
  simp only [Rep] at r1
  have h1 : (match W1.Om q with | some (.lst xs) => Q0 (.int xs.length) W1.Om | _ => False) := h1
  split at h1
  · rename_i xs ex2
    obtain ⟨vs, hv, rv, _⟩ := shl_at s1.ok ex2
    exact ⟨q, vs, by rw [r1], .inl (.of hv), hq _ _ h1 _ H1 W1 s1 rfl (by simp [Rep, rv.len])⟩
  · exact h1.elim
/-- x[i] = e, x shared -/
def wSetIxS (wv wo wi : WE) : WS := fun G Om Po => wv G Om (fun d O => wo G O (fun z O1 => wi G O1 (fun y O2 => match z, y with
  | .ref q, .int k => (match O2 q with
    | some (.lst xs) => (match ixN xs.length k with | some j => Po.nx G (putO O2 q (.lst (xs.set j d))) | none => False)
    | _ => False)
  | _, _ => False) fun x O => Po.ex x G O) fun x O => Po.ex x G O) fun x O => Po.ex x G O
theorem ds_setIxS {wv : WE} {value : Expr} {tpos : Pos} (hv : DE X P value wv) (ho : DE X P o wo) (hi : DE X P i wi)
    (hs : swapsWithSole [.Subscript o i tpos] value pos.line X.env = pure false := by rfl) (hw : swappedStores [.Subscript o i tpos] value X.env = pure none := by rfl) (h1 : (assignEach [.Subscript o i tpos] X.env).map (·.2) = [assign (.Subscript o i tpos) X.env] := by rfl)
    (ha : ∀ v, assign (.Subscript o i tpos) X.env v = (do
      let ov ← holding [v] (eval o X.env)
      let iv ← holding [v, ov] (eval i X.env)
      standAt tpos
      holding [v, ov, iv] (setItem ov iv v)
      release [v, ov, iv] []) := by intro _; rfl) :
    DS X P (.Assign [.Subscript o i tpos] value pos) (wSetIxS wv wo wi) := by
  refine ⟨ps_imp (ps_asg hv.pe (pg_sub ho.pe hi.pe set_list ha) hs hw h1) fun D σ H ⟨G, W, Po, S, q, h⟩ => ⟨G, W, _, _, S, q, h.exE S, fun d O q1 v H1 W1 s1 e1 r1 => ?_⟩⟩
  subst e1
  have p1 := h.kp (s1.kp S.ok)
  refine ⟨G, W1, _, _, S.step s1, q1, p1.exE (S.step s1), fun z O1 q2 v2 H2 W2 s2 e2 r2 => ?_⟩
  subst e2
  have p2 := p1.kp (s2.kp s1.ok)
  refine ⟨G, W2, _, _, (S.step s1).step s2, q2, p2.exE ((S.step s1).step s2), fun y O2 q3 v3 H3 W3 s3 e3 r3 => ?_⟩
  subst e3
  cases z <;> try exact q3.elim
  cases y <;> try exact q3.elim
  rename_i q k
  simp only [Rep] at r2 r3
  have q3 : (match W3.Om q with | some (.lst xs) => (match ixN xs.length k with | some j => Po.nx G (putO W3.Om q (.lst (xs.set j d))) | none => False) | _ => False) := q3
  split at q3
  · rename_i xs ex2
    split at q3
    · rename_i j ej
      obtain ⟨vs, hv2, rv, _⟩ := shl_at s3.ok ex2
      have rd := Rep.kp (s3.kp s2.ok) _ _ (Rep.kp (s2.kp s1.ok) _ _ r1)
      have sm := shl_set s3.ok ex2 (rv.set rd j)
      refine ⟨q, vs, k, j, r2, r3, hv2, by rw [rv.len]; exact ej, ?_⟩
      exact p2.nx _ _ q3 _ _ _ ((s3.trans sm).kp s2.ok) (((S.step s1).step s2).step (s3.trans sm)) rfl
    · exact q3.elim
  · exact q3.elim
/-- x.pop(i), x shared -/
def wPopS (wo wi : WE) : WE := fun G Om Q R => wo G Om (fun d O => match d with
  | .ref q => (match O q with
    | some (.lst _) => wi G O (fun z O' => match z with
      | .int k => (match O' q with
        | some (.lst ys) => (-(2 ^ 63) ≤ k ∧ k < 2 ^ 63) ∧ (match seqIndex? k ys.length with
          | some j => (match ys[j]? with | some y => Q y (putO O' q (.lst (ys.eraseIdx j))) | none => False)
          | none => False)
        | _ => False)
      | _ => False) R
    | _ => False)
  | _ => False) R
theorem Reps.erase {T : Th} {F : Addr → Prop} {H : Hp} : ∀ {ds : List D} {vs : List V} (j : Nat), Reps T F H ds vs → Reps T F H (ds.eraseIdx j) (vs.eraseIdx j)
  | [], vs, j, h => by simp only [Reps] at h; subst h; simp [Reps]
  | d :: ds, vs, 0, h => by
    simp only [Reps] at h
    obtain ⟨v, r, e, h1, h2⟩ := h
    subst e
    exact h2
  | d :: ds, vs, j + 1, h => by
    simp only [Reps] at h
    obtain ⟨v, r, e, h1, h2⟩ := h
    subst e
    exact .cons h1 (Reps.erase j h2)
theorem de_popS {cpos : Pos} (ho : DE X P o wo) (hi : DE X P i wi)
    (hbase : attributeBase o "pop" X.env (eval o X.env) = eval o X.env := by rfl)
    (hfew : ((backTo cpos (starEach [i] X.env)).all (fun x => !x.1) && (backToKw cpos (keywordEach [] X.env)).all (fun x => x.1.isSome) && decide ([i].length + ([] : List Keyword).length + (if ([] : List Keyword).isEmpty then 0 else 1) < 30)) = true := by rfl)
    (hline : (apos.endLine == cpos.line) = true := by rfl) (hs1 : starEach [i] X.env = (false, eval i X.env) :: starEach [] X.env := by rfl) (hplain : (backTo cpos (starEach [] X.env)).any (·.1) = false := by rfl) :
    DE X P (.Call (.Attribute o "pop" apos) [i] [] cpos) (wPopS wo wi) := by
  refine ⟨pe_imp (pe_bm PySem.F.plainAttrs_list PySem.F.slot_list_pop PySem.F.type_list_pop mt_popAt ho.pe (pa_cons hi.pe pa_nil hs1) hbase hfew hline hs1 hplain) fun σ H Q q => ?_⟩
  obtain ⟨G, W, Q0, R0, S, q, ex, hq⟩ := q
  refine ⟨G, W, _, R0, S, q, ex, fun d O h1 v H1 W1 s1 e1 r1 => ?_⟩
  subst e1
  cases d <;> try exact h1.elim
  rename_i q
  simp only [Rep] at r1
  have h1 : (match W1.Om q with | some (.lst _) => _ | _ => False) := h1
  split at h1
  · rename_i xs0 ex0
    obtain ⟨vs0, hv0, _, _⟩ := shl_at s1.ok ex0
    refine ⟨by subst r1; exact .inl ⟨rfl, vs0, .of hv0⟩, G, W1, _, R0, S.step s1, h1, ex.step s1, fun z O' h2 u H2 W2 s2 e2 r2 => ?_⟩
    subst e2
    cases z <;> try exact h2.elim
    rename_i k
    simp only [Rep] at r2
    change (match W2.Om q with | some (.lst ys) => _ | _ => False) at h2
    split at h2
    · rename_i ys ey
      obtain ⟨hk, h2⟩ := h2
      obtain ⟨vs, hv, rv, Fq⟩ := shl_at s2.ok ey
      split at h2
      · rename_i j ej
        split at h2
        · rename_i y eyj
          obtain ⟨t, et, rt⟩ := rv.get eyj
          have sm := shl_set s2.ok ey (rv.erase j)
          show rPopAt v [u] H2 Q
          refine ⟨q, vs, k, j, t, r1, by rw [r2], hv, hk.1, hk.2, by rw [rv.len]; exact ej, et, ?_⟩
          exact hq _ _ h2 _ _ _ ((s1.trans s2).trans sm) rfl (Rep.kp (sm.kp s2.ok) _ _ rt)
        · exact h2.elim
      · exact h2.elim
    · exact h2.elim
  · exact h1.elim
/-! ### the tape -/
def tpO (O : Om) (a c : Addr) (cs : List Int) (s : Int) : Om := putO (putO O a (.lst [.ref c, .int s])) c (.lst (cs.map .int))
theorem tpO_a {O : Om} {a c : Addr} {cs : List Int} {s : Int} (h : a ≠ c) : tpO O a c cs s a = some (.lst [.ref c, .int s]) := by unfold tpO; rw [putO_ne h, putO_same]
theorem tpO_c {O : Om} {a c : Addr} {cs : List Int} {s : Int} : tpO O a c cs s c = some (.lst (cs.map .int)) := putO_same
theorem tpO_ne {O : Om} {a c b : Addr} {cs : List Int} {s : Int} (h : b ≠ a) (h2 : b ≠ c) : tpO O a c cs s b = O b := by unfold tpO; rw [putO_ne h2, putO_ne h]
/-- draws from the tape: any number below many -/
def sp_draw : DSp := fun ds Om Q _ => ∃ (a : Addr) (many : Int), ds = [.ref a, .int many] ∧ Om a = some (.abs 0) ∧ 0 < many ∧ many < 1073741824 ∧ ∀ r : Int, 0 ≤ r → r < many → Q (.int r) Om
/-- .. with the tape laid open -/
def TpOk (cs : List Int) (s : Int) : Prop := (∀ n ∈ cs, 0 ≤ n) ∧ cs.length ≤ 63 ∧ 0 ≤ s
def sp_drawO : DSp := fun ds Om Q _ => ∃ (a c : Addr) (cs : List Int) (s many : Int), ds = [.ref a, .int many] ∧ a ≠ c ∧ Om a = some (.lst [.ref c, .int s]) ∧ Om c = some (.lst (cs.map .int)) ∧ TpOk cs s ∧ 0 < many ∧ many < 1073741824 ∧
  ∀ (r : Int) (cs' : List Int) (s' : Int), 0 ≤ r → r < many → TpOk cs' s' → Q (.int r) (tpO Om a c cs' s')
theorem draw_open {T : Th} : ∀ vs H Q E, toSp T 2 sp_draw vs H Q E → toSp T 2 sp_drawO vs H Q E := by
  rintro vs H Q E ⟨ds, W, Q0, R0, l, r, ok, ⟨a, many, rfl, ea, m0, m1, hr⟩, hq, he⟩
  obtain ⟨⟨c, cs, s, nac, hfp, ha, hc, hcs, hl, h0⟩, fa⟩ := ok.at_ a _ ea
  have ea' : W.Om a ≠ none := by rw [ea]; simp
  have fc : W.fp a c := (hfp c).mpr (.inr rfl)
  have ec : W.Om c = none := by
    cases q : W.Om c with
    | none => rfl
    | some m => exact absurd (ok.dis c a c (by rw [q]; simp) ea' (ok.at_ c m q).2 fc).symm nac
  have nfp : ∀ x b, W.Om x ≠ none → x ≠ a → W.fp x b → b ≠ a ∧ b ≠ c := fun x b hx hxa hf => ⟨fun z => hxa (ok.dis x a a hx ea' (z ▸ hf) fa), fun z => hxa (ok.dis x a c hx ea' (z ▸ hf) fc)⟩
  have xc : ∀ x, W.Om x ≠ none → x ≠ c := fun x hx z => hx (z ▸ ec)
  let W1 : Wd := ⟨tpO W.Om a c cs s, fun x b => if x = a then b = a else if x = c then b = c else W.fp x b, W.F⟩
  have fp1a : ∀ b, W1.fp a b ↔ b = a := fun b => by show (if a = a then b = a else if a = c then b = c else W.fp a b) ↔ b = a; rw [if_pos rfl]
  have fp1c : ∀ b, W1.fp c b ↔ b = c := fun b => by show (if c = a then b = a else if c = c then b = c else W.fp c b) ↔ b = c; rw [if_neg nac.symm, if_pos rfl]
  have fp1 : ∀ x, x ≠ a → x ≠ c → W1.fp x = W.fp x := fun x h h2 => funext fun b => by show (if x = a then b = a else if x = c then b = c else W.fp x b) = W.fp x b; rw [if_neg h, if_neg h2]
  have om1 : ∀ x, x ≠ a → x ≠ c → W1.Om x = W.Om x := fun x h h2 => tpO_ne h h2
  have Fa : W.F a := ok.sub a ⟨a, ea', fa⟩
  have Fc : W.F c := ok.sub c ⟨a, ea', fc⟩
  have ok1 : WOk T W1 H := by
    refine ⟨fun x m e => ?_, fun b ⟨x, hx, hf⟩ => ?_, fun x y b hx hy fx fy => ?_, ok.trk, ok.code⟩
    · by_cases h : x = a
      · subst h
        rw [show W1.Om x = _ from tpO_a nac] at e
        cases e
        exact ⟨⟨_, ha, .cons (by simp [Rep]) (.cons (by simp [Rep]) .nil)⟩, (fp1a x).mpr rfl⟩
      · by_cases h2 : x = c
        · subst h2
          rw [show W1.Om x = _ from tpO_c] at e
          cases e
          exact ⟨⟨_, hc, Reps.ints cs⟩, (fp1c x).mpr rfl⟩
        · rw [om1 x h h2] at e
          rw [fp1 x h h2]
          exact ok.at_ x m e
    · by_cases h : x = a
      · subst h; rw [(fp1a b).mp hf]; exact Fa
      · by_cases h2 : x = c
        · subst h2; rw [(fp1c b).mp hf]; exact Fc
        · rw [om1 x h h2] at hx
          rw [fp1 x h h2] at hf
          exact ok.sub b ⟨x, hx, hf⟩
    · have key : ∀ x b, W1.Om x ≠ none → W1.fp x b → (b = a → x = a) ∧ (b = c → x = c) := fun x b hx hf => by
        by_cases h : x = a
        · subst h; rw [(fp1a b).mp hf]; exact ⟨fun _ => rfl, fun z => z⟩
        · by_cases h2 : x = c
          · subst h2; rw [(fp1c b).mp hf]; exact ⟨fun z => z, fun _ => rfl⟩
          · rw [om1 x h h2] at hx
            rw [fp1 x h h2] at hf
            have := nfp x b hx h hf
            exact ⟨fun z => (this.1 z).elim, fun z => (this.2 z).elim⟩
      by_cases h : b = a
      · rw [(key x b hx fx).1 h, (key y b hy fy).1 h]
      · by_cases h2 : b = c
        · rw [(key x b hx fx).2 h2, (key y b hy fy).2 h2]
        · have xa : x ≠ a := fun z => h ((fp1a b).mp (z ▸ fx))
          have xc : x ≠ c := fun z => h2 ((fp1c b).mp (z ▸ fx))
          have ya : y ≠ a := fun z => h ((fp1a b).mp (z ▸ fy))
          have yc : y ≠ c := fun z => h2 ((fp1c b).mp (z ▸ fy))
          rw [om1 x xa xc] at hx; rw [om1 y ya yc] at hy; rw [fp1 x xa xc] at fx; rw [fp1 y ya yc] at fy
          exact ok.dis x y b hx hy fx fy
  refine ⟨_, W1, fun d O' => ∃ (r : Int) (cs' : List Int) (s' : Int), d = .int r ∧ 0 ≤ r ∧ r < many ∧ TpOk cs' s' ∧ O' = tpO W1.Om a c cs' s', fun _ _ => False, l, r, ok1, ⟨a, c, cs, s, many, rfl, nac, tpO_a nac, tpO_c, ⟨hcs, hl, h0⟩, m0, m1, fun r cs' s' a1 a2 a3 => ⟨r, cs', s', rfl, a1, a2, a3, rfl⟩⟩, fun d O' ⟨r, cs', s', ed, r0, r1, tk, eO⟩ v H' W' st eW rep => ?_, fun _ _ z => z.elim⟩
  subst ed
  have eW : W'.Om = tpO W1.Om a c cs' s' := eW.trans eO
  have ea2 : W'.Om a = some (.lst [.ref c, .int s']) := by rw [eW]; exact tpO_a nac
  have ec2 : W'.Om c = some (.lst (cs'.map .int)) := by rw [eW]; exact tpO_c
  have eo2 : ∀ x, x ≠ a → x ≠ c → W'.Om x = W.Om x := fun x h h2 => by rw [eW, tpO_ne h h2]; exact om1 x h h2
  have f2a : W'.fp a = W1.fp a := (st.om a (by rw [show W1.Om a = _ from tpO_a nac]; simp)).2
  have f2c : W'.fp c = W1.fp c := (st.om c (by rw [show W1.Om c = _ from tpO_c]; simp)).2
  have f2 : ∀ x, W.Om x ≠ none → x ≠ a → W'.fp x = W.fp x := fun x hx h => by
    rw [(st.om x (by rw [om1 x h (xc x hx)]; exact hx)).2, fp1 x h (xc x hx)]
  obtain ⟨⟨va, hva, rva⟩, _⟩ := st.ok.at_ a _ ea2
  obtain ⟨⟨vc, hvc, rvc⟩, _⟩ := st.ok.at_ c _ ec2
  simp only [Reps, Rep] at rva
  obtain ⟨_, _, rfl, rfl, _, _, rfl, rfl, rfl⟩ := rva
  have := rvc.ofInts
  subst this
  let W2 : Wd := ⟨W.Om, fun x b => if x = a then (b = a ∨ b = c) else W'.fp x b, W'.F⟩
  have fp2a : ∀ b, W2.fp a b ↔ (b = a ∨ b = c) := fun b => by show (if a = a then (b = a ∨ b = c) else W'.fp a b) ↔ _; rw [if_pos rfl]
  have fp2 : ∀ x, x ≠ a → W2.fp x = W'.fp x := fun x h => funext fun b => by show (if x = a then (b = a ∨ b = c) else W'.fp x b) = _; rw [if_neg h]
  have ok2 : WOk T W2 H' := by
    refine ⟨fun x m e => ?_, fun b ⟨x, hx, hf⟩ => ?_, fun x y b hx hy fx fy => ?_, st.ok.trk, st.ok.code⟩
    · by_cases h : x = a
      · subst h
        have e : W.Om x = some m := e
        rw [ea] at e
        cases e
        exact ⟨⟨c, cs', s', nac, fp2a, hva, hvc, tk.1, tk.2.1, tk.2.2⟩, (fp2a x).mpr (.inl rfl)⟩
      · have e : W.Om x = some m := e
        have h2 : x ≠ c := xc x (by rw [e]; simp)
        rw [fp2 x h]
        exact st.ok.at_ x m (by rw [eo2 x h h2]; exact e)
    · by_cases h : x = a
      · subst h
        rcases (fp2a b).mp hf with z | z
        · rw [z]; exact st.sub _ Fa
        · rw [z]; exact st.sub _ Fc
      · have h2 : x ≠ c := xc x hx
        rw [fp2 x h] at hf
        exact st.ok.sub b ⟨x, by rw [eo2 x h h2]; exact hx, hf⟩
    · have old : ∀ x b, W.Om x ≠ none → x ≠ a → W2.fp x b → W.fp x b := fun x b hx h hf => by rw [fp2 x h, f2 x hx h] at hf; exact hf
      by_cases h : x = a <;> by_cases h' : y = a
      · rw [h, h']
      · subst h
        have := nfp y b hy h' (old y b hy h' fy)
        rcases (fp2a b).mp fx with z | z
        · exact (this.1 z).elim
        · exact (this.2 z).elim
      · subst h'
        have := nfp x b hx h (old x b hx h fx)
        rcases (fp2a b).mp fy with z | z
        · exact (this.1 z).elim
        · exact (this.2 z).elim
      · exact ok.dis x y b hx hy (old x b hx h fx) (old y b hy h' fy)
  have pm1 : ∀ b, W1.pm b → W.pm b := fun b ⟨x, hx, hf⟩ => by
    by_cases h : x = a
    · subst h; rw [(fp1a b).mp hf]; exact ⟨x, ea', fa⟩
    · by_cases h2 : x = c
      · subst h2; rw [(fp1c b).mp hf]; exact ⟨a, ea', fc⟩
      · rw [om1 x h h2] at hx
        rw [fp1 x h h2] at hf
        exact ⟨x, hx, hf⟩
  refine hq _ _ (hr r r0 r1) v H' W2 ⟨ok2, fun b o e t n => st.keep' b o e t fun z => n (pm1 b z), st.trk, st.sub, st.fnew, fun x hx => ⟨hx, ?_⟩, fun x b h h' => absurd h h'⟩ rfl rep
  by_cases h : x = a
  · subst h
    exact funext fun b => propext ((fp2a b).trans (hfp b).symm)
  · rw [fp2 x h, f2 x hx h]
end
end N
namespace N
open PySem PySem.Spec PyProof.Rows L2
def Wd.addT (W : Wd) (q p : Addr) : Wd := ⟨putO W.Om q (.abs 0), fun x b => if x = q then (b = q ∨ b = p) else W.fp x b, fun b => W.F b ∨ b = q⟩
theorem Step.tape {T : Th} {W W2 : Wd} {H H2 : Hp} {p q : Addr} {cs : List Int} {s : Int} (st : Step T W H W2 H2) (hp : H p = none) (hl : H2 p = some (.lst (cs.map V.int))) (Fp : W2.F p) (np : ¬ W2.pm p) (hq : H2 q = none) (tk : TpOk cs s) :
    Step T W H (W2.addT q p) (upd H2 q (.lst [.ref p, .int s])) := by
  have npq : q ≠ p := fun z => by rw [z, hl] at hq; cases hq
  have noq := om_none st.ok hq
  have nFq : ¬ W2.F q := fun z => st.ok.trk q z hq
  have fpq : ∀ b, (W2.addT q p).fp q b ↔ (b = q ∨ b = p) := fun b => by show (if q = q then (b = q ∨ b = p) else W2.fp q b) ↔ _; rw [if_pos rfl]
  have fp : ∀ x, x ≠ q → (W2.addT q p).fp x = W2.fp x := fun x h => funext fun b => by show (if x = q then (b = q ∨ b = p) else W2.fp x b) = _; rw [if_neg h]
  have om : ∀ x, x ≠ q → (W2.addT q p).Om x = W2.Om x := fun x h => putO_ne h
  have hl' : (upd H2 q (.lst [.ref p, .int s])) p = some (.lst (cs.map V.int)) := by rw [upd_ne npq.symm]; exact hl
  have kp : Kp W2.F H2 (W2.addT q p).F (upd H2 q (.lst [.ref p, .int s])) := ⟨fun b u e _ _ => ext_upd hq b u e, fun b z => z.imp _root_.id fun e => by rw [e]; exact hq, trk_upd⟩
  have nfp : ∀ x b, W2.Om x ≠ none → W2.fp x b → b ≠ q ∧ b ≠ p := fun x b hx hf => ⟨fun z => nFq (st.ok.sub q ⟨x, hx, z ▸ hf⟩), fun z => np ⟨x, hx, z ▸ hf⟩⟩
  refine ⟨⟨fun x m e => ?_, fun b ⟨x, hx, hf⟩ => ?_, fun x y b hx hy fx fy => ?_, fun b z => ?_, fun b y z => ?_⟩, fun b u e t n => ext_upd hq b u (st.keep' b u e t n), fun b z => ?_, fun b z => .inl (st.sub b z), fun b z => ?_, fun x hx => ?_, fun x b hx hx' hf => ?_⟩
  · by_cases h : x = q
    · subst h
      rw [show (W2.addT x p).Om x = some (.abs 0) from putO_same] at e
      cases e
      exact ⟨⟨p, cs, s, npq, fpq, upd_same, hl', tk.1, tk.2.1, tk.2.2⟩, (fpq x).mpr (.inl rfl)⟩
    · rw [om x h] at e
      rw [fp x h]
      obtain ⟨r, f⟩ := st.ok.at_ x m e
      exact ⟨MRep.kp kp (fun b hb => upd_ne (nfp x b (by rw [e]; simp) hb).1) f r, f⟩
  · by_cases h : x = q
    · subst h
      rcases (fpq b).mp hf with z | z
      · exact .inr z
      · rw [z]; exact .inl Fp
    · rw [om x h] at hx
      rw [fp x h] at hf
      exact .inl (st.ok.sub b ⟨x, hx, hf⟩)
  · by_cases h : x = q <;> by_cases h' : y = q
    · rw [h, h']
    · subst h
      rw [om y h'] at hy
      rw [fp y h'] at fy
      have := nfp y b hy fy
      rcases (fpq b).mp fx with z | z
      · exact (this.1 z).elim
      · exact (this.2 z).elim
    · subst h'
      rw [om x h] at hx
      rw [fp x h] at fx
      have := nfp x b hx fx
      rcases (fpq b).mp fy with z | z
      · exact (this.1 z).elim
      · exact (this.2 z).elim
    · rw [om x h] at hx; rw [om y h'] at hy; rw [fp x h] at fx; rw [fp y h'] at fy
      exact st.ok.dis x y b hx hy fx fy
  · by_cases h : b = q
    · rw [h, upd_same]; simp
    · rw [upd_ne h]; exact st.ok.trk b (z.resolve_right h)
  · by_cases h : b = q
    · rw [h, upd_same]
      intro z
      cases z
    · rw [upd_ne h]; exact st.ok.code b y (z.resolve_right h)
  · by_cases h : b = q
    · rw [h, upd_same]; simp
    · rw [upd_ne h]; exact st.trk b z
  · rcases z with z | z
    · exact st.fnew b z
    · rw [z]; exact .inr (st.back hq)
  · have h : x ≠ q := fun z => (st.om x hx).1 (z ▸ noq)
    rw [om x h, fp x h]
    exact st.om x hx
  · by_cases h : x = q
    · subst h
      rcases (fpq b).mp hf with z | z
      · rw [z]; exact st.back hq
      · rw [z]; exact hp
    · rw [om x h] at hx'
      rw [fp x h] at hf
      exact st.new x b hx hx' hf
section
variable {X : Cx} {P : Pm} {e1 e2 : Expr} {pos lpos : Pos} {w1 : WF} {w2 : WE}
/-- return [a new list of ints, an int]: a tape -/
def wRetTape (w1 : WF) (w2 : WE) : WS := fun G Om Po => w1 G Om (fun m O => w2 G O (fun d O' => match m, d with
  | .lst xs, .int s => ∃ cs : List Int, xs = cs.map .int ∧ TpOk cs s ∧ ∀ a, O' a = none → Po.rt (.ref a) (putO O' a (.abs 0))
  | _, _ => False) fun x O => Po.ex x G O) fun x O => Po.ex x G O
theorem ds_retTape (h1 : DF X P e1 w1) (h2 : DE X P e2 w2) (hs1 : starEach [e1, e2] X.env = (false, eval e1 X.env) :: starEach [e2] X.env := by rfl) (hs2 : starEach [e2] X.env = (false, eval e2 X.env) :: starEach [] X.env := by rfl) :
    DS X P (.Return (some (.List [e1, e2] lpos)) pos) (wRetTape w1 w2) := by
  refine ⟨ps_imp (ps_ret (pe_lst (pa_cons h1.pe (pa_cons h2.pe pa_nil hs2) hs1))) fun D σ H ⟨G, W, Po, S, q, h⟩ => ?_⟩
  refine ⟨G, W, _, _, S, q, h.exE S, fun m O q1 p H1 W1 s1 e1 n1 F1 npm o1 r1 => ?_⟩
  subst e1
  have hk := h.kp (s1.kp S.ok)
  refine ⟨G, W1, _, _, S.step s1, q1, hk.exE (S.step s1), fun d O2 q2 v H2 W2 s2 e2 r2 => ?_⟩
  subst e2
  cases m <;> try exact q2.elim
  cases d <;> try exact q2.elim
  rename_i xs s
  obtain ⟨cs, rfl, tk, q3⟩ := q2
  obtain ⟨vs, hv, rv⟩ := r1
  have := rv.ofInts
  subst this
  simp only [Rep] at r2
  subst r2
  refine ⟨sz16 (by simp), fun a ha => ?_⟩
  have hv2 : H2 p = some (.lst (cs.map V.int)) := s2.keep p _ hv npm
  have st := Step.tape (s1.trans s2) n1 hv2 (s2.sub p F1) (s2.pm hv npm) ha tk
  exact h.rt _ _ (q3 a (om_none s2.ok ha)) _ _ _ (S.st.trans st) rfl (by simp [Rep])
end
end N

set_option Elab.async false
set_option linter.all false
set_option maxRecDepth 100000
set_option maxHeartbeats 0
namespace N
open PySem PySem.Spec PyProof.Rows L2
local macro_rules | `(tactic| tm_at "nw") => `(tactic| try simp only [wFn, startG_c, startG_n, startG_z, wSeq, wSet, wC, wFor, wIt, wVar, wVarB, getSl_z, getSl_s, List.set_cons_zero, List.set_cons_succ, wRet, wBin, gI_i, gI0_i, gB0_i, gAdd_i, gAdd_t, gAdd_l, gAdd_s, gMul_i, gMul_t, gMul_l, gEq_, gNe_, gIs_n, gIs_b, gIsNot_n, gIsNot_b, isNon_n, isNon_i, isNon_b, isNon_t, isNon_l, isNon_s, wIfS, wtOr, wtAnd, wtNot, wTst, wNext, wNev, wCall, wCallF, wFrz, wLst, wTup, waNil, waCons, wComp, wRng, gRng1_i, gRng2_i, gRng3_i, wUn, gNeg_i, gTuple_t, gTuple_l, gList_t, gList_l, gList_s, gLen_t, gLen_l, gLen_s, gLen_d, gInt_i, gInt_b, gAbs_i, gMax_i, gMin_i, wipeG, MO.see, fName, wCallU, wCallK, List.append_nil, List.length_cons, List.length_nil, wSl, woNone, woSome, gSl_t, gSl_l, gIt_t, gIt_l, gIt_s, gIsi_i, gIsi_b, gIsi_t, gIsi_l, gIsi_s, gIsi_n, gIsi_d, wFld, wMeth, wMake, wMakeF, wSetF, wExt, wFz, wRev, wRaise, wTry, wBits, insOf_ins, lk_kind, lk_size, lk_digest, lk_is_digest, gEnum_t, gEnum_l, gZip_t, gZip_l, mem1, reduceCtorEq, eq_self, wAsg, fTup, fCons, fNil, wAnd, wOr, wNot, wIf, wPar, wAug, wApp, wSetO, wRetO, br_t, br_f, shp_int, shp_bl, shp_non, deq_int, gAll_b, gAny_b, gSum_i, wDrop, wRetN, true_and, and_true, decide_true, decide_false, Bool.not_true, Bool.not_false, isi_NoneType_bool, isi_NoneType_int, isi_NoneType_str, isi_NoneType_tuple, isi_NoneType_list, isi_NoneType_dict, isi_bool_bool, isi_bool_int, isi_bool_str, isi_bool_tuple, isi_bool_list, isi_bool_dict, isi_int_bool, isi_int_int, isi_int_str, isi_int_tuple, isi_int_list, isi_int_dict, isi_str_bool, isi_str_int, isi_str_str, isi_str_tuple, isi_str_list, isi_str_dict, isi_tuple_bool, isi_tuple_int, isi_tuple_str, isi_tuple_tuple, isi_tuple_list, isi_tuple_dict, isi_list_bool, isi_list_int, isi_list_str, isi_list_tuple, isi_list_list, isi_list_dict, isi_dict_bool, isi_dict_int, isi_dict_str, isi_dict_tuple, isi_dict_list, isi_dict_dict, okTy_bool, okTy_int, okTy_str, okTy_tuple, okTy_list, okTy_dict])
local macro_rules | `(tactic| tm_at "nc") => `(tactic| first | exact True.intro | omega | exact mulL (by omega) (by omega) | exact mulR (by omega) (by omega) | exact divOk (by omega) (by omega) | (simp only [List.length_append, List.length_map, List.length_cons, List.length_nil, List.length_replicate, List.length_flatten, List.map_replicate, List.sum_replicate_nat, List.length_range, rngL_len, rngC_len, List.cons_append, List.nil_append]; first | done | omega))
local macro_rules | `(tactic| tm_at "ns") => `(tactic| repeat (with_reducible refine And.intro (by first | tm_at "nc" | exact ⟨by tm_at "nc", by tm_at "nc"⟩ | exact ⟨by tm_at "nc", by tm_at "nc", by tm_at "nc"⟩ | exact ⟨by tm_at "nc", by tm_at "nc", by tm_at "nc", by tm_at "nc"⟩) ?_))
def kD : Key → D
  | .inl i => .int i
  | .inr x => .str x
/-- the pairs of keys and values -/
def prsD : List Key → List D → List D
  | k :: ks, d :: ds => .tup [kD k, d] :: prsD ks ds
  | _, _ => []
theorem keyOf_rep {T : Th} {F : Addr → Prop} {H : Hp} {k : Key} {v : V} (h : Rep T F H (kD k) v) : v = kV k := by
  cases k <;> simp only [kD, Rep] at h <;> rw [h] <;> rfl
theorem prs_rep {T : Th} {F : Addr → Prop} {H : Hp} {K : PySem.W.Frag} (hK : T.K = K) : ∀ {ks : List Key} {ds : List D} {vs : List V}, ks.length = ds.length → Reps T F H (prsD ks ds) vs →
    ∃ (ps : List Addr) (ws : List V), vs = ps.map V.ref ∧ Paired (fun p kv => SqT K H p [kV kv.1, kv.2]) ps (ks.zip ws) ∧ Reps T F H ds ws
  | [], [], vs, _, r => by
    simp only [prsD, Reps] at r
    subst r
    exact ⟨[], [], rfl, .nil, rfl⟩
  | [], d :: ds, vs, l, r => by simp at l
  | k :: ks, [], vs, l, r => by simp at l
  | k :: ks, d :: ds, vs, l, r => by
    simp only [prsD, Reps] at r
    obtain ⟨v, w, rfl, h1, h2⟩ := r
    obtain ⟨ps, ws, rfl, pr, r2⟩ := prs_rep hK (by simpa using l) h2
    simp only [Rep] at h1
    obtain ⟨a, us, rfl, ha, v1, w1, rfl, k1, v2, w2, rfl, d1, rfl⟩ := h1
    obtain rfl := keyOf_rep k1
    exact ⟨a :: ps, v2 :: ws, rfl, .cons (hK ▸ tupAt ha) pr, v2, ws, rfl, d1, r2⟩
theorem valV_out {k : Key} : ∀ {kvs : List (Key × V)}, k ∉ kvs.map (·.1) → valV kvs k = none
  | [], _ => rfl
  | p :: r, h => by
    rw [List.map_cons, List.mem_cons, not_or] at h
    rw [valV_neg (fun e => h.1 e.symm)]
    exact valV_out h.2
theorem merge_nodup : ∀ (more acc : List (Key × V)), ((acc ++ more).map (·.1)).Nodup → mergeK acc more = acc ++ more
  | [], acc, _ => by simp [mergeK]
  | (k, v) :: r, acc, h => by
    have hn : k ∉ acc.map (·.1) := by
      rw [List.map_append, List.nodup_append] at h
      exact fun hm => h.2.2 _ hm k (by simp) rfl
    have ih := merge_nodup r (acc ++ [(k, v)]) (by simpa using h)
    unfold mergeK at ih ⊢
    rw [List.foldl_cons, putK_new _ (valV_out hn), ih]
    simp
section
variable {X : Cx} {T : Th} {P : Pm}
/-- dict(d), dict(pairs) of different keys -/
def gDict : GCF
  | [.dct ks vs], Q => Q (.dct ks vs)
  | [.lst ps], Q => ∃ ks vs, ps = prsD ks vs ∧ ks.length = vs.length ∧ ks.Nodup ∧ Q (.dct ks vs)
  | _, _ => False
theorem cf_dict (hK : T.K = X.K) (hcalm : X.calm = true) : CallF X T (.type "dict") gDict := by
  intro pins s σ H xs us Q I r ⟨F, Pm, ds, Qd, hx, hF, hg, hq⟩
  match ds, hg with
  | [.dct ks vs], hg =>
    obtain ⟨v, rfl, h⟩ := reps1 hx
    simp only [RepT] at h
    obtain ⟨a, ws, rfl, ha, n, l, r2⟩ := h
    exact call_dictD pins s σ H _ us Q I r ⟨a, _, rfl, ha, fun p hp => hq (.dct ks vs) hg p (.dK (ks.zip ws)) hp ⟨ws, rfl, l, r2⟩⟩
  | [.lst ps], hg =>
    obtain ⟨ks, vs, rfl, l, nd, hg⟩ := hg
    obtain ⟨v, rfl, h⟩ := reps1 hx
    simp only [RepT] at h
    obtain ⟨a, ws, rfl, ha, n, r2⟩ := h
    obtain ⟨ps, us2, rfl, pr, r3⟩ := prs_rep hK l r2
    refine call_dictP hcalm pins s σ H _ us Q I r ⟨a, ps, _, rfl, .inl (.of ha), pr, fun p hp => ?_⟩
    have e : mergeK [] (ks.zip us2) = ks.zip us2 := by
      rw [merge_nodup, List.nil_append]
      rw [List.nil_append, List.map_fst_zip (by rw [l, r3.len]; exact Nat.le_refl _)]
      exact nd
    rw [e]
    exact hq (.dct ks vs) hg p (.dK (ks.zip us2)) hp ⟨us2, rfl, l, r3⟩
def gGcd : GC
  | [.int a, .int b], Q => Q (.int ((Nat.gcd a.natAbs b.natAbs : Nat) : Int))
  | _, _ => False
theorem cd_gcd : CallD X T (.builtin "math.gcd") gGcd := by
  intro pins s σ H xs us Q I r ⟨F, Pm, ds, Qd, hx, hF, hg, hq⟩
  match ds, hg with
  | [.int a, .int b], hg =>
    obtain ⟨v, v2, rfl, h1, h2⟩ := reps2 hx
    have h1 : v = .int a := h1
    have h2 : v2 = .int b := h2
    subst h1 h2
    exact cr_gcd pins s σ H _ us Q I r ⟨a, b, rfl, hq _ hg _ H (fun _ _ z => z) rfl⟩
/-- a module's name for a built-in function -/
theorem de_callN {g : GC} {id : String} {x : Str} {pos p : Pos} {e : Expr} {es : List Expr} {wl : WA} (hc : CallD X P.T (.builtin id) g) (hm : X.mg x = some (.builtin id)) (ha : DAB X P (e :: es) wl) (hg : Gl X x := by rfl) (hdb : (x == ("__debug__" : Str)) = false := by decide)
    (he : starEach (e :: es) X.env = (false, eval e X.env) :: starEach es X.env := by rfl) (hpl : (backTo pos (starEach es X.env)).any (·.1) = false := by rfl) : DE X P (.Call (.Name x p) (e :: es) [] pos) (wCall g wl) :=
  ⟨pe_imp (pe_callBfun hc hg hm ha.pa hdb he hpl) call_imp⟩
end
end N

set_option Elab.async false
set_option linter.all false
set_option maxRecDepth 100000
set_option maxHeartbeats 0
namespace N
open PySem PySem.Spec PyProof.Rows L2
section
variable {X : Cx} {P : Pm} {tg iter : Expr} {w : WE}
def kyD : Key → D
  | .inl i => .int i
  | .inr x => .str x
def wKeys (w : WE) : WA := fun G Om Q R => w G Om (fun d O => match d with | .dct ks _ => Q (ks.map kyD) O | _ => False) R
theorem rep_kyD {T : Th} {F : Addr → Prop} {H : Hp} (k : Key) : Rep T F H (kyD k) (kV k) := by cases k <;> simp [kyD, kV, Rep]
theorem di_keys (h : DE X P iter w) : DI X P (RF P.T) tg iter (wKeys w) := by
  refine ⟨pi_imp (pi_keys h.pe) fun σ H R q => ?_⟩
  obtain ⟨G, W, Q0, R0, S, q, ex, hq⟩ := q
  refine ⟨G, W, _, R0, S, q, ex, fun d O h1 v H1 W1 s1 e1 r => ?_⟩
  cases d <;> try exact h1.elim
  simp only [Rep] at r
  obtain ⟨a, vs, rfl, ⟨o, ha⟩, n, l, r⟩ := r
  rename_i ks ds
  refine ⟨a, o, rfl, .inl ⟨_, ha, hq _ O h1 _ H1 W1 s1 e1 ?_⟩⟩
  have wk := walk_keys (d := a) (o := o) (kvs := ks.zip vs)
  rw [show (ks.zip vs).length = (ks.map kyD).length from by rw [List.length_zip, r.len, ← l, Nat.min_self, List.length_map]] at wk
  refine ⟨_, _, wk, fun W2 H2 k => ⟨k.1.same _ _ ha n, fun i d e x H3 y => ?_⟩⟩
  · obtain ⟨rfl, k, v, ek, rfl⟩ := y
    refine ⟨fun _ _ z => z, ?_⟩
    rw [List.getElem?_map] at e
    have : ks[i]? = some k := by
      rw [List.getElem?_zip_eq_some] at ek
      exact ek.1
    rw [this] at e
    cases e
    exact rep_kyD k
theorem di_keysB (h : DE X P iter w) : DI X P (RS P.T) tg iter (wKeys w) := by
  refine ⟨pi_imp (pi_keys h.pe) fun σ H R q => ?_⟩
  obtain ⟨G, W, Q0, R0, S, q, ex, hq⟩ := q
  refine ⟨G, W, _, R0, S, q, ex, fun d O h1 v H1 W1 s1 e1 r => ?_⟩
  cases d <;> try exact h1.elim
  simp only [Rep] at r
  obtain ⟨a, vs, rfl, ⟨o, ha⟩, n, l, r⟩ := r
  rename_i ks ds
  refine ⟨a, o, rfl, .inl ⟨_, ha, hq _ O h1 _ H1 W1 s1 e1 ?_⟩⟩
  have wk := walk_keys (d := a) (o := o) (kvs := ks.zip vs)
  rw [show (ks.zip vs).length = (ks.map kyD).length from by rw [List.length_zip, r.len, ← l, Nat.min_self, List.length_map]] at wk
  refine ⟨_, _, wk, fun W2 H2 k => ⟨(Step.kp k s1.ok).same _ _ ha n, fun i d e x H3 y => ?_⟩⟩
  · obtain ⟨rfl, k, v, ek, rfl⟩ := y
    refine ⟨fun _ _ z => z, ?_⟩
    rw [List.getElem?_map] at e
    have : ks[i]? = some k := by
      rw [List.getElem?_zip_eq_some] at ek
      exact ek.1
    rw [this] at e
    cases e
    exact rep_kyD k
end
end N

set_option Elab.async false
set_option linter.all false
set_option maxRecDepth 100000
set_option maxHeartbeats 0
/-! NM: chains of comparisons, own items stored, own dicts, get, displays -/
namespace N
open PySem PySem.Spec PyProof.Rows L2
section
variable {X : Cx} {P : Pm} {a b c e f o i value : Expr} {es : List Expr} {wa wb wc w wo wi wv wf : WE} {pos p tpos apos cpos : Pos}
/-- a op b op' c -/
def wChn (g g' : GD) (wa wb wc : WE) : WE := fun G Om Q R => wa G Om (fun x O1 => wb G O1 (fun y O2 => g x y fun z => match z with
  | .bl k => br k (wc G O2 (fun u O3 => g' y u fun z' => Q z' O3) R) (Q (.bl false) O2)
  | _ => False) R) R
theorem chn_imp {g g' : GD} : ∀ σ H Q, tE P (wChn g g' wa wb wc) σ H Q → tChain (rD P.T g) (rD P.T g') (tB P wa) (tB P wb) (tB P wc) σ H Q := fun σ H Q h => by
  obtain ⟨G, W, Q0, R0, S, h, ex, hq⟩ := h
  refine ⟨G, W, _, R0, S, h, ex, fun dx O1 h1 x H1 W1 s1 e1 rx => ?_⟩
  subst e1
  refine ⟨G, W1, _, R0, S.step s1, h1, ex.step s1, fun dy O2 h2 y H2 W2 s2 e2 ry => ?_⟩
  subst e2
  refine ⟨W2.F, W2.pm, dx, dy, _, rx.step s2 s1.ok, ry, s2.ok.trk, h2, fun z hz v H3 xt r => ?_⟩
  have s3 : Step P.T W2 H2 W2 H3 := Step.ext s2.ok xt
  cases z <;> try exact hz.elim
  rename_i k
  simp only [Rep] at r
  refine ⟨k, r, ?_⟩
  cases k with
  | false =>
    rw [if_neg (by decide)]
    exact hq _ _ hz _ H3 W2 ((s1.trans s2).trans s3) rfl (by simp [Rep])
  | true =>
    rw [if_pos rfl]
    refine ⟨G, W2, _, R0, ((S.step s1).step s2).step s3, hz, ((ex.step s1).step s2).step s3, fun du O3 h3 u H4 W3 s4 e4 ru => ?_⟩
    refine ⟨W3.F, W3.pm, dy, du, _, (ry.step s3 s2.ok).step s4 s3.ok, ru, s4.ok.trk, h3, fun z' hz' v' H5 xt' r' => ?_⟩
    exact hq z' O3 hz' v' H5 W3 ((((s1.trans s2).trans s3).trans s4).trans (Step.ext s4.ok xt')) e4 r'
theorem de_chn {op op' : CmpOp} {g g' : GD} (ho : OpD X P.T (compareOp op) g) (ho' : OpD X P.T (compareOp op') g') (ha : DB X P a wa) (hb : DB X P b wb) (hc : DB X P c wc) (hm : lastMarks [op, op'] [b, c] = false := by with_unfolding_all rfl) :
    DE X P (.Compare a [op, op'] [b, c] pos) (wChn g g' wa wb wc) := ⟨pe_imp (pe_chain ho ho' ha.pe hb.pe hc.pe hm) chn_imp⟩
theorem dt_chn {op op' : CmpOp} {g g' : GD} (ho : OpD X P.T (compareOp op) g) (ho' : OpD X P.T (compareOp op') g') (ha : DB X P a wa) (hb : DB X P b wb) (hc : DB X P c wc) (hm : lastMarks [op, op'] [b, c] = false := by with_unfolding_all rfl) :
    DT X P (.Compare a [op, op'] [b, c] pos) (wTst (wChn g g' wa wb wc)) := ⟨pt_imp (pt_chain ho ho' ha.pe hb.pe hc.pe hm) (tst_imp chn_imp)⟩

/-! ### own items stored -/
/-- x[k] = v, x an own list -/
def wSetIxO (n : Nat) (wv wi : WE) : WS := fun G Om Po => wv G Om (fun d O => match getSl G n with
  | .own (.lst xs) => wi G O (fun y O2 => match y with
    | .int k => (match ixN xs.length k with | some j => Po.nx (G.set n (.own (.lst (xs.set j d)))) O2 | none => False)
    | _ => False) fun x O => Po.ex x G O
  | _ => False) fun x O => Po.ex x G O
theorem ds_setIxO (n : Nat) {x : Str} {xp : Pos} (hv : DE X P value wv) (hi : DE X P i wi) (hN : X.N[n]? = some x := by rfl) (hvis : Vis X.env.scope x := by first | exact Or.inl rfl | exact Or.inr (Or.inl rfl) | exact Or.inr (Or.inr rfl)) (hd : (x == ("__debug__" : Str)) = false := by decide)
    (hcd : (x == ("__classdict__" : Str)) = false := by decide)
    (hs : swapsWithSole [.Subscript (.Name x xp) i tpos] value pos.line X.env = pure false := by rfl) (hw : swappedStores [.Subscript (.Name x xp) i tpos] value X.env = pure none := by rfl) (h1 : (assignEach [.Subscript (.Name x xp) i tpos] X.env).map (·.2) = [assign (.Subscript (.Name x xp) i tpos) X.env] := by rfl)
    (ha : ∀ v, assign (.Subscript (.Name x xp) i tpos) X.env v = (do
      let ov ← holding [v] (eval (.Name x xp) X.env)
      let iv ← holding [v, ov] (eval i X.env)
      standAt tpos
      holding [v, ov, iv] (setItem ov iv v)
      release [v, ov, iv] []) := by intro _; rfl) :
    DS X P (.Assign [.Subscript (.Name x xp) i tpos] value pos) (wSetIxO n wv wi) := by
  refine ⟨ps_imp (ps_asg hv.pe (pg_sub (pe_var hN hvis hd hcd) hi.pe set_list ha) hs hw h1) fun D σ H ⟨G, W, Po, S, q, h⟩ => ⟨G, W, _, _, S, q, h.exE S, fun d O q1 v H1 W1 s1 e1 r1 => ?_⟩⟩
  subst e1
  have p1 := h.kp (s1.kp S.ok)
  have S1 := S.step s1
  have q1 : (match getSl G n with | .own (.lst xs) => _ | _ => False) := q1
  split at q1
  · rename_i xs ed
    have gg := getSl_get G n (by rw [ed]; intro z; cases z)
    rw [ed] at gg
    obtain ⟨a, ea, oa⟩ := S1.sl n _ gg
    refine ⟨.ref a, ea, G, W1, _, _, S1, q1, p1.exE S1, fun y O2 q3 v3 H3 W3 s3 e3 r3 => ?_⟩
    subst e3
    cases y <;> try exact q3.elim
    rename_i k
    simp only [Rep] at r3
    have q3 : (match ixN xs.length k with | some j => Po.nx (G.set n (.own (.lst (xs.set j d)))) W3.Om | none => False) := q3
    split at q3
    · rename_i j ej
      have S3 := S1.step s3
      obtain ⟨a2, e2, oa3⟩ := S3.sl n _ gg
      rw [ea] at e2; cases e2
      obtain ⟨ws, hl, rl⟩ := oa3.r
      have rd := Rep.kp (s3.kp s1.ok) _ _ r1
      obtain ⟨S4, k4⟩ := S3.mut (o := .lst (ws.set j v)) (m' := .lst (xs.set j d)) gg ea ⟨_, upd_same, Reps.kp (Kp.mut oa3.f) _ _ (rl.set rd j)⟩
      exact ⟨a, ws, k, j, rfl, r3, hl, by rw [rl.len]; exact ej, p1.nx _ _ q3 _ _ W3 ((s3.kp s1.ok).trans k4) S4 rfl⟩
    · exact q3.elim
  · exact q1.elim

/-! ### dicts -/
def putKs : List Key → Key → List Key
  | k' :: ks, k => if k' = k then k' :: ks else k' :: putKs ks k
  | [], k => [k]
def putVs : List Key → List D → Key → D → List D
  | k' :: ks, v :: vs, k, d => if k' = k then d :: vs else v :: putVs ks vs k d
  | _, _, _, d => [d]
theorem zip_len {T : Th} {F : Addr → Prop} {H : Hp} {ks : List Key} {ds : List D} {vs : List V} (l : ks.length = ds.length) (r : Reps T F H ds vs) : (ks.zip vs).length = ks.length := by rw [List.length_zip, r.len, l, Nat.min_self]
theorem putK_no {kvs : List (Key × V)} {k : Key} {v : V} (h : k ∉ kvs.map (·.1)) : putK kvs k v = kvs ++ [(k, v)] := by
  unfold putK
  rw [if_neg]
  intro z
  obtain ⟨p, hp, e⟩ := List.any_eq_true.mp z
  exact h (List.mem_map.mpr ⟨p, hp, of_decide_eq_true e⟩)
theorem put_rep {T : Th} {F : Addr → Prop} {H : Hp} {k : Key} {d : D} {v : V} (rd : Rep T F H d v) : ∀ {ks : List Key} {ds : List D} {vs : List V}, ks.Nodup → ks.length = ds.length → Reps T F H ds vs →
    ∃ us, putK (ks.zip vs) k v = (putKs ks k).zip us ∧ (putKs ks k).length = (putVs ks ds k d).length ∧ Reps T F H (putVs ks ds k d) us
  | [], ds, vs, _, l, r => by
    refine ⟨[v], by simp [putK, putKs], by simp [putKs, putVs], ?_⟩
    unfold putVs
    exact .cons rd .nil
  | k' :: ks, [], vs, _, l, r => by cases l
  | k' :: ks, x :: ds, vs, nd, l, r => by
    simp only [Reps] at r
    obtain ⟨u, w, e, r1, r2⟩ := r
    subst e
    have nd' := (List.nodup_cons.mp nd)
    by_cases q : k' = k
    · subst q
      refine ⟨v :: w, ?_, ?_, ?_⟩
      · unfold putK putKs
        rw [List.zip_cons_cons, if_pos (by simp), if_pos rfl, List.map_cons, if_pos rfl, List.zip_cons_cons]
        congr 1
        refine (List.map_congr_left fun p hp => ?_).trans (List.map_id _)
        have : p.1 ∈ ks := (List.of_mem_zip (show (p.1, p.2) ∈ ks.zip w from hp)).1
        rw [if_neg (fun (z : p.1 = k') => nd'.1 (by rw [z] at this; exact this))]
        rfl
      · unfold putKs putVs
        rw [if_pos rfl, if_pos rfl]
        simpa using l
      · unfold putVs
        rw [if_pos rfl]
        exact .cons rd r2
    · obtain ⟨us, h1, h2, h3⟩ := put_rep (k := k) rd (ks := ks) (ds := ds) (vs := w) nd'.2 (by simpa using l) r2
      have e2 : putKs (k' :: ks) k = k' :: putKs ks k := by
        conv => lhs; unfold putKs
        rw [if_neg q]
      refine ⟨u :: us, ?_, ?_, ?_⟩
      · rw [e2, List.zip_cons_cons, List.zip_cons_cons, ← h1]
        unfold putK
        rw [List.any_cons, decide_eq_false q, Bool.false_or]
        by_cases m : ((ks.zip w).any fun kv => decide (kv.1 = k)) = true
        · rw [if_pos m, if_pos m, List.map_cons, if_neg q]
        · rw [if_neg m, if_neg m]; rfl
      · rw [e2, List.length_cons, h2]
        conv => rhs; unfold putVs
        rw [if_neg q]; rfl
      · unfold putVs
        rw [if_neg q]
        exact .cons r1 h3
/-- x[k] = v, x an own dict -/
def wPutO (n : Nat) (wv wi : WE) : WS := fun G Om Po => wv G Om (fun d O => match getSl G n with
  | .own (.dct ks vs) => wi G O (fun y O2 => match keyD y with
    | some k => ks.Nodup ∧ ks.length < 16777216 ∧ Po.nx (G.set n (.own (.dct (putKs ks k) (putVs ks vs k d)))) O2
    | none => False) fun x O => Po.ex x G O
  | _ => False) fun x O => Po.ex x G O
theorem ds_putO (n : Nat) {x : Str} {xp : Pos} (hu : X.A.units + 64 < cLine) (hv : DE X P value wv) (hi : DE X P i wi) (hN : X.N[n]? = some x := by rfl) (hvis : Vis X.env.scope x := by first | exact Or.inl rfl | exact Or.inr (Or.inl rfl) | exact Or.inr (Or.inr rfl)) (hd : (x == ("__debug__" : Str)) = false := by decide)
    (hcd : (x == ("__classdict__" : Str)) = false := by decide) (hs : swapsWith value (some (.Subscript (.Name x xp) i tpos)) pos.line X.env = pure false := by rfl) :
    DS X P (.Assign [.Subscript (.Name x xp) i tpos] value pos) (wPutO n wv wi) := by
  refine ⟨ps_imp (ps_dput (by omega) (pe_var hN hvis hd hcd) hi.pe hv.pe hs) fun D σ H ⟨G, W, Po, S, q, h⟩ => ⟨G, W, _, _, S, q, h.exE S, fun d O q1 v H1 W1 s1 e1 r1 => ?_⟩⟩
  subst e1
  have p1 := h.kp (s1.kp S.ok)
  have S1 := S.step s1
  have q1 : (match getSl G n with | .own (.dct ks vs) => _ | _ => False) := q1
  split at q1
  · rename_i ks ds ed
    have gg := getSl_get G n (by rw [ed]; intro z; cases z)
    rw [ed] at gg
    obtain ⟨a, ea, oa⟩ := S1.sl n _ gg
    refine ⟨.ref a, ea, G, W1, _, _, S1, q1, p1.exE S1, fun y O2 q3 v3 H3 W3 s3 e3 r3 => ?_⟩
    subst e3
    have q3 : (match keyD y with | some k => ks.Nodup ∧ ks.length < 16777216 ∧ Po.nx (G.set n (.own (.dct (putKs ks k) (putVs ks ds k d)))) W3.Om | none => False) := q3
    split at q3
    · rename_i k ek
      obtain ⟨nd, hk, q3⟩ := q3
      have S3 := S1.step s3
      obtain ⟨a2, e2, oa3⟩ := S3.sl n _ gg
      rw [ea] at e2; cases e2
      obtain ⟨ws, hl, l, rl⟩ := oa3.r
      have rd := Rep.kp (s3.kp s1.ok) _ _ r1
      obtain ⟨us, h1, h2, h3⟩ := put_rep (k := k) rd nd l rl
      obtain ⟨S4, k4⟩ := S3.mut (o := .dK (putK (ks.zip ws) k v)) (m' := .dct (putKs ks k) (putVs ks ds k d)) gg ea ⟨us, by rw [upd_same, h1], h2, Reps.kp (Kp.mut oa3.f) _ _ h3⟩
      have ev := keyD_rep (r3.t s3.ok.sub) ek
      subst ev
      exact ⟨a, _, rfl, DPut.k hl (by rw [zip_len l rl]; exact Nat.lt_of_lt_of_le hk (by decide)), p1.nx _ _ q3 _ _ W3 ((s3.kp s1.ok).trans k4) S4 rfl⟩
    · exact q3.elim
  · exact q1.elim
/-- d.get(k), d.get(k, x) -/
def wGet1 (wo wi : WE) : WE := fun G Om Q R => wo G Om (fun d O => match d with
  | .dct ks vs => wi G O (fun y O2 => match keyD y with
    | some k => Q ((getD ks vs k).getD .non) O2
    | none => False) R
  | _ => False) R
def wGet2 (wo wi wf : WE) : WE := fun G Om Q R => wo G Om (fun d O => match d with
  | .dct ks vs => wi G O (fun y O2 => wf G O2 (fun z O3 => match keyD y with
    | some k => Q ((getD ks vs k).getD z) O3
    | none => False) R) R
  | _ => False) R
theorem getD_val {T : Th} {F : Addr → Prop} {H : Hp} {k : Key} {ks : List Key} {ds : List D} {vs : List V} {z : D} {zv : V} (l : ks.length = ds.length) (r : Reps T F H ds vs) (rz : Rep T F H z zv) : Rep T F H ((getD ks ds k).getD z) ((valV (ks.zip vs) k).getD zv) := by
  obtain ⟨h1, h2⟩ := getD_rep (x := k) l r
  cases q : getD ks ds k with
  | none => rw [h2 q]; exact rz
  | some d =>
    obtain ⟨v, ev, rv⟩ := h1 d q
    rw [ev]; exact rv
theorem de_get1 (hu : X.A.units + 64 < cLine) (ho : DB X P o wo) (he : DE X P e wi) (base : attributeBase o "get" X.env (eval o X.env) = eval o X.env := by rfl)
    (few : ((backTo cpos (starEach [e] X.env)).all (fun x => !x.1) && (backToKw cpos (keywordEach [] X.env)).all (fun x => x.1.isSome) && decide (([e] : List Expr).length + ([] : List Keyword).length + (if ([] : List Keyword).isEmpty then 0 else 1) < 30)) = true := by rfl)
    (line : (apos.endLine == cpos.line) = true := by rfl) (trees : backTo cpos (starEach [e] X.env) = [(false, eval e X.env)] := by rfl) : DE X P (.Call (.Attribute o "get" apos) [e] [] cpos) (wGet1 wo wi) := by
  refine ⟨pe_imp (pe_dget1 (by omega) ho.pe he.pe ⟨base, few, line, trees⟩) fun σ H Q q => ?_⟩
  obtain ⟨G, W, Q0, R0, S, q, ex, hq⟩ := q
  refine ⟨G, W, _, R0, S, q, ex, fun d O h1 v H1 W1 s1 e1 r1 => ?_⟩
  subst e1
  cases d <;> try exact h1.elim
  rename_i ks ds
  have r1' := r1
  obtain ⟨a, vs, ev, hrd, npm, l, rs⟩ := r1
  refine ⟨a, ev, .inl ⟨_, hrd⟩, G, W1, _, R0, S.step s1, h1, ex.step s1, fun y O2 h2 yv H2 W2 s2 e2 ry => ?_⟩
  subst e2
  have h2 : (match keyD y with | some k => Q0 ((getD ks ds k).getD .non) W2.Om | none => False) := h2
  split at h2
  · rename_i k ek
    obtain ⟨a2, vs2, ev2, hrd2, _, l2, rs2⟩ := r1'.step s2 s1.ok
    rw [ev] at ev2; cases ev2
    have eky := keyD_rep (ry.t s2.ok.sub) ek
    exact ⟨_, .inl ⟨_, k, hrd2, eky, rfl⟩, hq _ _ h2 _ H2 W2 (s1.trans s2) rfl (getD_val l2 rs2 (by simp [Rep]))⟩
  · exact h2.elim
theorem de_get2 (hu : X.A.units + 64 < cLine) (ho : DB X P o wo) (he : DE X P e wi) (hf : DE X P f wf) (base : attributeBase o "get" X.env (eval o X.env) = eval o X.env := by rfl)
    (few : ((backTo cpos (starEach [e, f] X.env)).all (fun x => !x.1) && (backToKw cpos (keywordEach [] X.env)).all (fun x => x.1.isSome) && decide (([e, f] : List Expr).length + ([] : List Keyword).length + (if ([] : List Keyword).isEmpty then 0 else 1) < 30)) = true := by rfl)
    (line : (apos.endLine == cpos.line) = true := by rfl) (trees : backTo cpos (starEach [e, f] X.env) = [(false, eval e X.env), (false, eval f X.env)] := by rfl) : DE X P (.Call (.Attribute o "get" apos) [e, f] [] cpos) (wGet2 wo wi wf) := by
  refine ⟨pe_imp (pe_dget2 (by omega) ho.pe he.pe hf.pe ⟨base, few, line, trees⟩) fun σ H Q q => ?_⟩
  obtain ⟨G, W, Q0, R0, S, q, ex, hq⟩ := q
  refine ⟨G, W, _, R0, S, q, ex, fun d O h1 v H1 W1 s1 e1 r1 => ?_⟩
  subst e1
  cases d <;> try exact h1.elim
  rename_i ks ds
  have r1' := r1
  obtain ⟨a, vs, ev, hrd, npm, l, rs⟩ := r1
  refine ⟨a, ev, .inl ⟨_, hrd⟩, G, W1, _, R0, S.step s1, h1, ex.step s1, fun y O2 h2 yv H2 W2 s2 e2 ry => ?_⟩
  subst e2
  refine ⟨G, W2, _, R0, (S.step s1).step s2, h2, (ex.step s1).step s2, fun z O3 h3 zv H3 W3 s3 e3 rz => ?_⟩
  subst e3
  have h3 : (match keyD y with | some k => Q0 ((getD ks ds k).getD z) W3.Om | none => False) := h3
  split at h3
  · rename_i k ek
    obtain ⟨a2, vs2, ev2, hrd2, _, l2, rs2⟩ := (r1'.step s2 s1.ok).step s3 s2.ok
    rw [ev] at ev2; cases ev2
    have eky := keyD_rep (ry.t s2.ok.sub) ek
    exact ⟨_, .inl ⟨_, k, hrd2, eky, rfl⟩, hq _ _ h3 _ H3 W3 ((s1.trans s2).trans s3) rfl (getD_val l2 rs2 rz)⟩
  · exact h3.elim
/-- {} -/
def wDnew : WF := fun G Om Q R => Q (.dct [] []) Om
theorem df_dnew : DF X P (.Dict [] [] pos) wDnew := by
  refine ⟨pe_imp pe_dnewK fun σ H Q q => ?_⟩
  obtain ⟨G, W, Q0, R0, S, q, ex, hq⟩ := q
  intro p hp
  obtain ⟨s2, a1, a2, a3, a4⟩ := newOwn_fin (P := P) (o := .dK []) (m := .dct [] []) S.ok hp ⟨[], rfl, rfl, .nil⟩
  exact hq _ _ q p _ (W.add p) s2 rfl hp a1 a2 a3 a4
/-- for k, v in d.items(), for v in d.values(), a dict that stands still -/
def wItems (w : WE) : WA := fun G Om Q R => w G Om (fun d O => match d with | .dct ks ds => Q (List.zipWith (fun k v => .tup [kyD k, v]) ks ds) O | _ => False) R
def wVals (w : WE) : WA := fun G Om Q R => w G Om (fun d O => match d with | .dct ks ds => Q ds O | _ => False) R
end
end N

set_option Elab.async false
set_option linter.all false
set_option maxRecDepth 100000
set_option maxHeartbeats 0
/-! NSa: shared lists and dicts, read by their content where they are used -/
namespace N
open PySem PySem.Spec PyProof.Rows L2
/-- what a value is just now: of a shared list or dict its content -/
def cont (O : Om) (d : D) (Q : D → Prop) : Prop := match d with
  | .ref q => (match O q with | some (.lst xs) => Q (.lst xs) | some (.dct ks vs) => Q (.dct ks vs) | _ => False)
  | d => Q d
def contL (O : Om) : List D → (List D → Prop) → Prop
  | [], Q => Q []
  | d :: r, Q => cont O d fun d' => contL O r fun r' => Q (d' :: r')
section
variable {T : Th} {W : Wd} {H : Hp}
theorem RepT.less {F Pm : Addr → Prop} : ∀ {d : D} {v : V}, RepT T F Pm H d v → RepT T F (fun _ => False) H d v
  | .non, v, h => h
  | .bl b, v, h => h
  | .int i, v, h => h
  | .str x, v, h => h
  | .ty n, v, h => h
  | .ref a, v, h => h
  | .tup xs, v, h => h
  | .scr xs, v, h => h
  | .lst xs, v, ⟨a, vs, e, h, n, r⟩ => ⟨a, vs, e, h, id, r⟩
  | .dct ks xs, v, ⟨a, vs, e, h, n, l, r⟩ => ⟨a, vs, e, h, id, l, r⟩
  | .ins c ns xs, v, ⟨a, dx, vs, e, h, n, l, r⟩ => ⟨a, dx, vs, e, h, id, l, r⟩
theorem cont_rep {d : D} {v : V} {Q : D → Prop} (ok : WOk T W H) (r : RepT T W.F (fun _ => False) H d v) (h : cont W.Om d Q) : ∃ d', Q d' ∧ RepT T W.F (fun _ => False) H d' v := by
  cases d <;> try exact ⟨_, h, r⟩
  rename_i q
  unfold cont at h
  simp only at h
  split at h
  · rename_i xs e
    obtain ⟨⟨vs, h1, h2⟩, _⟩ := ok.at_ q _ e
    exact ⟨_, h, q, vs, r, h1, id, h2⟩
  · rename_i ks xs e
    obtain ⟨⟨vs, h1, l, h2⟩, _⟩ := ok.at_ q _ e
    exact ⟨_, h, q, vs, r, .inl h1, id, l, h2⟩
  · exact h.elim
theorem RepsT.less {F Pm : Addr → Prop} : ∀ {ds : List D} {vs : List V}, RepsT T F Pm H ds vs → RepsT T F (fun _ => False) H ds vs
  | [], vs, h => h
  | d :: ds, vs, h => by
    obtain ⟨v, r, e, h1, h2⟩ := h
    exact ⟨v, r, e, h1.less, RepsT.less h2⟩
theorem contL_rep (ok : WOk T W H) : ∀ {ds : List D} {vs : List V} {Q : List D → Prop}, RepsT T W.F (fun _ => False) H ds vs → contL W.Om ds Q → ∃ ds', Q ds' ∧ RepsT T W.F (fun _ => False) H ds' vs
  | [], vs, Q, r, h => ⟨[], h, r⟩
  | d :: ds, vs, Q, r, h => by
    obtain ⟨v, w, e, h1, h2⟩ := r
    obtain ⟨d', q, r1⟩ := cont_rep ok h1 h
    obtain ⟨ds', q2, r2⟩ := contL_rep ok h2 q
    exact ⟨d' :: ds', q2, v, w, e, r1, r2⟩
end
section
variable {X : Cx} {P : Pm} {a b c e f o i : Expr} {w wa wb wo wi wv wf : WE} {wl : WA} {pos p apos cpos tpos : Pos}
/-- a op b by content -/
def wBinC (g : GD) (wa wb : WE) : WE := fun G Om Q R => wa G Om (fun x O1 => wb G O1 (fun y O2 => cont O2 x fun x' => cont O2 y fun y' => g x' y' fun z => Q z O2) R) R
theorem binC_imp {g : GD} {wa wb : WE} : ∀ σ H Q, tE P (wBinC g wa wb) σ H Q → tOp (rD P.T g) (tB P wa) (tB P wb) σ H Q := fun σ H Q h => by
  obtain ⟨G, W, Q0, R0, S, h, ex, hq⟩ := h
  refine ⟨G, W, _, R0, S, h, ex, fun dx O1 h1 x H1 W1 s1 e1 rx => ?_⟩
  subst e1
  refine ⟨G, W1, _, R0, S.step s1, h1, ex.step s1, fun dy O2 h2 y H2 W2 s2 e2 ry => ?_⟩
  subst e2
  obtain ⟨dx', h3, rx'⟩ := cont_rep s2.ok (rx.step s2 s1.ok).less h2
  obtain ⟨dy', h4, ry'⟩ := cont_rep s2.ok ry.less h3
  refine ⟨W2.F, _, dx', dy', _, rx', ry', s2.ok.trk, h4, fun z hz v H3 xt r => ?_⟩
  exact hq z _ hz v H3 W2 ((s1.trans s2).trans (Step.ext s2.ok xt)) rfl r
theorem de_binC {op : Operator} {g : GD} (ho : OpD X P.T (binaryOp op) g) (ha : DB X P a wa) (hb : DB X P b wb) : DE X P (.BinOp a op b pos) (wBinC g wa wb) := ⟨pe_imp (pe_op ho ha.pe hb.pe) binC_imp⟩
theorem de_cmpC {op : CmpOp} {g : GD} (ho : OpD X P.T (compareOp op) g) (ha : DB X P a wa) (hb : DB X P b wb) (hm : behindInMarks op b = false := by first | exact nomark _ | rfl) : DE X P (.Compare a [op] [b] pos) (wBinC g wa wb) :=
  ⟨pe_imp (pe_cmpR ho ha.pe hb.pe hm) binC_imp⟩
theorem dt_cmpC {op : CmpOp} {g : GD} (ho : OpD X P.T (compareOp op) g) (ha : DB X P a wa) (hb : DB X P b wb) (hm : behindInMarks op b = false := by first | exact nomark _ | rfl) : DT X P (.Compare a [op] [b] pos) (wTst (wBinC g wa wb)) :=
  ⟨pt_imp (pt_cmpR ho ha.pe hb.pe hm) (tst_imp binC_imp)⟩
theorem de_ixC {g : GD} (ho : IxD X P.T g) (ha : DB X P a wa) (hb : DB X P b wb) (hs : PlainIx b := by first | exact fun _ _ => rfl | (intro _ _; rfl)) : DE X P (.Subscript a b pos) (wBinC g wa wb) := ⟨pe_imp (pe_ix ho ha.pe hb.pe hs) binC_imp⟩
/-- calls by content -/
def wCallC (g : GC) (wa : WA) : WE := fun G Om Q R => wa G Om (fun ds O => contL O ds fun ds' => g ds' fun z => Q z O) R
def wCallFC (g : GCF) (wa : WA) : WF := fun G Om Q R => wa G Om (fun ds O => contL O ds fun ds' => g ds' fun z => Q z O) R
theorem callC_imp {g : GC} : ∀ σ H Q, tE P (wCallC g wl) σ H Q → tCB (rC P.T g) (tAB P wl) σ H Q := fun σ H Q h => by
  obtain ⟨G, W, Q0, R0, S, q, ex, hq⟩ := h
  refine ⟨G, W, _, R0, S, q, ex, fun ds O h1 vs H1 W1 s1 e1 r => ?_⟩
  subst e1
  obtain ⟨ds', h2, r'⟩ := contL_rep s1.ok r.less h1
  refine ⟨W1.F, _, ds', _, r', s1.ok.trk, h2, fun z hz u H2 xt r2 => ?_⟩
  exact hq z _ hz u H2 W1 (s1.trans (Step.ext s1.ok xt)) rfl r2
theorem callFC_imp {g : GCF} : ∀ σ H Q, tF P (wCallFC g wl) σ H Q → tCB (rCF P.T g) (tAB P wl) σ H Q := fun σ H Q h => by
  obtain ⟨G, W, Q0, R0, S, q, ex, hq⟩ := h
  refine ⟨G, W, _, R0, S, q, ex, fun ds O h1 vs H1 W1 s1 e1 r => ?_⟩
  subst e1
  obtain ⟨ds', h2, r'⟩ := contL_rep s1.ok r.less h1
  refine ⟨W1.F, _, ds', _, r', s1.ok.trk, h2, fun z hz p o hp r2 => ?_⟩
  obtain ⟨s2, a1, a2, a3, a4⟩ := newOwn_fin (o := o) (m := z) s1.ok hp r2
  exact hq z _ hz p _ (W1.add p) (s1.trans s2) rfl (s1.back hp) a1 a2 a3 a4
section
variable {es : List Expr} {x : Str} {id TT : String}
theorem de_callBC {g : GC} (hc : CallD X P.T (.builtin id) g) (hm : X.mg x = none) (ha : DAB X P (e :: es) wl) (hv : bootBuiltins x = some (.builtin id) := by decide +kernel) (hg : Gl X x := by rfl) (hn : x ≠ "__name__" := by decide) (hdb : (x == ("__debug__" : Str)) = false := by decide)
    (he : starEach (e :: es) X.env = (false, eval e X.env) :: starEach es X.env := by rfl) (hpl : (backTo pos (starEach es X.env)).any (·.1) = false := by rfl) : DE X P (.Call (.Name x p) (e :: es) [] pos) (wCallC g wl) :=
  ⟨pe_imp (pe_callB hc hg hm hv ha.pa hn hdb he hpl) callC_imp⟩
theorem de_callTC {g : GC} (hc : CallD X P.T (.type TT) g) (hm : X.mg x = none) (ha : DAB X P (e :: es) wl) (hv : bootBuiltins x = some (.type TT) := by decide +kernel) (hg : Gl X x := by rfl) (hn : x ≠ "__name__" := by decide) (hdb : (x == ("__debug__" : Str)) = false := by decide)
    (he : starEach (e :: es) X.env = (false, eval e X.env) :: starEach es X.env := by rfl) (hpl : (backTo pos (starEach es X.env)).any (·.1) = false := by rfl) : DE X P (.Call (.Name x p) (e :: es) [] pos) (wCallC g wl) :=
  ⟨pe_imp (pe_callTy hc hg hm hv ha.pa hn hdb he hpl) callC_imp⟩
theorem df_callBC {g : GCF} (hc : CallF X P.T (.builtin id) g) (hm : X.mg x = none) (ha : DAB X P (e :: es) wl) (hv : bootBuiltins x = some (.builtin id) := by decide +kernel) (hg : Gl X x := by rfl) (hn : x ≠ "__name__" := by decide) (hdb : (x == ("__debug__" : Str)) = false := by decide)
    (he : starEach (e :: es) X.env = (false, eval e X.env) :: starEach es X.env := by rfl) (hpl : (backTo pos (starEach es X.env)).any (·.1) = false := by rfl) : DF X P (.Call (.Name x p) (e :: es) [] pos) (wCallFC g wl) :=
  ⟨pe_imp (pe_callB hc hg hm hv ha.pa hn hdb he hpl) callFC_imp⟩
theorem df_callTC {g : GCF} (hc : CallF X P.T (.type TT) g) (hm : X.mg x = none) (ha : DAB X P (e :: es) wl) (hv : bootBuiltins x = some (.type TT) := by decide +kernel) (hg : Gl X x := by rfl) (hn : x ≠ "__name__" := by decide) (hdb : (x == ("__debug__" : Str)) = false := by decide)
    (he : starEach (e :: es) X.env = (false, eval e X.env) :: starEach es X.env := by rfl) (hpl : (backTo pos (starEach es X.env)).any (·.1) = false := by rfl) : DF X P (.Call (.Name x p) (e :: es) [] pos) (wCallFC g wl) :=
  ⟨pe_imp (pe_callTy hc hg hm hv ha.pa hn hdb he hpl) callFC_imp⟩
end
/-! ### x.append(e), x.remove(e) of a shared list -/
def wAppS (wo wi : WE) : WE := fun G Om Q R => wo G Om (fun d O => match d with
  | .ref q => (match O q with
    | some (.lst _) => wi G O (fun z O' => match O' q with
        | some (.lst ys) => ys.length < 16777216 ∧ Q .non (putO O' q (.lst (ys ++ [z])))
        | _ => False) R
    | _ => False)
  | _ => False) R
theorem de_appS (ho : DE X P o wo) (hi : DE X P i wi)
    (hbase : attributeBase o "append" X.env (eval o X.env) = eval o X.env := by rfl)
    (hfew : ((backTo cpos (starEach [i] X.env)).all (fun x => !x.1) && (backToKw cpos (keywordEach [] X.env)).all (fun x => x.1.isSome) && decide ([i].length + ([] : List Keyword).length + (if ([] : List Keyword).isEmpty then 0 else 1) < 30)) = true := by rfl)
    (hline : (apos.endLine == cpos.line) = true := by rfl) (hs1 : starEach [i] X.env = (false, eval i X.env) :: starEach [] X.env := by rfl) (hplain : (backTo cpos (starEach [] X.env)).any (·.1) = false := by rfl) :
    DE X P (.Call (.Attribute o "append" apos) [i] [] cpos) (wAppS wo wi) := by
  refine ⟨pe_imp (pe_bm PySem.F.plainAttrs_list PySem.F.slot_list_append PySem.F.type_list_append mt_append ho.pe (pa_cons hi.pe pa_nil hs1) hbase hfew hline hs1 hplain) fun σ H Q q => ?_⟩
  obtain ⟨G, W, Q0, R0, S, q, ex, hq⟩ := q
  refine ⟨G, W, _, R0, S, q, ex, fun d O h1 v H1 W1 s1 e1 r1 => ?_⟩
  subst e1
  cases d <;> try exact h1.elim
  rename_i q
  simp only [Rep] at r1
  have h1 : (match W1.Om q with | some (.lst _) => _ | _ => False) := h1
  split at h1
  · rename_i xs0 ex0
    obtain ⟨vs0, hv0, _, _⟩ := shl_at s1.ok ex0
    refine ⟨by subst r1; exact .inl ⟨rfl, vs0, .of hv0⟩, G, W1, _, R0, S.step s1, h1, ex.step s1, fun z O' h2 u H2 W2 s2 e2 r2 => ?_⟩
    subst e2
    change (match W2.Om q with | some (.lst ys) => _ | _ => False) at h2
    split at h2
    · rename_i ys ey
      obtain ⟨hk, h2⟩ := h2
      obtain ⟨vs, hv, rv, Fq⟩ := shl_at s2.ok ey
      have sm := shl_set s2.ok ey (rv.app (.cons r2 .nil))
      exact ⟨q, vs, u, r1, rfl, hv, Nat.lt_of_lt_of_le (by rw [rv.len]; exact hk) (by decide), hq _ _ h2 _ _ _ ((s1.trans s2).trans sm) rfl (by simp [Rep])⟩
    · exact h2.elim
  · exact h1.elim
def rRem : V → List V → Hp → VK → Prop := fun x vs H Q => ∃ (l : Addr) (ns : List Int) (k : Int) (j : Nat), x = .ref l ∧ vs = [.int k] ∧ H l = some (.lst (ns.map V.int)) ∧ ns.findIdx? (· == k) = some j ∧ Q .non (upd H l (.lst ((ns.eraseIdx j).map V.int)))
theorem ints_of : ∀ {ns : List Int} {its : List Value}, Vals (ns.map V.int) its → IntsAre its ns
  | [], its, h => by cases h; exact .nil
  | n :: ns, its, h => by
    cases h with
    | cons r t => obtain ⟨t', rfl⟩ := r; exact .cons n t' (ints_of t)
theorem map_erase {α β : Type} (f : α → β) : ∀ (l : List α) (j : Nat), (l.map f).eraseIdx j = (l.eraseIdx j).map f
  | [], j => by simp
  | a :: l, 0 => rfl
  | a :: l, j + 1 => by simp [map_erase f l j]
theorem ints_at {ns : List Int} {its : List Value} {k : Int} (h : IntsAre its ns) : ∀ (m : Nat) (hm : m < its.length) (hn : m < ns.length), isInt k its[m] = (ns[m] == k) := by
  induction h with
  | nil => intro m hm; exact absurd hm (Nat.not_lt_zero _)
  | cons n t r ih =>
    intro m hm hn
    cases m with
    | zero => rfl
    | succ m => exact ih m (Nat.lt_of_succ_lt_succ hm) (Nat.lt_of_succ_lt_succ hn)
theorem mt_remove {X : Cx} : MtM X "list.remove" rRem := by
  intro pins s σ H x vs v us Q I rx rv h
  obtain ⟨l, ns, k, j, rfl, rfl, hH, hj, q⟩ := h
  cases rx
  obtain ⟨u, rfl, ru⟩ := rv.one
  obtain ⟨t, rfl⟩ := ru
  obtain ⟨z, its, n, r, hl, e⟩ := I.lstM hH
  have ia := ints_of r
  have hlen : its.length = ns.length := by have := r.length; simpa using this.symm
  have hz : ns.length ≤ sizeLine := by simpa using z
  obtain ⟨hjn, hjt, hjm⟩ := List.findIdx?_eq_some_iff_getElem.mp hj
  refine call_meets F.slot_list_remove ⟨_, e, rfl⟩ F.entry_list_remove (F.args_list_remove_2 _ _)
    (MeetsSeq.list_remove l its.toArray n (.int k t) (isInt k) (fun y hy => eq_isInt k t ia y (by simpa using hy)) j (by rw [List.size_toArray, hlen]; exact hjn) (by simpa [ints_at ia j (by omega) hjn] using hjt)
      (fun m hm hlt => by
        have := hjm m hlt
        rw [List.size_toArray, hlen] at hm
        simpa [ints_at ia m (by omega) hm] using this) (by rw [List.size_toArray, hlen]; exact hz)) ⟨e, ?_⟩
  refine ⟨.non, _, I.lset (its' := its.eraseIdx j) hH e ?_ (by rw [← map_erase]; exact r.eraseIdx j) ?_, rfl, q⟩
  · show its.toArray.eraseIdxIfInBounds j = (its.eraseIdx j).toArray
    rw [List.eraseIdxIfInBounds_toArray]
  · rw [List.length_map]
    have := List.length_eraseIdx_le ns j
    omega
def wRemS (wo wi : WE) : WE := fun G Om Q R => wo G Om (fun d O => match d with
  | .ref q => (match O q with
    | some (.lst _) => wi G O (fun z O' => match z with
      | .int k => ∃ (ns : List Int) (j : Nat), O' q = some (.lst (ns.map .int)) ∧ ns.findIdx? (· == k) = some j ∧ Q .non (putO O' q (.lst ((ns.eraseIdx j).map .int)))
      | _ => False) R
    | _ => False)
  | _ => False) R
theorem de_remS (ho : DE X P o wo) (hi : DE X P i wi)
    (hbase : attributeBase o "remove" X.env (eval o X.env) = eval o X.env := by rfl)
    (hfew : ((backTo cpos (starEach [i] X.env)).all (fun x => !x.1) && (backToKw cpos (keywordEach [] X.env)).all (fun x => x.1.isSome) && decide ([i].length + ([] : List Keyword).length + (if ([] : List Keyword).isEmpty then 0 else 1) < 30)) = true := by rfl)
    (hline : (apos.endLine == cpos.line) = true := by rfl) (hs1 : starEach [i] X.env = (false, eval i X.env) :: starEach [] X.env := by rfl) (hplain : (backTo cpos (starEach [] X.env)).any (·.1) = false := by rfl) :
    DE X P (.Call (.Attribute o "remove" apos) [i] [] cpos) (wRemS wo wi) := by
  refine ⟨pe_imp (pe_bm PySem.F.plainAttrs_list PySem.F.slot_list_remove PySem.F.type_list_remove mt_remove ho.pe (pa_cons hi.pe pa_nil hs1) hbase hfew hline hs1 hplain) fun σ H Q q => ?_⟩
  obtain ⟨G, W, Q0, R0, S, q, ex, hq⟩ := q
  refine ⟨G, W, _, R0, S, q, ex, fun d O h1 v H1 W1 s1 e1 r1 => ?_⟩
  subst e1
  cases d <;> try exact h1.elim
  rename_i q
  simp only [Rep] at r1
  have h1 : (match W1.Om q with | some (.lst _) => _ | _ => False) := h1
  split at h1
  · rename_i xs0 ex0
    obtain ⟨vs0, hv0, _, _⟩ := shl_at s1.ok ex0
    refine ⟨by subst r1; exact .inl ⟨rfl, vs0, .of hv0⟩, G, W1, _, R0, S.step s1, h1, ex.step s1, fun z O' h2 u H2 W2 s2 e2 r2 => ?_⟩
    subst e2
    cases z <;> try exact h2.elim
    rename_i k
    simp only [Rep] at r2
    obtain ⟨ns, j, ey, hj, h2⟩ := h2
    obtain ⟨vs, hv, rv, Fq⟩ := shl_at s2.ok ey
    have := rv.ofInts
    subst this
    have sm := shl_set s2.ok ey (Reps.ints (T := P.T) (F := W2.F) (H := H2) (ns.eraseIdx j))
    exact ⟨q, ns, k, j, r1, by rw [r2], hv, hj, hq _ _ h2 _ _ _ ((s1.trans s2).trans sm) rfl (by simp [Rep])⟩
  · exact h1.elim
end
end N

set_option Elab.async false
set_option linter.all false
set_option maxRecDepth 100000
set_option maxHeartbeats 0
/-! NSb: a new thing is shared; what is walked is shared; shared dicts; comprehensions of two -/
namespace N
open PySem PySem.Spec PyProof.Rows L2
def Wd.shr (W : Wd) (p : Addr) (m : MO) : Wd := ⟨putO W.Om p m, fun x b => if x = p then b = p else W.fp x b, W.F⟩
theorem MRep.shr {T : Th} {F : Addr → Prop} {H : Hp} {a : Addr} : ∀ {m : MO}, MRep T F (fun _ => False) H a m → MRep T F (fun b => b = a) H a m
  | .lst ds, h => h
  | .dct ks ds, h => h
  | .ins c ns ds, h => h
  | .abs 0, ⟨c, cs, s, h1, h2, _⟩ => (((h2 a).mpr (.inl rfl))).elim
  | .abs (_ + 1), ⟨_, h1, _⟩ => ((h1 a).mpr rfl).elim
theorem Step.shr {T : Th} {W1 W : Wd} {H1 H : Hp} {p : Addr} {m : MO} (s : Step T W1 H1 W H) (hn : H1 p = none) (hF : W.F p) (hpm : ¬ W.pm p) (no : W.Om p = none) (r : MRep T W.F (fun _ => False) H p m) : Step T W1 H1 (W.shr p m) H := by
  have om : ∀ b, b ≠ p → (W.shr p m).Om b = W.Om b := fun b q => putO_ne q
  have fp : ∀ b, b ≠ p → (W.shr p m).fp b = W.fp b := fun b q => funext fun c => if_neg q
  have fpa : ∀ c, (W.shr p m).fp p c ↔ c = p := fun c => by show (if p = p then c = p else W.fp p c) ↔ c = p; rw [if_pos rfl]
  have nfp : ∀ b, W.Om b ≠ none → ¬ W.fp b p := fun b hb hf => hpm ⟨b, hb, hf⟩
  refine ⟨⟨fun b mb eb => ?_, fun b ⟨x, hx, hf⟩ => ?_, fun x y b hx hy fx fy => ?_, s.ok.trk, s.ok.code⟩, s.keep', s.trk, s.sub, s.fnew, fun x hx => ?_, fun x b hx hx' hf => ?_⟩
  · by_cases q : b = p
    · subst q
      rw [show (W.shr b m).Om b = some m from putO_same] at eb
      cases eb
      have e2 : (W.shr b m).fp b = fun c => c = b := funext fun c => propext (fpa c)
      rw [e2]
      exact ⟨r.shr, rfl⟩
    · rw [om b q] at eb
      rw [fp b q]
      exact s.ok.at_ b mb eb
  · by_cases q : x = p
    · subst q
      rw [(fpa b).mp hf]; exact hF
    · rw [om x q] at hx
      rw [fp x q] at hf
      exact s.ok.sub b ⟨x, hx, hf⟩
  · by_cases q : x = p <;> by_cases q2 : y = p
    · rw [q, q2]
    · subst q
      rw [(fpa b).mp fx, fp y q2] at fy
      rw [om y q2] at hy
      exact absurd fy (nfp y hy)
    · subst q2
      rw [(fpa b).mp fy, fp x q] at fx
      rw [om x q] at hx
      exact absurd fx (nfp x hx)
    · rw [om x q] at hx; rw [om y q2] at hy; rw [fp x q] at fx; rw [fp y q2] at fy
      exact s.ok.dis x y b hx hy fx fy
  · have q : x ≠ p := fun z => (s.om x hx).1 (z ▸ no)
    rw [om x q, fp x q]
    exact s.om x hx
  · by_cases q : x = p
    · subst q
      rw [(fpa b).mp hf]; exact hn
    · rw [om x q] at hx'
      rw [fp x q] at hf
      exact s.new x b hx hx' hf
section
variable {X : Cx} {P : Pm} {a b c e f o i value : Expr} {w wa wb wo wi wv wf : WE} {wl : WA} {pos p apos cpos tpos pos' : Pos}
/-- a new thing, shared from now on -/
def wShF (w : WF) : WE := fun G Om Q R => w G Om (fun m O => ∀ q, O q = none → Q (.ref q) (putO O q m)) R
theorem DF.sh {w : WF} (h : DF X P e w) : DE X P e (wShF w) :=
  ⟨pe_imp h.pe fun σ H Q ⟨G, W, Q0, R0, S, q, ex, hq⟩ => ⟨G, W, _, R0, S, q, ex, fun m O h0 p H' W' s e n1 F1 npm o1 r => by
    subst e
    exact hq (.ref p) _ (h0 p o1) (.ref p) H' (W'.shr p m) (s.shr n1 F1 npm o1 r) rfl (by simp [Rep])⟩⟩
theorem setSh_imp {i : Nat} {w : WF} : ∀ D σ H, tS P (wSet i (wShF w)) D σ H → tAsg (tF P w) (gName i) D σ H := fun D σ H ⟨G, W, Po, S, q, h⟩ =>
  ⟨G, W, _, _, S, q, h.exE S, fun m O q' p H' W' s' e n1 a1 a2 a3 r => by
    subst e
    have st := s'.shr n1 a1 a2 a3 r
    exact h.nx _ _ (q' p a3) _ H' (W'.shr p m) (st.kp S.ok) ((S.step st).set (by simp [Rep])) rfl⟩
theorem ds_setLcS {elt tg iter : Expr} {ifs : List Expr} {scope : Scope} {spos lpos : Pos} {wi : WA} {f : WG} {wt : WT} {we : WE} {is : List Nat} {y : Str} {py : Pos} (hc : X.calm = true) (hN : X.N.Nodup) (i : Nat) (own : List (Str × Nat)) (hi : DI X P (RS P.T) tg iter wi)
    (hg : ∀ (s : Shared) (H : Hp) (C : Addr) (cl : List (Str × Addr)) (fp : List Addr), DG (X.blk s H scope (compEnvC scope cl C X.env) fp) P.noW tg is f)
    (ht : ∀ (s : Shared) (H : Hp) (C : Addr) (cl : List (Str × Addr)) (fp : List Addr), DTs (X.blk s H scope (compEnvC scope cl C X.env) fp) P.noW ifs wt)
    (he : ∀ (s : Shared) (H : Hp) (C : Addr) (cl : List (Str × Addr)) (fp : List Addr), DE (X.blk s H scope (compEnvC scope cl C X.env) fp) P.noW elt we)
    (hy : X.N[i]? = some y := by rfl) (hyl : X.env.scope.names.lookup y = some .local := by rfl) (hsw : swapsWith (.ListComp elt [⟨tg, iter, ifs, 0⟩] scope lpos) (some (.Name y py)) spos.line X.env = pure true := by exact sw_true rfl rfl rfl (by decide +kernel))
    (ok : blkC X.N X.env.scope scope own = true := by kernel_rfl) (hsub : ∀ i ∈ is, i ∈ own.map (·.2) := by decide) (hs : ∀ x, foldedSetIterable iter X.env x = pure x := by intro _; rfl) :
    DS X P (.Assign [.Name y py] (.ListComp elt [⟨tg, iter, ifs, 0⟩] scope lpos) spos) (wSet i (wShF (wComp wi f wt we (own.map (·.2))))) := ⟨ps_lc hc hN i own hi hg ht he hy hyl hsw ok hsub hs setSh_imp⟩
/-! ### a shared list is walked; nothing shared changes meanwhile -/
def RE (T : Th) : Rl := fun W H W' H' => (Kp W.F H W'.F H' ∧ WOk T W' H') ∧ W'.Om = W.Om
theorem walk_shl {K : PySem.W.Frag} {a : Addr} {n : Nat} : Walk (Itl K a) n (fun H => ∃ xs, H a = some (.lst xs) ∧ xs.length = n) (fun i H x H' => H' = H ∧ ∀ xs, SqL K H a xs → xs[i]? = some x) :=
  ⟨fun i _ hi ⟨xs, q, l⟩ => ⟨xs, xs[i]'(by omega), .of q, by simp [show i < xs.length by omega]⟩, fun _ ⟨xs, q, l⟩ => ⟨xs, .of q, by omega⟩, fun _ _ _ _ _ q y => ⟨y.1, y.2⟩⟩
def gItC (O : Om) (d : D) (Q : List D → Prop) : Prop := match d with
  | .ref q => (match O q with | some (.lst xs) => Q xs | _ => False)
  | _ => False
def wItC (w : WE) : WA := fun G Om Q R => w G Om (fun d O => gItC O d fun xs => Q xs O) R
theorem di_valC {tg iter : Expr} (h : DE X P iter w) : DI X P (RE P.T) tg iter (wItC w) := by
  refine ⟨pi_imp (pi_any h.pe) fun σ H R q => ?_⟩
  obtain ⟨G, W, Q0, R0, S, q, ex, hq⟩ := q
  refine ⟨G, W, _, R0, S, q, ex, fun d O h1 v H1 W1 s1 e1 r => ?_⟩
  subst e1
  cases d <;> try exact h1.elim
  rename_i q
  simp only [Rep] at r
  subst r
  unfold gItC at h1
  simp only at h1
  split at h1
  · rename_i xs e
    obtain ⟨vs, hv, rv, _⟩ := shl_at s1.ok e
    refine .inl ⟨q, rfl, ⟨vs, .of hv⟩, hq _ _ h1 _ H1 W1 s1 rfl ?_⟩
    refine ⟨_, _, walk_shl, fun W2 H2 k => ?_⟩
    obtain ⟨vs2, hv2, rv2, _⟩ := shl_at k.1.2 (k.2 ▸ e)
    refine ⟨⟨vs2, hv2, rv2.len⟩, fun i d ei x H3 y => ?_⟩
    obtain ⟨rfl, y⟩ := y
    obtain ⟨v, ev, rd⟩ := rv2.get ei
    have := y vs2 (.of hv2)
    rw [ev] at this
    cases this
    exact ⟨fun _ _ z => z, rd⟩
  · exact h1.elim
/-- for over it -/
def wForLE (f : WG) (u : WS) (O1 : Om) : List D → WS
  | [] => fun G Om Po => Po.nx G Om
  | d :: r => fun G Om Po => f d G fun G' => u G' Om { Po with nx := fun G2 O2 => O2 = O1 ∧ wForLE f u O1 r G2 O2 Po, ct := fun G2 O2 => O2 = O1 ∧ wForLE f u O1 r G2 O2 Po, bk := Po.nx }
def wForE (wi : WA) (f : WG) (u : WS) : WS := fun G Om Po => wi G Om (fun items O => wForLE f u O items G O Po) fun x O => Po.ex x G O
theorem ds_forE {tg iter : Expr} {sb : List Stmt} {wi : WA} {f : WG} {u : WS} {is : List Nat} (hp : PassesOwn (model X.prog X.w) X.A X.env X.xe) (hc : X.calm = true) (hi : DI X P (RE P.T) tg iter wi) (hg : DG X P tg is f) (hb : DSs X P sb u)
    (hs : ∀ x, foldedSetIterable iter X.env x = pure x := by intro _; rfl) : DS X P (.For tg iter sb [] pos) (wForE wi f u) := by
  refine ⟨ps_imp (ps_for hp hc hi.pi hg.pg hb.ps hs) fun D σ H ⟨G, W, Po, S, q, h⟩ => ?_⟩
  refine ⟨G, W, _, _, S, q, h.exE S, fun items O q1 J H1 W1 s1 e1 wk => ?_⟩
  subst e1
  obtain ⟨Gd, Y, wk, hy⟩ := wk
  have h1 := h.kp (s1.kp S.ok)
  refine for_it wk (fun i σ' H' => ∃ G' W', Kp W1.F H1 W'.F H' ∧ Sta P G' W' σ' H' ∧ W'.Om = W1.Om ∧ wForLE f u W1.Om (items.drop i) G' W'.Om Po) ⟨G, W1, Kp.refl, S.step s1, rfl, q1⟩ (fun i σ' H' _ ⟨G', W', k, S', eo, _⟩ => (hy W' H' ⟨⟨k, S'.ok⟩, eo⟩).1)
    (fun i x σ' Hc H' hi ⟨G', W', k, S', eo, q'⟩ hyx => ?_) (fun σ' H' ⟨G', W', k, S', eo, q'⟩ => ?_)
  · have gi : items[i]? = some items[i] := List.getElem?_eq_getElem hi
    obtain ⟨nw, rx⟩ := (hy W' Hc ⟨⟨k, S'.ok⟩, eo⟩).2 i _ gi x H' hyx
    rw [List.drop_eq_getElem_cons hi] at q'
    have sx : Step P.T W' Hc W' H' := Step.ext S'.ok nw
    have kx := k.trans (sx.kp S'.ok)
    refine ⟨G', W', _, _, S'.step sx, rx, q', fun G2 q2 σ2 S2 _ => ?_⟩
    have h2 := h1.kp kx
    exact ⟨G2, W', _, S2, q2, ⟨fun G3 O3 q3 σ3 H3 W3 k3 S3 e3 => ⟨G3, W3, kx.trans k3, S3, e3.trans q3.1, by rw [e3]; exact q3.2⟩, h2.rt, fun G3 O3 q3 σ3 H3 W3 k3 S3 e3 => h2.nx G3 O3 q3 σ3 H3 W3 k3 S3 e3, fun G3 O3 q3 σ3 H3 W3 k3 S3 e3 => ⟨G3, W3, kx.trans k3, S3, e3.trans q3.1, by rw [e3]; exact q3.2⟩, h2.ex⟩⟩
  · rw [List.drop_length] at q'
    exact h1.nx _ _ q' σ' H' W' k S' rfl
/-! ### shared dicts -/
/-- x[k] = v, x a shared dict -/
def wPutS (wv wo wi : WE) : WS := fun G Om Po => wv G Om (fun d O => wo G O (fun z O1 => wi G O1 (fun y O2 => match z with
  | .ref q => (match O2 q, keyD y with
    | some (.dct ks vs), some k => ks.Nodup ∧ ks.length < 16777216 ∧ Po.nx G (putO O2 q (.dct (putKs ks k) (putVs ks vs k d)))
    | _, _ => False)
  | _ => False) fun x O => Po.ex x G O) fun x O => Po.ex x G O) fun x O => Po.ex x G O
theorem ds_putS (hu : X.A.units + 64 < cLine) (hv : DE X P value wv) (ho : DE X P o wo) (hi : DE X P i wi) (hs : swapsWith value (some (.Subscript o i tpos)) pos.line X.env = pure false := by rfl) :
    DS X P (.Assign [.Subscript o i tpos] value pos) (wPutS wv wo wi) := by
  refine ⟨ps_imp (ps_dput (by omega) ho.pe hi.pe hv.pe hs) fun D σ H ⟨G, W, Po, S, q, h⟩ => ⟨G, W, _, _, S, q, h.exE S, fun d O q1 v H1 W1 s1 e1 r1 => ?_⟩⟩
  subst e1
  have p1 := h.kp (s1.kp S.ok)
  refine ⟨G, W1, _, _, S.step s1, q1, p1.exE (S.step s1), fun z O1 q2 v2 H2 W2 s2 e2 r2 => ?_⟩
  subst e2
  have p2 := p1.kp (s2.kp s1.ok)
  refine ⟨G, W2, _, _, (S.step s1).step s2, q2, p2.exE ((S.step s1).step s2), fun y O2 q3 v3 H3 W3 s3 e3 r3 => ?_⟩
  subst e3
  cases z <;> try exact q3.elim
  rename_i q
  simp only [Rep] at r2
  have q3 : (match W3.Om q, keyD y with | some (.dct ks vs), some k => ks.Nodup ∧ ks.length < 16777216 ∧ Po.nx G (putO W3.Om q (.dct (putKs ks k) (putVs ks vs k d))) | _, _ => False) := q3
  split at q3
  · rename_i ks ds k ex2 ek
    obtain ⟨nd, hk, q3⟩ := q3
    obtain ⟨⟨ws, hl, l, rl⟩, ff⟩ := s3.ok.at_ q _ ex2
    have Fq := s3.ok.sub q ⟨q, by rw [ex2]; simp, ff⟩
    have rd := Rep.kp (s3.kp s2.ok) _ _ (Rep.kp (s2.kp s1.ok) _ _ r1)
    obtain ⟨us, h1, h2, h3⟩ := put_rep (k := k) rd nd l rl
    have sm : Step P.T W3 H3 (W3.setO q (.dct (putKs ks k) (putVs ks ds k d))) (upd H3 q (.dK (putK (ks.zip ws) k v))) := Step.mutS s3.ok ex2 ⟨us, by rw [upd_same, h1], h2, Reps.kp (Kp.mut Fq) _ _ h3⟩
    have ev := keyD_rep (r3.t s3.ok.sub) ek
    subst ev
    exact ⟨q, _, r2, DPut.k hl (by rw [zip_len l rl]; exact Nat.lt_of_lt_of_le hk (by decide)), p2.nx _ _ q3 _ _ _ ((s3.trans sm).kp s2.ok) (((S.step s1).step s2).step (s3.trans sm)) rfl⟩
  · exact q3.elim
end
end N

set_option Elab.async false
set_option linter.all false
set_option maxRecDepth 100000
set_option maxHeartbeats 0
/-! NSc: comprehensions over what is shared, of one and of two -/
namespace N
open PySem PySem.Spec PyProof.Rows L2
def noOwn : Gam → Gam
  | [] => []
  | .own _ :: r => .no :: noOwn r
  | s :: r => s :: noOwn r
theorem noOwn_len : ∀ G : Gam, (noOwn G).length = G.length
  | [] => rfl
  | .own _ :: r => by simp [noOwn, noOwn_len r]
  | .no :: r => by simp [noOwn, noOwn_len r]
  | .val d :: r => by simp [noOwn, noOwn_len r]
theorem noOwn_get : ∀ (G : Gam) (i : Nat) (s : Sl), (noOwn G)[i]? = some s → s = .no ∨ ∃ d, s = .val d ∧ G[i]? = some (.val d)
  | [], i, s, h => by simp [noOwn] at h
  | .own _ :: r, 0, s, h => by simp [noOwn] at h; exact .inl h.symm
  | .no :: r, 0, s, h => by simp [noOwn] at h; exact .inl h.symm
  | .val d :: r, 0, s, h => by simp [noOwn] at h; exact .inr ⟨d, h.symm, rfl⟩
  | .own _ :: r, i + 1, s, h => by simpa using noOwn_get r i s (by simpa [noOwn] using h)
  | .no :: r, i + 1, s, h => by simpa using noOwn_get r i s (by simpa [noOwn] using h)
  | .val d :: r, i + 1, s, h => by simpa using noOwn_get r i s (by simpa [noOwn] using h)
section
variable {P : Pm} {G : Gam} {W W' : Wd} {σ : L2.St} {H H' : Hp}
theorem Sta.noOwn (S : Sta P G W σ H) : Sta P (noOwn G) W σ H :=
  ⟨S.st, (noOwn_len G).trans S.len, fun i s e => by
    rcases noOwn_get G i s e with rfl | ⟨d, rfl, q⟩
    · trivial
    · exact S.sl i _ q, fun i j m m' a e _ _ _ => by
    rcases noOwn_get G i _ e with q | ⟨d, q, _⟩ <;> cases q⟩
/-- without own things a frame stands under all that keeps what is not of F -/
theorem Sta.kpN (S : Sta P (N.noOwn G) W σ H) (k : Kp W.F H W'.F H') (st : Step P.T P.W0 P.H0 W' H') : Sta P (N.noOwn G) W' σ H' :=
  ⟨st, S.len, fun i s e => by
    have q := S.sl i s e
    rcases noOwn_get G i s e with rfl | ⟨d, rfl, _⟩
    · trivial
    · obtain ⟨v, e1, r⟩ := q
      exact ⟨v, e1, Rep.kp k d v r⟩, fun i j m m' a e _ _ _ => by
    rcases noOwn_get G i _ e with q | ⟨d, q, _⟩ <;> cases q⟩
end
section
variable {X : Cx} {P : Pm}
theorem DI.mono {R R' : Rl} {tg iter : Expr} {w : WA} (h : DI X P R tg iter w) (i : ∀ W H W' H', R' W H W' H' → R W H W' H') : DI X P R' tg iter w :=
  ⟨pi_imp h.pi fun σ H K ⟨G, W, Q0, R0, S, q, ex, hq⟩ => ⟨G, W, Q0, R0, S, q, ex, fun items O h1 J H1 W1 s1 e1 ⟨Gd, Y, wk, hy⟩ => hq items O h1 J H1 W1 s1 e1 ⟨Gd, Y, wk, fun W2 H2 r => hy W2 H2 (i _ _ _ _ r)⟩⟩⟩
theorem DI.ev {tg iter : Expr} {w : WA} (h : DI X P (RF P.T) tg iter w) : DI X P (RE P.T) tg iter w := h.mono fun _ _ _ _ r => r.1
/-- the turns of a comprehension that leaves the shared things as they are -/
def wTurnsE (f : WG) (wt : WT) (we : WE) (G : Gam) (O1 : Om) : List D → List D → (List D → Prop) → Prop
  | [], acc, Q => Q acc
  | d :: r, acc, Q => acc.length < 16777216 ∧ f d G fun G2 => wt G2 O1 (fun b O2 => O2 = O1 ∧ br b (we G2 O1 (fun x O3 => O3 = O1 ∧ wTurnsE f wt we G O1 r (acc ++ [x]) Q) noR) (wTurnsE f wt we G O1 r acc Q)) noR
def wCompE (wi : WA) (f : WG) (wt : WT) (we : WE) (vs : List Nat) : WF := fun G Om Q R => wi G Om (fun items O1 => wTurnsE f wt we (noOwn (wipeG G vs)) O1 items [] fun ds => Q (.lst ds) O1) R
/-- one walk of them: from the list at p -/
theorem turnsE_it {J : It} {items : List D} {f : WG} {wt : WT} {we : WE} {G : Gam} {vs is : List Nat} {σ : L2.St} {Wb W1 : Wd} {Hb H1 : Hp} {p : Addr} (sb0 : Step P.T P.W0 P.H0 Wb Hb) (sb : Step P.T Wb Hb W1 H1) (nb : Hb p = none)
    (S : Sta P (noOwn G) W1 (wipe σ vs) H1) (hsub : ∀ i ∈ is, i ∈ vs) (wk : Wk P.T (RE P.T) W1 H1 items J) (hF : W1.F p) (hpm : ¬ W1.pm p) {acc : List D} {vacc : List V} (hl : H1 p = some (.lst vacc)) (hr : Reps P.T W1.F H1 acc vacc)
    {Q : List D → Prop} (q : wTurnsE f wt we (noOwn G) W1.Om items acc Q) {Nx : Hp → Prop}
    (hd : ∀ Wt Hc acc vacc, Kp W1.F H1 Wt.F Hc → Step P.T Wb Hb Wt Hc → Wt.Om = W1.Om → Wt.F p → ¬ Wt.pm p → Hc p = some (.lst vacc) → Reps P.T Wt.F Hc acc vacc → Q acc → Nx Hc) :
    ∃ W : Nat → Nat → Hp → Prop, (∃ m, W 0 m H1) ∧ ∀ i m H, W i m H →
      (J.stop i H ∧ Nx H) ∨ (J.go i H ∧ ∃ N1 : Hp → Prop, (∀ H', N1 H' → ∃ m', m' < m ∧ W (i + 1) m' H') ∧ ∀ x H', J.yld i H x H' → tG P.noW is f x (wipe σ vs) H' fun σ2 H2 => wipe σ2 vs = wipe σ vs ∧ tT P.noW wt σ2 H2 fun b H3 =>
        if b = true then tE P.noW we σ2 H3 fun y H4 => ∃ acc, H4 p = some (.lst acc) ∧ acc.length < sizeLine ∧ N1 (upd H4 p (.lst (acc ++ [y]))) else N1 H3) := by
  obtain ⟨Gd, Y, wk, hy⟩ := wk
  let Pv : Nat → Hp → Prop := fun i Hc => ∃ Wt acc vacc, Kp W1.F H1 Wt.F Hc ∧ Step P.T Wb Hb Wt Hc ∧ Wt.Om = W1.Om ∧ Wt.F p ∧ ¬ Wt.pm p ∧ Hc p = some (.lst vacc) ∧ Reps P.T Wt.F Hc acc vacc ∧ wTurnsE f wt we (noOwn G) W1.Om (items.drop i) acc Q
  refine ⟨fun i m H => m = items.length - i ∧ i ≤ items.length ∧ Pv i H, ⟨items.length, by simp, Nat.zero_le _, W1, acc, vacc, Kp.refl, sb, rfl, hF, hpm, hl, hr, q⟩, ?_⟩
  rintro i m Hc ⟨rfl, hi, Wt, acc, vacc, k, st, eo, hF, hpm, hl, hr, ht⟩
  obtain ⟨hg, hy2⟩ := hy Wt Hc ⟨⟨k, st.ok⟩, eo⟩
  by_cases hlt : i < items.length
  · refine .inr ⟨wk.goes i Hc hlt hg, Pv (i + 1), fun H' p' => ⟨items.length - (i + 1), by omega, rfl, hlt, p'⟩, fun x H' y => ?_⟩
    have hyx := wk.yields i Hc x H' hlt hg y
    have gi : items[i]? = some items[i] := List.getElem?_eq_getElem hlt
    obtain ⟨nw, rx⟩ := hy2 i _ gi x H' hyx
    rw [List.drop_eq_getElem_cons hlt] at ht
    obtain ⟨hsz, ht⟩ := ht
    have sx : Step P.T Wt Hc Wt H' := Step.ext st.ok nw
    have k' := k.trans (sx.kp st.ok)
    have st' := st.trans sx
    have hl' : H' p = some (.lst vacc) := nw p _ hl
    have hr' := Reps.kp (sx.kp st.ok) _ _ hr
    have S2 : Sta P.noW (noOwn G) Wt (wipe σ vs) H' := (S.kpN k' (sb0.trans st')).noW
    refine ⟨noOwn G, Wt, items[i], _, S2, rx, ht, fun G2 h2 σ2 S3 ag => ⟨ag.wipe hsub, ?_⟩⟩
    refine ⟨G2, Wt, _, noR, S3, by rw [eo]; exact h2, exNo, fun b O2 h3 H3 W3 s3 e3 => ?_⟩
    obtain ⟨rfl, h3⟩ := h3
    have hl3 : H3 p = some (.lst vacc) := s3.keep p _ hl' hpm
    have npm3 : ¬ W3.pm p := s3.pm hl' hpm
    have hr3 : Reps P.T W3.F H3 acc vacc := Reps.kp (s3.kp st'.ok) _ _ hr'
    have st3 := st'.trans s3
    have k3 := k'.trans (s3.kp st'.ok)
    cases b with
    | false => exact ⟨W3, acc, vacc, k3, st3, e3, s3.sub p hF, npm3, hl3, hr3, h3⟩
    | true =>
      rw [if_pos rfl]
      refine ⟨G2, W3, _, noR, S3.step s3, by rw [e3]; exact h3, exNo, fun d O4 h4 y H4 W4 s4 e4 ry => ?_⟩
      obtain ⟨rfl, h4⟩ := h4
      have hl4 : H4 p = some (.lst vacc) := s4.keep p _ hl3 npm3
      have npm4 : ¬ W4.pm p := s4.pm hl3 npm3
      have hF4 := s4.sub p (s3.sub p hF)
      have hr4 : Reps P.T W4.F H4 acc vacc := Reps.kp (s4.kp s3.ok) _ _ hr3
      have km : Kp W4.F H4 W4.F (upd H4 p (.lst (vacc ++ [y]))) := Kp.mut hF4
      refine ⟨vacc, hl4, Nat.lt_of_lt_of_le (by rw [hr4.len]; exact hsz) (by decide), W4, acc ++ [d], vacc ++ [y], (k3.trans (s4.kp s3.ok)).trans km, (st3.trans s4).mutO nb hF4 npm4, e4, hF4, npm4, upd_same, ?_, h4⟩
      exact Reps.kp km _ _ (hr4.app (.cons ry .nil))
  · have : i = items.length := by omega
    subst this
    rw [List.drop_length] at ht
    exact .inl ⟨wk.stops Hc hg, hd Wt Hc acc vacc k st eo hF hpm hl hr ht⟩
theorem Wk.more {R : Rl} {W1 W2 : Wd} {H1 H2 : Hp} {items : List D} {J : It} (w : Wk P.T (RE P.T) W1 H1 items J) (k : Kp W1.F H1 W2.F H2) (e : W2.Om = W1.Om) : Wk P.T (RE P.T) W2 H2 items J := by
  obtain ⟨Gd, Y, w, hy⟩ := w
  exact ⟨Gd, Y, w, fun W3 H3 r => hy W3 H3 ⟨⟨k.trans r.1.1, r.1.2⟩, r.2.trans e⟩⟩
theorem om_no {T : Th} {Wt : Wd} {Hc : Hp} {p : Addr} (ok : WOk T Wt Hc) (hpm : ¬ Wt.pm p) : Wt.Om p = none := by
  cases q : Wt.Om p with
  | none => rfl
  | some m => exact (hpm ⟨p, by rw [q]; simp, (ok.at_ p m q).2⟩).elim
theorem lcE_imp {wi : WA} {f : WG} {wt : WT} {we : WE} {vs is : List Nat} (hsub : ∀ i ∈ is, i ∈ vs) :
    ∀ σ H Q, tF P (wCompE wi f wt we vs) σ H Q → tLc (tI P (RE P.T) wi) (tG P.noW is f) (tT P.noW wt) (tE P.noW we) vs σ H Q := fun σ H Q q => by
  obtain ⟨G, W, Q0, R0, S, q, ex, hq⟩ := q
  refine ⟨G, W, _, R0, S, q, ex, fun items O h1 J H1 W1 s1 e1 wk D hD => ?_⟩
  subst e1
  have S1 := S.step s1
  have n0 : Step P.T W1 H1 (W1.add D) (upd H1 D (.lst [])) := Step.newOwn s1.ok hD
  have npm0 : ¬ (W1.add D).pm D := fun z => s1.ok.trk D (s1.ok.sub D z) hD
  have S2 := (((S1.step n0)).wipe vs).noOwn
  have hb : H D = none := s1.back hD
  refine turnsE_it (Nx := fun H => Q (.ref D) H) (P := P) S.st (s1.trans n0) hb S2 hsub (wk.more (R := RE P.T) (n0.kp s1.ok) rfl) (.inr rfl) npm0 upd_same .nil h1 fun Wt Hc acc vacc k st eo hF hpm hl hr ht => ?_
  exact hq _ _ ht D Hc Wt st eo hb hF hpm (om_no st.ok hpm) ⟨vacc, hl, hr⟩
variable {elt tg iter tg1 iter1 : Expr} {ifs ifs1 : List Expr} {scope : Scope} {own : List (Str × Nat)} {pos : Pos} {wi wi1 : WA} {f f1 : WG} {wt wt1 : WT} {we : WE} {is is1 : List Nat}
theorem df_lcE (hc : X.calm = true) (hN : X.N.Nodup) (own : List (Str × Nat)) (hi : DI X P (RE P.T) tg iter wi)
    (hg : ∀ (s : Shared) (H : Hp) (C : Addr) (cl : List (Str × Addr)) (fp : List Addr), DG (X.blk s H scope (compEnvC scope cl C X.env) fp) P.noW tg is f)
    (ht : ∀ (s : Shared) (H : Hp) (C : Addr) (cl : List (Str × Addr)) (fp : List Addr), DTs (X.blk s H scope (compEnvC scope cl C X.env) fp) P.noW ifs wt)
    (he : ∀ (s : Shared) (H : Hp) (C : Addr) (cl : List (Str × Addr)) (fp : List Addr), DE (X.blk s H scope (compEnvC scope cl C X.env) fp) P.noW elt we)
    (ok : blkC X.N X.env.scope scope own = true := by kernel_rfl) (hsub : ∀ i ∈ is, i ∈ own.map (·.2) := by decide) (hs : ∀ x, foldedSetIterable iter X.env x = pure x := by intro _; rfl) :
    DF X P (.ListComp elt [⟨tg, iter, ifs, 0⟩] scope pos) (wCompE wi f wt we (own.map (·.2))) :=
  ⟨pe_imp (pe_lc hc hN hi.pi (blkOk_by ok) (fun s H C cl fp => (hg s H C cl fp).pg) (fun s H C cl fp => (ht s H C cl fp).pt) (fun s H C cl fp => (he s H C cl fp).pe) hs) (lcE_imp hsub)⟩
theorem ps_lcE {spos lpos : Pos} {y : Str} {py : Pos} (hc : X.calm = true) (hN : X.N.Nodup) (i : Nat) (own : List (Str × Nat)) (hi : DI X P (RE P.T) tg iter wi)
    (hg : ∀ (s : Shared) (H : Hp) (C : Addr) (cl : List (Str × Addr)) (fp : List Addr), DG (X.blk s H scope (compEnvC scope cl C X.env) fp) P.noW tg is f)
    (ht : ∀ (s : Shared) (H : Hp) (C : Addr) (cl : List (Str × Addr)) (fp : List Addr), DTs (X.blk s H scope (compEnvC scope cl C X.env) fp) P.noW ifs wt)
    (he : ∀ (s : Shared) (H : Hp) (C : Addr) (cl : List (Str × Addr)) (fp : List Addr), DE (X.blk s H scope (compEnvC scope cl C X.env) fp) P.noW elt we)
    (hy : X.N[i]? = some y) (hyl : X.env.scope.names.lookup y = some .local) (hsw : swapsWith (.ListComp elt [⟨tg, iter, ifs, 0⟩] scope lpos) (some (.Name y py)) spos.line X.env = pure true)
    (ok : blkC X.N X.env.scope scope own = true) (hsub : ∀ i ∈ is, i ∈ own.map (·.2)) (hs : ∀ x, foldedSetIterable iter X.env x = pure x) {t : TS} (himp : ∀ D σ H, t D σ H → tAsg (tF P (wCompE wi f wt we (own.map (·.2)))) (gName i) D σ H) :
    PS X (.Assign [.Name y py] (.ListComp elt [⟨tg, iter, ifs, 0⟩] scope lpos) spos) t :=
  ps_imp (ps_setLc hc hN hy hyl hsw hi.pi (blkOk_by ok) (fun s H C cl fp => (hg s H C cl fp).pg) (fun s H C cl fp => (ht s H C cl fp).pt) (fun s H C cl fp => (he s H C cl fp).pe) hs) fun D σ H q => lcE_imp hsub σ H _ (himp D σ H q)
theorem ds_setLcE {spos lpos : Pos} {y : Str} {py : Pos} (hc : X.calm = true) (hN : X.N.Nodup) (i : Nat) (own : List (Str × Nat)) (hi : DI X P (RE P.T) tg iter wi)
    (hg : ∀ (s : Shared) (H : Hp) (C : Addr) (cl : List (Str × Addr)) (fp : List Addr), DG (X.blk s H scope (compEnvC scope cl C X.env) fp) P.noW tg is f)
    (ht : ∀ (s : Shared) (H : Hp) (C : Addr) (cl : List (Str × Addr)) (fp : List Addr), DTs (X.blk s H scope (compEnvC scope cl C X.env) fp) P.noW ifs wt)
    (he : ∀ (s : Shared) (H : Hp) (C : Addr) (cl : List (Str × Addr)) (fp : List Addr), DE (X.blk s H scope (compEnvC scope cl C X.env) fp) P.noW elt we)
    (hy : X.N[i]? = some y := by rfl) (hyl : X.env.scope.names.lookup y = some .local := by rfl) (hsw : swapsWith (.ListComp elt [⟨tg, iter, ifs, 0⟩] scope lpos) (some (.Name y py)) spos.line X.env = pure true := by exact sw_true rfl rfl rfl (by decide +kernel))
    (ok : blkC X.N X.env.scope scope own = true := by kernel_rfl) (hsub : ∀ i ∈ is, i ∈ own.map (·.2) := by decide) (hs : ∀ x, foldedSetIterable iter X.env x = pure x := by intro _; rfl) :
    DS X P (.Assign [.Name y py] (.ListComp elt [⟨tg, iter, ifs, 0⟩] scope lpos) spos) (wSet i (wFrz (wCompE wi f wt we (own.map (·.2))))) := ⟨ps_lcE hc hN i own hi hg ht he hy hyl hsw ok hsub hs (setF_imp fun _ _ _ _ h => h)⟩
/-! ### of two -/
def wTurns2 (f : WG) (wi1 : WA) (f1 : WG) (wt1 : WT) (we : WE) (G : Gam) (vs1 : List Nat) (O1 : Om) : List D → List D → (List D → Prop) → Prop
  | [], acc, Q => Q acc
  | d :: r, acc, Q => f d G fun G2 => wi1 G2 O1 (fun items1 O2 => O2 = O1 ∧ wTurnsE f1 wt1 we (noOwn (wipeG G2 vs1)) O1 items1 acc fun acc' => wTurns2 f wi1 f1 wt1 we G vs1 O1 r acc' Q) noR
def wComp2 (wi : WA) (f : WG) (wi1 : WA) (f1 : WG) (wt1 : WT) (we : WE) (vs vs1 : List Nat) : WF := fun G Om Q R => wi G Om (fun items O1 => wTurns2 f wi1 f1 wt1 we (noOwn (wipeG G vs)) vs1 O1 items [] fun ds => Q (.lst ds) O1) R
theorem lc2_imp {vs vs1 : List Nat} (hsub : ∀ i ∈ is, i ∈ vs) (hsub1 : ∀ i ∈ is1, i ∈ vs1) :
    ∀ σ H Q, tF P (wComp2 wi f wi1 f1 wt1 we vs vs1) σ H Q → tLc2 (tI P (RE P.T) wi) (tG P.noW is f) (tT P.noW wtYes) (tI P.noW (RE P.T) wi1) (tG P.noW is1 f1) (tT P.noW wt1) (tE P.noW we) vs vs1 σ H Q := fun σ H Q q => by
  obtain ⟨G, W, Q0, R0, S, q, ex, hq⟩ := q
  refine ⟨G, W, _, R0, S, q, ex, fun items O h1 J H1 W1 s1 e1 wk p hp => ?_⟩
  subst e1
  have S1 := S.step s1
  have n0 : Step P.T W1 H1 (W1.add p) (upd H1 p (.lst [])) := Step.newOwn s1.ok hp
  have npm0 : ¬ (W1.add p).pm p := fun z => s1.ok.trk p (s1.ok.sub p z) hp
  have S2 := (((S1.step n0)).wipe vs).noOwn
  have hb : H p = none := s1.back hp
  have k0 := n0.kp s1.ok
  obtain ⟨Gd, Y, wk, hy⟩ := wk
  let Pv : Nat → Hp → Prop := fun i Hc => ∃ Wt acc vacc, Kp (W1.add p).F (upd H1 p (.lst [])) Wt.F Hc ∧ Step P.T W H Wt Hc ∧ Wt.Om = W1.Om ∧ Wt.F p ∧ ¬ Wt.pm p ∧ Hc p = some (.lst vacc) ∧ Reps P.T Wt.F Hc acc vacc ∧ wTurns2 f wi1 f1 wt1 we (noOwn (wipeG G vs)) vs1 W1.Om (items.drop i) acc fun ds => Q0 (.lst ds) W1.Om
  refine ⟨fun i m H => m = items.length - i ∧ i ≤ items.length ∧ Pv i H, ⟨items.length, by simp, Nat.zero_le _, W1.add p, [], [], Kp.refl, s1.trans n0, rfl, .inr rfl, npm0, upd_same, .nil, h1⟩, ?_⟩
  rintro i m Hc ⟨rfl, hi, Wt, acc, vacc, k, st, eo, hF, hpm, hl, hr, ht⟩
  obtain ⟨hg, hy2⟩ := hy Wt Hc ⟨⟨k0.trans k, st.ok⟩, eo⟩
  by_cases hlt : i < items.length
  · refine .inr ⟨wk.goes i Hc hlt hg, Pv (i + 1), fun H' p' => ⟨items.length - (i + 1), by omega, rfl, hlt, p'⟩, fun x H' y => ?_⟩
    have hyx := wk.yields i Hc x H' hlt hg y
    have gi : items[i]? = some items[i] := List.getElem?_eq_getElem hlt
    obtain ⟨nw, rx⟩ := hy2 i _ gi x H' hyx
    rw [List.drop_eq_getElem_cons hlt] at ht
    have sx : Step P.T Wt Hc Wt H' := Step.ext st.ok nw
    have k' := k.trans (sx.kp st.ok)
    have st' := st.trans sx
    have hl' : H' p = some (.lst vacc) := nw p _ hl
    have hr' := Reps.kp (sx.kp st.ok) _ _ hr
    have S3 : Sta P.noW (noOwn (wipeG G vs)) Wt (wipe σ vs) H' := (S2.kpN k' (S.st.trans st')).noW
    refine ⟨noOwn (wipeG G vs), Wt, items[i], _, S3, rx, ht, fun G2 h2 σ2 S4 ag => ⟨ag.wipe hsub, ?_⟩⟩
    refine ⟨G2, Wt, fun b O => b = true ∧ O = Wt.Om, noR, S4, ⟨rfl, rfl⟩, exNo, fun b O2 h3 H3 W3 s3 e3 => ?_⟩
    obtain ⟨rfl, rfl⟩ := h3
    rw [if_pos rfl]
    have hl3 : H3 p = some (.lst vacc) := s3.keep p _ hl' hpm
    have npm3 : ¬ W3.pm p := s3.pm hl' hpm
    have hF3 := s3.sub p hF
    have hr3 : Reps P.T W3.F H3 acc vacc := Reps.kp (s3.kp st'.ok) _ _ hr'
    have st3 := st'.trans s3
    have k3 := k'.trans (s3.kp st'.ok)
    have S5 := S4.step s3
    have eo3 : W3.Om = W1.Om := e3.trans eo
    refine ⟨G2, W3, _, noR, S5, by rw [eo3]; exact h2, exNo, fun items1 O4 h4 J1 H4 W4 s4 e4 wk1 => ?_⟩
    obtain ⟨rfl, h4⟩ := h4
    have hl4 : H4 p = some (.lst vacc) := s4.keep p _ hl3 npm3
    have npm4 : ¬ W4.pm p := s4.pm hl3 npm3
    have hF4 := s4.sub p hF3
    have hr4 : Reps P.T W4.F H4 acc vacc := Reps.kp (s4.kp s3.ok) _ _ hr3
    have S6 : Sta P.noW (noOwn (wipeG G2 vs1)) W4 (wipe σ2 vs1) H4 := ((S5.step s4).wipe vs1).noOwn
    refine turnsE_it (P := P.noW) (Nx := Pv (i + 1)) (W1 := W4) S.st (st3.trans s4) hb S6 hsub1 wk1 hF4 npm4 hl4 hr4 (by rw [e4]; exact h4) fun Wt' Hc' acc' vacc' k5 st5 eo5 hF5 hpm5 hl5 hr5 hq5 => ?_
    exact ⟨Wt', acc', vacc', (k3.trans (s4.kp s3.ok)).trans k5, st5, eo5.trans e4, hF5, hpm5, hl5, hr5, hq5⟩
  · have : i = items.length := by omega
    subst this
    rw [List.drop_length] at ht
    exact .inl ⟨wk.stops Hc hg, hq _ _ ht p Hc Wt st eo hb hF hpm (om_no st.ok hpm) ⟨vacc, hl, hr⟩⟩
theorem df_lc2 (hc : X.calm = true) (hN : X.N.Nodup) (own : List (Str × Nat)) (vs1 : List Nat) (hi : DI X P (RE P.T) tg iter wi)
    (hg : ∀ (s : Shared) (H : Hp) (C : Addr) (cl : List (Str × Addr)) (fp : List Addr), DG (X.blk s H scope (compEnvC scope cl C X.env) fp) P.noW tg is f)
    (hi1 : ∀ (s : Shared) (H : Hp) (C : Addr) (cl : List (Str × Addr)) (fp : List Addr), DI (X.blk s H scope (compEnvC scope cl C X.env) fp) P.noW (RE P.T) tg1 iter1 wi1)
    (hg1 : ∀ (s : Shared) (H : Hp) (C : Addr) (cl : List (Str × Addr)) (fp : List Addr), DG (X.blk s H scope (compEnvC scope cl C X.env) fp) P.noW tg1 is1 f1)
    (ht1 : ∀ (s : Shared) (H : Hp) (C : Addr) (cl : List (Str × Addr)) (fp : List Addr), DTs (X.blk s H scope (compEnvC scope cl C X.env) fp) P.noW ifs1 wt1)
    (he : ∀ (s : Shared) (H : Hp) (C : Addr) (cl : List (Str × Addr)) (fp : List Addr), DE (X.blk s H scope (compEnvC scope cl C X.env) fp) P.noW elt we)
    (ok : blkC X.N X.env.scope scope own = true := by kernel_rfl) (hv : ∀ i ∈ vs1, i ∈ own.map (·.2) := by decide) (hsub : ∀ i ∈ is, i ∈ own.map (·.2) := by decide) (hsub1 : ∀ i ∈ is1, i ∈ vs1 := by decide) (hs : ∀ x, foldedSetIterable iter X.env x = pure x := by intro _; rfl) (hs1 : ∀ env x, foldedSetIterable iter1 env x = pure x := by intro _ _; rfl) :
    DF X P (.ListComp elt [⟨tg, iter, [], 0⟩, ⟨tg1, iter1, ifs1, 0⟩] scope pos) (wComp2 wi f wi1 f1 wt1 we (own.map (·.2)) vs1) :=
  ⟨pe_imp (pe_lc2 hc hN hi.pi (blkOk_by ok) hv (fun s H C cl fp => (hg s H C cl fp).pg) (fun s H C cl fp => dts_nil.pt) (fun s H C cl fp => (hi1 s H C cl fp).pi) (fun s H C cl fp => (hg1 s H C cl fp).pg) (fun s H C cl fp => (ht1 s H C cl fp).pt) (fun s H C cl fp => (he s H C cl fp).pe) hs hs1) (lc2_imp hsub hsub1)⟩
end
end N

set_option Elab.async false
set_option linter.all false
set_option maxRecDepth 100000
set_option maxHeartbeats 0
/-! NSo: sorted, of ints and of pairs of ints -/
namespace N
open PySem PySem.Spec PyProof.Rows L2
def leI (a b : Int) : Bool := decide (a ≤ b)
def leP (p q : Int × Int) : Bool := decide (p.1 < q.1 ∨ (p.1 = q.1 ∧ p.2 ≤ q.2))
def srtI (ns : List Int) : List Int := ns.mergeSort leI
def srtP (ps : List (Int × Int)) : List (Int × Int) := ps.mergeSort leP
theorem srtI_perm (ns : List Int) : (srtI ns).Perm ns := List.mergeSort_perm ns leI
theorem srtP_perm (ps : List (Int × Int)) : (srtP ps).Perm ps := List.mergeSort_perm ps leP
theorem srtI_sorted (ns : List Int) : (srtI ns).Pairwise (· ≤ ·) := (List.pairwise_mergeSort (le := leI) (fun a b c h1 h2 => by simp only [leI, decide_eq_true_eq] at *; omega) (fun a b => by simp only [leI, Bool.or_eq_true, decide_eq_true_eq]; omega) ns).imp fun h => by simpa [leI] using h
theorem srtP_sorted (ps : List (Int × Int)) : (srtP ps).Pairwise (fun p q => leP p q = true) := List.pairwise_mergeSort (le := leP) (fun a b c h1 h2 => by simp only [leP, decide_eq_true_eq] at *; omega) (fun a b => by simp only [leP, Bool.or_eq_true, decide_eq_true_eq]; omega) ps
theorem srtI_uniq {a b : List Int} (h : a.Perm b) (ha : a.Pairwise (· ≤ ·)) : a = srtI b :=
  (h.trans (srtI_perm b).symm).eq_of_pairwise (fun x y _ _ h1 h2 => by omega) ha (srtI_sorted b)
theorem srtP_uniq {a b : List (Int × Int)} (h : a.Perm b) (ha : a.Pairwise (fun p q => leP p q = true)) : a = srtP b :=
  (h.trans (srtP_perm b).symm).eq_of_pairwise (fun x y _ _ h1 h2 => by simp only [leP, decide_eq_true_eq] at h1 h2; exact Prod.ext (by omega) (by omega)) ha (srtP_sorted b)
def prD (p : Int × Int) : D := .tup [.int p.1, .int p.2]
def asInts : List D → Option (List Int)
  | [] => some []
  | .int i :: r => (asInts r).map (i :: ·)
  | _ :: _ => none
def asPairs : List D → Option (List (Int × Int))
  | [] => some []
  | .tup [.int i, .int j] :: r => (asPairs r).map ((i, j) :: ·)
  | _ :: _ => none
theorem asInts_map : ∀ ns : List Int, asInts (ns.map .int) = some ns
  | [] => rfl
  | n :: ns => by simp [asInts, asInts_map ns]
theorem asPairs_map : ∀ ps : List (Int × Int), asPairs (ps.map prD) = some ps
  | [] => rfl
  | p :: ps => by simp [asPairs, prD, asPairs_map ps]
theorem asInts_eq : ∀ {ds : List D} {ns : List Int}, asInts ds = some ns → ds = ns.map .int
  | [], ns, h => by cases h; rfl
  | .int i :: r, ns, h => by
    simp only [asInts, Option.map_eq_some_iff] at h
    obtain ⟨m, h, rfl⟩ := h
    rw [asInts_eq h]; rfl
  | .non :: r, ns, h => by simp [asInts] at h
  | .bl _ :: r, ns, h => by simp [asInts] at h
  | .str _ :: r, ns, h => by simp [asInts] at h
  | .ty _ :: r, ns, h => by simp [asInts] at h
  | .ref _ :: r, ns, h => by simp [asInts] at h
  | .tup _ :: r, ns, h => by simp [asInts] at h
  | .lst _ :: r, ns, h => by simp [asInts] at h
  | .dct _ _ :: r, ns, h => by simp [asInts] at h
  | .ins _ _ _ :: r, ns, h => by simp [asInts] at h
  | .scr _ :: r, ns, h => by simp [asInts] at h
theorem asPairs_eq : ∀ {ds : List D} {ps : List (Int × Int)}, asPairs ds = some ps → ds = ps.map prD := by
  intro ds
  induction ds with
  | nil => intro ps h; cases h; rfl
  | cons d r ih =>
    intro ps h
    unfold asPairs at h
    split at h
    · rename_i e; cases e
    · rename_i i j r' e
      cases e
      simp only [Option.map_eq_some_iff] at h
      obtain ⟨m, h, rfl⟩ := h
      rw [ih h]; rfl
    · cases h
def keysI : List Key → Option (List Int)
  | [] => some []
  | .inl i :: r => (keysI r).map (i :: ·)
  | .inr _ :: _ => none
theorem keysI_map : ∀ ns : List Int, keysI (ns.map Sum.inl) = some ns
  | [] => rfl
  | n :: ns => by simp [keysI, keysI_map ns]
theorem keysI_eq : ∀ {ks : List Key} {ns : List Int}, keysI ks = some ns → ks = ns.map Sum.inl
  | [], ns, h => by cases h; rfl
  | .inl i :: r, ns, h => by
    simp only [keysI, Option.map_eq_some_iff] at h
    obtain ⟨m, h, rfl⟩ := h
    rw [keysI_eq h]; rfl
  | .inr _ :: r, ns, h => by simp [keysI] at h
def gSorted : GCF
  | [.dct ks vs], Q => match keysI ks with
    | some ns => ns.length < 64 ∧ Q (.lst ((srtI ns).map .int))
    | none => False
  | [.lst xs], Q => match asInts xs with
    | some ns => Q (.lst ((srtI ns).map .int))
    | none => match asPairs xs with
      | some ps => Q (.lst ((srtP ps).map prD))
      | none => False
  | _, _ => False
theorem gSorted_d {ns : List Int} {vs : List D} {Q : MO → Prop} : gSorted [.dct (ns.map Sum.inl) vs] Q = (ns.length < 64 ∧ Q (.lst ((srtI ns).map .int))) := by
  simp only [gSorted, keysI_map]
theorem gSorted_i {ns : List Int} {Q : MO → Prop} : gSorted [.lst (ns.map .int)] Q = Q (.lst ((srtI ns).map .int)) := by
  simp only [gSorted, asInts_map]
theorem gSorted_p {ps : List (Int × Int)} {Q : MO → Prop} : gSorted [.lst (ps.map prD)] Q = Q (.lst ((srtP ps).map prD)) := by
  cases ps with
  | nil => simp [gSorted, asInts, srtI, srtP]
  | cons p ps => 
    have : asInts ((p :: ps).map prD) = none := rfl
    simp only [gSorted, this, asPairs_map]
def rSortedPT (K : PySem.W.Frag) : List V → Hp → VK → Prop := fun vs H Q => ∃ (a : Addr) (xs : List V) (k : V → Int × Int), vs = [V.ref a] ∧ SqL K H a xs ∧ (∀ x ∈ xs, ∃ t, x = V.ref t ∧ SqT K H t [.int (k x).1, .int (k x).2]) ∧
  ∀ ys p, SrtO.Srtd (ltP k) ys → SrtO.Stb (ltP k) ys xs → H p = none → Q (.ref p) (upd H p (.lst ys))
section
variable {X : Cx} {T : Th}
theorem cr_sortedPT : CallR X (.builtin "sorted") (rSortedPT X.K) := by
  intro pins s σ H vs us Q I r h
  obtain ⟨a, xs, k, rfl, hs, hx, q⟩ := h
  obtain ⟨its, rv, hl, hz⟩ := I.list hs
  obtain ⟨u, rfl, ru⟩ := vals1 r
  obtain rfl : u = Value.ref a := ru
  obtain ⟨e1, e2⟩ := refs_back rv fun x m => by
    obtain ⟨t, e, _⟩ := hx x m
    exact ⟨t, e⟩
  refine SrtO.sorted_pairsO (k := fun u => k (backV u)) hl.isList (by rw [← rv.length]; exact hz) (fun v hv => ?_) fun h' d out h1 h2 kp hd hn => ?_
  · obtain ⟨t, rfl⟩ := e2 v hv
    have hm : V.ref t ∈ xs := by rw [e1]; exact List.mem_map.mpr ⟨_, hv, rfl⟩
    obtain ⟨t', e, ht⟩ := hx _ hm
    cases e
    obtain ⟨its2, r2, ⟨o, ho, hc, n, hd⟩, _⟩ := I.tuple ht
    obtain ⟨u1, u2, rfl, ri, rj⟩ := vals2 r2
    obtain ⟨t1, rfl⟩ := ri
    obtain ⟨t2, rfl⟩ := rj
    exact ⟨t, o, t1, t2, n, rfl, ho, hc, hd⟩
  · have h3 : ∀ u ∈ out, ∃ a, u = Value.ref a := fun u hu => e2 u (h2.perm.mem_iff.mp hu)
    obtain ⟨n, hn⟩ := hn
    have hb : SrtO.Stb (ltP k) (out.map backV) xs := by
      rw [e1]
      exact SrtO.Stb.map (ltP_swo k) backV h2
    refine ⟨.ref d, upd H d (.lst (out.map backV)), I.laid (t' := s.toks) kp hd ⟨?_, out, n, vals_back h3, hn⟩, rfl, q _ d (SrtO.srtd_map h1) hb (I.hok.fresh hd)⟩
    rw [hb.len]
    exact hz
theorem rep_pair (hK : T.K = X.K) {F : Addr → Prop} {H : Hp} {p : Int × Int} {v : V} (h : Rep T F H (prD p) v) : ∃ t, v = .ref t ∧ SqT X.K H t [.int p.1, .int p.2] := by
  simp only [prD, Rep, Reps] at h
  obtain ⟨a, vs, rfl, h, _, _, rfl, rfl, _, _, rfl, rfl, rfl⟩ := h
  exact ⟨a, rfl, hK ▸ tupAt h⟩
theorem reps_memP (hK : T.K = X.K) {F : Addr → Prop} {H : Hp} : ∀ {ps : List (Int × Int)} {vs : List V}, Reps T F H (ps.map prD) vs → ∀ v ∈ vs, ∃ p, Rep T F H (prD p) v
  | [], vs, h, v, hv => by simp only [List.map_nil, Reps] at h; subst h; cases hv
  | p :: ps, vs, h, v, hv => by
    simp only [List.map_cons, Reps] at h
    obtain ⟨u, w, rfl, h1, h2⟩ := h
    rcases List.mem_cons.mp hv with rfl | hv
    · exact ⟨p, h1⟩
    · exact reps_memP hK h2 v hv
theorem reps_k {F : Addr → Prop} {H : Hp} (k : V → Int × Int) : ∀ {vs : List V}, (∀ v ∈ vs, Rep T F H (prD (k v)) v) → Reps T F H ((vs.map k).map prD) vs
  | [], _ => .nil
  | v :: vs, h => .cons (h v List.mem_cons_self) (reps_k k fun u hu => h u (List.mem_cons_of_mem _ hu))
theorem reps_kE {F : Addr → Prop} {H : Hp} (k : V → Int × Int) : ∀ {ps : List (Int × Int)} {vs : List V}, Reps T F H (ps.map prD) vs → (∀ v ∈ vs, ∀ p, Rep T F H (prD p) v → k v = p) → vs.map k = ps
  | [], vs, h, _ => by simp only [List.map_nil, Reps] at h; subst h; rfl
  | p :: ps, vs, h, hk => by
    simp only [List.map_cons, Reps] at h
    obtain ⟨u, w, rfl, h1, h2⟩ := h
    rw [List.map_cons, hk u List.mem_cons_self p h1, reps_kE k h2 fun v hv => hk v (List.mem_cons_of_mem _ hv)]
open Classical in
theorem cf_sorted (hK : T.K = X.K) (hcalm : X.calm = true) : CallF X T (.builtin "sorted") gSorted := by
  intro pins s σ H xs us Q I r ⟨F, Pm, ds, Qd, hx, hF, hg, hq⟩
  match ds, hg with
  | [.dct ks vs], hg =>
    obtain ⟨v, rfl, h⟩ := reps1 hx
    obtain ⟨a, ws, rfl, ha, _, l, rs⟩ := h
    unfold gSorted at hg
    simp only at hg
    split at hg
    · rename_i ns e
      have := keysI_eq e
      subst this
      refine call_sortedDI hcalm pins s σ H _ us Q I r ⟨a, _, ns, rfl, ha, ?_, hg.1, fun ns' p h1 h2 hp => ?_⟩
      · rw [List.map_fst_zip (by rw [rs.len, ← l]; exact Nat.le_refl _)]
      · rw [srtI_uniq h1 h2]
        exact hq _ hg.2 p (.lst _) hp (Reps.ints _)
    · exact hg.elim
  | [.lst xs], hg =>
    obtain ⟨v, rfl, h⟩ := reps1 hx
    obtain ⟨a, vs, rfl, ha, _, rs⟩ := h
    unfold gSorted at hg
    simp only at hg
    split at hg
    · rename_i ns e
      have := asInts_eq e
      subst this
      have := rs.ofInts
      subst this
      refine cr_sortedI pins s σ H _ us Q I r ⟨a, ns, rfl, .of ha, fun ns' p h1 h2 hp => ?_⟩
      rw [srtI_uniq h1 h2]
      exact hq _ hg p (.lst _) hp (Reps.ints _)
    · split at hg
      · rename_i ps e
        have := asPairs_eq e
        subst this
        have hm := reps_memP (X := X) hK rs
        let k : V → Int × Int := fun v => if h : ∃ p, Rep T F H (prD p) v then h.choose else (0, 0)
        have kr : ∀ v ∈ vs, Rep T F H (prD (k v)) v := fun v hv => by
          show Rep T F H (prD (if h : ∃ p, Rep T F H (prD p) v then h.choose else (0, 0))) v
          rw [dif_pos (hm v hv)]
          exact (hm v hv).choose_spec
        have ku : ∀ v ∈ vs, ∀ p, Rep T F H (prD p) v → k v = p := fun v hv p hp => by
          obtain ⟨t, rfl, h1⟩ := rep_pair (X := X) hK hp
          obtain ⟨t', e, h2⟩ := rep_pair (X := X) hK (kr _ hv)
          cases e
          have := I.tuple_inj h2 h1
          injection this with e1 e2
          injection e2 with e2 _
          injection e1 with e1
          injection e2 with e2
          exact Prod.ext e1 e2
        refine cr_sortedPT pins s σ H _ us Q I r ⟨a, vs, k, rfl, .of ha, fun x hx => rep_pair (X := X) hK (kr x hx), fun ys p h1 h2 hp => ?_⟩
        have e2 : ys.map k = srtP ps := by
          rw [← reps_kE k rs ku]
          refine srtP_uniq (h2.perm.map k) (List.pairwise_map.mpr (h1.imp fun {x y} h => ?_))
          have := SrtO.lexB_no.mp h
          simp only [leP, decide_eq_true_eq]
          omega
        refine hq _ hg p (.lst ys) hp ?_
        rw [← e2]
        exact reps_k k fun v hv => kr v (h2.perm.mem_iff.mp hv)
      · exact hg.elim
end
end N

set_option Elab.async false
set_option linter.all false
set_option maxRecDepth 100000
/-! NP: the readings rewritten without splitting what follows -/
namespace N
open PySem PySem.Spec PyProof.Rows L2
def slV (s : Sl) (Q : D → Prop) : Prop := match s with | .val d => Q d | _ => False
def slB (s : Sl) (Q : D → Prop) : Prop := match s with | .val d => Q d | .own m => Q m.see | .no => False
def slL (s : Sl) (Q : List D → Prop) : Prop := match s with | .own (.lst xs) => Q xs | _ => False
def slD (s : Sl) (Q : List Key → List D → Prop) : Prop := match s with | .own (.dct ks vs) => Q ks vs | _ => False
def asB (d : D) (Q : Bool → Prop) : Prop := match d with | .bl b => Q b | _ => False
def asI (d : D) (Q : Int → Prop) : Prop := match d with | .int b => Q b | _ => False
def asR (d : D) (Q : Addr → Prop) : Prop := match d with | .ref b => Q b | _ => False
def asT (d : D) (Q : List D → Prop) : Prop := match d with | .tup b => Q b | _ => False
def asQ (d : D) (Q : List D → Prop) : Prop := match d with | .lst b => Q b | .tup b => Q b | _ => False
def asD (d : D) (Q : List Key → List D → Prop) : Prop := match d with | .dct ks vs => Q ks vs | _ => False
def asK (d : D) (Q : Key → Prop) : Prop := match keyD d with | some k => Q k | none => False
def asC (ds : List D) (Q : D → List D → Prop) : Prop := match ds with | d :: r => Q d r | [] => False
def as2 (ds : List D) (Q : D → D → Prop) : Prop := match ds with | [d, e] => Q d e | _ => False
def asO {α : Type} (o : Option α) (Q : α → Prop) : Prop := match o with | some a => Q a | none => False
def asIns (o : Option MO) (Q : Nat → List Str → List D → Prop) : Prop := match o with | some (.ins c ns vs) => Q c ns vs | _ => False
def fzK (s : Sl) (K : Gam → Prop) (G : Gam) (i : Nat) : Prop := match s with | .own (.dct _ _) => False | .own m => K (G.set i (.val m.see)) | _ => K G
section
variable {Q : D → Prop} {QL : List D → Prop} {QD : List Key → List D → Prop} {d e : D} {m : MO} {xs : List D} {ks : List Key} {vs : List D}
theorem slV_v : slV (.val d) Q = Q d := rfl
theorem slB_v : slB (.val d) Q = Q d := rfl
theorem slB_l : slB (.own (.lst xs)) Q = Q (.lst xs) := rfl
theorem slB_d : slB (.own (.dct ks xs)) Q = Q (.dct ks xs) := rfl
theorem slB_i {c : Nat} {ns : List Str} : slB (.own (.ins c ns xs)) Q = Q (.ins c ns xs) := rfl
theorem slL_l : slL (.own (.lst xs)) QL = QL xs := rfl
theorem slD_d : slD (.own (.dct ks vs)) QD = QD ks vs := rfl
theorem asB_b {b : Bool} {Q : Bool → Prop} : asB (.bl b) Q = Q b := rfl
theorem asI_i {b : Int} {Q : Int → Prop} : asI (.int b) Q = Q b := rfl
theorem asR_r {b : Addr} {Q : Addr → Prop} : asR (.ref b) Q = Q b := rfl
theorem asT_t : asT (.tup xs) QL = QL xs := rfl
theorem asQ_t : asQ (.tup xs) QL = QL xs := rfl
theorem asQ_l : asQ (.lst xs) QL = QL xs := rfl
theorem asD_d : asD (.dct ks vs) QD = QD ks vs := rfl
theorem asK_i {i : Int} {Q : Key → Prop} : asK (.int i) Q = Q (.inl i) := rfl
theorem asK_s {i : Str} {Q : Key → Prop} : asK (.str i) Q = Q (.inr i) := rfl
theorem asC_c {Q : D → List D → Prop} : asC (d :: xs) Q = Q d xs := rfl
theorem as2_2 {Q : D → D → Prop} : as2 [d, e] Q = Q d e := rfl
theorem asO_s {α : Type} {a : α} {Q : α → Prop} : asO (some a) Q = Q a := rfl
theorem asIns_i {c : Nat} {ns : List Str} {Q : Nat → List Str → List D → Prop} : asIns (some (.ins c ns vs)) Q = Q c ns vs := rfl
theorem fz_l {K : Gam → Prop} {G : Gam} {i : Nat} : fzK (.own (.lst xs)) K G i = K (G.set i (.val (.lst xs))) := rfl
theorem fz_i {K : Gam → Prop} {G : Gam} {i c : Nat} {ns : List Str} : fzK (.own (.ins c ns xs)) K G i = K (G.set i (.val (.ins c ns xs))) := rfl
theorem fz_v {K : Gam → Prop} {G : Gam} {i : Nat} : fzK (.val d) K G i = K G := rfl
theorem fz_n {K : Gam → Prop} {G : Gam} {i : Nat} : fzK .no K G i = K G := rfl
end
section
variable {i j n : Nat} {w wa wb wi wf wv wo : WE} {u v : WS} {G : Gam} {Om : N.Om} {Q : D → N.Om → Prop} {R : RX} {Po : Post} {QT : Bool → N.Om → Prop}
theorem wVar_e : wVar i G Om Q R = slV (getSl G i) fun d => Q d Om := by unfold wVar slV; split <;> simp_all
theorem wVarB_e : wVarB i G Om Q R = slB (getSl G i) fun d => Q d Om := by unfold wVarB slB; cases getSl G i <;> rfl
theorem wTst_e : wTst w G Om QT R = w G Om (fun d O => asB d fun b => QT b O) R := rfl
theorem wAnd_e : wAnd wa wb G Om Q R = wa G Om (fun d O => asB d fun b => br b (wb G O Q R) (Q (.bl false) O)) R := rfl
theorem wOr_e : wOr wa wb G Om Q R = wa G Om (fun d O => asB d fun b => br b (Q (.bl true) O) (wb G O Q R)) R := rfl
theorem wNot_e : wNot wa G Om Q R = wa G Om (fun d O => asB d fun b => Q (.bl (!b)) O) R := rfl
theorem wApp_e : wApp i w G Om Po = slL (getSl G i) fun xs => w G Om (fun d O => xs.length < 16777216 ∧ Po.nx (G.set i (.own (.lst (xs ++ [d])))) O) fun x O => Po.ex x G O := by
  unfold wApp slL; split <;> simp_all
theorem wExt_e : wExt i w G Om Po = slL (getSl G i) fun xs => w G Om (fun d O => asQ d fun ys => xs.length + ys.length ≤ 16777216 ∧ Po.nx (G.set i (.own (.lst (xs ++ ys)))) O) fun x O => Po.ex x G O := by
  unfold wExt slL asQ
  split
  · rename_i xs e
    simp only [e]
    all_goals (congr 1; all_goals (funext d O; cases d <;> rfl))
  · simp_all
theorem wAug_e {g : GD} : wAug i g w G Om Po = slV (getSl G i) fun d => w G Om (fun y O => g d y fun z => Po.nx (G.set i (.val z)) O) fun x O => Po.ex x G O := by
  unfold wAug slV; split <;> simp_all
theorem wRetO_e : wRetO i G Om Po = slB (getSl G i) fun d => Po.rt d Om := by unfold wRetO slB; cases getSl G i <;> rfl
theorem wFz_e {ws : WS} : wFz i ws G Om Po = fzK (getSl G i) (fun G' => ws G' Om Po) G i := by
  unfold wFz fzK
  cases getSl G i with
  | own m => cases m <;> rfl
  | no => rfl
  | val d => rfl
theorem wPar_e {wl : WA} : wPar i j wl G Om Po = wl G Om (fun ds O => as2 ds fun d d' => Po.nx ((G.set i (.val d)).set j (.val d')) O) fun x O => Po.ex x G O := rfl
theorem wFld_e {cs : List Nat} {f : Str} : wFld cs f w G Om Q R = w G Om (fun d O => asO (insOf O d) fun p => p.1 ∈ cs ∧ asO (lk p.2.1 p.2.2 f) fun v => Q v O) R := by
  unfold wFld asO
  congr 1
  funext d O
  cases insOf O d with
  | none => rfl
  | some p => obtain ⟨c, ns, vs⟩ := p; show (_ ∧ _) = (_ ∧ _); cases lk ns vs f <;> rfl
theorem wSetF_e {cs : List Nat} {f : Str} : wSetF cs f w wo G Om Po = w G Om (fun d O => wo G O (fun z O' => asR z fun a => asIns (O' a) fun c ns vs => c ∈ cs ∧ ns.length < 1000 ∧ Po.nx G (putO O' a (.ins c (setN ns f) (setV ns vs f d)))) fun x O' => Po.ex x G O') fun x O => Po.ex x G O := by
  rfl
theorem wMeth_e {c : Nat} {m : Str} {S : DSp} {wl : WA} : wMeth c m n S wo wl G Om Q R = wo G Om (fun d O => asO (insOf O d) (fun p => p.1 = c ∧ lk p.2.1 p.2.2 m = none) ∧ wl G O (fun ds O' => (d :: ds).length = n ∧ S (d :: ds) O' Q R) R) R := by
  unfold wMeth asO
  congr 1
  funext d O
  congr 1
  cases insOf O d with
  | none => rfl
  | some p => rfl
theorem woSome_e {QO : Option Int → N.Om → Prop} : woSome w G Om QO R = w G Om (fun d O => asI d fun i => QO (some i) O) R := rfl
theorem wBits_e : wBits w G Om Q R = w G Om (fun d O => asI d fun i => Q (.int (Builtin.Int.intBits i : Nat)) O) R := rfl
theorem fTup_e {f : List D → Gam → (Gam → Prop) → Prop} {d : D} {K : Gam → Prop} : fTup n f d G K = asT d fun ds => ds.length = n ∧ f ds G K := by cases d <;> rfl
theorem fCons_e {f : WG} {r : List D → Gam → (Gam → Prop) → Prop} {ds : List D} {K : Gam → Prop} : fCons f r ds G K = asC ds fun d ds' => f d G fun G' => r ds' G' K := by cases ds <;> rfl
theorem fNil_e {K : Gam → Prop} : fNil [] G K = K G := rfl
theorem wChn_e {g g' : GD} {wc : WE} : wChn g g' wa wb wc G Om Q R = wa G Om (fun x O1 => wb G O1 (fun y O2 => g x y fun z => asB z fun k => br k (wc G O2 (fun u O3 => g' y u fun z' => Q z' O3) R) (Q (.bl false) O2)) R) R := rfl
theorem wSetIxO_e : wSetIxO n wv wi G Om Po = wv G Om (fun d O => slL (getSl G n) fun xs => wi G O (fun y O2 => asI y fun k => asO (ixN xs.length k) fun j => Po.nx (G.set n (.own (.lst (xs.set j d)))) O2) fun x O => Po.ex x G O) fun x O => Po.ex x G O := by
  unfold wSetIxO slL asI asO
  congr 1
  funext d O
  split
  · rename_i xs e
    simp only [e]
    congr 1
    funext y O2
    cases y <;> try rfl
    rename_i k
    dsimp only
    cases ixN xs.length k <;> rfl
  · simp_all
theorem wPutO_e : wPutO n wv wi G Om Po = wv G Om (fun d O => slD (getSl G n) fun ks vs => wi G O (fun y O2 => asK y fun k => ks.Nodup ∧ ks.length < 16777216 ∧ Po.nx (G.set n (.own (.dct (putKs ks k) (putVs ks vs k d)))) O2) fun x O => Po.ex x G O) fun x O => Po.ex x G O := by
  unfold wPutO
  have : ∀ d O, (match getSl G n with | .own (.dct ks vs) => wi G O (fun y O2 => match keyD y with | some k => ks.Nodup ∧ ks.length < 16777216 ∧ Po.nx (G.set n (.own (.dct (putKs ks k) (putVs ks vs k d)))) O2 | none => False) fun x O => Po.ex x G O | _ => False) = slD (getSl G n) fun ks vs => wi G O (fun y O2 => asK y fun k => ks.Nodup ∧ ks.length < 16777216 ∧ Po.nx (G.set n (.own (.dct (putKs ks k) (putVs ks vs k d)))) O2) fun x O => Po.ex x G O := fun d O => by
    unfold slD asK
    cases getSl G n with
    | own m => cases m <;> rfl
    | no => rfl
    | val d => rfl
  exact congrArg (fun z => wv G Om z fun x O => Po.ex x G O) (funext fun d => funext fun O => this d O)
theorem wGet1_e : wGet1 wo wi G Om Q R = wo G Om (fun d O => asD d fun ks vs => wi G O (fun y O2 => asK y fun k => Q ((getD ks vs k).getD .non) O2) R) R := by
  unfold wGet1 asD asK
  congr 1
theorem wGet2_e : wGet2 wo wi wf G Om Q R = wo G Om (fun d O => asD d fun ks vs => wi G O (fun y O2 => wf G O2 (fun z O3 => asK y fun k => Q ((getD ks vs k).getD z) O3) R) R) R := by
  unfold wGet2 asD asK
  congr 1
theorem wKeys_e {QL : List D → N.Om → Prop} : wKeys w G Om QL R = w G Om (fun d O => asD d fun ks _ => QL (ks.map kyD) O) R := rfl
theorem wItems_e {QL : List D → N.Om → Prop} : wItems w G Om QL R = w G Om (fun d O => asD d fun ks ds => QL (List.zipWith (fun k v => .tup [kyD k, v]) ks ds) O) R := rfl
theorem wVals_e {QL : List D → N.Om → Prop} : wVals w G Om QL R = w G Om (fun d O => asD d fun ks ds => QL ds O) R := rfl
end
end N
namespace N
/-- what follows, not yet looked at -/
def sq (v : WS) : WS := v
theorem sq_i {v : WS} {G : Gam} {Om : N.Om} {Po : Post} (h : v G Om Po) : sq v G Om Po := h
theorem wSeq_e {u v : WS} {G : Gam} {Om : N.Om} {Po : Post} : wSeq u v G Om Po = u G Om { Po with nx := fun G' O => sq v G' O Po } := rfl
end N
namespace N
open PySem PySem.Spec PyProof.Rows L2
theorem see_l {xs : List D} : (MO.lst xs).see = .lst xs := rfl
theorem see_d {ks : List Key} {xs : List D} : (MO.dct ks xs).see = .dct ks xs := rfl
theorem see_i {c : Nat} {ns : List Str} {xs : List D} : (MO.ins c ns xs).see = .ins c ns xs := rfl
end N
namespace N
open PySem PySem.Spec PyProof.Rows L2
theorem wForL_c {f : WG} {u : WS} {d : D} {r : List D} {G : Gam} {Om : N.Om} {Po : Post} (h : f d G fun G' => u G' Om { Po with nx := fun G2 O2 => wForL f u r G2 O2 Po, ct := fun G2 O2 => wForL f u r G2 O2 Po, bk := Po.nx }) : wForL f u (d :: r) G Om Po := h
theorem wForL_n {f : WG} {u : WS} {G : Gam} {Om : N.Om} {Po : Post} (h : Po.nx G Om) : wForL f u [] G Om Po := h
end N

set_option Elab.async false
set_option linter.all false
set_option maxRecDepth 100000
/-! NQ: the readings as equations (printed by gene.py) -/
namespace N
open PySem PySem.Spec PyProof.Rows L2
theorem wFn_e {n : Nat} {w : WS} {ds : List D} {Om : N.Om} {Q : (D → N.Om → Prop)} {R : RX} : wFn n w ds Om Q R = (w (startG n ds) Om ⟨fun _ O => Q .non O, Q, fun _ _ => False, fun _ _ => False, fun x _ O => R x O⟩) := rfl
theorem wSet_e {i : Nat} {w : WE} {G : N.Gam} {Om : N.Om} {Po : Post} : wSet i w G Om Po = (w G Om (fun d O => Po.nx (G.set i (.val d)) O) fun x O => Po.ex x G O) := rfl
theorem wC_e {d : D} {z0 : N.Gam} {Om : N.Om} {Q : (D → N.Om → Prop)} {z3 : RX} : wC d z0 Om Q z3 = (Q d Om) := rfl
theorem wFor_e {wi : WA} {f : WG} {u : WS} {G : N.Gam} {Om : N.Om} {Po : Post} : wFor wi f u G Om Po = (wi G Om (fun items O => wForL f u items G O Po) fun x O => Po.ex x G O) := rfl
theorem wRet_e {w : WE} {G : N.Gam} {Om : N.Om} {Po : Post} : wRet w G Om Po = (w G Om Po.rt fun x O => Po.ex x G O) := rfl
theorem wBin_e {g : GD} {wa wb : WE} {G : N.Gam} {Om : N.Om} {Q : (D → N.Om → Prop)} {R : RX} : wBin g wa wb G Om Q R = (wa G Om (fun x O1 => wb G O1 (fun y O2 => g x y fun z => Q z O2) R) R) := rfl
theorem wIfS_e {c : WT} {u v : WS} {G : N.Gam} {Om : N.Om} {Po : Post} : wIfS c u v G Om Po = (c G Om (fun b O => br b (u G O Po) (v G O Po)) fun x O => Po.ex x G O) := rfl
theorem wtOr_e {t u : WT} {G : N.Gam} {Om : N.Om} {Q : (Bool → N.Om → Prop)} {R : RX} : wtOr t u G Om Q R = (t G Om (fun b O => br b (Q true O) (u G O Q R)) R) := rfl
theorem wtAnd_e {t u : WT} {G : N.Gam} {Om : N.Om} {Q : (Bool → N.Om → Prop)} {R : RX} : wtAnd t u G Om Q R = (t G Om (fun b O => br b (u G O Q R) (Q false O)) R) := rfl
theorem wtNot_e {t : WT} {G : N.Gam} {Om : N.Om} {Q : (Bool → N.Om → Prop)} {R : RX} : wtNot t G Om Q R = (t G Om (fun b O => Q (!b) O) R) := rfl
theorem wNext_e {G : N.Gam} {Om : N.Om} {Po : Post} : wNext  G Om Po = (Po.nx G Om) := rfl
theorem wNev_e {z0 : N.Gam} {z1 : N.Om} {z2 : Post} : wNev  z0 z1 z2 = (False) := rfl
theorem wCall_e {g : GC} {wa : WA} {G : N.Gam} {Om : N.Om} {Q : (D → N.Om → Prop)} {R : RX} : wCall g wa G Om Q R = (wa G Om (fun ds O => g ds fun z => Q z O) R) := rfl
theorem wCallF_e {g : GCF} {wa : WA} {G : N.Gam} {Om : N.Om} {Q : (MO → N.Om → Prop)} {R : RX} : wCallF g wa G Om Q R = (wa G Om (fun ds O => g ds fun z => Q z O) R) := rfl
theorem wFrz_e {w : WF} {G : N.Gam} {Om : N.Om} {Q : (D → N.Om → Prop)} {R : RX} : wFrz w G Om Q R = (w G Om (fun m O => Q m.see O) R) := rfl
theorem wLst_e {w : WA} {G : N.Gam} {Om : N.Om} {Q : (MO → N.Om → Prop)} {R : RX} : wLst w G Om Q R = (w G Om (fun ds O => ds.length ≤ 16777216 ∧ Q (.lst ds) O) R) := rfl
theorem wTup_e {w : WA} {G : N.Gam} {Om : N.Om} {Q : (D → N.Om → Prop)} {R : RX} : wTup w G Om Q R = (w G Om (fun ds O => ds.length ≤ 16777216 ∧ Q (.tup ds) O) R) := rfl
theorem waNil_e {z0 : N.Gam} {Om : N.Om} {Q : (List D → N.Om → Prop)} {z3 : RX} : waNil  z0 Om Q z3 = (Q [] Om) := rfl
theorem waCons_e {w : WE} {r : WA} {G : N.Gam} {Om : N.Om} {Q : (List D → N.Om → Prop)} {R : RX} : waCons w r G Om Q R = (w G Om (fun d O => r G O (fun ds O' => Q (d :: ds) O') R) R) := rfl
theorem wComp_e {wi : WA} {f : WG} {wt : WT} {we : WE} {vs : List Nat} {G : N.Gam} {Om : N.Om} {Q : (MO → N.Om → Prop)} {R : RX} : wComp wi f wt we vs G Om Q R = (wi G Om (fun items O1 => wTurns f wt we (wipeG G vs) items [] O1 fun ds O2 => Q (.lst ds) O2) R) := rfl
theorem wCallU_e {n : Nat} {S : DSp} {dds : List D} {wa : WA} {G : N.Gam} {Om : N.Om} {Q : (D → N.Om → Prop)} {R : RX} : wCallU n S dds wa G Om Q R = (wa G Om (fun ds O => (ds ++ dds).length = n ∧ S (ds ++ dds) O Q R) R) := rfl
theorem wCallK_e {m n : Nat} {S : DSp} {wa wk : WA} {G : N.Gam} {Om : N.Om} {Q : (D → N.Om → Prop)} {R : RX} : wCallK m n S wa wk G Om Q R = (wa G Om (fun ds O => ds.length = m ∧ wk G O (fun es O' => (ds ++ es).length = n ∧ S (ds ++ es) O' Q R) R) R) := rfl
theorem wSl_e {w : WE} {lo hi : WO} {G : N.Gam} {Om : N.Om} {Q : (D → N.Om → Prop)} {R : RX} : wSl w lo hi G Om Q R = (w G Om (fun x O => lo G O (fun l O1 => hi G O1 (fun h O2 => gSl x l h fun z => Q z O2) R) R) R) := rfl
theorem woNone_e {z0 : N.Gam} {Om : N.Om} {Q : (Option Int → N.Om → Prop)} {z3 : RX} : woNone  z0 Om Q z3 = (Q none Om) := rfl
theorem wMake_e {c n : Nat} {S : DSp} {wa : WA} {G : N.Gam} {Om : N.Om} {Q : (D → N.Om → Prop)} {R : RX} : wMake c n S wa G Om Q R = (wa G Om (fun ds O => ds.length + 1 = n ∧ ∀ a, O a = none → S (.ref a :: ds) (putO O a (.ins c [] [])) (fun d O' => d = .non ∧ Q (.ref a) O') R) R) := rfl
theorem wMakeF_e {c n : Nat} {S : DSp} {wa : WA} {G : N.Gam} {Om : N.Om} {Q : (D → N.Om → Prop)} {R : RX} : wMakeF c n S wa G Om Q R = (wa G Om (fun ds O => ds.length + 1 = n ∧ ∀ a, O a = none → S (.ref a :: ds) (putO O a (.ins c [] [])) (fun d O' => d = .non ∧ ∃ ns vs, O' = putO O a (.ins c ns vs) ∧ Q (.ins c ns vs) O) R) R) := rfl
theorem wRaise_e {c : Nat} {G : N.Gam} {Om : N.Om} {Po : Post} : wRaise c G Om Po = (Po.ex ⟨c, [], []⟩ G Om) := rfl
theorem wAsg_e {w : WE} {f : WG} {G : N.Gam} {Om : N.Om} {Po : Post} : wAsg w f G Om Po = (w G Om (fun d O => f d G fun G' => Po.nx G' O) fun x O => Po.ex x G O) := rfl
theorem wIf_e {t : WT} {u v : WE} {G : N.Gam} {Om : N.Om} {Q : (D → N.Om → Prop)} {R : RX} : wIf t u v G Om Q R = (t G Om (fun b O => br b (u G O Q R) (v G O Q R)) R) := rfl
theorem wSetO_e {i : Nat} {w : WF} {G : N.Gam} {Om : N.Om} {Po : Post} : wSetO i w G Om Po = (w G Om (fun m O => Po.nx (G.set i (.own m)) O) fun x O => Po.ex x G O) := rfl
theorem wDrop_e {w : WE} {G : N.Gam} {Om : N.Om} {Po : Post} : wDrop w G Om Po = (w G Om (fun _ O => Po.nx G O) fun x O => Po.ex x G O) := rfl
theorem wRetN_e {z0 : N.Gam} {Om : N.Om} {Po : Post} : wRetN  z0 Om Po = (Po.rt .non Om) := rfl
theorem fName_e {i : Nat} {d : D} {G : N.Gam} {Q : (N.Gam → Prop)} : fName i d G Q = (Q (G.set i (.val d))) := rfl
theorem wIt_e {w : WE} {G : N.Gam} {Om : N.Om} {Q : (List D → N.Om → Prop)} {R : RX} : wIt w G Om Q R = (w G Om (fun d O => gIt d fun xs => Q xs O) R) := rfl
theorem wDnew_e {G : N.Gam} {Om : N.Om} {Q : (MO → N.Om → Prop)} {R : RX} : wDnew  G Om Q R = (Q (.dct [] []) Om) := rfl
theorem wtYes_e {z0 : N.Gam} {Om : N.Om} {Q : (Bool → N.Om → Prop)} {z3 : RX} : wtYes  z0 Om Q z3 = (Q true Om) := rfl
theorem wRng_e {g : List D → (List D → Prop) → Prop} {w : WA} {G : N.Gam} {Om : N.Om} {Q : List D → N.Om → Prop} {R : RX} : wRng g w G Om Q R = w G Om (fun ds O => g ds fun xs => Q xs O) R := rfl
theorem wUn_e {g : D → (D → Prop) → Prop} {wa : WE} {G : N.Gam} {Om : N.Om} {Q : D → N.Om → Prop} {R : RX} : wUn g wa G Om Q R = wa G Om (fun x O => g x fun z => Q z O) R := rfl
def asRev (d : D) (Q : D → Prop) : Prop := match d with | .lst xs => Q (.lst xs.reverse) | .tup xs => Q (.tup xs.reverse) | _ => False
theorem asRev_l {xs : List D} {Q : D → Prop} : asRev (.lst xs) Q = Q (.lst xs.reverse) := rfl
theorem asRev_t {xs : List D} {Q : D → Prop} : asRev (.tup xs) Q = Q (.tup xs.reverse) := rfl
theorem wRev_e {w : WE} {G : N.Gam} {Om : N.Om} {Q : D → N.Om → Prop} {R : RX} : wRev w G Om Q R = w G Om (fun d O => asRev d fun z => Q z O) R := rfl
def exL (tab : List (Nat × Bool)) (c : Nat) (A B : Prop) : Prop := match tab.lookup c with | some true => A | some false => B | none => False
theorem wTry_e {tab : List (Nat × Bool)} {u v : WS} {G : N.Gam} {Om : N.Om} {Po : Post} : wTry tab u v G Om Po = u G Om { Po with ex := fun x G' O => exL tab x.c (sq v G' O { Po with ex := fun _ _ _ => False }) (Po.ex x G' O) } := rfl
theorem exL_hit {c : Nat} {b : Bool} {r : List (Nat × Bool)} {A B : Prop} : exL ((c, b) :: r) c A B = br b A B := by unfold exL; simp [List.lookup_cons]; cases b <;> rfl
theorem exL_miss {c c2 : Nat} {b : Bool} {r : List (Nat × Bool)} {A B : Prop} (h : (c == c2) = false) : exL ((c2, b) :: r) c A B = exL r c A B := by unfold exL; simp [List.lookup_cons, h]
end N

set_option Elab.async false
set_option linter.all false
set_option maxRecDepth 100000
namespace N
open PySem PySem.Spec PyProof.Rows L2
def w_is_integer : WS := (wRet (wAnd (wCall gIsi (waCons (wVarB 0) (waCons (wC (.ty "int")) waNil))) (wNot (wCall gIsi (waCons (wVarB 0) (waCons (wC (.ty "bool")) waNil))))))
def w_is_octet : WS := (wRet (wAnd (wCallU 1 sp_is_integer [] (waCons (wVar 0) waNil)) (wAnd (wBin (gLe) (wC (.int 0)) (wVarB 0)) (wBin (gLe) (wVarB 0) (wC (.int 255))))))
def w_is_octets : WS := (wSeq (wIfS (wtOr (wtNot (wTst (wCall gIsi (waCons (wVarB 0) (waCons (wC (.ty "tuple")) waNil))))) (wtAnd (wTst (wBin (gIsNot) (wVarB 1) (wC .non))) (wTst (wBin (gNe) (wCall gLen (waCons (wVarB 0) waNil)) (wVarB 1))))) (wRet (wC (.bl false))) wNext)
  (wRet (wCall gAll (waCons (wFrz (wComp (wIt (wVarB 0)) (fName 2) wtYes (wCallU 1 sp_is_octet [] (waCons (wVar 2) waNil)) [2])) waNil))))
def w_as_octets : WS := (wSeq (wIfS (wtOr (wTst (wBin (gLt) (wVarB 0) (wC (.int 0)))) (wTst (wBin (gNe) (wBin (gShr) (wVarB 0) (wBin (gMul) (wC (.int 8)) (wVarB 1))) (wC (.int 0))))) (wRaise 1) wNext)
  (wRet (wCall gTuple (waCons (wFrz (wComp (wRng gRng3 (waCons (wBin (gSub) (wVarB 1) (wC (.int 1))) (waCons (wUn gNeg (wC (.int 1))) (waCons (wUn gNeg (wC (.int 1))) waNil)))) (fName 2) wtYes (wBin (gAnd) (wBin (gShr) (wVarB 0) (wBin (gMul) (wC (.int 8)) (wVarB 2))) (wC (.int 255))) [2])) waNil))))
abbrev w_depth_b1 : WS := (wAug 1 (gI0 fun i j => i + j) (wC (.int 1)))
def w_depth : WS := (wSeq (wSet 1 (wC (.int 0)))
  (wSeq (wWh (wTst (wBin (gLt) (wBin (gShl) (wC (.int 1)) (wVarB 1)) (wVarB 0))) (w_depth_b1))
  (wRet (wVar 1))))
def w_leaf_text : WS := (wRet (wBin (gAdd) (wTup (waCons (wC (.int 0)) waNil)) (wVarB 0)))
def w_node_text : WS := (wRet (wBin (gAdd) (wBin (gAdd) (wTup (waCons (wC (.int 1)) waNil)) (wVarB 0)) (wVarB 1)))
abbrev w_plain_sum_b1 : WS := (wSet 3 (wBin (gMod) (wBin (gAdd) (wBin (gAdd) (wBin (gMul) (wVarB 3) (wC (.int 31))) (wVarB 4)) (wC (.int 1))) (wVarB 2)))
def w_plain_sum : WS := (wSeq (wSet 2 (wBin (gShl) (wC (.int 1)) (wBin (gMul) (wC (.int 8)) (wVarB 1))))
  (wSeq (wSet 3 (wC (.int 1)))
  (wSeq (wFor (wIt (wVar 0)) (fName 4) (w_plain_sum_b1))
  (wRet (wCallK 1 2 sp_as_octets (waCons (wVar 3) waNil) (waCons (wVar 1) waNil))))))
def w_Hasher_digest : WS := (wSeq (wIfS (wTst (wBin (gEq) (wBin gIx (wFld [4] "kind" (wVarB 0)) (wC (.int 0))) (wC (.str "sum")))) (wRet (wCallU 2 sp_plain_sum [] (waCons (wVar 1) (waCons (wFld [4] "size" (wVarB 0)) waNil)))) wNext)
  wNev)
abbrev w_levels_b1 : WS := (wSeq (wSetO 2 (wComp (wRng gRng3 (waCons (wC (.int 0)) (waCons (wCall gLen (waCons (wVarB 2) waNil)) (waCons (wC (.int 2)) waNil)))) (fName 7) wtYes (wMeth 4 "digest" 2 sp_Hasher_digest (wVar 0) (waCons (wCallU 2 sp_node_text [] (waCons (wBin gIx (wVarB 2) (wVarB 7)) (waCons (wBin gIx (wVarB 2) (wBin (gAdd) (wVarB 7) (wC (.int 1)))) waNil))) waNil)) [7]))
  (wFz 2 (wApp 4 (wVar 2))))
def w_levels : WS := (wSeq (wSetO 2 (wComp (wIt (wVarB 1)) (fName 5) wtYes (wMeth 4 "digest" 2 sp_Hasher_digest (wVar 0) (waCons (wCallU 1 sp_leaf_text [] (waCons (wVar 5) waNil)) waNil)) [5]))
  (wSeq (wSet 3 (wMeth 4 "digest" 2 sp_Hasher_digest (wVar 0) (waCons (wTup (waCons (wC (.int 2)) waNil)) waNil)))
  (wSeq (wExt 2 (wFrz (wComp (wRng gRng1 (waCons (wBin (gSub) (wBin (gShl) (wC (.int 1)) (wCallU 1 sp_depth [] (waCons (wCall gLen (waCons (wVarB 1) waNil)) waNil))) (wCall gLen (waCons (wVarB 1) waNil))) waNil)) (fName 6) wtYes (wVar 3) [6])))
  (wFz 2 (wSeq (wSetO 4 (wLst (waCons (wVar 2) waNil)))
  (wSeq (wWh (wTst (wBin (gGt) (wCall gLen (waCons (wVarB 2) waNil)) (wC (.int 1)))) (w_levels_b1))
  (wRetO 4)))))))
def w_root : WS := (wRet (wBin gIx (wBin gIx (wCallU 2 sp_levels [] (waCons (wVar 0) (waCons (wVar 1) waNil))) (wUn gNeg (wC (.int 1)))) (wC (.int 0))))
abbrev w_proofs_b1 : WS := (wApp 3 (wCall gTuple (waCons (wFrz (wComp (wRng gEnum (waCons (wSl (wVarB 2) woNone (woSome (wUn gNeg (wC (.int 1))))) waNil)) (fTup 2 (fCons (fName 5) (fCons (fName 6) fNil))) wtYes (wBin gIx (wVarB 6) (wBin (gXor) (wBin (gShr) (wVarB 4) (wVarB 5)) (wC (.int 1)))) [5, 6])) waNil)))
def w_proofs : WS := (wSeq (wSet 2 (wCallU 2 sp_levels [] (waCons (wVar 0) (waCons (wVar 1) waNil))))
  (wSeq (wSetO 3 (wLst waNil))
  (wSeq (wFor (wRng gRng1 (waCons (wCall gLen (waCons (wVarB 1) waNil)) waNil)) (fName 4) (w_proofs_b1))
  (wRet (wCall gTuple (waCons (wVarB 3) waNil))))))
abbrev w_path_b1 : WS := (wSeq (wSet 7 (wMeth 4 "digest" 2 sp_Hasher_digest (wVar 0) (waCons (wBin gIx (wVarB 4) (wUn gNeg (wC (.int 1)))) waNil)))
  (wApp 4 (wIf (wTst (wBin (gEq) (wBin (gAnd) (wBin (gShr) (wVarB 1) (wVarB 5)) (wC (.int 1))) (wC (.int 1)))) (wCallU 2 sp_node_text [] (waCons (wVar 6) (waCons (wVar 7) waNil))) (wCallU 2 sp_node_text [] (waCons (wVar 7) (waCons (wVar 6) waNil))))))
def w_path : WS := (wSeq (wSetO 4 (wLst (waCons (wCallU 1 sp_leaf_text [] (waCons (wVar 2) waNil)) waNil)))
  (wSeq (wFor (wRng gEnum (waCons (wVar 3) waNil)) (fTup 2 (fCons (fName 5) (fCons (fName 6) fNil))) (w_path_b1))
  (wRetO 4)))
def w_fold : WS := (wRet (wMeth 4 "digest" 2 sp_Hasher_digest (wVar 0) (waCons (wBin gIx (wCallU 4 sp_path [] (waCons (wVar 0) (waCons (wVar 1) (waCons (wVar 2) (waCons (wVar 3) waNil))))) (wUn gNeg (wC (.int 1)))) waNil)))
def w_Hasher_is_digest : WS := (wRet (wCallK 1 2 sp_is_octets (waCons (wVar 1) waNil) (waCons (wFld [4] "size" (wVarB 0)) waNil)))
def w_is_proof : WS := (wSeq (wIfS (wtOr (wtNot (wTst (wCall gIsi (waCons (wVarB 2) (waCons (wC (.ty "tuple")) waNil))))) (wTst (wBin (gNe) (wCall gLen (waCons (wVarB 2) waNil)) (wCallU 1 sp_depth [] (waCons (wVar 1) waNil))))) (wRet (wC (.bl false))) wNext)
  (wRet (wCall gAll (waCons (wFrz (wComp (wIt (wVarB 2)) (fName 3) wtYes (wMeth 4 "is_digest" 2 sp_Hasher_is_digest (wVar 0) (waCons (wVar 3) waNil)) [3])) waNil))))
def w_fits : WS := (wSeq (wIfS (wtOr (wtNot (wTst (wCallU 1 sp_is_integer [] (waCons (wVar 3) waNil)))) (wtOr (wTst (wBin (gLt) (wVarB 3) (wC (.int 0)))) (wTst (wBin (gGe) (wVarB 3) (wVarB 2))))) (wRet (wC (.bl false))) wNext)
  (wSeq (wIfS (wtOr (wtNot (wTst (wCallU 2 sp_is_octets [.non] (waCons (wVar 4) waNil)))) (wtNot (wTst (wCallU 3 sp_is_proof [] (waCons (wVar 0) (waCons (wVar 2) (waCons (wVar 5) waNil))))))) (wRet (wC (.bl false))) wNext)
  (wRet (wBin (gEq) (wCallU 4 sp_fold [] (waCons (wVar 0) (waCons (wVar 3) (waCons (wVar 4) (waCons (wVar 5) waNil))))) (wVarB 1)))))
abbrev w_parted_b1 : WS := (wIfS (wtAnd (wTst (wBin (gNe) (wVarB 6) (wVarB 7))) (wTst (wBin (gEq) (wMeth 4 "digest" 2 sp_Hasher_digest (wVar 0) (waCons (wVar 6) waNil)) (wMeth 4 "digest" 2 sp_Hasher_digest (wVar 0) (waCons (wVar 7) waNil))))) (wRet (wTup (waCons (wVar 6) (waCons (wVar 7) waNil)))) wNext)
def w_parted : WS := (wSeq (wIfS (wtNot (wTst (wCallU 6 sp_fits [] (waCons (wVar 0) (waCons (wCallU 2 sp_root [] (waCons (wVar 0) (waCons (wVar 1) waNil))) (waCons (wCall gLen (waCons (wVarB 1) waNil)) (waCons (wVar 2) (waCons (wVar 3) (waCons (wVar 4) waNil))))))))) (wRaise 3) wNext)
  (wSeq (wSet 5 (wCallU 4 sp_path [] (waCons (wVar 0) (waCons (wVar 2) (waCons (wBin gIx (wVarB 1) (wVarB 2)) (waCons (wBin gIx (wCallU 2 sp_proofs [] (waCons (wVar 0) (waCons (wVar 1) waNil))) (wVarB 2)) waNil))))))
  (wSeq (wFor (wRng gZip (waCons (wVar 5) (waCons (wCallU 4 sp_path [] (waCons (wVar 0) (waCons (wVar 2) (waCons (wVar 3) (waCons (wVar 4) waNil))))) waNil))) (fTup 2 (fCons (fName 6) (fCons (fName 7) fNil))) (w_parted_b1))
  (wRet (wC .non)))))
def w_is_kind : WS := (wSeq (wIfS (wtOr (wtNot (wTst (wCall gIsi (waCons (wVarB 0) (waCons (wC (.ty "tuple")) waNil))))) (wtOr (wTst (wBin (gNe) (wCall gLen (waCons (wVarB 0) waNil)) (wC (.int 2)))) (wtOr (wtNot (wTst (wCall gIsi (waCons (wBin gIx (wVarB 0) (wC (.int 0))) (waCons (wC (.ty "str")) waNil))))) (wtNot (wTst (wCallU 1 sp_is_integer [] (waCons (wBin gIx (wVarB 0) (wC (.int 1))) waNil))))))) (wRet (wC (.bl false))) wNext)
  (wSeq (wIfS (wTst (wBin (gEq) (wBin gIx (wVarB 0) (wC (.int 0))) (wC (.str "sha")))) (wRet (wBin (gEq) (wBin gIx (wVarB 0) (wC (.int 1))) (wC (.int 24)))) wNext)
  (wRet (wAnd (wBin (gEq) (wBin gIx (wVarB 0) (wC (.int 0))) (wC (.str "sum"))) (wAnd (wBin (gLe) (wC (.int 1)) (wBin gIx (wVarB 0) (wC (.int 1)))) (wBin (gLe) (wBin gIx (wVarB 0) (wC (.int 1))) (wC (.int 8))))))))
def w_check_kind : WS := (wIfS (wtNot (wTst (wCallU 1 sp_is_kind [] (waCons (wVar 0) waNil)))) (wRaise 2) wNext)
def w_Hasher___init__ : WS := (wSeq (wDrop (wCallU 1 sp_check_kind [] (waCons (wVar 1) waNil)))
  (wSeq (wSetF [4] "kind" (wVar 1) (wVar 0))
  (wSeq (wSetF [4] "size" (wBin gIx (wVarB 1) (wC (.int 1))) (wVar 0))
  (wSeq (wSetF [4] "start" (wTup waNil) (wVar 0))
  (wSeq (wSetF [4] "rounds" (wTup waNil) (wVar 0))
  (wIfS (wTst (wBin (gEq) (wBin gIx (wVarB 1) (wC (.int 0))) (wC (.str "sha")))) (wSeq wNev
  wNev) wNext))))))
def w__law_cell : WS := (wSeq (wIfS (wTst (wBin (gLt) (wVarB 1) (wCall gLen (waCons (wVarB 0) waNil)))) (wRet (wCall gInt (waCons (wBin gIx (wVarB 0) (wVarB 1)) waNil))) wNext)
  (wRet (wC (.int 0))))
def w__law_rich : WS := (wSeq (wIfS (wTst (wBin (gGe) (wVarB 0) (wBin (gPow) (wC (.int 10)) (wC (.int 18))))) (wRet (wCall gInt (waCons (wVarB 0) waNil))) wNext)
  (wSeq (wSet 2 (wBin (gMod) (wCall gInt (waCons (wBin (gAdd) (wBin (gAdd) (wBin (gMul) (wVarB 0) (wC (.int 48271))) (wBin (gMul) (wVarB 1) (wC (.int 69621)))) (wC (.int 11))) waNil)) (wC (.int 2147483647))))
  (wRet (wBin (gAdd) (wBin (gMul) (wVarB 2) (wC (.int 2147483629))) (wBin (gMod) (wCall gInt (waCons (wBin (gAdd) (wBin (gMul) (wVarB 2) (wC (.int 16807))) (wVarB 0)) waNil)) (wC (.int 2147483629)))))))
end N

set_option Elab.async false
set_option linter.all false
set_option maxRecDepth 100000
set_option maxHeartbeats 0
namespace N
open PySem PySem.Spec PyProof.Rows L2
local macro_rules | `(tactic| tm_at "nw") => `(tactic| try simp only [wFn, startG_c, startG_n, startG_z, wSeq, wSet, wC, wFor, wIt, wVar, wVarB, getSl_z, getSl_s, List.set_cons_zero, List.set_cons_succ, wRet, wBin, gI_i, gI0_i, gB0_i, gAdd_i, gAdd_t, gAdd_l, gAdd_s, gMul_i, gMul_t, gMul_l, gEq_, gNe_, gIs_n, gIs_b, gIsNot_n, gIsNot_b, isNon_n, isNon_i, isNon_b, isNon_t, isNon_l, isNon_s, wIfS, wtOr, wtAnd, wtNot, wTst, wNext, wNev, wCall, wCallF, wFrz, wLst, wTup, waNil, waCons, wComp, wRng, gRng1_i, gRng2_i, gRng3_i, wUn, gNeg_i, gTuple_t, gTuple_l, gList_t, gList_l, gList_s, gLen_t, gLen_l, gLen_s, gLen_d, gInt_i, gInt_b, gAbs_i, gMax_i, gMin_i, wipeG, MO.see, fName, wCallU, wCallK, List.append_nil, List.length_cons, List.length_nil, wSl, woNone, woSome, gSl_t, gSl_l, gIt_t, gIt_l, gIt_s, gIsi_i, gIsi_b, gIsi_t, gIsi_l, gIsi_s, gIsi_n, gIsi_d, wFld, wMeth, wMake, wMakeF, wSetF, wExt, wFz, wRev, wRaise, wTry, wBits, insOf_ins, lk_kind, lk_size, lk_digest, lk_is_digest, gEnum_t, gEnum_l, gZip_t, gZip_l, mem1, reduceCtorEq, eq_self, wAsg, fTup, fCons, fNil, wAnd, wOr, wNot, wIf, wPar, wAug, wApp, wSetO, wRetO, br_t, br_f, shp_int, shp_bl, shp_non, deq_int, gAll_b, gAny_b, gSum_i, wDrop, wRetN, true_and, and_true, decide_true, decide_false, Bool.not_true, Bool.not_false, isi_NoneType_bool, isi_NoneType_int, isi_NoneType_str, isi_NoneType_tuple, isi_NoneType_list, isi_NoneType_dict, isi_bool_bool, isi_bool_int, isi_bool_str, isi_bool_tuple, isi_bool_list, isi_bool_dict, isi_int_bool, isi_int_int, isi_int_str, isi_int_tuple, isi_int_list, isi_int_dict, isi_str_bool, isi_str_int, isi_str_str, isi_str_tuple, isi_str_list, isi_str_dict, isi_tuple_bool, isi_tuple_int, isi_tuple_str, isi_tuple_tuple, isi_tuple_list, isi_tuple_dict, isi_list_bool, isi_list_int, isi_list_str, isi_list_tuple, isi_list_list, isi_list_dict, isi_dict_bool, isi_dict_int, isi_dict_str, isi_dict_tuple, isi_dict_list, isi_dict_dict, okTy_bool, okTy_int, okTy_str, okTy_tuple, okTy_list, okTy_dict])
local macro_rules | `(tactic| tm_at "nc") => `(tactic| first | exact True.intro | omega | exact mulL (by omega) (by omega) | exact mulR (by omega) (by omega) | exact divOk (by omega) (by omega) | (simp only [List.length_append, List.length_map, List.length_cons, List.length_nil, List.length_replicate, List.length_flatten, List.map_replicate, List.sum_replicate_nat, List.length_range, rngL_len, rngC_len, List.cons_append, List.nil_append]; first | done | omega))
local macro_rules | `(tactic| tm_at "ns") => `(tactic| repeat (with_reducible refine And.intro (by first | tm_at "nc" | exact ⟨by tm_at "nc", by tm_at "nc"⟩ | exact ⟨by tm_at "nc", by tm_at "nc", by tm_at "nc"⟩ | exact ⟨by tm_at "nc", by tm_at "nc", by tm_at "nc", by tm_at "nc"⟩) ?_))
theorem m_is_integer (ds : List D) (Om : N.Om) (Q : D → N.Om → Prop) (R : RX) (hl : ds.length = 1) (h : sp_is_integer ds Om Q R) : wFn 1 w_is_integer ds Om Q R := by
  obtain ⟨d, rfl, hd, q⟩ := h
  unfold w_is_integer
  cases d <;> simp only [plD] at hd <;> try cases hd
  all_goals (tm_at "nw"; simpa [intB] using q)
theorem m_is_octet (ds : List D) (Om : N.Om) (Q : D → N.Om → Prop) (R : RX) (hl : ds.length = 1) (h : sp_is_octet ds Om Q R) : wFn 1 w_is_octet ds Om Q R := by
  obtain ⟨d, rfl, hd, q⟩ := h
  unfold w_is_octet
  tm_at "nw"
  refine ⟨d, rfl, hd, ?_⟩
  cases d <;> simp only [intB]
  case int i =>
    tm_at "nw"
    by_cases h : 0 ≤ i
    · simp only [decide_eq_true h]
      tm_at "nw"
      simpa [isOct, h] using q
    · simp only [decide_eq_false h]
      tm_at "nw"
      simpa [isOct, h] using q
  all_goals (tm_at "nw"; simpa [isOct] using q)
theorem oct_turns (xs : List D) (hx : plL xs = true) (h16 : xs.length ≤ 16777216) (Om : N.Om) (G : Gam) (hG : G.length = 3) (Q : D → N.Om → Prop) (q : Q (.bl (xs.all isOct)) Om) :
    wTurns (fName 2) wtYes (wCallU 1 sp_is_octet [] (waCons (wVar 2) waNil)) G xs [] Om fun ds O => gAll [.lst ds] fun z => Q z O := by
  match G, hG with
  | [a, b, c], _ =>
    refine turns_map (fun d => .bl (isOct d)) xs [] (by simpa using h16) (fun d hd K hK => ?_) ?_
    · tm_at "nw"
      exact ⟨d, rfl, plL_mem hx d hd, hK⟩
    · rw [List.nil_append, show (xs.map fun d => D.bl (isOct d)) = (xs.map isOct).map D.bl by rw [List.map_map]; rfl]
      tm_at "nw"
      simpa [List.all_map, Function.comp_def] using q
theorem m_is_octets (ds : List D) (Om : N.Om) (Q : D → N.Om → Prop) (R : RX) (hl : ds.length = 2) (h : sp_is_octets ds Om Q R) : wFn 3 w_is_octets ds Om Q R := by
  obtain ⟨d, sz, rfl, hd, h16, q⟩ := h
  unfold w_is_octets
  cases d <;> simp only [plD] at hd <;> try cases hd
  case tup xs =>
    have h16 := h16 xs rfl
    cases sz with
    | none =>
      simp only [szD]
      tm_at "nw"
      exact oct_turns xs hd h16 _ _ rfl _ (by simpa [isOcts] using q)
    | some n =>
      simp only [szD]
      tm_at "nw"
      by_cases e : (xs.length : Int) = n
      · simp only [decide_eq_true e]
        tm_at "nw"
        exact oct_turns xs hd h16 _ _ rfl _ (by
          have e' : xs.length = n := by omega
          simpa [isOcts, e'] using q)
      · simp only [decide_eq_false e]
        tm_at "nw"
        have e' : ¬ xs.length = n := by omega
        simpa [isOcts, e'] using q
  all_goals (cases sz <;> simp only [szD] <;> tm_at "nw" <;> simpa [isOcts] using q)
end N

set_option Elab.async false
set_option linter.all false
set_option maxRecDepth 100000
set_option maxHeartbeats 0
namespace N
open PySem PySem.Spec PyProof.Rows L2
local macro_rules | `(tactic| tm_at "nw") => `(tactic| try simp only [wFn, startG_c, startG_n, startG_z, wSeq, wSet, wC, wFor, wIt, wVar, wVarB, getSl_z, getSl_s, List.set_cons_zero, List.set_cons_succ, wRet, wBin, gI_i, gI0_i, gB0_i, gAdd_i, gAdd_t, gAdd_l, gAdd_s, gMul_i, gMul_t, gMul_l, gEq_, gNe_, gIs_n, gIs_b, gIsNot_n, gIsNot_b, isNon_n, isNon_i, isNon_b, isNon_t, isNon_l, isNon_s, wIfS, wtOr, wtAnd, wtNot, wTst, wNext, wNev, wCall, wCallF, wFrz, wLst, wTup, waNil, waCons, wComp, wRng, gRng1_i, gRng2_i, gRng3_i, wUn, gNeg_i, gTuple_t, gTuple_l, gList_t, gList_l, gList_s, gLen_t, gLen_l, gLen_s, gLen_d, gInt_i, gInt_b, gAbs_i, gMax_i, gMin_i, wipeG, MO.see, fName, wCallU, wCallK, List.append_nil, List.length_cons, List.length_nil, wSl, woNone, woSome, gSl_t, gSl_l, gIt_t, gIt_l, gIt_s, gIsi_i, gIsi_b, gIsi_t, gIsi_l, gIsi_s, gIsi_n, gIsi_d, wFld, wMeth, wMake, wMakeF, wSetF, wExt, wFz, wRev, wRaise, wTry, wBits, insOf_ins, lk_kind, lk_size, lk_digest, lk_is_digest, gEnum_t, gEnum_l, gZip_t, gZip_l, mem1, reduceCtorEq, eq_self, wAsg, fTup, fCons, fNil, wAnd, wOr, wNot, wIf, wPar, wAug, wApp, wSetO, wRetO, br_t, br_f, shp_int, shp_bl, shp_non, deq_int, gAll_b, gAny_b, gSum_i, wDrop, wRetN, true_and, and_true, decide_true, decide_false, Bool.not_true, Bool.not_false, isi_NoneType_bool, isi_NoneType_int, isi_NoneType_str, isi_NoneType_tuple, isi_NoneType_list, isi_NoneType_dict, isi_bool_bool, isi_bool_int, isi_bool_str, isi_bool_tuple, isi_bool_list, isi_bool_dict, isi_int_bool, isi_int_int, isi_int_str, isi_int_tuple, isi_int_list, isi_int_dict, isi_str_bool, isi_str_int, isi_str_str, isi_str_tuple, isi_str_list, isi_str_dict, isi_tuple_bool, isi_tuple_int, isi_tuple_str, isi_tuple_tuple, isi_tuple_list, isi_tuple_dict, isi_list_bool, isi_list_int, isi_list_str, isi_list_tuple, isi_list_list, isi_list_dict, isi_dict_bool, isi_dict_int, isi_dict_str, isi_dict_tuple, isi_dict_list, isi_dict_dict, okTy_bool, okTy_int, okTy_str, okTy_tuple, okTy_list, okTy_dict])
local macro_rules | `(tactic| tm_at "nc") => `(tactic| first | exact True.intro | omega | exact mulL (by omega) (by omega) | exact mulR (by omega) (by omega) | exact divOk (by omega) (by omega) | (simp only [List.length_append, List.length_map, List.length_cons, List.length_nil, List.length_replicate, List.length_flatten, List.map_replicate, List.sum_replicate_nat, List.length_range, rngL_len, rngC_len, List.cons_append, List.nil_append]; first | done | omega))
local macro_rules | `(tactic| tm_at "ns") => `(tactic| repeat (with_reducible refine And.intro (by first | tm_at "nc" | exact ⟨by tm_at "nc", by tm_at "nc"⟩ | exact ⟨by tm_at "nc", by tm_at "nc", by tm_at "nc"⟩ | exact ⟨by tm_at "nc", by tm_at "nc", by tm_at "nc", by tm_at "nc"⟩) ?_))
theorem m_as_octets (ds : List D) (Om : N.Om) (Q : D → N.Om → Prop) (R : RX) (hl : ds.length = 2) (h : sp_as_octets ds Om Q R) : wFn 3 w_as_octets ds Om Q R := by
  obtain ⟨n, k, rfl, h0, h1, hk, q⟩ := h
  unfold w_as_octets
  tm_at "nw"
  have e8 : (8 * (k : Int)).toNat = 8 * k := by omega
  have ez : n / 2 ^ (8 * (k : Int)).toNat = 0 := by rw [e8]; exact Int.ediv_eq_zero_of_lt h0 h1
  rw [ez]
  refine br_df (by omega) ⟨mulL (by decide) (by decide), by omega, k, ?_, ?_⟩
  · have := RgC.neg (i := (k : Int) - 1) (j := -1) (by omega) (by omega) (by decide) (by decide)
    rw [show ((k : Int) - 1 - -1).toNat = k by omega] at this
    exact this
  · refine turns_map (fun d => match d with | .int p => .int (n / 2 ^ (8 * p).toNat % 256) | _ => .non) _ _ (by simp [rngC]; omega) (fun d hd K hK => ?_) ?_
    · obtain ⟨i, hi, rfl⟩ := List.mem_map.mp hd
      have hi' := List.mem_range.mp hi
      tm_at "nw"
      refine ⟨mulL (by decide) (by decide), by omega, ?_⟩
      have := Bits.bitAnd_mask (x := n / 2 ^ (8 * ((k : Int) - 1 + (i : Int) * -1)).toNat) 8 (Int.ediv_nonneg h0 (by exact Int.le_of_lt (Int.pow_pos (by decide))))
      rw [show (2 : Int) ^ 8 - 1 = 255 by decide, show (2 : Int) ^ 8 = 256 by decide] at this
      rw [this]
      exact hK
    · have e : (rngC ((k : Int) - 1) (-1) k).map (fun d => match d with | .int p => D.int (n / 2 ^ (8 * p).toNat % 256) | _ => .non) = iD (octs n k) := by
        simp only [rngC, octs, iD, List.map_map]
        refine List.map_congr_left fun i hi => ?_
        have hi' := List.mem_range.mp hi
        show D.int (n / 2 ^ (8 * ((k : Int) - 1 + (i : Int) * -1)).toNat % 256) = D.int (n / 2 ^ (8 * (k - 1 - i)) % 256)
        rw [show (8 * ((k : Int) - 1 + (i : Int) * -1)).toNat = 8 * (k - 1 - i) by omega]
      rw [List.nil_append, e]
      exact q
theorem ipow_le {a b : Nat} (h : a ≤ b) : (2 : Int) ^ a ≤ 2 ^ b := by
  have := Nat.pow_le_pow_right (n := 2) (by decide) h
  exact_mod_cast this
theorem dep_iff (c j : Nat) : (2 ^ j < c) ↔ j < dep c := by
  constructor
  · intro h
    by_cases q : j < dep c
    · exact q
    · exfalso
      have h1 := dep_le c
      have h2 : 2 ^ dep c ≤ 2 ^ j := Nat.pow_le_pow_right (by omega) (by omega)
      omega
  · exact dep_lt c j
theorem dep_20 {c : Nat} (h : c ≤ 1048576) : dep c ≤ 20 := by
  by_cases q : dep c ≤ 20
  · exact q
  · have := dep_lt c 20 (by omega)
    omega
theorem loop_depth (c : Nat) (hc : c ≤ 1048576) (Po : Post) (Om : N.Om) (h : Po.nx [.val (.int (c : Int)), .val (.int (dep c : Int))] Om) : ∀ (m j : Nat), j + m = dep c →
    wWhN (wTst (wBin gLt (wBin gShl (wC (.int 1)) (wVarB 1)) (wVarB 0))) w_depth_b1 (m + 1) [.val (.int (c : Int)), .val (.int (j : Int))] Om Po
  | m, j, hj => by
    have h20 := dep_20 hc
    have e1 : (1 : Int) * 2 ^ (j : Int).toNat = ((2 ^ j : Nat) : Int) := by simp
    unfold wWhN
    tm_at "nw"
    refine ⟨shlI (n := 1) (by decide) (by decide) (by omega) (by omega), ?_⟩
    rw [e1]
    cases m with
    | zero =>
      have hj : j = dep c := by omega
      subst hj
      refine br_df (fun z => ?_) h
      have := (dep_iff c (dep c)).mp (by omega)
      omega
    | succ m =>
      have hlt : 2 ^ j < c := dep_lt c j (by omega)
      refine br_dt (by omega) ?_
      have := loop_depth c hc Po Om h m (j + 1) (by omega)
      simpa using this
theorem m_depth (ds : List D) (Om : N.Om) (Q : D → N.Om → Prop) (R : RX) (hl : ds.length = 1) (h : sp_depth ds Om Q R) : wFn 2 w_depth ds Om Q R := by
  obtain ⟨c, rfl, hc, q⟩ := h
  unfold w_depth
  tm_at "nw"
  refine ⟨dep c + 1, loop_depth c hc _ _ q (dep c) 0 (by omega)⟩
theorem m_leaf_text (ds : List D) (Om : N.Om) (Q : D → N.Om → Prop) (R : RX) (hl : ds.length = 1) (h : sp_leaf_text ds Om Q R) : wFn 1 w_leaf_text ds Om Q R := by
  obtain ⟨os, rfl, hn, q⟩ := h
  unfold w_leaf_text
  tm_at "nw"
  exact ⟨by decide, by tm_at "nc", q⟩
theorem m_node_text (ds : List D) (Om : N.Om) (Q : D → N.Om → Prop) (R : RX) (hl : ds.length = 2) (h : sp_node_text ds Om Q R) : wFn 2 w_node_text ds Om Q R := by
  obtain ⟨a, b, rfl, ha, hb, q⟩ := h
  unfold w_node_text
  tm_at "nw"
  refine ⟨by decide, by tm_at "nc", by tm_at "nc", ?_⟩
  rw [oD, show iD (1 :: (a ++ b)) = [D.int 1] ++ iD a ++ iD b by simp [iD]] at q
  exact q
theorem loop_sum (m : Int) (hm : 1 < m) (hm2 : m ≤ 2 ^ 64) (x0 x1 : Sl) (Po : Post) (Om : N.Om) : ∀ (os : List Int) (t : Int) (y : Sl), 0 ≤ t → t < m → (∀ y', Po.nx [x0, x1, .val (.int m), .val (.int (os.foldl (fun t o => (t * 31 + o + 1) % m) t)), y'] Om) →
    wForL (fName 4) w_plain_sum_b1 (iD os) [x0, x1, .val (.int m), .val (.int t), y] Om Po
  | [], t, y, _, _, h => h y
  | o :: r, t, y, h0, h1, h => by
    simp only [List.map_cons, wForL]
    tm_at "nw"
    refine ⟨mulL (by omega) (by omega), by omega, ?_⟩
    exact loop_sum m hm hm2 x0 x1 Po Om r _ _ (Int.emod_nonneg _ (by omega)) (Int.emod_lt_of_pos _ (by omega)) h
theorem m_plain_sum (ds : List D) (Om : N.Om) (Q : D → N.Om → Prop) (R : RX) (hl : ds.length = 2) (h : sp_plain_sum ds Om Q R) : wFn 5 w_plain_sum ds Om Q R := by
  obtain ⟨os, n, rfl, h1, h8, q⟩ := h
  unfold w_plain_sum
  tm_at "nw"
  have e8 : (8 * (n : Int)).toNat = 8 * n := by omega
  have e : (1 : Int) * 2 ^ (8 * (n : Int)).toNat = 2 ^ (8 * n) := by rw [e8, Int.one_mul]
  have hp : (1 : Int) < 2 ^ (8 * n) := by
    have : (2 : Int) ^ 1 ≤ 2 ^ (8 * n) := ipow_le (by omega)
    omega
  have hp2 : (2 : Int) ^ (8 * n) ≤ 2 ^ 64 := ipow_le (by omega)
  refine ⟨mulL (by decide) (by decide), shlI (n := 1) (by decide) (by decide) (by omega) (by omega), ?_⟩
  rw [e]
  refine loop_sum _ hp hp2 _ _ _ _ os 1 _ (by decide) hp fun y' => ?_
  tm_at "nw"
  obtain ⟨t0, t1⟩ := tot_rng (2 ^ (8 * n)) hp os
  exact ⟨rfl, _, n, rfl, t0, t1, by omega, q⟩
end N

set_option Elab.async false
set_option linter.all false
set_option maxRecDepth 100000
set_option maxHeartbeats 0
namespace N
open PySem PySem.Spec PyProof.Rows L2
local macro_rules | `(tactic| tm_at "nw") => `(tactic| try simp only [wFn, startG_c, startG_n, startG_z, wSeq, wSet, wC, wFor, wIt, wVar, wVarB, getSl_z, getSl_s, List.set_cons_zero, List.set_cons_succ, wRet, wBin, gI_i, gI0_i, gB0_i, gAdd_i, gAdd_t, gAdd_l, gAdd_s, gMul_i, gMul_t, gMul_l, gEq_, gNe_, gIs_n, gIs_b, gIsNot_n, gIsNot_b, isNon_n, isNon_i, isNon_b, isNon_t, isNon_l, isNon_s, wIfS, wtOr, wtAnd, wtNot, wTst, wNext, wNev, wCall, wCallF, wFrz, wLst, wTup, waNil, waCons, wComp, wRng, gRng1_i, gRng2_i, gRng3_i, wUn, gNeg_i, gTuple_t, gTuple_l, gList_t, gList_l, gList_s, gLen_t, gLen_l, gLen_s, gLen_d, gInt_i, gInt_b, gAbs_i, gMax_i, gMin_i, wipeG, MO.see, fName, wCallU, wCallK, List.append_nil, List.length_cons, List.length_nil, wSl, woNone, woSome, gSl_t, gSl_l, gIt_t, gIt_l, gIt_s, gIsi_i, gIsi_b, gIsi_t, gIsi_l, gIsi_s, gIsi_n, gIsi_d, wFld, wMeth, wMake, wMakeF, wSetF, wExt, wFz, wRev, wRaise, wTry, wBits, insOf_ins, lk_kind, lk_size, lk_digest, lk_is_digest, gEnum_t, gEnum_l, gZip_t, gZip_l, mem1, reduceCtorEq, eq_self, wAsg, fTup, fCons, fNil, wAnd, wOr, wNot, wIf, wPar, wAug, wApp, wSetO, wRetO, br_t, br_f, shp_int, shp_bl, shp_non, deq_int, gAll_b, gAny_b, gSum_i, wDrop, wRetN, true_and, and_true, decide_true, decide_false, Bool.not_true, Bool.not_false, isi_NoneType_bool, isi_NoneType_int, isi_NoneType_str, isi_NoneType_tuple, isi_NoneType_list, isi_NoneType_dict, isi_bool_bool, isi_bool_int, isi_bool_str, isi_bool_tuple, isi_bool_list, isi_bool_dict, isi_int_bool, isi_int_int, isi_int_str, isi_int_tuple, isi_int_list, isi_int_dict, isi_str_bool, isi_str_int, isi_str_str, isi_str_tuple, isi_str_list, isi_str_dict, isi_tuple_bool, isi_tuple_int, isi_tuple_str, isi_tuple_tuple, isi_tuple_list, isi_tuple_dict, isi_list_bool, isi_list_int, isi_list_str, isi_list_tuple, isi_list_list, isi_list_dict, isi_dict_bool, isi_dict_int, isi_dict_str, isi_dict_tuple, isi_dict_list, isi_dict_dict, okTy_bool, okTy_int, okTy_str, okTy_tuple, okTy_list, okTy_dict])
local macro_rules | `(tactic| tm_at "nc") => `(tactic| first | exact True.intro | omega | exact mulL (by omega) (by omega) | exact mulR (by omega) (by omega) | exact divOk (by omega) (by omega) | (simp only [List.length_append, List.length_map, List.length_cons, List.length_nil, List.length_replicate, List.length_flatten, List.map_replicate, List.sum_replicate_nat, List.length_range, rngL_len, rngC_len, List.cons_append, List.nil_append]; first | done | omega))
local macro_rules | `(tactic| tm_at "ns") => `(tactic| repeat (with_reducible refine And.intro (by first | tm_at "nc" | exact ⟨by tm_at "nc", by tm_at "nc"⟩ | exact ⟨by tm_at "nc", by tm_at "nc", by tm_at "nc"⟩ | exact ⟨by tm_at "nc", by tm_at "nc", by tm_at "nc", by tm_at "nc"⟩) ?_))
theorem gIx_t0 {d : D} {r : List D} {Q : D → Prop} (q : Q d) : gIx (.tup (d :: r)) (.int 0) Q := gIx_tup (j := 0) rfl rfl q
theorem gIx_t1 {d e : D} {r : List D} {Q : D → Prop} (q : Q e) : gIx (.tup (d :: e :: r)) (.int 1) Q := gIx_tup (j := 1) rfl rfl q
theorem shp_sum : shp (.str "sum") = true := by decide +kernel
theorem shp_sha : shp (.str "sha") = true := by decide +kernel
theorem deq_str (x y : Str) : deq (.str x) (.str y) = decide (x = y) := by
  show (x == y) = _
  exact Bool.beq_eq_decide_eq _ _
theorem str_ss : deq (.str "sum") (.str "sum") = true := by rw [deq_str]; decide
theorem str_sh : deq (.str "sum") (.str "sha") = false := by rw [deq_str]; decide
theorem m_is_kind (ds : List D) (Om : N.Om) (Q : D → N.Om → Prop) (R : RX) (hl : ds.length = 1) (h : sp_is_kind ds Om Q R) : wFn 1 w_is_kind ds Om Q R := by
  obtain ⟨n, rfl, h1, h8, q⟩ := h
  unfold w_is_kind
  tm_at "nw"
  rw [show decide (((0 + 1 + 1 : Nat) : Int) = 2) = true from rfl, Bool.not_true, br_f]
  refine gIx_t0 ?_
  tm_at "nw"
  refine gIx_t1 ⟨_, rfl, rfl, ?_⟩
  simp only [intB, Bool.not_true, br_f]
  refine gIx_t0 ⟨shp_sum, shp_sha, ?_⟩
  rw [str_sh, br_f]
  refine gIx_t0 ⟨shp_sum, shp_sum, ?_⟩
  rw [str_ss, br_t]
  refine gIx_t1 ?_
  tm_at "nw"
  refine br_dt (by omega) (gIx_t1 ?_)
  tm_at "nw"
  rw [decide_eq_true (by omega)]
  exact q
theorem m_check_kind (ds : List D) (Om : N.Om) (Q : D → N.Om → Prop) (R : RX) (hl : ds.length = 1) (h : sp_check_kind ds Om Q R) : wFn 1 w_check_kind ds Om Q R := by
  obtain ⟨n, rfl, h1, h8, q⟩ := h
  unfold w_check_kind
  tm_at "nw"
  exact ⟨n, rfl, h1, h8, q⟩
theorem m_Hasher___init__ (ds : List D) (Om : N.Om) (Q : D → N.Om → Prop) (R : RX) (hl : ds.length = 2) (h : sp_Hasher___init__ ds Om Q R) : wFn 2 w_Hasher___init__ ds Om Q R := by
  obtain ⟨a, n, rfl, ha, h1, h8, q⟩ := h
  unfold w_Hasher___init__
  tm_at "nw"
  refine ⟨n, rfl, h1, h8, ?_⟩
  simp only [ha]
  refine ⟨List.mem_singleton.mpr rfl, by decide, gIx_t1 ?_⟩
  rw [putO_same]
  refine ⟨List.mem_singleton.mpr rfl, by decide, by decide, ?_⟩
  rw [putO_same]
  refine ⟨List.mem_singleton.mpr rfl, by decide, by decide, ?_⟩
  rw [putO_same]
  refine ⟨List.mem_singleton.mpr rfl, by decide, gIx_t0 ⟨shp_sum, shp_sha, ?_⟩⟩
  rw [str_sh, br_f, putO_put, putO_put, putO_put]
  exact q
theorem m_Hasher_digest (ds : List D) (Om : N.Om) (Q : D → N.Om → Prop) (R : RX) (hl : ds.length = 2) (h : sp_Hasher_digest ds Om Q R) : wFn 2 w_Hasher_digest ds Om Q R := by
  obtain ⟨os, n, rfl, h1, h8, q⟩ := h
  unfold w_Hasher_digest
  tm_at "nw"
  refine gIx_t0 ⟨shp_sum, shp_sum, ?_⟩
  rw [str_ss, br_t]
  exact ⟨os, n, rfl, h1, h8, q⟩
theorem m_Hasher_is_digest (ds : List D) (Om : N.Om) (Q : D → N.Om → Prop) (R : RX) (hl : ds.length = 2) (h : sp_Hasher_is_digest ds Om Q R) : wFn 2 w_Hasher_is_digest ds Om Q R := by
  obtain ⟨d, n, rfl, hd, h16, q⟩ := h
  unfold w_Hasher_is_digest
  tm_at "nw"
  exact ⟨rfl, d, some n, rfl, hd, h16, q⟩
/-! ### trees -/
theorem len_os (ps : List (List Int)) : ((ps.map oD).length : Int) = (ps.length : Int) := by simp
/-- one row: pairs folded -/
theorem halve_range (f : List Int → List Int) (row : List (List Int)) (h2 : row.length % 2 = 0) : halve f row = (List.range (row.length / 2)).map fun k => f (1 :: (row.getD (2 * k) [] ++ row.getD (2 * k + 1) [])) := by
  refine List.ext_getElem? fun k => ?_
  rw [List.getElem?_map]
  by_cases hk : k < row.length / 2
  · rw [List.getElem?_range hk]
    have a1 : 2 * k < row.length := by omega
    have a2 : 2 * k + 1 < row.length := by omega
    rw [halve_get f row k _ _ (List.getElem?_eq_getElem a1) (List.getElem?_eq_getElem a2)]
    simp [List.getD_eq_getElem?_getD, List.getElem?_eq_getElem a1, List.getElem?_eq_getElem a2]
  · rw [List.getElem?_eq_none (by rw [halve_len]; omega), List.getElem?_eq_none (by simp; omega)]
    rfl
end N

set_option Elab.async false
set_option linter.all false
set_option maxRecDepth 100000
set_option maxHeartbeats 0
namespace N
open PySem PySem.Spec PyProof.Rows L2
local macro_rules | `(tactic| tm_at "nw") => `(tactic| try simp only [wFn, startG_c, startG_n, startG_z, wSeq, wSet, wC, wFor, wIt, wVar, wVarB, getSl_z, getSl_s, List.set_cons_zero, List.set_cons_succ, wRet, wBin, gI_i, gI0_i, gB0_i, gAdd_i, gAdd_t, gAdd_l, gAdd_s, gMul_i, gMul_t, gMul_l, gEq_, gNe_, gIs_n, gIs_b, gIsNot_n, gIsNot_b, isNon_n, isNon_i, isNon_b, isNon_t, isNon_l, isNon_s, wIfS, wtOr, wtAnd, wtNot, wTst, wNext, wNev, wCall, wCallF, wFrz, wLst, wTup, waNil, waCons, wComp, wRng, gRng1_i, gRng2_i, gRng3_i, wUn, gNeg_i, gTuple_t, gTuple_l, gList_t, gList_l, gList_s, gLen_t, gLen_l, gLen_s, gLen_d, gInt_i, gInt_b, gAbs_i, gMax_i, gMin_i, wipeG, MO.see, fName, wCallU, wCallK, List.append_nil, List.length_cons, List.length_nil, wSl, woNone, woSome, gSl_t, gSl_l, gIt_t, gIt_l, gIt_s, gIsi_i, gIsi_b, gIsi_t, gIsi_l, gIsi_s, gIsi_n, gIsi_d, wFld, wMeth, wMake, wMakeF, wSetF, wExt, wFz, wRev, wRaise, wTry, wBits, insOf_ins, lk_kind, lk_size, lk_digest, lk_is_digest, gEnum_t, gEnum_l, gZip_t, gZip_l, mem1, reduceCtorEq, eq_self, wAsg, fTup, fCons, fNil, wAnd, wOr, wNot, wIf, wPar, wAug, wApp, wSetO, wRetO, br_t, br_f, shp_int, shp_bl, shp_non, deq_int, gAll_b, gAny_b, gSum_i, wDrop, wRetN, true_and, and_true, decide_true, decide_false, Bool.not_true, Bool.not_false, isi_NoneType_bool, isi_NoneType_int, isi_NoneType_str, isi_NoneType_tuple, isi_NoneType_list, isi_NoneType_dict, isi_bool_bool, isi_bool_int, isi_bool_str, isi_bool_tuple, isi_bool_list, isi_bool_dict, isi_int_bool, isi_int_int, isi_int_str, isi_int_tuple, isi_int_list, isi_int_dict, isi_str_bool, isi_str_int, isi_str_str, isi_str_tuple, isi_str_list, isi_str_dict, isi_tuple_bool, isi_tuple_int, isi_tuple_str, isi_tuple_tuple, isi_tuple_list, isi_tuple_dict, isi_list_bool, isi_list_int, isi_list_str, isi_list_tuple, isi_list_list, isi_list_dict, isi_dict_bool, isi_dict_int, isi_dict_str, isi_dict_tuple, isi_dict_list, isi_dict_dict, okTy_bool, okTy_int, okTy_str, okTy_tuple, okTy_list, okTy_dict])
local macro_rules | `(tactic| tm_at "nc") => `(tactic| first | exact True.intro | omega | exact mulL (by omega) (by omega) | exact mulR (by omega) (by omega) | exact divOk (by omega) (by omega) | (simp only [List.length_append, List.length_map, List.length_cons, List.length_nil, List.length_replicate, List.length_flatten, List.map_replicate, List.sum_replicate_nat, List.length_range, rngL_len, rngC_len, List.cons_append, List.nil_append]; first | done | omega))
local macro_rules | `(tactic| tm_at "ns") => `(tactic| repeat (with_reducible refine And.intro (by first | tm_at "nc" | exact ⟨by tm_at "nc", by tm_at "nc"⟩ | exact ⟨by tm_at "nc", by tm_at "nc", by tm_at "nc"⟩ | exact ⟨by tm_at "nc", by tm_at "nc", by tm_at "nc", by tm_at "nc"⟩) ?_))
section
variable {α : Type} {f : WG} {we : WE} {G : Gam} {O : Om} {Q : List D → Om → Prop}
theorem turns_mapA (h g : α → D) : ∀ (as : List α) (acc : List D), acc.length + as.length ≤ 16777216 → (∀ a ∈ as, ∀ K : D → Om → Prop, K (g a) O → f (h a) G fun G2 => we G2 O K noR) → Q (acc ++ as.map g) O → wTurns f wtYes we G (as.map h) acc O Q
  | [], acc, _, _, q => by simpa [wTurns] using q
  | a :: r, acc, l, hh, q => by
    rw [List.length_cons] at l
    refine ⟨by omega, hh a List.mem_cons_self _ (turns_mapA h g r (acc ++ [g a]) (by rw [List.length_append, List.length_singleton]; omega) (fun a' h' => hh a' (List.mem_cons_of_mem _ h')) (by simpa using q))⟩
end
abbrev lsD (r : List (List Int)) : D := .lst (r.map oD)
theorem even_pow (d : Nat) : (2 ^ (d + 1)) % 2 = 0 := by rw [Nat.pow_succ]; omega
theorem halve_mem {f : List Int → List Int} {row : List (List Int)} {r : List Int} (h : r ∈ halve f row) : ∃ t, r = f t := by
  obtain ⟨k, hk, rfl⟩ := List.getElem_of_mem h
  rw [halve_len] at hk
  have a1 : 2 * k < row.length := by omega
  have a2 : 2 * k + 1 < row.length := by omega
  have := halve_get f row k _ _ (List.getElem?_eq_getElem a1) (List.getElem?_eq_getElem a2)
  rw [List.getElem?_eq_getElem (by rw [halve_len]; omega)] at this
  exact ⟨_, Option.some.inj this⟩
theorem rgc_two {j : Nat} (hj : j ≤ 1048576) (he : j % 2 = 0) : RgC 0 (j : Int) 2 (j / 2) := by
  have e : Builtin.Range.rangeSize 0 (j : Int) 2 = ((j / 2 : Nat) : Int) := by
    rw [PyProof.Rows.rangeSize_pos (by decide) (by omega)]
    omega
  refine ⟨by decide, by decide, ?_, e⟩
  have fit : ∀ i : Int, 0 ≤ i → i ≤ 2097152 → Builtin.Range.rangeFitsLong i = true := fun i h0 h1 => by
    unfold Builtin.Range.rangeFitsLong
    rw [Bool.and_eq_true, decide_eq_true_eq, decide_eq_true_eq]
    omega
  unfold Builtin.Range.small
  rw [e, fit 0 (by decide) (by decide), fit j (by omega) (by omega), fit 2 (by decide) (by decide), fit _ (by omega) (by omega), if_pos (by decide), fit _ (by omega) (by omega)]
  simp
theorem loop_levels (n : Nat) (h1 : 1 ≤ n) (h8 : n ≤ 8) (e pd : Sl) (Po : Post) (Om : N.Om) : ∀ (d : Nat) (row : List (List Int)) (acc : List D), row.length = 2 ^ d → d ≤ 20 → (∀ r ∈ row, r.length ≤ 100) → acc.length + d ≤ 1000 →
    (∀ x, Po.nx [.val (hsh n), pd, x, e, .own (.lst (acc ++ ((lev (dig n) d row).tail.map lsD))), .no, .no, .no] Om) →
    wWhN (wTst (wBin gGt (wCall gLen (waCons (wVarB 2) waNil)) (wC (.int 1)))) w_levels_b1 (d + 1) [.val (hsh n), pd, .val (lsD row), e, .own (.lst acc), .no, .no, .no] Om Po
  | 0, row, acc, hr, _, _, _, h => by
    unfold wWhN
    tm_at "nw"
    refine br_df (by simp [hr]) ?_
    simpa [lev] using h (.val (lsD row))
  | d + 1, row, acc, hr, hd, hs, ha, h => by
    have hp : 2 ≤ row.length := by rw [hr, Nat.pow_succ]; have := Nat.pow_pos (n := d) (show 0 < 2 by decide); omega
    have he : row.length % 2 = 0 := by rw [hr]; exact even_pow d
    have hl : row.length ≤ 2 ^ 20 := by rw [hr]; exact Nat.pow_le_pow_right (by decide) (by omega)
    unfold wWhN
    tm_at "nw"
    refine br_dt (by simp; omega) ?_
    refine ⟨row.length / 2, by rw [List.length_map]; exact rgc_two (by omega) he, ?_⟩
    refine turns_mapA (fun (k : Nat) => D.int (0 + (k : Int) * 2)) (fun k => oD (dig n (1 :: (row.getD (2 * k) [] ++ row.getD (2 * k + 1) [])))) (List.range (row.length / 2)) [] (by simp; omega) (fun k hk K hK => ?_) ?_
    · have hk := List.mem_range.mp hk
      have a1 : 2 * k < row.length := by omega
      have a2 : 2 * k + 1 < row.length := by omega
      have g1 : (row.map oD)[2 * k]? = some (oD (row.getD (2 * k) [])) := by simp [List.getElem?_eq_getElem a1]
      have g2 : (row.map oD)[2 * k + 1]? = some (oD (row.getD (2 * k + 1) [])) := by simp [List.getElem?_eq_getElem a2]
      have m1 : (row.getD (2 * k) []).length ≤ 100 := by simp [List.getElem?_eq_getElem a1]; exact hs _ (List.getElem_mem a1)
      have m2 : (row.getD (2 * k + 1) []).length ≤ 100 := by simp [List.getElem?_eq_getElem a2]; exact hs _ (List.getElem_mem a2)
      tm_at "nw"
      refine gIx_list (j := 2 * k) (by omega) g1 (gIx_list (j := 2 * k + 1) (by omega) g2 ?_)
      exact ⟨_, _, rfl, by omega, by omega, _, n, rfl, h1, h8, hK⟩
    · rw [List.nil_append, show ((List.range (row.length / 2)).map fun k => oD (dig n (1 :: (row.getD (2 * k) [] ++ row.getD (2 * k + 1) [])))) = (halve (dig n) row).map oD by rw [halve_range _ _ he, List.map_map]; rfl]
      tm_at "nw"
      refine ⟨by omega, ?_⟩
      refine loop_levels n h1 h8 e pd Po Om d (halve (dig n) row) (acc ++ [lsD (halve (dig n) row)]) (by rw [halve_len, hr, Nat.pow_succ]; omega) (by omega) (fun r hr => ?_) (by simp; omega) fun x => ?_
      · obtain ⟨t, rfl⟩ := halve_mem hr
        rw [dig_len]
        omega
      · have := h x
        cases d <;> simpa [lev, List.append_assoc] using this
end N

set_option Elab.async false
set_option linter.all false
set_option maxRecDepth 100000
set_option maxHeartbeats 0
namespace N
open PySem PySem.Spec PyProof.Rows L2
local macro_rules | `(tactic| tm_at "nw") => `(tactic| try simp only [wFn, startG_c, startG_n, startG_z, wSeq, wSet, wC, wFor, wIt, wVar, wVarB, getSl_z, getSl_s, List.set_cons_zero, List.set_cons_succ, wRet, wBin, gI_i, gI0_i, gB0_i, gAdd_i, gAdd_t, gAdd_l, gAdd_s, gMul_i, gMul_t, gMul_l, gEq_, gNe_, gIs_n, gIs_b, gIsNot_n, gIsNot_b, isNon_n, isNon_i, isNon_b, isNon_t, isNon_l, isNon_s, wIfS, wtOr, wtAnd, wtNot, wTst, wNext, wNev, wCall, wCallF, wFrz, wLst, wTup, waNil, waCons, wComp, wRng, gRng1_i, gRng2_i, gRng3_i, wUn, gNeg_i, gTuple_t, gTuple_l, gList_t, gList_l, gList_s, gLen_t, gLen_l, gLen_s, gLen_d, gInt_i, gInt_b, gAbs_i, gMax_i, gMin_i, wipeG, MO.see, fName, wCallU, wCallK, List.append_nil, List.length_cons, List.length_nil, wSl, woNone, woSome, gSl_t, gSl_l, gIt_t, gIt_l, gIt_s, gIsi_i, gIsi_b, gIsi_t, gIsi_l, gIsi_s, gIsi_n, gIsi_d, wFld, wMeth, wMake, wMakeF, wSetF, wExt, wFz, wRev, wRaise, wTry, wBits, insOf_ins, lk_kind, lk_size, lk_digest, lk_is_digest, gEnum_t, gEnum_l, gZip_t, gZip_l, mem1, reduceCtorEq, eq_self, wAsg, fTup, fCons, fNil, wAnd, wOr, wNot, wIf, wPar, wAug, wApp, wSetO, wRetO, br_t, br_f, shp_int, shp_bl, shp_non, deq_int, gAll_b, gAny_b, gSum_i, wDrop, wRetN, true_and, and_true, decide_true, decide_false, Bool.not_true, Bool.not_false, isi_NoneType_bool, isi_NoneType_int, isi_NoneType_str, isi_NoneType_tuple, isi_NoneType_list, isi_NoneType_dict, isi_bool_bool, isi_bool_int, isi_bool_str, isi_bool_tuple, isi_bool_list, isi_bool_dict, isi_int_bool, isi_int_int, isi_int_str, isi_int_tuple, isi_int_list, isi_int_dict, isi_str_bool, isi_str_int, isi_str_str, isi_str_tuple, isi_str_list, isi_str_dict, isi_tuple_bool, isi_tuple_int, isi_tuple_str, isi_tuple_tuple, isi_tuple_list, isi_tuple_dict, isi_list_bool, isi_list_int, isi_list_str, isi_list_tuple, isi_list_list, isi_list_dict, isi_dict_bool, isi_dict_int, isi_dict_str, isi_dict_tuple, isi_dict_list, isi_dict_dict, okTy_bool, okTy_int, okTy_str, okTy_tuple, okTy_list, okTy_dict])
local macro_rules | `(tactic| tm_at "nc") => `(tactic| first | exact True.intro | omega | exact mulL (by omega) (by omega) | exact mulR (by omega) (by omega) | exact divOk (by omega) (by omega) | (simp only [List.length_append, List.length_map, List.length_cons, List.length_nil, List.length_replicate, List.length_flatten, List.map_replicate, List.sum_replicate_nat, List.length_range, rngL_len, rngC_len, List.cons_append, List.nil_append]; first | done | omega))
local macro_rules | `(tactic| tm_at "ns") => `(tactic| repeat (with_reducible refine And.intro (by first | tm_at "nc" | exact ⟨by tm_at "nc", by tm_at "nc"⟩ | exact ⟨by tm_at "nc", by tm_at "nc", by tm_at "nc"⟩ | exact ⟨by tm_at "nc", by tm_at "nc", by tm_at "nc", by tm_at "nc"⟩) ?_))
theorem rep_range {m : Nat} (x : D) : (rngL 0 m).map (fun _ => x) = List.replicate m x := by
  simp [rngL, List.map_map, Function.comp_def, List.map_const']
theorem m_levels (ds : List D) (Om : N.Om) (Q : D → N.Om → Prop) (R : RX) (hl : ds.length = 2) (h : sp_levels ds Om Q R) : wFn 8 w_levels ds Om Q R := by
  obtain ⟨d, ps, n, rfl, hd, hs, h1, h8, q⟩ := h
  unfold w_levels
  tm_at "nw"
  have hdl : ∀ K : List D → Prop, K (ps.map oD) → gIt d K := fun K k => by rcases hd with rfl | rfl <;> exact k
  have hlen : ∀ K : D → Prop, K (.int (ps.length : Int)) → gLen [d] K := fun K k => by
    rcases hd with rfl | rfl
    · rw [gLen_t, List.length_map]; exact k
    · rw [gLen_l, List.length_map]; exact k
  refine hdl _ (turns_mapA oD (fun p => oD (dig n (0 :: p))) ps [] (by simp; have := hs.1; omega) (fun p hp K hK => ?_) ?_)
  · tm_at "nw"
    have := hs.2 p hp
    exact ⟨p, rfl, by omega, _, n, rfl, h1, h8, hK⟩
  · tm_at "nw"
    refine ⟨by decide, [2], n, rfl, h1, h8, ?_⟩
    refine hlen _ ⟨ps.length, rfl, by have := hs.1; omega, ?_⟩
    have h20 : dep ps.length ≤ 20 := dep_20 (by have := hs.1; omega)
    refine ⟨shlI (n := 1) (by decide) (by decide) (by omega) (by omega), hlen _ ?_⟩
    have hge := dep_le ps.length
    have hp2 : 2 ^ dep ps.length ≤ 1048576 := Nat.pow_le_pow_right (n := 2) (by decide) h20
    have e1 : (1 : Int) * 2 ^ ((dep ps.length : Nat) : Int).toNat = ((2 ^ dep ps.length : Nat) : Int) := by simp
    tm_at "nw"
    rw [e1]
    refine ⟨by omega, ?_⟩
    have e2 : (((2 ^ dep ps.length : Nat) : Int) - (ps.length : Int)).toNat = 2 ^ dep ps.length - ps.length := by omega
    rw [e2]
    refine turns_map (fun _ => oD (dig n [2])) _ [] (by rw [rngL_len, List.length_nil]; omega) (fun x hx K hK => ?_) ?_
    · tm_at "nw"
      exact hK
    · rw [rep_range]
      have e3 : [] ++ ps.map (fun p => oD (dig n (0 :: p))) ++ ([] ++ List.replicate (2 ^ dep ps.length - ps.length) (oD (dig n [2]))) = (row0 (dig n) ps).map oD := by
        simp [row0, List.map_map, Function.comp_def]
      have hr0 := row0_len (dig n) ps
      simp only [e3]
      refine ⟨by simp; omega, by decide, dep ps.length + 1, ?_⟩
      refine loop_levels n h1 h8 _ _ _ _ (dep ps.length) (row0 (dig n) ps) _ hr0 h20 (fun r hr => ?_) (by simp; omega) fun x => ?_
      · unfold row0 at hr
        rcases List.mem_append.mp hr with hr | hr
        · obtain ⟨p, _, rfl⟩ := List.mem_map.mp hr
          rw [dig_len]; omega
        · rw [(List.mem_replicate.mp hr).2, dig_len]; omega
      · tm_at "nw"
        have e4 : [lsD (row0 (dig n) ps)] ++ (lev (dig n) (dep ps.length) (row0 (dig n) ps)).tail.map lsD = (rows (dig n) ps).map lsD := by
          unfold rows
          cases dep ps.length <;> simp [lev]
        simp only [e4]
        exact q
theorem gIx_m1 {xs : List D} {d : D} {Q : D → Prop} (h : xs.getLast? = some d) (q : Q d) : gIx (.lst xs) (.int (-1)) Q := by
  have hne : xs ≠ [] := fun z => by rw [z] at h; cases h
  have e : xs = xs.dropLast ++ [d] := by
    rw [List.getLast?_eq_some_getLast hne] at h
    have := List.dropLast_concat_getLast hne
    rw [Option.some.inj h] at this
    exact this.symm
  have : atI xs (-1) = some d := by rw [e]; exact atI_last _ _
  simp only [gIx, this]
  exact q
theorem gIx_l0 {d : D} {r : List D} {Q : D → Prop} (q : Q d) : gIx (.lst (d :: r)) (.int 0) Q := gIx_list (j := 0) rfl rfl q
theorem lev_last (f : List Int → List Int) : ∀ (d : Nat) (row : List (List Int)), row.length = 2 ^ d → ∃ a, (lev f d row).getLast? = some [a]
  | 0, row, h => by
    match row, h with
    | [a], _ => exact ⟨a, rfl⟩
  | d + 1, row, h => by
    obtain ⟨a, e⟩ := lev_last f d (halve f row) (by rw [halve_len, h, Nat.pow_succ]; omega)
    refine ⟨a, ?_⟩
    rw [lev, List.getLast?_cons, e]
    rfl
theorem rows_last (f : List Int → List Int) (ps : List (List Int)) : (rows f ps).getLast? = some [topR (rows f ps)] := by
  obtain ⟨a, e⟩ := lev_last f (dep ps.length) (row0 f ps) (row0_len f ps)
  have : topR (rows f ps) = a := by
    unfold topR
    rw [List.getLastD_eq_getLast?, show (rows f ps).getLast? = some [a] from e]
    rfl
  rw [this]
  exact e
theorem m_root (ds : List D) (Om : N.Om) (Q : D → N.Om → Prop) (R : RX) (hl : ds.length = 2) (h : sp_root ds Om Q R) : wFn 2 w_root ds Om Q R := by
  obtain ⟨d, ps, n, rfl, hd, hs, h1, h8, q⟩ := h
  unfold w_root
  tm_at "nw"
  refine ⟨d, ps, n, rfl, hd, hs, h1, h8, ?_⟩
  exact gIx_m1 (d := lsD [topR (rows (dig n) ps)]) (by rw [List.getLast?_map, rows_last]; rfl) (gIx_l0 q)
theorem nodI (f : List Int → List Int) (i h : Nat) (t o : List Int) : nod f i h t o = if ((i : Int) / 2 ^ h % 2 = 1) then 1 :: (o ++ f t) else 1 :: (f t ++ o) := by
  unfold nod
  have : ((i : Int) / 2 ^ h % 2 = 1) ↔ (i / 2 ^ h % 2 = 1) := by
    have e : (i : Int) / 2 ^ h % 2 = ((i / 2 ^ h % 2 : Nat) : Int) := by simp
    rw [e]; omega
  simp only [this]
theorem bit1 {x : Int} (h : 0 ≤ x) : Builtin.bitAnd x 1 = x % 2 := by
  have := Bits.bitAnd_mask (x := x) 1 h
  simpa using this
theorem loop_path (n : Nat) (h1 : 1 ≤ n) (h8 : n ≤ 8) (i : Nat) (x2 x3 : Sl) (Po : Post) (Om : N.Om) : ∀ (pr : List (List Int)) (h : Nat) (t : List Int) (acc : List D) (y5 y6 y7 : Sl), t.length ≤ 1000000 → (∀ o ∈ pr, o.length ≤ 100000) → h + pr.length ≤ 1000 → acc.length + pr.length ≤ 10000 →
    (∀ y5 y6 y7, Po.nx [.val (hsh n), .val (.int (i : Int)), x2, x3, .own (.lst (acc ++ (wayG (dig n) i h t pr).map oD)), y5, y6, y7] Om) →
    wForL (fTup 2 (fCons (fName 5) (fCons (fName 6) fNil))) w_path_b1 (enumF h (pr.map oD)) [.val (hsh n), .val (.int (i : Int)), x2, x3, .own (.lst (acc ++ [oD t])), y5, y6, y7] Om Po
  | [], h, t, acc, y5, y6, y7, _, _, _, _, hq => by
    simp only [List.map_nil, enumF, wForL]
    simpa [wayG] using hq y5 y6 y7
  | o :: r, h, t, acc, y5, y6, y7, ht, ho, hh, ha, hq => by
    rw [List.length_cons] at hh ha
    have ho1 := ho o List.mem_cons_self
    have hd := dig_len n t
    simp only [List.map_cons, enumF, wForL]
    tm_at "nw"
    refine gIx_m1 (d := oD t) (by simp) ?_
    refine ⟨t, n, rfl, h1, h8, by omega, ?_⟩
    have eb : Builtin.bitAnd ((i : Int) / 2 ^ (h : Int).toNat) 1 = (i : Int) / 2 ^ h % 2 := by
      rw [show (h : Int).toNat = h by omega]
      exact bit1 (Int.ediv_nonneg (by omega) (by exact Int.le_of_lt (Int.pow_pos (by decide))))
    rw [eb]
    have step : ∀ t', nod (dig n) i h t o = t' → wForL (fTup 2 (fCons (fName 5) (fCons (fName 6) fNil))) w_path_b1 (enumF (h + 1) (r.map oD)) [.val (hsh n), .val (.int (i : Int)), x2, x3, .own (.lst (acc ++ [oD t] ++ [oD t'])), .val (.int (h : Int)), .val (oD o), .val (oD (dig n t))] Om Po := fun t' e => by
      refine loop_path n h1 h8 i x2 x3 Po Om r (h + 1) t' (acc ++ [oD t]) _ _ _ ?_ (fun o' h' => ho o' (List.mem_cons_of_mem _ h')) (by omega) (by simp; omega) fun y5 y6 y7 => ?_
      · rw [← e]
        unfold nod
        split <;> simp <;> omega
      · have := hq y5 y6 y7
        rw [wayG, e] at this
        simpa [List.append_assoc] using this
    refine br_d (fun e => ?_) (fun e => ?_)
    · exact ⟨o, dig n t, rfl, by omega, by omega, by simp; omega, step _ (by rw [nodI, if_pos e])⟩
    · exact ⟨dig n t, o, rfl, by omega, by omega, by simp; omega, step _ (by rw [nodI, if_neg e])⟩
theorem m_path (ds : List D) (Om : N.Om) (Q : D → N.Om → Prop) (R : RX) (hl : ds.length = 4) (h : sp_path ds Om Q R) : wFn 8 w_path ds Om Q R := by
  obtain ⟨i, p, pr, n, rfl, hp, ho, hl2, h1, h8, q⟩ := h
  unfold w_path
  tm_at "nw"
  refine ⟨p, rfl, by omega, by decide, ?_⟩
  refine loop_path n h1 h8 i _ _ _ _ pr 0 (0 :: p) [] _ _ _ (by simp; omega) ho (by omega) (by simp; omega) fun y5 y6 y7 => ?_
  tm_at "nw"
  simpa [way] using q
theorem wayG_ne (f : List Int → List Int) (i h : Nat) (t : List Int) (pr : List (List Int)) : wayG f i h t pr ≠ [] := fun z => by
  have := wayG_len f i h t pr
  rw [z] at this
  simp at this
theorem way_last (f : List Int → List Int) (i : Nat) (p : List Int) (pr : List (List Int)) : (way f i p pr).getLast? = some ((way f i p pr).getLastD []) := by
  rw [List.getLastD_eq_getLast?]
  cases h : (way f i p pr).getLast? with
  | none => exact (wayG_ne _ _ _ _ _ (List.getLast?_eq_none_iff.mp h)).elim
  | some x => rfl
theorem m_fold (ds : List D) (Om : N.Om) (Q : D → N.Om → Prop) (R : RX) (hl : ds.length = 4) (h : sp_fold ds Om Q R) : wFn 4 w_fold ds Om Q R := by
  obtain ⟨i, p, pr, n, rfl, hp, ho, hl2, h1, h8, q⟩ := h
  unfold w_fold
  tm_at "nw"
  refine ⟨i, p, pr, n, rfl, hp, ho, hl2, h1, h8, ?_⟩
  refine gIx_m1 (d := oD ((way (dig n) i p pr).getLastD [])) (by rw [List.getLast?_map, way_last]; rfl) ?_
  exact ⟨_, n, rfl, h1, h8, q⟩
theorem m_is_proof (ds : List D) (Om : N.Om) (Q : D → N.Om → Prop) (R : RX) (hl : ds.length = 3) (h : sp_is_proof ds Om Q R) : wFn 4 w_is_proof ds Om Q R := by
  obtain ⟨c, d, n, rfl, hc, hd, h16, q⟩ := h
  unfold w_is_proof
  cases d <;> simp only [plD] at hd <;> try cases hd
  case tup xs =>
    tm_at "nw"
    refine ⟨c, rfl, hc, ?_⟩
    obtain ⟨hx, hy⟩ := h16 xs rfl
    refine ⟨shp_int _, ?_⟩
    rw [deq_int]
    refine br_if (fun e => ?_) (fun e => ?_)
    · have e : ¬ xs.length = dep c := fun z => by rw [z] at e; simp at e
      simpa [isPrf, e] using q
    · have e : xs.length = dep c := by simp at e; omega
      refine turns_map (fun d => .bl (isOcts (some n) d)) xs [] (by simpa using hx) (fun d hd' K hK => ?_) ?_
      · tm_at "nw"
        exact ⟨d, n, rfl, plL_mem hd d hd', hy d hd', hK⟩
      · rw [List.nil_append, show (xs.map fun d => D.bl (isOcts (some n) d)) = (xs.map (isOcts (some n))).map D.bl by rw [List.map_map]; rfl]
        tm_at "nw"
        simpa [isPrf, e, List.all_map, Function.comp_def] using q
  all_goals (tm_at "nw"; simpa [isPrf] using q)
theorem isPrf_os {n c : Nat} {pr : List (List Int)} (hl : pr.length = dep c) (h : ∀ o ∈ pr, Oct o ∧ o.length = n) : isPrf n c (osD pr) = true := by
  unfold isPrf
  rw [Bool.and_eq_true]
  refine ⟨by simpa using hl, List.all_eq_true.mpr fun d hd => ?_⟩
  obtain ⟨o, ho, rfl⟩ := List.mem_map.mp hd
  rw [isOcts_o]
  simp [(h o ho).2, octB_of (h o ho).1]
theorem m_fits (ds : List D) (Om : N.Om) (Q : D → N.Om → Prop) (R : RX) (hl : ds.length = 6) (h : sp_fits ds Om Q R) : wFn 6 w_fits ds Om Q R := by
  obtain ⟨n, top, c, i, p, pr, rfl, hi, hc, hp, hp2, hpl, hpr, h1, h8, q⟩ := h
  unfold w_fits
  tm_at "nw"
  have h20 := dep_20 hc
  refine ⟨_, rfl, rfl, ?_⟩
  simp only [intB, Bool.not_true, br_f]
  refine br_df (by omega) (br_df (by omega) ?_)
  refine ⟨rfl, _, none, rfl, plD_o p, fun xs e => ?_, ?_⟩
  · cases e; simp; omega
  rw [isOcts_o]
  simp only [octB_of hp, Bool.and_true, Bool.not_true, br_f]
  refine ⟨c, _, n, rfl, hc, plL_os pr, fun xs e => ?_, ?_⟩
  · cases e
    refine ⟨by simp; omega, fun x hx ys e => ?_⟩
    obtain ⟨o, ho, rfl⟩ := List.mem_map.mp hx
    cases e
    have := (hpr o ho).2
    simp; omega
  rw [isPrf_os hpl hpr]
  tm_at "nw"
  refine ⟨i, p, pr, n, rfl, hp2, fun o ho => by have := (hpr o ho).2; omega, by omega, h1, h8, ?_⟩
  exact ⟨shp_tints _, shp_tints _, by rw [deq_tints]; exact q⟩
end N

set_option Elab.async false
set_option linter.all false
set_option maxRecDepth 100000
set_option maxHeartbeats 0
namespace N
open PySem PySem.Spec PyProof.Rows L2
local macro_rules | `(tactic| tm_at "nw") => `(tactic| try simp only [wFn, startG_c, startG_n, startG_z, wSeq, wSet, wC, wFor, wIt, wVar, wVarB, getSl_z, getSl_s, List.set_cons_zero, List.set_cons_succ, wRet, wBin, gI_i, gI0_i, gB0_i, gAdd_i, gAdd_t, gAdd_l, gAdd_s, gMul_i, gMul_t, gMul_l, gEq_, gNe_, gIs_n, gIs_b, gIsNot_n, gIsNot_b, isNon_n, isNon_i, isNon_b, isNon_t, isNon_l, isNon_s, wIfS, wtOr, wtAnd, wtNot, wTst, wNext, wNev, wCall, wCallF, wFrz, wLst, wTup, waNil, waCons, wComp, wRng, gRng1_i, gRng2_i, gRng3_i, wUn, gNeg_i, gTuple_t, gTuple_l, gList_t, gList_l, gList_s, gLen_t, gLen_l, gLen_s, gLen_d, gInt_i, gInt_b, gAbs_i, gMax_i, gMin_i, wipeG, MO.see, fName, wCallU, wCallK, List.append_nil, List.length_cons, List.length_nil, wSl, woNone, woSome, gSl_t, gSl_l, gIt_t, gIt_l, gIt_s, gIsi_i, gIsi_b, gIsi_t, gIsi_l, gIsi_s, gIsi_n, gIsi_d, wFld, wMeth, wMake, wMakeF, wSetF, wExt, wFz, wRev, wRaise, wTry, wBits, insOf_ins, lk_kind, lk_size, lk_digest, lk_is_digest, gEnum_t, gEnum_l, gZip_t, gZip_l, mem1, reduceCtorEq, eq_self, wAsg, fTup, fCons, fNil, wAnd, wOr, wNot, wIf, wPar, wAug, wApp, wSetO, wRetO, br_t, br_f, shp_int, shp_bl, shp_non, deq_int, gAll_b, gAny_b, gSum_i, wDrop, wRetN, true_and, and_true, decide_true, decide_false, Bool.not_true, Bool.not_false, isi_NoneType_bool, isi_NoneType_int, isi_NoneType_str, isi_NoneType_tuple, isi_NoneType_list, isi_NoneType_dict, isi_bool_bool, isi_bool_int, isi_bool_str, isi_bool_tuple, isi_bool_list, isi_bool_dict, isi_int_bool, isi_int_int, isi_int_str, isi_int_tuple, isi_int_list, isi_int_dict, isi_str_bool, isi_str_int, isi_str_str, isi_str_tuple, isi_str_list, isi_str_dict, isi_tuple_bool, isi_tuple_int, isi_tuple_str, isi_tuple_tuple, isi_tuple_list, isi_tuple_dict, isi_list_bool, isi_list_int, isi_list_str, isi_list_tuple, isi_list_list, isi_list_dict, isi_dict_bool, isi_dict_int, isi_dict_str, isi_dict_tuple, isi_dict_list, isi_dict_dict, okTy_bool, okTy_int, okTy_str, okTy_tuple, okTy_list, okTy_dict])
local macro_rules | `(tactic| tm_at "nc") => `(tactic| first | exact True.intro | omega | exact mulL (by omega) (by omega) | exact mulR (by omega) (by omega) | exact divOk (by omega) (by omega) | (simp only [List.length_append, List.length_map, List.length_cons, List.length_nil, List.length_replicate, List.length_flatten, List.map_replicate, List.sum_replicate_nat, List.length_range, rngL_len, rngC_len, List.cons_append, List.nil_append]; first | done | omega))
local macro_rules | `(tactic| tm_at "ns") => `(tactic| repeat (with_reducible refine And.intro (by first | tm_at "nc" | exact ⟨by tm_at "nc", by tm_at "nc"⟩ | exact ⟨by tm_at "nc", by tm_at "nc", by tm_at "nc"⟩ | exact ⟨by tm_at "nc", by tm_at "nc", by tm_at "nc", by tm_at "nc"⟩) ?_))
theorem lev_get (f : List Int → List Int) : ∀ (d : Nat) (row : List (List Int)) (h : Nat) (r : List (List Int)), row.length = 2 ^ d → (lev f d row)[h]? = some r → h ≤ d ∧ r.length = 2 ^ (d - h)
  | 0, row, h, r, hr, e => by
    cases h with
    | zero => simp [lev] at e; subst e; exact ⟨by omega, hr⟩
    | succ h => simp [lev] at e
  | d + 1, row, 0, r, hr, e => by simp [lev] at e; subst e; exact ⟨by omega, hr⟩
  | d + 1, row, h + 1, r, hr, e => by
    rw [lev, List.getElem?_cons_succ] at e
    obtain ⟨a, b⟩ := lev_get f d (halve f row) h r (by rw [halve_len, hr, Nat.pow_succ]; omega) e
    exact ⟨by omega, by rw [b]; congr 1; omega⟩
theorem sib_lt {j d : Nat} (h : j < 2 ^ d) (hd : 1 ≤ d) : sib j < 2 ^ d := by
  obtain ⟨e, rfl⟩ : ∃ e, d = e + 1 := ⟨d - 1, by omega⟩
  unfold sib
  rw [Nat.pow_succ] at h ⊢
  omega
theorem div_lt_pow {i d h : Nat} (hi : i < 2 ^ d) (hh : h ≤ d) : i / 2 ^ h < 2 ^ (d - h) := by
  rw [Nat.div_lt_iff_lt_mul (Nat.pow_pos (by decide)), ← Nat.pow_add]
  rwa [Nat.sub_add_cancel hh]
theorem xor1 (i : Nat) : Builtin.bitXor (i : Int) 1 = ((sib i : Nat) : Int) := by
  rw [PyProof.Rows.bitXor_and, bit1 (by omega)]
  unfold sib
  omega
theorem rows_len (f : List Int → List Int) (ps : List (List Int)) : (rows f ps).length = dep ps.length + 1 := lev_len _ _ _
theorem rows_get {f : List Int → List Int} {ps : List (List Int)} {h : Nat} {r : List (List Int)} (e : (rows f ps)[h]? = some r) : h ≤ dep ps.length ∧ r.length = 2 ^ (dep ps.length - h) := lev_get f _ _ h r (row0_len f ps) e
theorem prf_in {f : List Int → List Int} {ps : List (List Int)} {i h : Nat} (hi : i < ps.length) (hh : h < dep ps.length) : ∃ r o, (rows f ps)[h]? = some r ∧ r[sib (i / 2 ^ h)]? = some o ∧ ((rows f ps).getD h []).getD (sib (i / 2 ^ h)) [] = o := by
  have hl : h < (rows f ps).length := by rw [rows_len]; omega
  have e := List.getElem?_eq_getElem hl
  obtain ⟨a, b⟩ := rows_get e
  have hi2 : i < 2 ^ dep ps.length := Nat.lt_of_lt_of_le hi (dep_le _)
  have hs : sib (i / 2 ^ h) < ((rows f ps)[h]).length := by rw [b]; exact sib_lt (div_lt_pow hi2 a) (by omega)
  refine ⟨_, _, e, List.getElem?_eq_getElem hs, ?_⟩
  simp [List.getD_eq_getElem?_getD, e, List.getElem?_eq_getElem hs]
theorem enumF_dropLast {α : Type} (h : α → D) (xs : List α) : (xs.map h).length = xs.length := by simp
theorem cut_m1 {α : Type} (xs : List α) (hx : xs ≠ []) : cutD xs none (some (-1)) = xs.dropLast := by
  unfold cutD
  rw [HT.sIx_none, List.drop_zero, Nat.sub_zero]
  have hp : 0 < xs.length := List.length_pos_iff.mpr hx
  have : HT.sIx xs.length xs.length (some (-1)) = xs.length - 1 := by
    show (if (-1 : Int) < 0 then ((-1 : Int) + (xs.length : Int)).toNat else min (-1 : Int).toNat xs.length) = _
    rw [if_pos (by decide)]
    omega
  rw [this, List.dropLast_eq_take]
theorem enumF_eq (xs : List D) : ∀ k : Nat, enumF k xs = (List.range xs.length).map fun i => .tup [.int ((k + i : Nat) : Int), xs.getD i .non] := fun k => by
  refine List.ext_getElem? fun i => ?_
  rw [enumF_get, List.getElem?_map]
  by_cases hi : i < xs.length
  · rw [List.getElem?_range hi, List.getElem?_eq_getElem hi]
    simp [List.getElem?_eq_getElem hi]
  · rw [List.getElem?_eq_none (by omega), List.getElem?_eq_none (by simp; omega)]
    rfl
theorem loop_proofs (n : Nat) (d : Sl) (ps : List (List Int)) (hp : ps.length ≤ 5000) (x0 : Sl) (Po : Post) (Om : N.Om) : ∀ (m k : Nat) (y4 : Sl), k + m = ps.length →
    (∀ y4, Po.nx [x0, d, .val (rowsD (rows (dig n) ps)), .own (.lst ((List.range ps.length).map fun i => osD (prf (rows (dig n) ps) i))), y4, .no, .no] Om) →
    wForL (fName 4) w_proofs_b1 ((List.range' k m).map fun (i : Nat) => .int (i : Int)) [x0, d, .val (rowsD (rows (dig n) ps)), .own (.lst ((List.range k).map fun i => osD (prf (rows (dig n) ps) i))), y4, .no, .no] Om Po
  | 0, k, y4, hk, h => by
    have : k = ps.length := by omega
    subst this
    exact h y4
  | m + 1, k, y4, hk, h => by
    rw [List.range'_succ, List.map_cons]
    simp only [wForL]
    tm_at "nw"
    have h20 : dep ps.length ≤ 20 := dep_20 (by omega)
    have hne : ((rows (dig n) ps).map fun r => lsD r) ≠ [] := fun z => by
      have := congrArg List.length z
      rw [List.length_map, rows_len] at this
      simp at this
    rw [cut_m1 _ hne, enumF_eq]
    have hlen : ((rows (dig n) ps).map fun r => lsD r).dropLast.length = dep ps.length := by rw [List.length_dropLast, List.length_map, rows_len]; omega
    rw [hlen]
    refine turns_mapA (fun (i : Nat) => D.tup [.int ((0 + i : Nat) : Int), ((rows (dig n) ps).map fun r => lsD r).dropLast.getD i .non]) (fun i => oD (((rows (dig n) ps).getD i []).getD (sib (k / 2 ^ i)) [])) (List.range (dep ps.length)) [] (by simp; omega) (fun i hi K hK => ?_) ?_
    · have hi := List.mem_range.mp hi
      obtain ⟨r, o, e1, e2, e3⟩ := prf_in (f := dig n) (ps := ps) (i := k) (by omega) hi
      rw [e3] at hK
      have e4 : ((rows (dig n) ps).map fun r => lsD r).dropLast.getD i .non = lsD r := by
        rw [List.getD_eq_getElem?_getD, List.getElem?_dropLast, if_pos (by rw [List.length_map, rows_len]; omega), List.getElem?_map, e1]
        rfl
      rw [e4]
      tm_at "nw"
      refine ⟨by omega, ?_⟩
      have e5 : Builtin.bitXor ((k : Int) / 2 ^ ((0 + i : Nat) : Int).toNat) 1 = ((sib (k / 2 ^ i) : Nat) : Int) := by
        rw [show ((0 + i : Nat) : Int).toNat = i by omega, show (k : Int) / 2 ^ i = ((k / 2 ^ i : Nat) : Int) by simp, xor1]
      rw [e5]
      exact gIx_list (j := sib (k / 2 ^ i)) rfl (by rw [List.getElem?_map, e2]; rfl) hK
    · tm_at "nw"
      refine ⟨by simp; omega, ?_⟩
      have e6 : (List.range k).map (fun i => osD (prf (rows (dig n) ps) i)) ++ [D.tup ([] ++ (List.range (dep ps.length)).map fun i => oD (((rows (dig n) ps).getD i []).getD (sib (k / 2 ^ i)) []))] = (List.range (k + 1)).map fun i => osD (prf (rows (dig n) ps) i) := by
        rw [List.range_succ, List.map_append, List.nil_append]
        simp [prf, rows_len, List.map_map, Function.comp_def]
      rw [e6]
      exact loop_proofs n d ps hp x0 Po Om m (k + 1) _ (by omega) h
theorem rngL_nat (n : Nat) : rngL 0 n = (List.range' 0 n).map fun (i : Nat) => D.int (i : Int) := by
  rw [rngL, List.range_eq_range']
  exact List.map_congr_left fun i _ => by rw [Int.zero_add]
theorem m_proofs (ds : List D) (Om : N.Om) (Q : D → N.Om → Prop) (R : RX) (hl : ds.length = 2) (h : sp_proofs ds Om Q R) : wFn 7 w_proofs ds Om Q R := by
  obtain ⟨d, ps, n, rfl, hd, hs, h1, h8, q⟩ := h
  unfold w_proofs
  tm_at "nw"
  refine ⟨d, ps, n, rfl, hd, hs, h1, h8, by decide, ?_⟩
  have hlen : ∀ K : D → Prop, K (.int (ps.length : Int)) → gLen [d] K := fun K k => by
    rcases hd with rfl | rfl
    · rw [gLen_t, List.length_map]; exact k
    · rw [gLen_l, List.length_map]; exact k
  refine hlen _ ?_
  tm_at "nw"
  have := hs.1
  refine ⟨by omega, ?_⟩
  rw [show ((ps.length : Nat) : Int).toNat = ps.length by omega, rngL_nat]
  refine loop_proofs n _ ps this _ _ _ ps.length 0 _ (by omega) fun y4 => ?_
  tm_at "nw"
  exact q
end N

set_option Elab.async false
set_option linter.all false
set_option maxRecDepth 100000
set_option maxHeartbeats 0
namespace N
open PySem PySem.Spec PyProof.Rows L2
local macro_rules | `(tactic| tm_at "nw") => `(tactic| try simp only [wFn, startG_c, startG_n, startG_z, wSeq, wSet, wC, wFor, wIt, wVar, wVarB, getSl_z, getSl_s, List.set_cons_zero, List.set_cons_succ, wRet, wBin, gI_i, gI0_i, gB0_i, gAdd_i, gAdd_t, gAdd_l, gAdd_s, gMul_i, gMul_t, gMul_l, gEq_, gNe_, gIs_n, gIs_b, gIsNot_n, gIsNot_b, isNon_n, isNon_i, isNon_b, isNon_t, isNon_l, isNon_s, wIfS, wtOr, wtAnd, wtNot, wTst, wNext, wNev, wCall, wCallF, wFrz, wLst, wTup, waNil, waCons, wComp, wRng, gRng1_i, gRng2_i, gRng3_i, wUn, gNeg_i, gTuple_t, gTuple_l, gList_t, gList_l, gList_s, gLen_t, gLen_l, gLen_s, gLen_d, gInt_i, gInt_b, gAbs_i, gMax_i, gMin_i, wipeG, MO.see, fName, wCallU, wCallK, List.append_nil, List.length_cons, List.length_nil, wSl, woNone, woSome, gSl_t, gSl_l, gIt_t, gIt_l, gIt_s, gIsi_i, gIsi_b, gIsi_t, gIsi_l, gIsi_s, gIsi_n, gIsi_d, wFld, wMeth, wMake, wMakeF, wSetF, wExt, wFz, wRev, wRaise, wTry, wBits, insOf_ins, lk_kind, lk_size, lk_digest, lk_is_digest, gEnum_t, gEnum_l, gZip_t, gZip_l, mem1, reduceCtorEq, eq_self, wAsg, fTup, fCons, fNil, wAnd, wOr, wNot, wIf, wPar, wAug, wApp, wSetO, wRetO, br_t, br_f, shp_int, shp_bl, shp_non, deq_int, gAll_b, gAny_b, gSum_i, wDrop, wRetN, true_and, and_true, decide_true, decide_false, Bool.not_true, Bool.not_false, isi_NoneType_bool, isi_NoneType_int, isi_NoneType_str, isi_NoneType_tuple, isi_NoneType_list, isi_NoneType_dict, isi_bool_bool, isi_bool_int, isi_bool_str, isi_bool_tuple, isi_bool_list, isi_bool_dict, isi_int_bool, isi_int_int, isi_int_str, isi_int_tuple, isi_int_list, isi_int_dict, isi_str_bool, isi_str_int, isi_str_str, isi_str_tuple, isi_str_list, isi_str_dict, isi_tuple_bool, isi_tuple_int, isi_tuple_str, isi_tuple_tuple, isi_tuple_list, isi_tuple_dict, isi_list_bool, isi_list_int, isi_list_str, isi_list_tuple, isi_list_list, isi_list_dict, isi_dict_bool, isi_dict_int, isi_dict_str, isi_dict_tuple, isi_dict_list, isi_dict_dict, okTy_bool, okTy_int, okTy_str, okTy_tuple, okTy_list, okTy_dict])
local macro_rules | `(tactic| tm_at "nc") => `(tactic| first | exact True.intro | omega | exact mulL (by omega) (by omega) | exact mulR (by omega) (by omega) | exact divOk (by omega) (by omega) | (simp only [List.length_append, List.length_map, List.length_cons, List.length_nil, List.length_replicate, List.length_flatten, List.map_replicate, List.sum_replicate_nat, List.length_range, rngL_len, rngC_len, List.cons_append, List.nil_append]; first | done | omega))
local macro_rules | `(tactic| tm_at "ns") => `(tactic| repeat (with_reducible refine And.intro (by first | tm_at "nc" | exact ⟨by tm_at "nc", by tm_at "nc"⟩ | exact ⟨by tm_at "nc", by tm_at "nc", by tm_at "nc"⟩ | exact ⟨by tm_at "nc", by tm_at "nc", by tm_at "nc", by tm_at "nc"⟩) ?_))
theorem zipF_os : ∀ as bs : List (List Int), zipF (as.map oD) (bs.map oD) = (as.zip bs).map fun ab => .tup [oD ab.1, oD ab.2]
  | [], bs => by simp [zipF]
  | a :: as, [] => by simp [zipF]
  | a :: as, b :: bs => by simp only [List.map_cons, zipF, List.zip_cons_cons, zipF_os as bs]
def partZ (f : List Int → List Int) : List (List Int × List Int) → Option (List Int × List Int)
  | [] => none
  | (a, b) :: r => if a ≠ b ∧ f a = f b then some (a, b) else partZ f r
theorem part_zip (f : List Int → List Int) : ∀ as bs, part f as bs = partZ f (as.zip bs)
  | [], bs => by simp [part, partZ]
  | a :: as, [] => by simp [part, partZ]
  | a :: as, b :: bs => by rw [part, List.zip_cons_cons, partZ, part_zip f as bs]
theorem loop_parted (n : Nat) (h1 : 1 ≤ n) (h8 : n ≤ 8) (x1 x2 x3 x4 x5 : Sl) (Po : Post) (Om : N.Om) : ∀ (zs : List (List Int × List Int)) (y6 y7 : Sl), (∀ r, partZ (dig n) zs = some r → Po.rt (.tup [oD r.1, oD r.2]) Om) → (partZ (dig n) zs = none → ∀ y6 y7, Po.nx [.val (hsh n), x1, x2, x3, x4, x5, y6, y7] Om) →
    wForL (fTup 2 (fCons (fName 6) (fCons (fName 7) fNil))) w_parted_b1 (zs.map fun ab => .tup [oD ab.1, oD ab.2]) [.val (hsh n), x1, x2, x3, x4, x5, y6, y7] Om Po
  | [], y6, y7, _, h => h rfl y6 y7
  | (a, b) :: r, y6, y7, hs, hn => by
    simp only [List.map_cons, wForL]
    tm_at "nw"
    refine ⟨shp_tints _, shp_tints _, ?_⟩
    rw [deq_tints]
    have next : (¬ (a ≠ b ∧ dig n a = dig n b)) → wForL (fTup 2 (fCons (fName 6) (fCons (fName 7) fNil))) w_parted_b1 (r.map fun ab => .tup [oD ab.1, oD ab.2]) [.val (hsh n), x1, x2, x3, x4, x5, .val (oD a), .val (oD b)] Om Po := fun z => by
      refine loop_parted n h1 h8 x1 x2 x3 x4 x5 Po Om r _ _ (fun t ht => hs t ?_) fun ht => hn ?_
      · rw [partZ, if_neg z]; exact ht
      · rw [partZ, if_neg z]; exact ht
    by_cases e : a = b
    · rw [decide_eq_true e]
      tm_at "nw"
      exact next fun z => z.1 e
    · rw [decide_eq_false e]
      tm_at "nw"
      refine ⟨a, n, rfl, h1, h8, b, n, rfl, h1, h8, shp_tints _, shp_tints _, ?_⟩
      rw [deq_tints]
      refine br_d (fun e2 => ?_) fun e2 => next fun z => e2 z.2
      exact ⟨by decide, hs (a, b) (by rw [partZ, if_pos ⟨e, e2⟩])⟩
theorem prf_len {f : List Int → List Int} {ps : List (List Int)} {i : Nat} : (prf (rows f ps) i).length = dep ps.length := by
  unfold prf
  rw [List.length_map, List.length_range, rows_len]
  omega
theorem lev_in (f : List Int → List Int) : ∀ (d : Nat) (row : List (List Int)), (∀ o ∈ row, ∃ t, o = f t) → ∀ r ∈ lev f d row, ∀ o ∈ r, ∃ t, o = f t
  | 0, row, h, r, hr, o, ho => by
    rw [lev, List.mem_singleton] at hr
    subst hr
    exact h o ho
  | d + 1, row, h, r, hr, o, ho => by
    rw [lev, List.mem_cons] at hr
    rcases hr with rfl | hr
    · exact h o ho
    · exact lev_in f d (halve f row) (fun o ho => halve_mem ho) r hr o ho
theorem rows_in {f : List Int → List Int} {ps : List (List Int)} : ∀ r ∈ rows f ps, ∀ o ∈ r, ∃ t, o = f t := by
  refine lev_in f _ _ fun o ho => ?_
  unfold row0 at ho
  rcases List.mem_append.mp ho with h | h
  · obtain ⟨p, _, rfl⟩ := List.mem_map.mp h
    exact ⟨_, rfl⟩
  · exact ⟨_, (List.mem_replicate.mp h).2⟩
theorem prf_mem {f : List Int → List Int} {ps : List (List Int)} {i : Nat} (hi : i < ps.length) : ∀ o ∈ prf (rows f ps) i, ∃ t, o = f t := fun o ho => by
  unfold prf at ho
  obtain ⟨h, hh, rfl⟩ := List.mem_map.mp ho
  have hh := List.mem_range.mp hh
  rw [rows_len] at hh
  obtain ⟨r, o, e1, e2, e3⟩ := prf_in (f := f) (ps := ps) (i := i) (h := h) hi (by omega)
  rw [e3]
  exact rows_in r (List.mem_of_getElem? e1) o (List.mem_of_getElem? e2)
theorem m_parted (ds : List D) (Om : N.Om) (Q : D → N.Om → Prop) (R : RX) (hl : ds.length = 5) (h : sp_parted ds Om Q R) : wFn 8 w_parted ds Om Q R := by
  obtain ⟨n, ps, i, p, pr, rfl, hi, hs, hps, hp, hp2, hpl, hpr, h1, h8, qr, q⟩ := h
  unfold w_parted
  tm_at "nw"
  have hs1 := hs.1
  refine ⟨_, ps, n, rfl, .inl rfl, hs, h1, h8, ?_⟩
  tm_at "nw"
  refine ⟨n, _, ps.length, i, p, pr, by rw [List.length_map], hi, by omega, hp, hp2, hpl, hpr, h1, h8, ?_⟩
  tm_at "nw"
  by_cases e : fold (dig n) i p pr = topR (rows (dig n) ps)
  · simp only [decide_eq_true e, Bool.not_true, br_f]
    have ei : ps[i]? = some ps[i] := List.getElem?_eq_getElem hi
    have egd : ps.getD i [] = ps[i] := by simp [List.getD_eq_getElem?_getD, ei]
    have h20 : dep ps.length ≤ 20 := dep_20 (by omega)
    refine gIx_tup (j := i) rfl (by rw [List.getElem?_map, ei]; rfl) ?_
    refine ⟨_, ps, n, rfl, .inl rfl, hs, h1, h8, ?_⟩
    refine gIx_tup (j := i) rfl (by rw [List.getElem?_map, List.getElem?_range hi]; rfl) ?_
    refine ⟨i, ps[i], prf (rows (dig n) ps) i, n, rfl, hs.2 _ (List.getElem_mem hi), fun o ho => ?_, by rw [prf_len]; omega, h1, h8, ?_⟩
    · obtain ⟨t, rfl⟩ := prf_mem hi o ho
      rw [dig_len]; omega
    refine ⟨i, p, pr, n, rfl, hp2, fun o ho => by have := (hpr o ho).2; omega, by omega, h1, h8, ?_⟩
    tm_at "nw"
    rw [zipF_os]
    have q := q e
    rw [egd, part_zip] at q
    refine loop_parted n h1 h8 _ _ _ _ _ _ _ _ _ _ (fun r hr => ?_) fun hn y6 y7 => ?_
    · rw [hr] at q
      exact q
    · rw [hn] at q
      exact q
  · simp only [decide_eq_false e, Bool.not_false, br_t]
    exact qr e
theorem m__law_cell (ds : List D) (Om : N.Om) (Q : D → N.Om → Prop) (R : RX) (hl : ds.length = 2) (h : sp__law_cell ds Om Q R) : wFn 2 w__law_cell ds Om Q R := by
  obtain ⟨ns, k, rfl, q⟩ := h
  unfold w__law_cell
  tm_at "nw"
  refine br_d (fun e => ?_) (fun e => q _)
  have hk : k < ns.length := by omega
  exact gIx_scr (j := k) rfl (List.getElem?_eq_getElem hk) (q _)
theorem m__law_rich (ds : List D) (Om : N.Om) (Q : D → N.Om → Prop) (R : RX) (hl : ds.length = 2) (h : sp__law_rich ds Om Q R) : wFn 3 w__law_rich ds Om Q R := by
  obtain ⟨c, k, rfl, hk, q⟩ := h
  unfold w__law_rich
  tm_at "nw"
  refine ⟨⟨by decide, by decide, by decide⟩, br_d (fun e => ?_) (fun e => ?_)⟩
  · refine q _ ?_
    have : (10 : Int) ^ (18 : Int).toNat = 1000000000000000000 := by decide
    omega
  · have e0 := Int.emod_nonneg (c * 48271 + (k : Int) * 69621 + 11) (show (2147483647 : Int) ≠ 0 by decide)
    have e1 := Int.emod_lt_of_pos (c * 48271 + (k : Int) * 69621 + 11) (show (0 : Int) < 2147483647 by decide)
    tm_at "ns"
    have e2 := Int.emod_nonneg ((c * 48271 + (k : Int) * 69621 + 11) % 2147483647 * 16807 + c) (show (2147483629 : Int) ≠ 0 by decide)
    exact q _ (by omega)
end N

set_option Elab.async false
set_option linter.all false
set_option maxRecDepth 100000
set_option maxHeartbeats 0
namespace N
open PySem PySem.Spec PyProof.Rows L2
local macro_rules | `(tactic| tm_at "nw") => `(tactic| try simp only [wFn, startG_c, startG_n, startG_z, wSeq, wSet, wC, wFor, wIt, wVar, wVarB, getSl_z, getSl_s, List.set_cons_zero, List.set_cons_succ, wRet, wBin, gI_i, gI0_i, gB0_i, gAdd_i, gAdd_t, gAdd_l, gAdd_s, gMul_i, gMul_t, gMul_l, gEq_, gNe_, gIs_n, gIs_b, gIsNot_n, gIsNot_b, isNon_n, isNon_i, isNon_b, isNon_t, isNon_l, isNon_s, wIfS, wtOr, wtAnd, wtNot, wTst, wNext, wNev, wCall, wCallF, wFrz, wLst, wTup, waNil, waCons, wComp, wRng, gRng1_i, gRng2_i, gRng3_i, wUn, gNeg_i, gTuple_t, gTuple_l, gList_t, gList_l, gList_s, gLen_t, gLen_l, gLen_s, gLen_d, gInt_i, gInt_b, gAbs_i, gMax_i, gMin_i, wipeG, MO.see, fName, wCallU, wCallK, List.append_nil, List.length_cons, List.length_nil, wSl, woNone, woSome, gSl_t, gSl_l, gIt_t, gIt_l, gIt_s, gIsi_i, gIsi_b, gIsi_t, gIsi_l, gIsi_s, gIsi_n, gIsi_d, wFld, wMeth, wMake, wMakeF, wSetF, wExt, wFz, wRev, wRaise, wTry, wBits, insOf_ins, lk_kind, lk_size, lk_digest, lk_is_digest, gEnum_t, gEnum_l, gZip_t, gZip_l, mem1, reduceCtorEq, eq_self, wAsg, fTup, fCons, fNil, wAnd, wOr, wNot, wIf, wPar, wAug, wApp, wSetO, wRetO, br_t, br_f, shp_int, shp_bl, shp_non, deq_int, gAll_b, gAny_b, gSum_i, wDrop, wRetN, true_and, and_true, decide_true, decide_false, Bool.not_true, Bool.not_false, isi_NoneType_bool, isi_NoneType_int, isi_NoneType_str, isi_NoneType_tuple, isi_NoneType_list, isi_NoneType_dict, isi_bool_bool, isi_bool_int, isi_bool_str, isi_bool_tuple, isi_bool_list, isi_bool_dict, isi_int_bool, isi_int_int, isi_int_str, isi_int_tuple, isi_int_list, isi_int_dict, isi_str_bool, isi_str_int, isi_str_str, isi_str_tuple, isi_str_list, isi_str_dict, isi_tuple_bool, isi_tuple_int, isi_tuple_str, isi_tuple_tuple, isi_tuple_list, isi_tuple_dict, isi_list_bool, isi_list_int, isi_list_str, isi_list_tuple, isi_list_list, isi_list_dict, isi_dict_bool, isi_dict_int, isi_dict_str, isi_dict_tuple, isi_dict_list, isi_dict_dict, okTy_bool, okTy_int, okTy_str, okTy_tuple, okTy_list, okTy_dict])
local macro_rules | `(tactic| tm_at "nc") => `(tactic| first | exact True.intro | omega | exact mulL (by omega) (by omega) | exact mulR (by omega) (by omega) | exact divOk (by omega) (by omega) | (simp only [List.length_append, List.length_map, List.length_cons, List.length_nil, List.length_replicate, List.length_flatten, List.map_replicate, List.sum_replicate_nat, List.length_range, rngL_len, rngC_len, List.cons_append, List.nil_append]; first | done | omega))
local macro_rules | `(tactic| tm_at "ns") => `(tactic| repeat (with_reducible refine And.intro (by first | tm_at "nc" | exact ⟨by tm_at "nc", by tm_at "nc"⟩ | exact ⟨by tm_at "nc", by tm_at "nc", by tm_at "nc"⟩ | exact ⟨by tm_at "nc", by tm_at "nc", by tm_at "nc", by tm_at "nc"⟩) ?_))
theorem lay_os (ps : List (List Int)) : PyData.canLayAll0 (toPys (ps.map oD)) = true := by
  induction ps with
  | nil => rfl
  | cons p r ih => simp only [List.map_cons, toPys, toPy, PyData.canLayAll0, PyData.canLay0, ih, lay_ints, Bool.and_self]
theorem depth_os (ps : List (List Int)) : PyData.depthAll (toPys (ps.map oD)) ≤ 1 := by
  induction ps with
  | nil => simp [toPys, PyData.depthAll]
  | cons p r ih => simp only [List.map_cons, toPys, toPy, PyData.depthAll, PyData.depth, depth_ints]; omega
theorem shp_osD (ps : List (List Int)) : shp (osD ps) = true := by
  have := depth_os ps
  simp [shp, SeqAt.shaped, toPy, PyData.canLay0, PyData.depth, lay_os]
  omega
theorem shp_lsD (ps : List (List Int)) : shp (lsD ps) = true := by
  have := depth_os ps
  simp [shp, SeqAt.shaped, toPy, PyData.canLay0, PyData.depth, lay_os]
  omega
theorem shp_oo (a b : List Int) : shp (.tup [oD a, oD b]) = true := shp_osD [a, b]
theorem eqv_os (ps qs : List (List Int)) : PyData.eqvAll (toPys (ps.map oD)) (toPys (qs.map oD)) = decide (ps = qs) := by
  induction ps generalizing qs with
  | nil => cases qs <;> simp [toPys, PyData.eqvAll]
  | cons p r ih =>
    cases qs with
    | nil => simp [toPys, PyData.eqvAll]
    | cons q s =>
      simp only [List.map_cons, toPys, PyData.eqvAll, ih, toPy, PyData.eqv, eqv_ints]
      by_cases h : p = q <;> by_cases h2 : r = s <;> simp [h, h2]
theorem deq_osD (ps qs : List (List Int)) : deq (osD ps) (osD qs) = decide (ps = qs) := by
  simp only [deq, toPy, PyData.eqv, eqv_os]
theorem deq_lsD (ps qs : List (List Int)) : deq (lsD ps) (lsD qs) = decide (ps = qs) := by
  simp only [deq, toPy, PyData.eqv, eqv_os]
theorem deq_bl (a b : Bool) : deq (.bl a) (.bl b) = (a == b) := by cases a <;> cases b <;> rfl
theorem gIsi2 {x : D} {a t1 t2 : String} {Q : D → Prop} (h : tyS x = some a) (h1 : okTy t1 = true) (h2 : okTy t2 = true) (q : Q (.bl (isiS a t1 || isiS a t2))) : gIsi [x, .tup [.ty t1, .ty t2]] Q := by
  simp only [gIsi, h, tyL, h1, h2, if_true, Option.map_some]
  simpa using q
end N

set_option Elab.async false
set_option linter.all false
set_option maxRecDepth 100000
/-! CS2: promises of the tape's defs -/
namespace N
open PySem PySem.Spec PyProof.Rows L2
def Tp (Om : Om) (a : Addr) : Prop := Om a = some (.abs 0)
def sp__law_tape : DSp := fun ds Om Q _ => ∃ ns : List Int, ds = [.scr ns] ∧ ns.length ≤ 63 ∧ ∀ a, Om a = none → Q (.ref a) (putO Om a (.abs 0))
abbrev sp__law_draw : DSp := sp_draw
def seqV : D → Option (List D)
  | .lst xs => some xs
  | .tup xs => some xs
  | _ => none
def sp__law_pick : DSp := fun ds Om Q _ => ∃ (a : Addr) (d : D) (xs : List D), ds = [.ref a, d] ∧ seqV d = some xs ∧ Tp Om a ∧ 0 < xs.length ∧ xs.length < 1000000 ∧ ∀ x ∈ xs, Q x Om
def sp__law_octets : DSp := fun ds Om Q _ => ∃ (a : Addr) (n : Nat), ds = [.ref a, .int n] ∧ Tp Om a ∧ n ≤ 1000000 ∧ ∀ os, os.length = n → Oct os → Q (oD os) Om
end N

set_option Elab.async false
set_option linter.all false
set_option maxRecDepth 100000
namespace N
open PySem PySem.Spec PyProof.Rows L2
abbrev w__law_tape_b1 : WS := (wSet 1 (wBin (gMod) (wCall gInt (waCons (wBin (gAdd) (wBin (gMul) (wVarB 1) (wC (.int 31))) (wVarB 2)) waNil)) (wC (.int 1000003))))
def w__law_tape : WS := (wSeq (wSet 1 (wC (.int 7)))
  (wSeq (wFor (wIt (wVar 0)) (fName 2) (w__law_tape_b1))
  (wRetTape (wComp (wIt (wVarB 0)) (fName 2) wtYes (wCall gAbs (waCons (wCall gInt (waCons (wVarB 2) waNil)) waNil)) [2]) (wBin (gAdd) (wVarB 1) (wC (.int 1))))))
abbrev w__law_draw_b1 : WS := (wDrop (wPopS (wVar 2) (wC (.int 0))))
def w__law_draw : WS := (wSeq (wSet 2 (wIxS (wVar 0) (wC (.int 0))))
  (wSeq (wWh (wtAnd (wTst (wBin (gGt) (wLenS (wVar 2)) (wC (.int 0)))) (wTst (wBin (gEq) (wIxS (wVar 2) (wC (.int 0))) (wC (.int 0))))) (w__law_draw_b1))
  (wSeq (wIfS (wTst (wBin (gGt) (wLenS (wVar 2)) (wC (.int 0)))) (wSeq (wSet 3 (wIxS (wVar 2) (wC (.int 0))))
  (wSeq (wSetIxS (wBin (gDiv) (wVarB 3) (wVarB 1)) (wVar 2) (wC (.int 0)))
  (wRet (wBin (gMod) (wCall gInt (waCons (wVarB 3) waNil)) (wVarB 1))))) wNext)
  (wSeq (wSetIxS (wBin (gMod) (wCall gInt (waCons (wBin (gAdd) (wBin (gMul) (wIxS (wVar 0) (wC (.int 1))) (wC (.int 48271))) (wC (.int 12345))) waNil)) (wC (.int 2147483647))) (wVar 0) (wC (.int 1)))
  (wRet (wBin (gMod) (wCall gInt (waCons (wBin (gDiv) (wIxS (wVar 0) (wC (.int 1))) (wC (.int 64))) waNil)) (wVarB 1)))))))
def w__law_pick : WS := (wRet (wBin gIx (wVarB 1) (wCallU 2 sp__law_draw [] (waCons (wVar 0) (waCons (wCall gLen (waCons (wVarB 1) waNil)) waNil)))))
def w__law_octets : WS := (wSeq (wSet 2 (wCallU 2 sp__law_pick [] (waCons (wVar 0) (waCons (wFrz (wLst (waCons (wC (.int 2)) (waCons (wC (.int 256)) waNil)))) waNil))))
  (wRet (wCall gTuple (waCons (wFrz (wComp (wRng gRng1 (waCons (wVar 1) waNil)) (fName 3) wtYes (wCallU 2 sp__law_draw [] (waCons (wVar 0) (waCons (wVar 2) waNil))) [3])) waNil))))
end N

set_option Elab.async false
set_option linter.all false
set_option maxRecDepth 100000
set_option maxHeartbeats 0
namespace N
open PySem PySem.Spec PyProof.Rows L2
local macro_rules | `(tactic| tm_at "nw") => `(tactic| try simp only [wFn, startG_c, startG_n, startG_z, wSeq, wSet, wC, wFor, wIt, wVar, wVarB, getSl_z, getSl_s, List.set_cons_zero, List.set_cons_succ, wRet, wBin, gI_i, gI0_i, gB0_i, gAdd_i, gAdd_t, gAdd_l, gAdd_s, gMul_i, gMul_t, gMul_l, gEq_, gNe_, gIs_n, gIs_b, gIsNot_n, gIsNot_b, isNon_n, isNon_i, isNon_b, isNon_t, isNon_l, isNon_s, wIfS, wtOr, wtAnd, wtNot, wTst, wNext, wNev, wCall, wCallF, wFrz, wLst, wTup, waNil, waCons, wComp, wRng, gRng1_i, gRng2_i, gRng3_i, wUn, gNeg_i, gTuple_t, gTuple_l, gList_t, gList_l, gList_s, gLen_t, gLen_l, gLen_s, gLen_d, gInt_i, gInt_b, gAbs_i, gMax_i, gMin_i, wipeG, MO.see, fName, wCallU, wCallK, List.append_nil, List.length_cons, List.length_nil, wSl, woNone, woSome, gSl_t, gSl_l, gIt_t, gIt_l, gIt_s, gIsi_i, gIsi_b, gIsi_t, gIsi_l, gIsi_s, gIsi_n, gIsi_d, wFld, wMeth, wMake, wMakeF, wSetF, wExt, wFz, wRev, wRaise, wTry, wBits, insOf_ins, lk_kind, lk_size, lk_digest, lk_is_digest, gEnum_t, gEnum_l, gZip_t, gZip_l, mem1, reduceCtorEq, eq_self, wAsg, fTup, fCons, fNil, wAnd, wOr, wNot, wIf, wPar, wAug, wApp, wSetO, wRetO, br_t, br_f, shp_int, shp_bl, shp_non, deq_int, gAll_b, gAny_b, gSum_i, wDrop, wRetN, true_and, and_true, decide_true, decide_false, Bool.not_true, Bool.not_false, isi_NoneType_bool, isi_NoneType_int, isi_NoneType_str, isi_NoneType_tuple, isi_NoneType_list, isi_NoneType_dict, isi_bool_bool, isi_bool_int, isi_bool_str, isi_bool_tuple, isi_bool_list, isi_bool_dict, isi_int_bool, isi_int_int, isi_int_str, isi_int_tuple, isi_int_list, isi_int_dict, isi_str_bool, isi_str_int, isi_str_str, isi_str_tuple, isi_str_list, isi_str_dict, isi_tuple_bool, isi_tuple_int, isi_tuple_str, isi_tuple_tuple, isi_tuple_list, isi_tuple_dict, isi_list_bool, isi_list_int, isi_list_str, isi_list_tuple, isi_list_list, isi_list_dict, isi_dict_bool, isi_dict_int, isi_dict_str, isi_dict_tuple, isi_dict_list, isi_dict_dict, okTy_bool, okTy_int, okTy_str, okTy_tuple, okTy_list, okTy_dict])
local macro_rules | `(tactic| tm_at "nc") => `(tactic| first | exact True.intro | omega | exact mulL (by omega) (by omega) | exact mulR (by omega) (by omega) | exact divOk (by omega) (by omega) | (simp only [List.length_append, List.length_map, List.length_cons, List.length_nil, List.length_replicate, List.length_flatten, List.map_replicate, List.sum_replicate_nat, List.length_range, rngL_len, rngC_len, List.cons_append, List.nil_append]; first | done | omega))
local macro_rules | `(tactic| tm_at "ns") => `(tactic| repeat (with_reducible refine And.intro (by first | tm_at "nc" | exact ⟨by tm_at "nc", by tm_at "nc"⟩ | exact ⟨by tm_at "nc", by tm_at "nc", by tm_at "nc"⟩ | exact ⟨by tm_at "nc", by tm_at "nc", by tm_at "nc", by tm_at "nc"⟩) ?_))
theorem tpO_self {O : Om} {a c : Addr} {cs : List Int} {s : Int} (h : O a = some (.lst [.ref c, .int s])) (h2 : O c = some (.lst (cs.map .int))) : tpO O a c cs s = O := funext fun b => by
  unfold tpO putO
  by_cases e : b = c
  · rw [if_pos e, e, h2]
  · rw [if_neg e]
    by_cases e2 : b = a
    · rw [if_pos e2, e2, h]
    · rw [if_neg e2]
theorem tpO_setC {O : Om} {a c : Addr} {cs cs' : List Int} {s : Int} : putO (tpO O a c cs s) c (.lst (cs'.map .int)) = tpO O a c cs' s := putO_put
theorem tpO_setA {O : Om} {a c : Addr} {cs : List Int} {s s' : Int} (h : a ≠ c) : putO (tpO O a c cs s) a (.lst [.ref c, .int s']) = tpO O a c cs s' := funext fun b => by
  unfold tpO putO
  by_cases e : b = a
  · subst e
    rw [if_pos rfl, if_neg h, if_pos rfl]
  · rw [if_neg e]
    by_cases e2 : b = c
    · rw [if_pos e2, if_pos e2]
    · rw [if_neg e2, if_neg e2, if_neg e, if_neg e]
theorem tpO_tp {O : Om} {a c : Addr} {cs cs2 : List Int} {s s2 : Int} : tpO (tpO O a c cs s) a c cs2 s2 = tpO O a c cs2 s2 := funext fun b => by
  unfold tpO putO
  by_cases e : b = c
  · rw [if_pos e, if_pos e]
  · rw [if_neg e, if_neg e]
    by_cases e2 : b = a
    · rw [if_pos e2, if_pos e2, if_neg e]
    · rw [if_neg e2, if_neg e2, if_neg e, if_neg e2]
theorem atI_0 {x : D} {xs : List D} : atI (x :: xs) 0 = some x := by simp [atI, ixN]
theorem lenS_v {G : Gam} {Om : N.Om} {Q : D → N.Om → Prop} {R : RX} {i : Nat} {q : Addr} {xs : List D} (h : getSl G i = .val (.ref q)) (h2 : Om q = some (.lst xs)) (k : Q (.int xs.length) Om) : wLenS (wVar i) G Om Q R := by
  unfold wLenS wVar
  simp only [h, h2]
  exact k
theorem ixS_v {G : Gam} {Om : N.Om} {Q : D → N.Om → Prop} {R : RX} {i : Nat} {q : Addr} {xs : List D} {n : Int} {y : D} (h : getSl G i = .val (.ref q)) (h2 : Om q = some (.lst xs)) (h3 : atI xs n = some y) (k : Q y Om) : wIxS (wVar i) (wC (.int n)) G Om Q R := by
  unfold wIxS wVar wC
  simp only [h, h2, h3]
  exact k
theorem popS_v {G : Gam} {Om : N.Om} {Q : D → N.Om → Prop} {R : RX} {i : Nat} {q : Addr} {xs : List D} {n : Int} {j : Nat} {y : D} (h : getSl G i = .val (.ref q)) (h2 : Om q = some (.lst xs)) (hb : -(2 ^ 63) ≤ n ∧ n < 2 ^ 63) (h3 : seqIndex? n xs.length = some j) (h4 : xs[j]? = some y)
    (k : Q y (putO Om q (.lst (xs.eraseIdx j)))) : wPopS (wVar i) (wC (.int n)) G Om Q R := by
  unfold wPopS wVar wC
  simp only [h, h2, h3, h4]
  exact ⟨hb, k⟩
theorem loop_tape (O : Om) (a c : Addr) (nac : a ≠ c) (s : Int) (x1 : Sl) (Po : Post) : ∀ cs : List Int, TpOk cs s → (∀ cs', TpOk cs' s → Po.nx [.val (.ref a), x1, .val (.ref c), .no] (tpO O a c cs' s)) →
    wWhN (wtAnd (wTst (wBin gGt (wLenS (wVar 2)) (wC (.int 0)))) (wTst (wBin gEq (wIxS (wVar 2) (wC (.int 0))) (wC (.int 0))))) w__law_draw_b1 (cs.length + 1) [.val (.ref a), x1, .val (.ref c), .no] (tpO O a c cs s) Po
  | [], tk, h => by
    unfold wWhN
    tm_at "nw"
    refine lenS_v rfl tpO_c ?_
    tm_at "nw"
    exact br_df (by simp) (h [] tk)
  | n :: r, tk, h => by
    have tr : TpOk r s := ⟨fun m hm => tk.1 m (List.mem_cons_of_mem _ hm), by have := tk.2.1; rw [List.length_cons] at this; omega, tk.2.2⟩
    unfold wWhN
    tm_at "nw"
    refine lenS_v rfl tpO_c ?_
    tm_at "nw"
    refine br_dt (by simp) ?_
    refine ixS_v rfl tpO_c (y := .int n) atI_0 ?_
    tm_at "nw"
    refine br_d (fun e => ?_) fun e => h _ tk
    subst e
    have e1 : seqIndex? 0 ((0 :: r).map D.int).length = some 0 := by simp [seqIndex?]
    refine popS_v rfl tpO_c (by decide) e1 (y := .int 0) rfl ?_
    rw [show ((0 :: r).map D.int).eraseIdx 0 = r.map D.int from rfl, tpO_setC]
    exact loop_tape O a c nac s x1 Po r tr h
theorem m__law_draw (ds : List D) (Om : N.Om) (Q : D → N.Om → Prop) (R : RX) (hl : ds.length = 2) (h : sp_drawO ds Om Q R) : wFn 4 w__law_draw ds Om Q R := by
  obtain ⟨a, c, cs, s, many, rfl, nac, ea, ec, tk, m0, m1, q⟩ := h
  have q2 : ∀ (r : Int) (cs' : List Int) (s' : Int), 0 ≤ r → r < many → TpOk cs' s' → Q (.int r) (tpO Om a c cs' s') := q
  rw [← tpO_self ea ec]
  have eo : ∀ cs' s', tpO (tpO Om a c cs s) a c cs' s' = tpO Om a c cs' s' := fun _ _ => tpO_tp
  unfold w__law_draw
  tm_at "nw"
  refine ixS_v rfl (tpO_a nac) (y := .ref c) rfl ?_
  tm_at "nw"
  refine ⟨cs.length + 1, ?_⟩
  refine loop_tape Om a c nac s _ _ cs tk fun cs' tk' => ?_
  tm_at "nw"
  refine lenS_v rfl tpO_c ?_
  tm_at "nw"
  refine br_d (fun e => ?_) fun e => ?_
  · cases cs' with
    | nil => simp at e
    | cons n r =>
      refine ixS_v rfl tpO_c (y := .int n) atI_0 ?_
      tm_at "nw"
      unfold wSetIxS
      tm_at "nw"
      refine ⟨divOk m0 m1, ?_⟩
      have e2 : ixN ((n :: r).map D.int).length 0 = some 0 := by simp [ixN]
      have e3 : ((n :: r).map D.int).set 0 (.int (n / many)) = (n / many :: r).map D.int := rfl
      simp only [tpO_c, e2, e3, tpO_setC]
      tm_at "nw"
      have hn := tk'.1 n List.mem_cons_self
      refine ⟨m0, q2 _ _ _ (Int.emod_nonneg _ (by omega)) (Int.emod_lt_of_pos _ m0) ⟨fun m hm => ?_, tk'.2.1, tk'.2.2⟩⟩
      rcases List.mem_cons.mp hm with rfl | hm
      · exact Int.ediv_nonneg hn (by omega)
      · exact tk'.1 m (List.mem_cons_of_mem _ hm)
  · tm_at "nw"
    unfold wSetIxS
    tm_at "nw"
    refine ixS_v rfl (tpO_a nac) (y := .int s) rfl ?_
    tm_at "nw"
    refine ⟨mulR (by decide) (by decide), by decide, ?_⟩
    have e2 : ixN [D.ref c, D.int s].length 1 = some 1 := by simp [ixN]
    have e3 : ∀ x, [D.ref c, D.int s].set 1 (.int x) = [.ref c, .int x] := fun _ => rfl
    simp only [tpO_a nac, e2, e3, tpO_setA nac]
    tm_at "nw"
    refine ixS_v rfl (tpO_a nac) (y := .int ((s * 48271 + 12345) % 2147483647)) rfl ?_
    tm_at "nw"
    have z0 := Int.emod_nonneg (s * 48271 + 12345) (show (2147483647 : Int) ≠ 0 by decide)
    exact ⟨divOk (by decide) (by decide), m0, q2 _ _ _ (Int.emod_nonneg _ (by omega)) (Int.emod_lt_of_pos _ m0) ⟨tk'.1, tk'.2.1, z0⟩⟩
theorem loop_seed (x0 : Sl) (Po : Post) (Om : N.Om) : ∀ (ns : List Int) (s : Int) (y : Sl), 0 ≤ s → s < 1000003 → (∀ s' y, 0 ≤ s' → Po.nx [x0, .val (.int s'), y] Om) → wForL (fName 2) w__law_tape_b1 (ns.map D.int) [x0, .val (.int s), y] Om Po
  | [], s, y, h0, _, h => h s y h0
  | n :: r, s, y, h0, h1, h => by
    simp only [List.map_cons, wForL]
    tm_at "nw"
    refine ⟨mulR (by decide) (by decide), by decide, loop_seed x0 Po Om r _ _ (Int.emod_nonneg _ (by decide)) (Int.emod_lt_of_pos _ (by decide)) h⟩
theorem m__law_tape (ds : List D) (Om : N.Om) (Q : D → N.Om → Prop) (R : RX) (hl : ds.length = 1) (h : sp__law_tape ds Om Q R) : wFn 3 w__law_tape ds Om Q R := by
  obtain ⟨ns, rfl, hn, q⟩ := h
  unfold w__law_tape
  tm_at "nw"
  refine loop_seed _ _ _ ns 7 _ (by decide) (by decide) fun s y h0 => ?_
  unfold wRetTape
  tm_at "nw"
  refine turns_mapA D.int (fun n => D.int (if n < 0 then -n else n)) ns [] (by simp; omega) (fun n _ K hK => ?_) ?_
  · tm_at "nw"
    exact hK
  · refine ⟨ns.map fun n => if n < 0 then -n else n, by rw [List.nil_append, List.map_map]; rfl, ⟨fun m hm => ?_, by simpa using hn, by omega⟩, q⟩
    obtain ⟨n, _, rfl⟩ := List.mem_map.mp hm
    split <;> omega
theorem m__law_pick (ds : List D) (Om : N.Om) (Q : D → N.Om → Prop) (R : RX) (hl : ds.length = 2) (h : sp__law_pick ds Om Q R) : wFn 2 w__law_pick ds Om Q R := by
  obtain ⟨a, d, xs, rfl, hd, tp, h0, h1, q⟩ := h
  unfold w__law_pick
  tm_at "nw"
  have hlen : ∀ K : D → Prop, K (.int (xs.length : Int)) → gLen [d] K := fun K k => by
    cases d <;> simp only [seqV] at hd <;> cases hd
    · rw [gLen_t]; exact k
    · rw [gLen_l]; exact k
  refine hlen _ ⟨a, _, rfl, tp, by omega, by omega, fun r r0 r1 => ?_⟩
  have hr : r.toNat < xs.length := by omega
  cases d <;> simp only [seqV] at hd <;> cases hd
  · exact gIx_tup (j := r.toNat) (by omega) (List.getElem?_eq_getElem hr) (q _ (List.getElem_mem hr))
  · exact gIx_list (j := r.toNat) (by omega) (List.getElem?_eq_getElem hr) (q _ (List.getElem_mem hr))
theorem m__law_octets (ds : List D) (Om : N.Om) (Q : D → N.Om → Prop) (R : RX) (hl : ds.length = 2) (h : sp__law_octets ds Om Q R) : wFn 4 w__law_octets ds Om Q R := by
  obtain ⟨a, n, rfl, tp, hn, q⟩ := h
  unfold w__law_octets
  tm_at "nw"
  refine ⟨by decide, a, _, _, rfl, rfl, tp, by decide, by decide, fun x hx => ?_⟩
  obtain ⟨m, rfl, hm0, hm⟩ : ∃ m : Int, x = .int m ∧ 0 < m ∧ m ≤ 256 := by
    simp only [List.mem_cons, List.not_mem_nil, or_false] at hx
    rcases hx with rfl | rfl
    · exact ⟨2, rfl, by decide, by decide⟩
    · exact ⟨256, rfl, by decide, by decide⟩
  tm_at "nw"
  refine ⟨by omega, ?_⟩
  refine turns_rel (fun _ x => ∃ v : Int, x = .int v ∧ 0 ≤ v ∧ v < 256) _ _ (by simp [rngL]; omega) (fun d hd K hK => ?_) fun es he hp => ?_
  · tm_at "nw"
    exact ⟨a, m, rfl, tp, hm0, by omega, fun r r0 r1 => hK _ ⟨r, rfl, r0, by omega⟩⟩
  · obtain ⟨os, e, ho⟩ := all_ints (ds := es) (p := fun v => 0 ≤ v ∧ v < 256) fun x hx => by
      obtain ⟨i, hi, rfl⟩ := List.getElem_of_mem hx
      exact hp i _ _ (List.getElem?_eq_getElem (by rw [← he]; exact hi)) (List.getElem?_eq_getElem hi)
    subst e
    rw [List.nil_append]
    exact q os (by have := he; rw [List.length_map, rngL_len] at this; omega) ho
end N

set_option Elab.async false
set_option linter.all false
set_option maxRecDepth 100000
set_option maxHeartbeats 0
namespace N
open PySem PySem.Spec PyProof.Rows L2
local macro_rules | `(tactic| tm_at "nv") => `(tactic| try simp -implicitDefEqProofs only [Int.cast_ofNat_Int, Int.reduceEq, Int.reduceLT, Int.reduceLE, List.length_map, List.length_append, see_l, see_d, see_i, Nat.reduceAdd, Nat.reduceLeDiff, Nat.zero_le, wFn_e, startG_c, startG_n, startG_z, wSeq_e, wSet_e, wC_e, wFor_e, wIt_e, wVar_e, wVarB_e, getSl_z, getSl_s, List.set_cons_zero, List.set_cons_succ, wRet_e, wBin_e, gI_i, gI0_i, gB0_i, gAdd_i, gAdd_t, gAdd_l, gAdd_s, gMul_i, gMul_t, gMul_l, gEq_, gNe_, gIs_n, gIs_b, gIsNot_n, gIsNot_b, isNon_n, isNon_i, isNon_b, isNon_t, isNon_l, isNon_s, wIfS_e, wtOr_e, wtAnd_e, wtNot_e, wTst_e, wNext_e, wNev_e, wCall_e, wCallF_e, wFrz_e, wLst_e, wTup_e, waNil_e, waCons_e, wComp_e, wRng_e, gRng1_i, gRng2_i, gRng3_i, wUn_e, gNeg_i, gTuple_t, gTuple_l, gList_t, gList_l, gList_s, gLen_t, gLen_l, gLen_s, gLen_d, gInt_i, gInt_b, gAbs_i, gMax_i, gMin_i, wipeG, fName_e, wCallU_e, wCallK_e, List.append_nil, List.length_cons, List.length_nil, wSl_e, woNone_e, woSome_e, gSl_t, gSl_l, gIt_t, gIt_l, gIt_s, gIsi_i, gIsi_b, gIsi_t, gIsi_l, gIsi_s, gIsi_n, gIsi_d, wFld_e, wMeth_e, wMake_e, wMakeF_e, wSetF_e, wExt_e, wFz_e, wRev_e, wRaise_e, wTry_e, wBits_e, insOf_ins, lk_kind, lk_size, lk_digest, lk_is_digest, gEnum_t, gEnum_l, gZip_t, gZip_l, mem1, reduceCtorEq, eq_self, wAsg_e, fTup_e, fCons_e, fNil_e, wAnd_e, wOr_e, wNot_e, wIf_e, wPar_e, wAug_e, wApp_e, wSetO_e, wRetO_e, br_t, br_f, shp_int, shp_bl, shp_non, deq_int, gAll_b, gAny_b, gSum_i, wDrop_e, wRetN_e, true_and, and_true, decide_true, decide_false, Bool.not_true, Bool.not_false, isi_NoneType_bool, isi_NoneType_int, isi_NoneType_str, isi_NoneType_tuple, isi_NoneType_list, isi_NoneType_dict, isi_bool_bool, isi_bool_int, isi_bool_str, isi_bool_tuple, isi_bool_list, isi_bool_dict, isi_int_bool, isi_int_int, isi_int_str, isi_int_tuple, isi_int_list, isi_int_dict, isi_str_bool, isi_str_int, isi_str_str, isi_str_tuple, isi_str_list, isi_str_dict, isi_tuple_bool, isi_tuple_int, isi_tuple_str, isi_tuple_tuple, isi_tuple_list, isi_tuple_dict, isi_list_bool, isi_list_int, isi_list_str, isi_list_tuple, isi_list_list, isi_list_dict, isi_dict_bool, isi_dict_int, isi_dict_str, isi_dict_tuple, isi_dict_list, isi_dict_dict, okTy_bool, okTy_int, okTy_str, okTy_tuple, okTy_list, okTy_dict, List.cons_append, List.nil_append, wChn_e, wSetIxO_e, wGet1_e, wGet2_e, wPutO_e, wDnew_e, slV_v, slB_v, slB_l, slB_d, slB_i, slL_l, slD_d, asB_b, asI_i, asR_r, asT_t, asQ_t, asQ_l, asD_d, asK_i, asK_s, asC_c, as2_2, asO_s, asIns_i, fz_l, fz_i, fz_v, fz_n, wKeys_e, wItems_e, wVals_e, exL_hit, asRev_l, asRev_t, wtYes_e])
local macro_rules | `(tactic| tm_at "nw") => `(tactic| (tm_at "nv"; repeat (with_reducible refine sq_i ?_; tm_at "nv")))
local macro_rules | `(tactic| tm_at "nc") => `(tactic| first | exact True.intro | omega | exact mulL (by omega) (by omega) | exact mulR (by omega) (by omega) | exact divOk (by omega) (by omega) | exact shlI (n := 1) (by decide) (by decide) (by omega) (by omega) | (simp only [List.length_append, List.length_map, List.length_cons, List.length_nil, List.length_replicate, List.length_flatten, List.map_replicate, List.sum_replicate_nat, List.length_range, rngL_len, rngC_len, List.cons_append, List.nil_append]; first | done | omega))
local macro_rules | `(tactic| tm_at "ns") => `(tactic| repeat (with_reducible refine And.intro (by first | tm_at "nc" | exact ⟨by tm_at "nc", by tm_at "nc"⟩ | exact ⟨by tm_at "nc", by tm_at "nc", by tm_at "nc"⟩ | exact ⟨by tm_at "nc", by tm_at "nc", by tm_at "nc", by tm_at "nc"⟩) ?_))
local macro_rules | `(tactic| tm_at "go") => `(tactic| (tm_at "nw"; repeat (first | (with_reducible refine And.intro (by first | tm_at "nc" | exact ⟨by tm_at "nc", by tm_at "nc"⟩ | exact ⟨by tm_at "nc", by tm_at "nc", by tm_at "nc"⟩) ?_) | (with_reducible refine sq_i ?_)); tm_at "nw"))
section
variable {f : WG} {we : WE} {wt : WT} {G : Gam} {O : Om} {Q : List D → Om → Prop} {α β : Type}
/-- a comprehension whose elements are told by a relation -/
theorem turns_relA (h : α → D) (P : α → β → Prop) (g : α → β → D) : ∀ (as : List α) (acc : List D), acc.length + as.length ≤ 16777216 → (∀ a ∈ as, ∀ K : D → Om → Prop, (∀ b, P a b → K (g a b) O) → f (h a) G fun G2 => we G2 O K noR) →
    (∀ bs : List β, bs.length = as.length → (∀ p ∈ as.zip bs, P p.1 p.2) → Q (acc ++ (as.zip bs).map fun p => g p.1 p.2) O) → wTurns f wtYes we G (as.map h) acc O Q
  | [], acc, _, _, q => by simpa [wTurns] using q [] rfl (by simp)
  | a :: r, acc, l, h1, q => by
    rw [List.length_cons] at l
    refine ⟨by omega, h1 a List.mem_cons_self _ fun b hb => turns_relA h P g r (acc ++ [g a b]) (by rw [List.length_append, List.length_singleton]; omega) (fun a' h' => h1 a' (List.mem_cons_of_mem _ h')) fun bs hl hp => ?_⟩
    have := q (b :: bs) (by simp [hl]) fun p hp' => by
      rw [List.zip_cons_cons] at hp'
      rcases List.mem_cons.mp hp' with rfl | hp'
      · exact hb
      · exact hp p hp'
    simpa using this
/-- .. some of which are taken -/
theorem turns_subA (h g : α → D) : ∀ (as : List α) (acc : List D), acc.length + as.length ≤ 16777216 →
    (∀ a ∈ as, ∀ (K1 : D → Om → Prop) (K2 : Om → Prop), K1 (g a) O → K2 O → f (h a) G fun G2 => wt G2 O (fun b O2 => br b (we G2 O2 K1 noR) (K2 O2)) noR) →
    (∀ bs : List α, bs.Sublist as → Q (acc ++ bs.map g) O) → wTurns f wt we G (as.map h) acc O Q
  | [], acc, _, _, q => by simpa [wTurns] using q [] (List.Sublist.refl _)
  | a :: r, acc, l, h1, q => by
    rw [List.length_cons] at l
    refine ⟨by omega, h1 a List.mem_cons_self _ _ (turns_subA h g r (acc ++ [g a]) (by rw [List.length_append, List.length_singleton]; omega) (fun a' h' => h1 a' (List.mem_cons_of_mem _ h')) fun bs hs => ?_) (turns_subA h g r acc (by omega) (fun a' h' => h1 a' (List.mem_cons_of_mem _ h')) fun bs hs => q bs (hs.cons _))⟩
    have := q (a :: bs) (hs.cons₂ _)
    simpa using this
/-- .. with a test -/
theorem turns_filA (h g : α → D) (t : α → Bool) : ∀ (as : List α) (acc : List D), acc.length + as.length ≤ 16777216 →
    (∀ a ∈ as, ∀ (K1 : D → Om → Prop) (K2 : Om → Prop), (t a = true → K1 (g a) O) → (t a = false → K2 O) → f (h a) G fun G2 => wt G2 O (fun b O2 => br b (we G2 O2 K1 noR) (K2 O2)) noR) →
    Q (acc ++ (as.filter t).map g) O → wTurns f wt we G (as.map h) acc O Q
  | [], acc, _, _, q => by simpa [wTurns] using q
  | a :: r, acc, l, h1, q => by
    rw [List.length_cons] at l
    refine ⟨by omega, h1 a List.mem_cons_self _ _ (fun e => turns_filA h g t r (acc ++ [g a]) (by rw [List.length_append, List.length_singleton]; omega) (fun a' h' => h1 a' (List.mem_cons_of_mem _ h')) ?_) (fun e => turns_filA h g t r acc (by omega) (fun a' h' => h1 a' (List.mem_cons_of_mem _ h')) ?_)⟩
    · rw [List.filter_cons, if_pos e] at q
      simpa using q
    · rw [List.filter_cons, if_neg (by rw [e]; decide)] at q
      exact q
end
theorem rng_from (t k : Nat) : ((List.range' t (k + 1)).map fun (i : Nat) => D.int (i : Int)) = D.int (t : Int) :: (List.range' (t + 1) k).map fun (i : Nat) => D.int (i : Int) := by simp [List.range'_succ]
theorem rng_nat (n : Nat) : rngL 0 n = (List.range' 0 n).map fun (i : Nat) => D.int (i : Int) := rngL_nat n
theorem rng_r (n : Nat) : rngL 0 n = (List.range n).map fun (i : Nat) => D.int (i : Int) := by rw [rng_nat, List.range_eq_range']
theorem deq_refl {d : D} (h : shp d = true) : deq d d = true := SeqAt.eqv_refl _ (shp_lay h)
theorem draw_i {a : Addr} {m : Int} {Om : N.Om} {Q : D → N.Om → Prop} {R : RX} (tp : Tp Om a) (h0 : 0 < m) (h1 : m < 1073741824) (q : ∀ r : Int, 0 ≤ r → r < m → Q (.int r) Om) : sp__law_draw [.ref a, .int m] Om Q R := ⟨a, m, rfl, tp, h0, h1, q⟩
theorem pick_i {a : Addr} {xs : List D} {Om : N.Om} {Q : D → N.Om → Prop} {R : RX} (tp : Tp Om a) (h0 : 0 < xs.length) (h1 : xs.length < 1000000) (q : ∀ x ∈ xs, Q x Om) : sp__law_pick [.ref a, .lst xs] Om Q R := ⟨a, _, xs, rfl, rfl, tp, h0, h1, q⟩
theorem octets_i {a : Addr} {n : Int} {m : Nat} {Om : N.Om} {Q : D → N.Om → Prop} {R : RX} (tp : Tp Om a) (e : n = (m : Int)) (h : m ≤ 1000000) (q : ∀ os, os.length = m → Oct os → Q (oD os) Om) : sp__law_octets [.ref a, .int n] Om Q R := ⟨a, m, by rw [e], tp, h, q⟩
theorem flat_z : ∀ n : Nat, (List.replicate n [D.int 0]).flatten = iD (List.replicate n 0)
  | 0 => rfl
  | n + 1 => by rw [List.replicate_succ, List.replicate_succ, List.flatten_cons, flat_z n]; rfl
end N

set_option Elab.async false
set_option linter.all false
set_option maxRecDepth 100000
set_option maxHeartbeats 0
namespace N
open PySem PySem.Spec PyProof.Rows L2
/-! an own dict becomes a value: it is locked for good -/
section
variable {X : Cx} {P : Pm}
theorem Sta.frzO {G : Gam} {W : Wd} {σ : L2.St} {H : Hp} {i : Nat} {ks : List Key} {ds : List D} {a : Addr} {o : HO} (S : Sta P G W σ H) (ok0 : WOk P.T P.W0 P.H0) (g : G[i]? = some (.own (.dct ks ds))) (e : σ[i]? = some (some (.ref a)))
    (r : Rep P.T (W.del a).F (upd H a o) (.dct ks ds) (.ref a)) (oa : OwnAt P W H a (.dct ks ds)) (no : ∀ q, o ≠ LamX.CodeO a q := by intro _ z; cases z) : ∃ W', W'.Om = W.Om ∧ Kp W.F H W'.F (upd H a o) ∧ Sta P (G.set i (.val (.dct ks ds))) W' σ (upd H a o) := by
  have k1 : Kp W.F H W.F (upd H a o) := Kp.mut oa.f
  have kp : Kp W.F H (W.del a).F (upd H a o) := ⟨k1.same', fun b h => .inl h.1, k1.trk⟩
  refine ⟨W.del a, rfl, kp, (S.st.mutO oa.n oa.f oa.p no).del ok0 oa.n oa.p, by simp [S.len], fun j s es => ?_, fun j k m1 m2 b e1 e2 h1 h2 => ?_⟩
  · by_cases q : i = j
    · subst q
      rw [List.getElem?_set, if_pos rfl] at es
      split at es
      · cases es
        exact ⟨.ref a, e, r⟩
      · cases es
    · rw [List.getElem?_set_ne q] at es
      have z := S.sl j s es
      cases s with
      | no => trivial
      | val d =>
        obtain ⟨v, e1, r⟩ := z
        exact ⟨v, e1, Rep.kp kp d v r⟩
      | own m' =>
        obtain ⟨b, e1, ob⟩ := z
        have hne : b ≠ a := fun z => q (S.ap i j _ m' a g es e (z ▸ e1))
        exact ⟨b, e1, ⟨⟨ob.f, hne⟩, ob.o, ob.p, ob.n, noFp (fp := fun _ => False) kp (upd_ne hne) ob.r⟩⟩
  · have back : ∀ (j : Nat) mm, (G.set i (.val (.dct ks ds)))[j]? = some (.own mm) → G[j]? = some (.own mm) := fun j mm e => by
      by_cases q : i = j
      · subst q
        rw [List.getElem?_set, if_pos rfl] at e
        split at e <;> cases e
      · rwa [List.getElem?_set_ne q] at e
    exact S.ap j k m1 m2 b (back j m1 e1) (back k m2 e2) h1 h2
def fzD (s : Sl) (K : Gam → Prop) (G : Gam) (i : Nat) : Prop := match s with | .own (.dct ks ds) => K (G.set i (.val (.dct ks ds))) | .val _ => K G | _ => False
def wFzD (i : Nat) (w : WS) : WS := fun G Om Po => fzD (getSl G i) (fun G' => w G' Om Po) G i
theorem fzD_d {K : Gam → Prop} {G : Gam} {i : Nat} {ks : List Key} {ds : List D} : fzD (.own (.dct ks ds)) K G i = K (G.set i (.val (.dct ks ds))) := rfl
theorem fzD_v {K : Gam → Prop} {G : Gam} {i : Nat} {d : D} : fzD (.val d) K G i = K G := rfl
theorem wFzD_e {w : WS} {G : Gam} {i : Nat} {Om : Om} {Po : Post} : wFzD i w G Om Po = fzD (getSl G i) (fun G' => w G' Om Po) G i := rfl
theorem dss_fzD (i : Nat) {ss : List Stmt} {u : WS} (ok0 : WOk P.T P.W0 P.H0) (h : DSs X P ss u) : DSs X P ss (wFzD i u) := by
  refine ⟨⟨fun pins s σ H D I ⟨G, W, Po, S, q, hp⟩ => ?_⟩⟩
  unfold wFzD fzD at q
  split at q
  · rename_i ks ds ed
    have gg := getSl_get G i (by rw [ed]; intro z; cases z)
    rw [ed] at gg
    obtain ⟨a, e, oa⟩ := S.sl i _ gg
    obtain ⟨vs, ha, l, r⟩ := oa.r
    obtain ⟨od, I2⟩ := I.lock ha trivial
    have k1 : Kp W.F H W.F (upd H a (.frz od (.dK (ks.zip vs)))) := Kp.mut oa.f
    have k2 : Kp W.F (upd H a (.frz od (.dK (ks.zip vs)))) (W.del a).F (upd H a (.frz od (.dK (ks.zip vs)))) := Kp.less fun b h => h.1
    have r2 : Rep P.T (W.del a).F (upd H a (.frz od (.dK (ks.zip vs)))) (.dct ks ds) (.ref a) := by
      simp only [Rep]
      exact ⟨a, vs, rfl, ⟨od, upd_same⟩, fun z => z.2 rfl, l, Reps.kp k2 _ _ (Reps.kp k1 _ _ r)⟩
    obtain ⟨W', eO, k, S'⟩ := S.frzO ok0 gg e r2 oa
    exact h.ps.run pins s σ _ D I2 ⟨_, W', Po, S', by rw [eO]; exact q, hp.kp k⟩
  · exact h.ps.run pins s σ H D I ⟨G, W, Po, S, q, hp⟩
  · exact q.elim
end
end N

set_option Elab.async false
set_option linter.all false
set_option maxRecDepth 100000
set_option maxHeartbeats 0
/-! NSd: makes whose __init__ shares new things; the readings of NSa NSb NSc as equations -/
namespace N
open PySem PySem.Spec PyProof.Rows L2
section
variable {X : Cx} {P : Pm} {c n k : Nat} {S : DSp} {wl : WA} {x : Str} {e : Expr} {es : List Expr} {p pos : Pos}
def wMakeG (c n : Nat) (S : DSp) (wa : WA) : WE := fun G Om Q R => wa G Om (fun ds O => ds.length + 1 = n ∧ ∀ a, O a = none → S (.ref a :: ds) (putO O a (.ins c [] [])) (fun d O' => d = .non ∧ ∃ ns vs, O' a = some (.ins c ns vs) ∧ Q (.ins c ns vs) (delO O' a)) R) R
theorem makeG_imp {ta : TA} (i : ∀ σ H Q, tA P wl σ H Q → ta σ H Q) : ∀ σ H Q, tE P (wMakeG c n S wl) σ H Q → tMakeQ (P.T.cm c) (toSp P.T n S) (L2.WE P.W) ta σ H Q := fun σ H Q q => by
  obtain ⟨G, W, Q0, R0, S0, q, ex, hq⟩ := q
  refine i _ _ _ ⟨G, W, _, R0, S0, q, ex, fun ds O h1 vs H1 W1 s1 e1 r y dx hy hd ne => ?_⟩
  subst e1
  obtain ⟨hn, h1⟩ := h1
  have s2 := make_st (c := c) s1.ok hy hd ne
  have s3 := s1.trans s2
  have ny := om_none s1.ok hy
  refine sp_of rfl S0.ok s3 (ds := .ref y :: ds) (vs := .ref y :: vs) (by simpa using hn) (.cons (by simp [Rep]) (Reps.kp (s2.kp s1.ok) _ _ r)) (h1 y ny) ex fun d O' q2 v H' W' s' e' r' => ?_
  obtain ⟨rfl, ns, us, e4, q2⟩ := q2
  subst e'
  obtain ⟨⟨dx', ws, ha, l, rs⟩, fy⟩ := s'.ok.at_ y _ e4
  have s5 : Step P.T W H (W'.delS y) H' := s'.frzS S0.ok (s1.back hy) e4
  refine ⟨by simpa [Rep] using r', hq _ _ q2 _ H' (W'.delS y) s5 rfl ?_⟩
  simp only [Rep]
  exact ⟨y, dx', ws, rfl, ha, fun z => z.2 rfl, l, Reps.kp (Kp.less fun b h => h.1) _ _ rs⟩
theorem de_makeG (cl : ClI X.prog X.w X.K X.mg X.base P.T k c x n S) (hr : Room (k + 1) X.A) (tk : Takes X P.W) (ha : DA X P (e :: es) wl) (hg : Gl X x := by rfl) (hdb : (x == ("__debug__" : Str)) = false := by decide)
    (he : starEach (e :: es) X.env = (false, eval e X.env) :: starEach es X.env := by rfl) (hpl : (backTo pos (starEach es X.env)).any (·.1) = false := by rfl) : DE X P (.Call (.Name x p) (e :: es) [] pos) (wMakeG c n S wl) :=
  let ⟨_, _, _, F, h1, h2, hb⟩ := cl.ex
  ⟨pe_imp (pe_makeQ h2 F hr hg h1 hb (fun σ => passAt tk σ) ha.pa hdb he hpl) (makeG_imp fun _ _ _ z => z)⟩
end
/-! ### equations -/
def asSh (o : Option MO) (Q : D → Prop) : Prop := match o with | some (.lst xs) => Q (.lst xs) | some (.dct ks vs) => Q (.dct ks vs) | _ => False
def asShL (o : Option MO) (Q : List D → Prop) : Prop := match o with | some (.lst xs) => Q xs | _ => False
def asShD (o : Option MO) (Q : List Key → List D → Prop) : Prop := match o with | some (.dct ks vs) => Q ks vs | _ => False
section
variable {Q : D → Prop} {QL : List D → Prop} {QD : List Key → List D → Prop} {xs vs : List D} {ks : List Key} {O Om : N.Om}
theorem asSh_l : asSh (some (.lst xs)) Q = Q (.lst xs) := rfl
theorem asSh_d : asSh (some (.dct ks vs)) Q = Q (.dct ks vs) := rfl
theorem asShL_l : asShL (some (.lst xs)) QL = QL xs := rfl
theorem asShD_d : asShD (some (.dct ks vs)) QD = QD ks vs := rfl
theorem cont_r {q : Addr} : cont O (.ref q) Q = asSh (O q) Q := rfl
theorem cont_n : cont O .non Q = Q .non := rfl
theorem cont_b {b : Bool} : cont O (.bl b) Q = Q (.bl b) := rfl
theorem cont_i {b : Int} : cont O (.int b) Q = Q (.int b) := rfl
theorem cont_s {b : Str} : cont O (.str b) Q = Q (.str b) := rfl
theorem cont_t : cont O (.tup xs) Q = Q (.tup xs) := rfl
theorem cont_l : cont O (.lst xs) Q = Q (.lst xs) := rfl
theorem cont_d : cont O (.dct ks vs) Q = Q (.dct ks vs) := rfl
theorem cont_o {c : Nat} {ns : List Str} : cont O (.ins c ns vs) Q = Q (.ins c ns vs) := rfl
theorem contL_n {Q : List D → Prop} : contL O [] Q = Q [] := rfl
theorem contL_c {Q : List D → Prop} {d : D} : contL O (d :: xs) Q = cont O d fun d' => contL O xs fun r' => Q (d' :: r') := rfl
variable {w wa wb wo wi wv : WE} {wl : WA} {wf : WF} {f f1 : WG} {u : WS} {wt : WT} {we : WE} {G : Gam} {Q : D → N.Om → Prop} {QF : MO → N.Om → Prop} {QA : List D → N.Om → Prop} {R : RX} {Po : Post} {g : GD} {gc : GC} {gf : GCF} {vs1 vs0 : List Nat}
theorem wBinC_e : wBinC g wa wb G Om Q R = wa G Om (fun x O1 => wb G O1 (fun y O2 => cont O2 x fun x' => cont O2 y fun y' => g x' y' fun z => Q z O2) R) R := rfl
theorem wCallC_e : wCallC gc wl G Om Q R = wl G Om (fun ds O => contL O ds fun ds' => gc ds' fun z => Q z O) R := rfl
theorem wCallFC_e : wCallFC gf wl G Om QF R = wl G Om (fun ds O => contL O ds fun ds' => gf ds' fun z => QF z O) R := rfl
theorem wShF_e : wShF wf G Om Q R = wf G Om (fun m O => ∀ q, O q = none → Q (.ref q) (putO O q m)) R := rfl
theorem wItC_e : wItC w G Om QA R = w G Om (fun d O => asR d fun q => asShL (O q) fun xs => QA xs O) R := by
  unfold wItC gItC asR asShL
  congr 1
theorem wForE_e : wForE wl f u G Om Po = wl G Om (fun items O => wForLE f u O items G O Po) fun x O => Po.ex x G O := rfl
theorem wForLE_n {O1 : N.Om} : wForLE f u O1 [] G Om Po = Po.nx G Om := rfl
theorem wForLE_c {O1 : N.Om} {d : D} {r : List D} : wForLE f u O1 (d :: r) G Om Po = f d G fun G' => u G' Om { Po with nx := fun G2 O2 => O2 = O1 ∧ wForLE f u O1 r G2 O2 Po, ct := fun G2 O2 => O2 = O1 ∧ wForLE f u O1 r G2 O2 Po, bk := Po.nx } := rfl
theorem wCompE_e : wCompE wl f wt we vs0 G Om QF R = wl G Om (fun items O1 => wTurnsE f wt we (noOwn (wipeG G vs0)) O1 items [] fun ds => QF (.lst ds) O1) R := rfl
theorem wComp2_e {wi1 : WA} {wt1 : WT} : wComp2 wl f wi1 f1 wt1 we vs0 vs1 G Om QF R = wl G Om (fun items O1 => wTurns2 f wi1 f1 wt1 we (noOwn (wipeG G vs0)) vs1 O1 items [] fun ds => QF (.lst ds) O1) R := rfl
theorem wAppS_e : wAppS wo wi G Om Q R = wo G Om (fun d O => asR d fun q => asShL (O q) fun _ => wi G O (fun z O' => asShL (O' q) fun ys => ys.length < 16777216 ∧ Q .non (putO O' q (.lst (ys ++ [z])))) R) R := by
  unfold wAppS asR asShL
  congr 1
theorem wRemS_e : wRemS wo wi G Om Q R = wo G Om (fun d O => asR d fun q => asShL (O q) fun _ => wi G O (fun z O' => asI z fun k => ∃ (ns : List Int) (j : Nat), O' q = some (.lst (ns.map .int)) ∧ ns.findIdx? (· == k) = some j ∧ Q .non (putO O' q (.lst ((ns.eraseIdx j).map .int)))) R) R := by
  unfold wRemS asR asShL asI
  congr 1
theorem wSetIxS_e : wSetIxS wv wo wi G Om Po = wv G Om (fun d O => wo G O (fun z O1 => wi G O1 (fun y O2 => asR z fun q => asI y fun k => asShL (O2 q) fun xs => asO (ixN xs.length k) fun j => Po.nx G (putO O2 q (.lst (xs.set j d)))) fun x O => Po.ex x G O) fun x O => Po.ex x G O) fun x O => Po.ex x G O := by
  unfold wSetIxS asR asShL asI asO
  congr 1
  funext d O
  congr 1
  funext z O1
  congr 1
  funext y O2
  cases z <;> (try rfl)
  cases y <;> (try rfl)
  rename_i q k
  dsimp only
  cases O2 q with
  | none => rfl
  | some m =>
    cases m <;> (try rfl)
    rename_i xs
    dsimp only
    cases ixN xs.length k <;> rfl
theorem wPutS_e : wPutS wv wo wi G Om Po = wv G Om (fun d O => wo G O (fun z O1 => wi G O1 (fun y O2 => asR z fun q => asShD (O2 q) fun ks vs => asK y fun k => ks.Nodup ∧ ks.length < 16777216 ∧ Po.nx G (putO O2 q (.dct (putKs ks k) (putVs ks vs k d)))) fun x O => Po.ex x G O) fun x O => Po.ex x G O) fun x O => Po.ex x G O := by
  unfold wPutS asR asShD asK
  congr 1
  funext d O
  congr 1
  funext z O1
  congr 1
  funext y O2
  cases z <;> (try rfl)
  rename_i q
  dsimp only
  cases O2 q with
  | none => cases keyD y <;> rfl
  | some m => cases m <;> cases keyD y <;> rfl
theorem wMakeG_e {c n : Nat} {S : DSp} : wMakeG c n S wl G Om Q R = wl G Om (fun ds O => ds.length + 1 = n ∧ ∀ a, O a = none → S (.ref a :: ds) (putO O a (.ins c [] [])) (fun d O' => d = .non ∧ ∃ ns vs, O' a = some (.ins c ns vs) ∧ Q (.ins c ns vs) (delO O' a)) R) R := rfl
theorem noOwn_n : noOwn [] = [] := rfl
theorem noOwn_o {m : MO} {r : Gam} : noOwn (.own m :: r) = .no :: noOwn r := rfl
theorem noOwn_v {d : D} {r : Gam} : noOwn (.val d :: r) = .val d :: noOwn r := rfl
theorem noOwn_z {r : Gam} : noOwn (.no :: r) = .no :: noOwn r := rfl
end
end N

set_option Elab.async false
set_option linter.all false
set_option maxRecDepth 100000
set_option maxHeartbeats 0
/-! NSe: displays of dicts with texts as keys; o.f op= e -/
namespace N
open PySem PySem.Spec PyProof.Rows L2
section
variable {X : Cx} {P : Pm} {e o value : Expr} {w wo wv : WE} {wl : WA} {pos p tpos : Pos}
structure DPs (X : Cx) (P : Pm) (pos : Pos) (keys : List (Option Expr)) (values : List Expr) (ks : List Key) (wl : WA) : Prop where
  ex : ∃ trs, PPs X pos keys values trs ∧ ∀ σ H (Q : List (V × V) → Hp → Prop), tA P wl σ H (fun vs H' => Q ((ks.map kV).zip vs) H') → tPairs trs σ H Q
theorem dps_nil : DPs X P pos [] [] [] waNil := ⟨[], pps_nil, fun σ H Q ⟨G, W, Q0, R0, S, q, ex, hq⟩ => hq [] _ q [] H W (Step.refl S.ok) rfl .nil⟩
theorem dps_cons {x : Str} {j : Nat} {kp : Pos} {keys : List (Option Expr)} {values : List Expr} {ks : List Key} (h : DE X P e w) (r : DPs X P pos keys values ks wl) : DPs X P pos (some (.Constant (.str x) j kp) :: keys) (e :: values) (.inr x :: ks) (waCons w wl) := by
  obtain ⟨trs, pp, i⟩ := r.ex
  refine ⟨_, pps_cons pe_str h.pe pp, fun σ H Q q => ?_⟩
  obtain ⟨G, W, Q0, R0, S, q, ex, hq⟩ := q
  refine ⟨G, W, _, R0, S, q, ex, fun d O h1 v H1 W1 s1 e1 r1 => ?_⟩
  subst e1
  refine i σ H1 _ ⟨G, W1, _, R0, S.step s1, h1, ex.step s1, fun ds O2 h2 vs H2 W2 s2 e2 r2 => ?_⟩
  exact hq (d :: ds) O2 h2 (v :: vs) H2 W2 (s1.trans s2) e2 (.cons (Rep.kp (s2.kp s1.ok) _ _ r1) r2)
/-- {"a": .., "b": ..} -/
def wDsp (ks : List Key) (wa : WA) : WF := fun G Om Q R => ks.Nodup ∧ ks.length ≤ 15 ∧ wa G Om (fun vs O => ks.length = vs.length ∧ Q (.dct ks vs) O) R
theorem putKs_new {ks : List Key} {k : Key} (h : k ∉ ks) : putKs ks k = ks ++ [k] := by
  induction ks with
  | nil => rfl
  | cons a r ih =>
    simp only [List.mem_cons, not_or] at h
    unfold putKs
    rw [if_neg (fun z => h.1 z.symm), ih h.2]; rfl
theorem merge_new : ∀ (more acc : List (Key × V)), (acc.map (·.1) ++ more.map (·.1)).Nodup → mergeK acc more = acc ++ more
  | [], acc, _ => by simp [mergeK]
  | p :: r, acc, nd => by
    have np : p.1 ∉ acc.map (·.1) := fun z => by
      rw [List.nodup_append] at nd
      exact nd.2.2 _ z _ (by simp) rfl
    show mergeK (putK acc p.1 p.2) r = _
    rw [putK_no np, merge_new r (acc ++ [(p.1, p.2)]) (by simpa [List.append_assoc] using nd)]
    simp
theorem zipV {ks : List Key} {vs : List V} : (ks.map kV).zip vs = (ks.zip vs).map fun kv => (kV kv.1, kv.2) := by
  induction ks generalizing vs with
  | nil => rfl
  | cons k r ih => cases vs with
    | nil => rfl
    | cons v vs => simp [ih]
theorem df_disp {keys : List (Option Expr)} {values : List Expr} {ks : List Key} (h : DPs X P pos keys values ks wl) (hall : keys.all (·.isSome) = true := by rfl) (hl : keys.length = values.length := by rfl) (h0 : keys ≠ [] := by simp) (h15 : keys.length ≤ 15 := by decide) :
    DF X P (.Dict keys values pos) (wDsp ks wl) := by
  obtain ⟨trs, pp, i⟩ := h.ex
  refine ⟨pe_imp (pe_disp pp hall hl h0 h15) fun σ H Q q => ?_⟩
  obtain ⟨G, W, Q0, R0, S, ⟨nd, k15, q⟩, ex, hq⟩ := q
  intro p hp
  have n0 : Step P.T W H (W.add p) (upd H p (.dK [])) := Step.newOwn S.ok hp
  have npm0 : ¬ (W.add p).pm p := fun z => S.ok.trk p (S.ok.sub p z) hp
  refine i σ _ _ ⟨G, W.add p, _, R0, S.step n0, q, ex.step n0, fun ds O h1 vs H2 W2 s2 e2 r2 => ?_⟩
  obtain ⟨l, h1⟩ := h1
  have hp2 : H2 p = some (.dK []) := s2.keep p _ upd_same npm0
  have hpm2 : ¬ W2.pm p := s2.pm upd_same npm0
  have hF2 : W2.F p := s2.sub p (.inr rfl)
  have lz : (ks.zip vs).map (·.1) = ks := List.map_fst_zip (by rw [r2.len, l]; exact Nat.le_refl _)
  refine ⟨hp2, ks.zip vs, zipV, ?_, ?_⟩
  · rw [List.length_zip]; omega
  have em : mergeK [] (ks.zip vs) = ks.zip vs := by
    rw [merge_new _ _ (by rw [lz]; simpa using nd)]; rfl
  rw [em]
  have hn : H p = none := hp
  have st : Step P.T W H W2 (upd H2 p (.dK (ks.zip vs))) := (n0.trans s2).mutO hn hF2 hpm2
  have no : W2.Om p = none := by
    cases q : W2.Om p with
    | none => rfl
    | some m => exact (hpm2 ⟨p, by rw [q]; simp, (s2.ok.at_ p m q).2⟩).elim
  exact hq (.dct ks ds) O h1 p _ W2 st e2 hn hF2 hpm2 no ⟨vs, upd_same, l, Reps.kp (Kp.mut hF2) _ _ r2⟩
/-- o.f op= e -/
def wAugF (cs : List Nat) (f : Str) (g : GD) (wo wv : WE) : WS := fun G Om Po => wo G Om (fun z O => match z with
  | .ref a => (match O a with
    | some (.ins c ns vs) => c ∈ cs ∧ (match lk ns vs f with
      | some d => wv G O (fun y O2 => g d y fun z => match O2 a with
        | some (.ins c' ns' vs') => c' = c ∧ ns'.length < 1000 ∧ Po.nx G (putO O2 a (.ins c' (setN ns' f) (setV ns' vs' f z)))
        | _ => False) fun x O => Po.ex x G O
      | none => False)
    | _ => False)
  | _ => False) fun x O => Po.ex x G O
theorem ds_augF {op : Operator} {g : GD} {f : Str} {cs : List Nat} (hC : FC X.K P.T f cs) (hop : OpD X P.T (inplaceOp op) g) (ho : DE X P o wo) (hv : DE X P value wv) : DS X P (.AugAssign (.Attribute o f tpos) op value pos) (wAugF cs f g wo wv) := by
  refine ⟨ps_imp (ps_fldaug ho.pe hv.pe (rd := rD P.T g) hop) fun D σ H ⟨G, W, Po, S, q, h⟩ => ⟨G, W, _, _, S, q, h.exE S, fun z O q' v H1 W1 s1 e1 rz => ?_⟩⟩
  subst e1
  have h1 := h.kp (s1.kp S.ok)
  cases z <;> try exact q'.elim
  rename_i a
  simp only [Rep] at rz
  have q' : (match W1.Om a with | some (.ins c ns vs) => _ | _ => False) := q'
  split at q'
  · rename_i c ns vs ea
    obtain ⟨hc, q'⟩ := q'
    split at q'
    · rename_i d ed
      obtain ⟨⟨dx, ws, ha, l, rs⟩, fa⟩ := s1.ok.at_ a _ ea
      obtain ⟨v0, ev0, rv0⟩ := lk_at rs ed
      refine ⟨a, P.T.cm c, dx, ns.zip ws, v0, rz, ha, (hC c hc).1, (hC c hc).2, ev0, ?_⟩
      refine ⟨G, W1, _, _, S.step s1, q', h1.exE (S.step s1), fun y O2 q2 yv H2 W2 s2 e2 ry => ?_⟩
      subst e2
      refine ⟨W2.F, W2.pm, d, y, _, (Rep.kp (s2.kp s1.ok) _ _ rv0).t s2.ok.sub, ry.t s2.ok.sub, s2.ok.trk, q2, fun z hz u H3 xt ru => ?_⟩
      have hz : (match W2.Om a with | some (.ins c' ns' vs') => c' = c ∧ ns'.length < 1000 ∧ Po.nx G (putO W2.Om a (.ins c' (setN ns' f) (setV ns' vs' f z))) | _ => False) := hz
      split at hz
      · rename_i c' ns' vs' ea2
        obtain ⟨rfl, hl, qn⟩ := hz
        have s3 : Step P.T W2 H2 W2 H3 := Step.ext s2.ok xt
        obtain ⟨⟨dx', ws', ha', l', rs'⟩, fa'⟩ := s3.ok.at_ a _ ea2
        obtain ⟨us, e3, l3, r3⟩ := set_at ru l' rs'
        have Fa : W2.F a := s3.ok.sub a ⟨a, by rw [ea2]; simp, fa'⟩
        have sm : Step P.T W2 H3 (W2.setO a (.ins c' (setN ns' f) (setV ns' vs' f z))) (upd H3 a (.ins (P.T.cm c') dx' (putF f u (ns'.zip ws')))) :=
          Step.mutS s3.ok ea2 ⟨dx', us, by rw [upd_same, e3], l3, Reps.kp (Kp.mut Fa) _ _ r3⟩
        refine ⟨dx', ns'.zip ws', ha', ?_, ?_⟩
        · rw [List.length_zip]; omega
        · exact h1.nx _ _ qn _ _ _ (((s2.trans s3).trans sm).kp s1.ok) ((S.step s1).step ((s2.trans s3).trans sm)) rfl
      · exact hz.elim
    · exact q'.elim
  · exact q'.elim
variable {G : Gam} {Om : N.Om} {QF : MO → N.Om → Prop} {R : RX} {Po : Post} {g : GD} {f : Str} {cs : List Nat} {ks : List Key}
theorem wDsp_e : wDsp ks wl G Om QF R = (ks.Nodup ∧ ks.length ≤ 15 ∧ wl G Om (fun vs O => ks.length = vs.length ∧ QF (.dct ks vs) O) R) := rfl
theorem wAugF_e : wAugF cs f g wo wv G Om Po = wo G Om (fun z O => asR z fun a => asIns (O a) fun c ns vs => c ∈ cs ∧ asO (lk ns vs f) fun d => wv G O (fun y O2 => g d y fun z => asIns (O2 a) fun c' ns' vs' => c' = c ∧ ns'.length < 1000 ∧ Po.nx G (putO O2 a (.ins c' (setN ns' f) (setV ns' vs' f z)))) fun x O => Po.ex x G O) fun x O => Po.ex x G O := by
  unfold wAugF asR asIns asO
  congr 1
  funext z O
  cases z <;> (try rfl)
  rename_i a
  dsimp only
  cases O a with
  | none => rfl
  | some m =>
    cases m <;> (try rfl)
    rename_i c ns vs
    dsimp only
    cases lk ns vs f <;> rfl
end
end N

set_option Elab.async false
set_option linter.all false
set_option maxRecDepth 100000
namespace K67
open PySem PySem.Spec PyProof.Rows L2 N
abbrev TnC : Nat := 20
def oI : Option Int → D
  | none => .non
  | some i => .int i
structure St where
  h : Option Int
  l : Option Int
  left : Int
  rew : List Int
def stN : List Str := ["holder", "last", "left", "rewards"]
def stK : List Key := [.inr "holder", .inr "last", .inr "left", .inr "rewards"]
def stV (s : St) : List D := [oI s.h, oI s.l, .int s.left, .lst (s.rew.map .int)]
def tnO (s : St) : MO := .ins TnC stN (stV s)
def sdO (s : St) : MO := .dct stK (stV s)
/-- numbers of neighbours, ascending -/
structure Wsh (count : Nat) (w : List Int) : Prop where
  as : w.Pairwise (· < ·)
  rg : ∀ x ∈ w, 0 ≤ x ∧ x < count
def bhd (w : List Int) : Option Int → List Int
  | none => w
  | some y => w.filter fun x => decide (y < x)
def nextP (w : List Int) (l : Option Int) : Option Int :=
  match bhd w l with
  | x :: _ => some x
  | [] => w.head?
def gvD (count : Nat) (g : Int → Int) : D := .dct ((List.range count).map fun (i : Nat) => .inl (i : Int)) ((List.range count).map fun (i : Nat) => .int (g i))
def bestP (g : Int → Int) (ns : List Int) : List Int := ((srtP ((ns.filter fun n => decide (0 < g n)).map fun n => (-(g n), n))).map (·.2)).take 2
def leftP (s : St) : Int := if 0 < s.left then s.left - 1 else s.left
def keptB (s : St) (w : List Int) : Bool := match s.h with | none => false | some x => w.contains x && decide (0 < leftP s)
def rewP (w : List Int) (g : Int → Int) (h : Option Int) : List Int := bestP g (w.filter fun x => decide (some x ≠ h))
def dealP (w : List Int) (g : Int → Int) (l : Option Int) : Option Int → Option Int × St
  | none => (none, ⟨none, l, 0, rewP w g none⟩)
  | some x => (some x, ⟨some x, some x, 5, rewP w g (some x)⟩)
def stepP (s : St) (w : List Int) (g : Int → Int) : Option Int × St :=
  if keptB s w = true then (none, ⟨s.h, s.l, leftP s, s.rew⟩) else dealP w g s.l (nextP w s.l)
theorem stepP_k {s : St} {w : List Int} {g : Int → Int} (h : keptB s w = true) : stepP s w g = (none, ⟨s.h, s.l, leftP s, s.rew⟩) := if_pos h
theorem stepP_d {s : St} {w : List Int} {g : Int → Int} (h : keptB s w = false) : stepP s w g = dealP w g s.l (nextP w s.l) := if_neg (by rw [h]; decide)
theorem keptB_of {s : St} {w : List Int} (h : keptB s w = true) : ∃ x, s.h = some x ∧ x ∈ w ∧ 0 < leftP s := by
  unfold keptB at h
  split at h
  · cases h
  · rename_i x e
    simp only [Bool.and_eq_true, decide_eq_true_eq, List.contains_iff_mem] at h
    exact ⟨x, e, h.1, h.2⟩
def leaveP (s : St) (n : Int) : St := ⟨if s.h = some n then none else s.h, s.l, if s.h = some n then 0 else s.left, s.rew.filter fun x => decide (x ≠ n)⟩
def servedP (s : St) : List Int := srtI (s.h.toList ++ s.rew)
/-- what holds of the slots -/
structure StOk (count : Nat) (s : St) : Prop where
  l0 : 0 ≤ s.left
  l5 : s.left ≤ 5
  h0 : ∀ x, s.h = some x → 0 ≤ x ∧ x < count
  lr : ∀ x, s.l = some x → 0 ≤ x ∧ x < count
  r2 : s.rew.length ≤ 2
def sp_next_of : DSp := fun ds Om Q _ => ∃ (count : Nat) (w : List Int) (l : Option Int), ds = [.lst (w.map .int), oI l] ∧ Wsh count w ∧ count ≤ 60 ∧ w.length ≤ 1000 ∧ Q (oI (nextP w l)) Om
def sp__law_next : DSp := sp_next_of
def sp_best : DSp := fun ds Om Q _ => ∃ (count : Nat) (w : List Int) (g : Int → Int), ds = [gvD count g, .lst (w.map .int)] ∧ Wsh count w ∧ count ≤ 60 ∧ w.length ≤ 1000 ∧ Q (.lst ((bestP g w).map .int)) Om
def sp__law_best : DSp := sp_best
def sp_Turns___init__ : DSp := fun ds Om Q _ => ∃ (a : Addr), ds = [.ref a] ∧ Om a = some (.ins TnC [] []) ∧ Q .non (putO Om a (tnO ⟨none, none, 0, []⟩))
def sp_Turns_step : DSp := fun ds Om Q _ => ∃ (a : Addr) (count : Nat) (s : St) (w : List Int) (g : Int → Int), ds = [.ref a, .lst (w.map .int), gvD count g] ∧ Om a = some (tnO s) ∧ StOk count s ∧ Wsh count w ∧ count ≤ 60 ∧ w.length ≤ 1000 ∧ Q (oI (stepP s w g).1) (putO Om a (tnO (stepP s w g).2))
def sp__law_turn_step : DSp := fun ds Om Q _ => ∃ (a : Addr) (count : Nat) (s : St) (w : List Int) (g : Int → Int), ds = [.ref a, .lst (w.map .int), gvD count g] ∧ Om a = some (sdO s) ∧ StOk count s ∧ Wsh count w ∧ count ≤ 60 ∧ w.length ≤ 1000 ∧ Q (oI (stepP s w g).1) (putO Om a (sdO (stepP s w g).2))
def sp_Turns_leave : DSp := fun ds Om Q _ => ∃ (a : Addr) (count : Nat) (s : St) (n : Int), ds = [.ref a, .int n] ∧ Om a = some (tnO s) ∧ StOk count s ∧ Q .non (putO Om a (tnO (leaveP s n)))
def sp__law_turn_leave : DSp := fun ds Om Q _ => ∃ (a : Addr) (count : Nat) (s : St) (n : Int), ds = [.ref a, .int n] ∧ Om a = some (sdO s) ∧ StOk count s ∧ Q .non (putO Om a (sdO (leaveP s n)))
def sp_Turns_served : DSp := fun ds Om Q _ => ∃ (a : Addr) (count : Nat) (s : St), ds = [.ref a] ∧ Om a = some (tnO s) ∧ StOk count s ∧ Q (.lst ((servedP s).map .int)) Om
def sp__law_served : DSp := fun ds Om Q _ => ∃ (a : Addr) (count : Nat) (s : St), ds = [.ref a] ∧ Om a = some (sdO s) ∧ StOk count s ∧ Q (.lst ((servedP s).map .int)) Om
def sp__law_wishing : DSp := fun ds Om Q _ => ∃ (r : Int) (count : Nat) (w : List Int), ds = [.int r, .lst (w.map .int), .int count] ∧ 0 ≤ r ∧ Wsh count w ∧ 7 ≤ count ∧ count ≤ 60 ∧ ∀ w', Wsh count w' → Q (.lst (w'.map .int)) Om
def sp_law : DSp := fun ds Om Q _ => ∃ ns : List Int, ds = [.scr ns] ∧ ns.length ≤ 63 ∧ ∀ O, Q (.bl true) O
end K67

set_option Elab.async false
set_option linter.all false
set_option maxRecDepth 100000
/-! PLk67: turns: plain facts -/
namespace K67
open PySem PySem.Spec PyProof.Rows L2 N
theorem Wsh.filter {count : Nat} {w : List Int} (h : Wsh count w) (t : Int → Bool) : Wsh count (w.filter t) := ⟨h.as.filter t, fun x hx => h.rg x (List.mem_filter.mp hx).1⟩
theorem Wsh.len : ∀ {w : List Int} {lo : Int} {count : Nat}, Wsh count w → (∀ x ∈ w, lo ≤ x) → 0 ≤ lo → lo ≤ count → (w.length : Int) ≤ count - lo
  | [], lo, count, _, _, h0, h1 => by simp; omega
  | x :: w, lo, count, h, hl, h0, h1 => by
    have hx := h.rg x List.mem_cons_self
    have hlx := hl x List.mem_cons_self
    have as := List.pairwise_cons.mp h.as
    have := Wsh.len (w := w) (lo := x + 1) (count := count) ⟨as.2, fun y hy => h.rg y (List.mem_cons_of_mem _ hy)⟩ (fun y hy => by have := as.1 y hy; omega) (by omega) (by omega)
    simp only [List.length_cons]
    omega
theorem Wsh.len' {w : List Int} {count : Nat} (h : Wsh count w) : w.length ≤ count := by
  have := h.len (lo := 0) (fun x hx => (h.rg x hx).1) (Int.le_refl _) (by omega)
  omega
theorem nextP_mem {w : List Int} {l : Option Int} {y : Int} (h : nextP w l = some y) : y ∈ w := by
  unfold nextP at h
  generalize e : bhd w l = b at h
  cases b with
  | nil => exact List.mem_of_head? h
  | cons x r =>
    cases h
    have : y ∈ bhd w l := e ▸ List.mem_cons_self
    cases l with
    | none => exact this
    | some z => exact (List.mem_filter.mp this).1
theorem nextP_none {w : List Int} {l : Option Int} (h : nextP w l = none) : w = [] := by
  unfold nextP at h
  generalize e : bhd w l = b at h
  cases b with
  | nil => exact List.head?_eq_none_iff.mp h
  | cons x r => cases h
/-- how far a number is behind another one, going round -/
def dst (count : Nat) (l x : Int) : Int := if l < x then x - l else x - l + count
theorem next_dst {count : Nat} {w : List Int} {l y x : Int} (hw : Wsh count w) (hl : 0 ≤ l ∧ l < count) (h : nextP w (some l) = some y) (hx : x ∈ w) (ne : x ≠ y) : dst count y x + 1 ≤ dst count l x := by
  have hy := hw.rg y (nextP_mem h)
  have hxr := hw.rg x hx
  unfold nextP at h
  generalize e : bhd w (some l) = b at h
  change w.filter (fun x => decide (l < x)) = b at e
  cases b with
  | nil =>
    have h : w.head? = some y := h
    have hall : ∀ z ∈ w, z ≤ l := fun z hz => by
      have := List.filter_eq_nil_iff.mp e z hz
      simpa using this
    have := hall x hx
    have := hall y (List.mem_of_head? h)
    have yx : y < x := by
      cases w with
      | nil => cases h
      | cons a r =>
        simp only [List.head?_cons, Option.some.injEq] at h
        subst h
        rcases List.mem_cons.mp hx with rfl | hr
        · exact absurd rfl ne
        · exact (List.pairwise_cons.mp hw.as).1 x hr
    unfold dst
    rw [if_pos yx, if_neg (by omega)]
    omega
  | cons a r =>
    have h : some a = some y := h
    cases h
    have ha := (List.mem_filter.mp (e ▸ List.mem_cons_self : y ∈ w.filter fun x => decide (l < x))).2
    have ha : l < y := by simpa using ha
    unfold dst
    by_cases q : l < x
    · have hm : x ∈ y :: r := by rw [← e]; exact List.mem_filter.mpr ⟨hx, by simpa using q⟩
      have : y < x := by
        rcases List.mem_cons.mp hm with rfl | hr
        · exact absurd rfl ne
        · have := (hw.as.filter (fun x => decide (l < x)))
          rw [e] at this
          exact (List.pairwise_cons.mp this).1 x hr
      rw [if_pos this, if_pos q]
      omega
    · rw [if_neg q, if_neg (by omega)]
      omega
theorem dst_rg {count : Nat} {l x : Int} (hl : 0 ≤ l ∧ l < count) (hx : 0 ≤ x ∧ x < count) : 1 ≤ dst count l x ∧ dst count l x ≤ count ∧ (l ≠ x → dst count l x ≤ count - 1) := by
  unfold dst
  split <;> omega
theorem bestP_len (g : Int → Int) (w : List Int) : (bestP g w).length ≤ 2 := by unfold bestP; rw [List.length_take]; omega
/-- the slots behind a step -/
theorem left_rg {s : St} {count : Nat} (hs : StOk count s) : 0 ≤ leftP s ∧ leftP s ≤ 5 := by
  unfold leftP
  have := hs.l0
  have := hs.l5
  split <;> omega
theorem step_ok {count : Nat} {s : St} {w : List Int} {g : Int → Int} (hs : StOk count s) (hw : Wsh count w) : StOk count (stepP s w g).2 := by
  cases hk : keptB s w
  · rw [stepP_d hk]
    cases e : nextP w s.l with
    | none => exact ⟨Int.le_refl _, (by decide : (0 : Int) ≤ 5), fun x h => (by cases h), hs.lr, bestP_len _ _⟩
    | some x =>
      have hx := hw.rg x (nextP_mem e)
      exact ⟨(by decide : (0 : Int) ≤ 5), Int.le_refl _, fun y h => (by cases h; exact hx), fun y h => (by cases h; exact hx), bestP_len _ _⟩
  · rw [stepP_k hk]
    exact ⟨(left_rg hs).1, (left_rg hs).2, hs.h0, hs.lr, hs.r2⟩
theorem leave_ok {count : Nat} {s : St} {n : Int} (hs : StOk count s) : StOk count (leaveP s n) := by
  unfold leaveP
  refine ⟨?_, ?_, ?_, hs.lr, ?_⟩
  · show 0 ≤ (if s.h = some n then 0 else s.left)
    have := hs.l0
    split <;> omega
  · show (if s.h = some n then 0 else s.left) ≤ 5
    have := hs.l5
    split <;> omega
  · intro x h
    have h : (if s.h = some n then none else s.h) = some x := h
    split at h
    · cases h
    · exact hs.h0 x h
  · show (s.rew.filter _).length ≤ 2
    exact Nat.le_trans (List.length_filter_le _ _) hs.r2
/-- what the law keeps of waits: held, the bounds -/
structure Fair (count : Nat) (s : St) (wt : Int → Int) (lag : Int) : Prop where
  lg : 0 ≤ lag ∧ lag ≤ 4
  w0 : ∀ x : Int, 0 ≤ x → x < count → wt x = 0 ∨ ∃ l, s.l = some l ∧ wt x ≤ 5 * (count - dst count l x) + lag
  hl : s.h ≠ none → s.h = s.l ∧ s.left = 5 - lag
theorem Fair.le {count : Nat} {s : St} {wt : Int → Int} {lag x : Int} (f : Fair count s wt lag) (hs : StOk count s) (h0 : 0 ≤ x) (h1 : x < count) : wt x ≤ 5 * count := by
  rcases f.w0 x h0 h1 with h | ⟨l, e, h⟩
  · omega
  · have := (dst_rg (hs.lr l e) ⟨h0, h1⟩).1
    have := f.lg
    omega
theorem Fair.leave {count : Nat} {s : St} {wt : Int → Int} {lag n : Int} (f : Fair count s wt lag) : ∃ lag', Fair count (leaveP s n) wt lag' := by
  by_cases e : s.h = some n
  · refine ⟨4, by omega, fun x h0 h1 => ?_, fun h => ?_⟩
    · rcases f.w0 x h0 h1 with h | ⟨l, e, h⟩
      · exact .inl h
      · exact .inr ⟨l, e, by have := f.lg; omega⟩
    · exact absurd (show (if s.h = some n then none else s.h) = none by rw [if_pos e]) h
  · refine ⟨lag, f.lg, f.w0, fun h => ?_⟩
    have e1 : (leaveP s n).h = s.h := if_neg e
    have e2 : (leaveP s n).left = s.left := if_neg e
    rw [e1] at h ⊢
    rw [e2]
    exact f.hl h
/-- the waits behind a step -/
def waitP (w : List Int) (dealt : Option Int) (wt : Int → Int) (x : Int) : Int := if x ∉ w ∨ some x = dealt then 0 else wt x + 1
theorem Fair.step {count : Nat} {s : St} {w : List Int} {g : Int → Int} {wt : Int → Int} {lag : Int} (f : Fair count s wt lag) (hs : StOk count s) (hw : Wsh count w) (hc : 7 ≤ count) :
    ∃ lag', Fair count (stepP s w g).2 (waitP w (stepP s w g).1 wt) lag' := by
  cases hk : keptB s w
  · rw [stepP_d hk]
    cases en : nextP w s.l with
    | none =>
      have hw0 := nextP_none en
      subst hw0
      refine ⟨4, by omega, fun x _ _ => .inl ?_, fun h => absurd rfl h⟩
      show waitP [] none wt x = 0
      unfold waitP
      rw [if_pos (.inl (by simp))]
    | some y =>
      have hy := hw.rg y (nextP_mem en)
      refine ⟨0, by omega, fun x h0 h1 => ?_, fun _ => ⟨rfl, rfl⟩⟩
      show waitP w (some y) wt x = 0 ∨ _
      unfold waitP
      by_cases q : x ∉ w ∨ some x = some y
      · left; rw [if_pos q]
      · rw [if_neg q]
        right
        simp only [not_or, Option.some.injEq, Classical.not_not] at q
        refine ⟨y, rfl, ?_⟩
        have d := dst_rg hy ⟨h0, h1⟩
        rcases f.w0 x h0 h1 with h | ⟨l, e, h⟩
        · have := d.2.2 (fun z => q.2 z.symm)
          rw [h]; omega
        · rw [e] at en
          have := next_dst hw (hs.lr l e) en q.1 q.2
          have := f.lg
          omega
  · rw [stepP_k hk]
    obtain ⟨y, eh, hy, hk⟩ := keptB_of hk
    obtain ⟨hlast, hleft⟩ := f.hl (by rw [eh]; simp)
    have lg := f.lg
    unfold leftP at hk ⊢
    have lp : 0 < s.left := by
      by_cases z : 0 < s.left
      · exact z
      · rw [if_neg z] at hk; exact absurd hk z
    rw [if_pos lp] at hk ⊢
    have hly : s.l = some y := by rw [← hlast, eh]
    refine ⟨lag + 1, by omega, fun x h0 h1 => ?_, fun _ => ⟨hlast, by show s.left - 1 = _; omega⟩⟩
    show waitP w none wt x = 0 ∨ _
    unfold waitP
    by_cases q : x ∉ w ∨ some x = none
    · left; rw [if_pos q]
    · rw [if_neg q]
      right
      refine ⟨y, hly, ?_⟩
      rcases f.w0 x h0 h1 with h | ⟨l, e, h⟩
      · have := (dst_rg (hs.lr y hly) ⟨h0, h1⟩).2.1
        rw [h]; omega
      · rw [hly] at e; cases e
        omega
/-- the slot is held for five steps at most -/
structure Held (s : St) (held : Int) : Prop where
  h1 : s.h ≠ none → held + s.left = 6 ∧ 1 ≤ s.left
theorem Held.leave {s : St} {held n : Int} (h : Held s held) : Held (leaveP s n) held := by
  refine ⟨fun z => ?_⟩
  have z : (if s.h = some n then none else s.h) ≠ none := z
  split at z
  · exact absurd rfl z
  · rename_i e
    have e2 : (leaveP s n).left = s.left := if_neg e
    rw [e2]
    exact h.h1 z
theorem Held.step {s : St} {held : Int} {w : List Int} {g : Int → Int} (h : Held s held) : Held (stepP s w g).2 (if (stepP s w g).1 ≠ none then 1 else held + 1) ∧ ((stepP s w g).2.h = none → (stepP s w g).2.rew = []) := by
  cases hk : keptB s w
  · rw [stepP_d hk]
    cases en : nextP w s.l with
    | none =>
      have hw0 := nextP_none en
      subst hw0
      exact ⟨⟨fun z => absurd rfl z⟩, fun _ => by simp [dealP, rewP, bestP, srtP]⟩
    | some y =>
      refine ⟨⟨fun _ => ?_⟩, fun z => by cases z⟩
      show (if (some y : Option Int) ≠ none then (1 : Int) else held + 1) + 5 = 6 ∧ (1 : Int) ≤ 5
      rw [if_pos (by simp)]
      omega
  · rw [stepP_k hk]
    obtain ⟨y, eh, hy, hk⟩ := keptB_of hk
    obtain ⟨h1, h2⟩ := h.h1 (by rw [eh]; simp)
    refine ⟨⟨fun _ => ?_⟩, fun z => ?_⟩
    · show (if (none : Option Int) ≠ none then (1 : Int) else held + 1) + leftP s = 6 ∧ 1 ≤ leftP s
      unfold leftP at hk ⊢
      rw [if_neg (by simp), if_pos (by omega)]
      rw [if_pos (by omega)] at hk
      omega
    · have z : s.h = none := z
      rw [eh] at z; cases z
theorem served_len {count : Nat} {s : St} (hs : StOk count s) : (servedP s).length ≤ 3 := by
  unfold servedP
  rw [(srtI_perm _).length_eq, List.length_append]
  have := hs.r2
  cases s.h <;> simp <;> omega
theorem served_held {s : St} {held : Int} (h : Held s held) (h2 : s.h = none → s.rew = []) (hne : 0 < (servedP s).length) : held ≤ 5 := by
  cases e : s.h with
  | none =>
    unfold servedP at hne
    rw [(srtI_perm _).length_eq, e, h2 e] at hne
    simp at hne
  | some x =>
    have := h.h1 (by rw [e]; simp)
    omega
end K67

set_option Elab.async false
set_option linter.all false
set_option maxRecDepth 100000
set_option maxHeartbeats 0
namespace K67
open PySem PySem.Spec PyProof.Rows L2 N
local macro_rules | `(tactic| tm_at "nv") => `(tactic| try simp -implicitDefEqProofs only [asSh_l, asSh_d, asShL_l, asShD_d, cont_r, cont_n, cont_b, cont_i, cont_s, cont_t, cont_l, cont_d, cont_o, contL_n, contL_c, wBinC_e, wCallC_e, wCallFC_e, wShF_e, wItC_e, wForE_e, wCompE_e, wComp2_e, wAppS_e, wRemS_e, wSetIxS_e, wPutS_e, wMakeG_e, noOwn_n, noOwn_o, noOwn_v, noOwn_z, gSorted_i, gSorted_p, Int.cast_ofNat_Int, Int.reduceEq, Int.reduceLT, Int.reduceLE, List.length_map, List.length_append, see_l, see_d, see_i, Nat.reduceAdd, Nat.reduceLeDiff, Nat.zero_le, wFn_e, startG_c, startG_n, startG_z, wSeq_e, wSet_e, wC_e, wFor_e, wIt_e, wVar_e, wVarB_e, getSl_z, getSl_s, List.set_cons_zero, List.set_cons_succ, wRet_e, wBin_e, gI_i, gI0_i, gB0_i, gAdd_i, gAdd_t, gAdd_l, gAdd_s, gMul_i, gMul_t, gMul_l, gEq_, gNe_, gIs_n, gIs_b, gIsNot_n, gIsNot_b, isNon_n, isNon_i, isNon_b, isNon_t, isNon_l, isNon_s, wIfS_e, wtOr_e, wtAnd_e, wtNot_e, wTst_e, wNext_e, wNev_e, wCall_e, wCallF_e, wFrz_e, wLst_e, wTup_e, waNil_e, waCons_e, wComp_e, wRng_e, gRng1_i, gRng2_i, gRng3_i, wUn_e, gNeg_i, gTuple_t, gTuple_l, gList_t, gList_l, gList_s, gLen_t, gLen_l, gLen_s, gLen_d, gInt_i, gInt_b, gAbs_i, gMax_i, gMin_i, wipeG, fName_e, wCallU_e, wCallK_e, List.append_nil, List.length_cons, List.length_nil, wSl_e, woNone_e, woSome_e, gSl_t, gSl_l, gIt_t, gIt_l, gIt_s, gIsi_i, gIsi_b, gIsi_t, gIsi_l, gIsi_s, gIsi_n, gIsi_d, wFld_e, wMeth_e, wMake_e, wMakeF_e, wSetF_e, wExt_e, wFz_e, wRev_e, wRaise_e, wTry_e, wBits_e, insOf_ins, lk_kind, lk_size, lk_digest, lk_is_digest, gEnum_t, gEnum_l, gZip_t, gZip_l, mem1, reduceCtorEq, eq_self, wAsg_e, fTup_e, fCons_e, fNil_e, wAnd_e, wOr_e, wNot_e, wIf_e, wPar_e, wAug_e, wApp_e, wSetO_e, wRetO_e, br_t, br_f, shp_int, shp_bl, shp_non, deq_int, gAll_b, gAny_b, gSum_i, wDrop_e, wRetN_e, true_and, and_true, decide_true, decide_false, Bool.not_true, Bool.not_false, isi_NoneType_bool, isi_NoneType_int, isi_NoneType_str, isi_NoneType_tuple, isi_NoneType_list, isi_NoneType_dict, isi_bool_bool, isi_bool_int, isi_bool_str, isi_bool_tuple, isi_bool_list, isi_bool_dict, isi_int_bool, isi_int_int, isi_int_str, isi_int_tuple, isi_int_list, isi_int_dict, isi_str_bool, isi_str_int, isi_str_str, isi_str_tuple, isi_str_list, isi_str_dict, isi_tuple_bool, isi_tuple_int, isi_tuple_str, isi_tuple_tuple, isi_tuple_list, isi_tuple_dict, isi_list_bool, isi_list_int, isi_list_str, isi_list_tuple, isi_list_list, isi_list_dict, isi_dict_bool, isi_dict_int, isi_dict_str, isi_dict_tuple, isi_dict_list, isi_dict_dict, okTy_bool, okTy_int, okTy_str, okTy_tuple, okTy_list, okTy_dict, List.cons_append, List.nil_append, wChn_e, wSetIxO_e, wGet1_e, wGet2_e, wPutO_e, wDnew_e, slV_v, slB_v, slB_l, slB_d, slB_i, slL_l, slD_d, asB_b, asI_i, asR_r, asT_t, asQ_t, asQ_l, asD_d, asK_i, asK_s, asC_c, as2_2, asO_s, asIns_i, fz_l, fz_i, fz_v, fz_n, wKeys_e, wItems_e, wVals_e, exL_hit, asRev_l, asRev_t, wtYes_e, wFzD_e, fzD_d, fzD_v])
local macro_rules | `(tactic| tm_at "nw") => `(tactic| (tm_at "nv"; repeat (with_reducible refine sq_i ?_; tm_at "nv")))
local macro_rules | `(tactic| tm_at "nc") => `(tactic| first | exact True.intro | omega | exact mulL (by omega) (by omega) | exact mulR (by omega) (by omega) | exact divOk (by omega) (by omega) | exact shlI (n := 1) (by decide) (by decide) (by omega) (by omega) | (simp only [List.length_append, List.length_map, List.length_cons, List.length_nil, List.length_replicate, List.length_flatten, List.map_replicate, List.sum_replicate_nat, List.length_range, rngL_len, rngC_len, List.cons_append, List.nil_append]; first | done | omega))
local macro_rules | `(tactic| tm_at "ns") => `(tactic| repeat (with_reducible refine And.intro (by first | tm_at "nc" | exact ⟨by tm_at "nc", by tm_at "nc"⟩ | exact ⟨by tm_at "nc", by tm_at "nc", by tm_at "nc"⟩ | exact ⟨by tm_at "nc", by tm_at "nc", by tm_at "nc", by tm_at "nc"⟩) ?_))
local macro_rules | `(tactic| tm_at "go") => `(tactic| (tm_at "nw"; repeat (first | (with_reducible refine And.intro (by first | tm_at "nc" | exact ⟨by tm_at "nc", by tm_at "nc"⟩ | exact ⟨by tm_at "nc", by tm_at "nc", by tm_at "nc"⟩) ?_) | (with_reducible refine sq_i ?_)); tm_at "nw"))
theorem deq_oI (a b : Option Int) : deq (oI a) (oI b) = decide (a = b) := by
  cases a <;> cases b
  · rfl
  · rfl
  · rfl
  · rename_i x y
    rw [show deq (oI (some x)) (oI (some y)) = decide (x = y) from deq_int x y]
    exact decide_eq_decide.mpr (by simp)
theorem shp_oI (a : Option Int) : shp (oI a) = true := by cases a <;> rfl
theorem isNon_oI (a : Option Int) : isNon (oI a) = decide (a = none) := by cases a <;> rfl
theorem lk_holder {a b c d : D} : lk stN [a, b, c, d] "holder" = some a := by unfold stN; rw [lk_hit]
theorem lk_last {a b c d : D} : lk stN [a, b, c, d] "last" = some b := by unfold stN; rw [lk_miss (by decide), lk_hit]
theorem lk_left {a b c d : D} : lk stN [a, b, c, d] "left" = some c := by unfold stN; rw [lk_miss (by decide), lk_miss (by decide), lk_hit]
theorem lk_rewards {a b c d : D} : lk stN [a, b, c, d] "rewards" = some d := by unfold stN; rw [lk_miss (by decide), lk_miss (by decide), lk_miss (by decide), lk_hit]
theorem lk_no {f : Str} {a b c d : D} (h : (stN.contains f) = false) : lk stN [a, b, c, d] f = none := by
  simp only [stN, List.contains_cons, Bool.or_eq_false_iff] at h
  obtain ⟨h1, h2, h3, h4, _⟩ := h
  unfold stN
  rw [lk_miss h1, lk_miss h2, lk_miss h3, lk_miss h4, lk_nil]
theorem lk_step {a b c d : D} : lk stN [a, b, c, d] "step" = none := lk_no (by decide)
theorem lk_leave {a b c d : D} : lk stN [a, b, c, d] "leave" = none := lk_no (by decide)
theorem lk_served {a b c d : D} : lk stN [a, b, c, d] "served" = none := lk_no (by decide)
theorem st_holder {a b c d e : D} : setN stN "holder" = stN ∧ setV stN [a, b, c, d] "holder" e = [e, b, c, d] := by
  unfold stN; rw [setN_hit, setV_hit]; exact ⟨rfl, rfl⟩
theorem st_last {a b c d e : D} : setN stN "last" = stN ∧ setV stN [a, b, c, d] "last" e = [a, e, c, d] := by
  unfold stN; rw [setN_miss (by decide), setN_hit, setV_miss (by decide), setV_hit]; exact ⟨rfl, rfl⟩
theorem st_left {a b c d e : D} : setN stN "left" = stN ∧ setV stN [a, b, c, d] "left" e = [a, b, e, d] := by
  unfold stN; rw [setN_miss (by decide), setN_miss (by decide), setN_hit, setV_miss (by decide), setV_miss (by decide), setV_hit]; exact ⟨rfl, rfl⟩
theorem st_rewards {a b c d e : D} : setN stN "rewards" = stN ∧ setV stN [a, b, c, d] "rewards" e = [a, b, c, e] := by
  unfold stN; rw [setN_miss (by decide), setN_miss (by decide), setN_miss (by decide), setN_hit, setV_miss (by decide), setV_miss (by decide), setV_miss (by decide), setV_hit]; exact ⟨rfl, rfl⟩
theorem pk_holder {a b c d e : D} : putKs stK (.inr "holder") = stK ∧ putVs stK [a, b, c, d] (.inr "holder") e = [e, b, c, d] := by
  constructor <;> simp [stK, putKs, putVs]
theorem pk_last {a b c d e : D} : putKs stK (.inr "last") = stK ∧ putVs stK [a, b, c, d] (.inr "last") e = [a, e, c, d] := by
  have h1 : ("holder" : Str) ≠ "last" := by decide
  constructor <;> simp [stK, putKs, putVs, h1]
theorem pk_left {a b c d e : D} : putKs stK (.inr "left") = stK ∧ putVs stK [a, b, c, d] (.inr "left") e = [a, b, e, d] := by
  have h1 : ("holder" : Str) ≠ "left" := by decide
  have h2 : ("last" : Str) ≠ "left" := by decide
  constructor <;> simp [stK, putKs, putVs, h1, h2]
theorem pk_rewards {a b c d e : D} : putKs stK (.inr "rewards") = stK ∧ putVs stK [a, b, c, d] (.inr "rewards") e = [a, b, c, e] := by
  have h1 : ("holder" : Str) ≠ "rewards" := by decide
  have h2 : ("last" : Str) ≠ "rewards" := by decide
  have h3 : ("left" : Str) ≠ "rewards" := by decide
  constructor <;> simp [stK, putKs, putVs, h1, h2, h3]
theorem sn_holder : setN stN "holder" = stN := (st_holder (a := .non) (b := .non) (c := .non) (d := .non) (e := .non)).1
theorem sv_holder {a b c d e : D} : setV stN [a, b, c, d] "holder" e = [e, b, c, d] := st_holder.2
theorem pa_holder : putKs stK (.inr "holder") = stK := (pk_holder (a := .non) (b := .non) (c := .non) (d := .non) (e := .non)).1
theorem pv_holder {a b c d e : D} : putVs stK [a, b, c, d] (.inr "holder") e = [e, b, c, d] := pk_holder.2
theorem sn_last : setN stN "last" = stN := (st_last (a := .non) (b := .non) (c := .non) (d := .non) (e := .non)).1
theorem sv_last {a b c d e : D} : setV stN [a, b, c, d] "last" e = [a, e, c, d] := st_last.2
theorem pa_last : putKs stK (.inr "last") = stK := (pk_last (a := .non) (b := .non) (c := .non) (d := .non) (e := .non)).1
theorem pv_last {a b c d e : D} : putVs stK [a, b, c, d] (.inr "last") e = [a, e, c, d] := pk_last.2
theorem sn_left : setN stN "left" = stN := (st_left (a := .non) (b := .non) (c := .non) (d := .non) (e := .non)).1
theorem sv_left {a b c d e : D} : setV stN [a, b, c, d] "left" e = [a, b, e, d] := st_left.2
theorem pa_left : putKs stK (.inr "left") = stK := (pk_left (a := .non) (b := .non) (c := .non) (d := .non) (e := .non)).1
theorem pv_left {a b c d e : D} : putVs stK [a, b, c, d] (.inr "left") e = [a, b, e, d] := pk_left.2
theorem sn_rewards : setN stN "rewards" = stN := (st_rewards (a := .non) (b := .non) (c := .non) (d := .non) (e := .non)).1
theorem sv_rewards {a b c d e : D} : setV stN [a, b, c, d] "rewards" e = [a, b, c, e] := st_rewards.2
theorem pa_rewards : putKs stK (.inr "rewards") = stK := (pk_rewards (a := .non) (b := .non) (c := .non) (d := .non) (e := .non)).1
theorem pv_rewards {a b c d e : D} : putVs stK [a, b, c, d] (.inr "rewards") e = [a, b, c, e] := pk_rewards.2
theorem gk_holder {a b c d : D} {K : D → Prop} : gIx (.dct stK [a, b, c, d]) (.str "holder") K = K a := by
  simp [gIx, keyD, stK, getD]
theorem gk_last {a b c d : D} {K : D → Prop} : gIx (.dct stK [a, b, c, d]) (.str "last") K = K b := by
  have h1 : ("holder" : Str) ≠ "last" := by decide
  simp [gIx, keyD, stK, getD, h1]
theorem gk_left {a b c d : D} {K : D → Prop} : gIx (.dct stK [a, b, c, d]) (.str "left") K = K c := by
  have h1 : ("holder" : Str) ≠ "left" := by decide
  have h2 : ("last" : Str) ≠ "left" := by decide
  simp [gIx, keyD, stK, getD, h1, h2]
theorem gk_rewards {a b c d : D} {K : D → Prop} : gIx (.dct stK [a, b, c, d]) (.str "rewards") K = K d := by
  have h1 : ("holder" : Str) ≠ "rewards" := by decide
  have h2 : ("last" : Str) ≠ "rewards" := by decide
  have h3 : ("left" : Str) ≠ "rewards" := by decide
  simp [gIx, keyD, stK, getD, h1, h2, h3]
theorem stK_nd : stK.Nodup := by decide
end K67

set_option Elab.async false
set_option linter.all false
set_option maxRecDepth 100000
set_option maxHeartbeats 0
namespace N
open PySem PySem.Spec PyProof.Rows L2
local macro_rules | `(tactic| tm_at "nw") => `(tactic| try simp only [wFn, startG_c, startG_n, startG_z, wSeq, wSet, wC, wFor, wIt, wVar, wVarB, getSl_z, getSl_s, List.set_cons_zero, List.set_cons_succ, wRet, wBin, gI_i, gI0_i, gB0_i, gAdd_i, gAdd_t, gAdd_l, gAdd_s, gMul_i, gMul_t, gMul_l, gEq_, gNe_, gIs_n, gIs_b, gIsNot_n, gIsNot_b, isNon_n, isNon_i, isNon_b, isNon_t, isNon_l, isNon_s, wIfS, wtOr, wtAnd, wtNot, wTst, wNext, wNev, wCall, wCallF, wFrz, wLst, wTup, waNil, waCons, wComp, wRng, gRng1_i, gRng2_i, gRng3_i, wUn, gNeg_i, gTuple_t, gTuple_l, gList_t, gList_l, gList_s, gLen_t, gLen_l, gLen_s, gLen_d, gInt_i, gInt_b, gAbs_i, gMax_i, gMin_i, wipeG, MO.see, fName, wCallU, wCallK, List.append_nil, List.length_cons, List.length_nil, wSl, woNone, woSome, gSl_t, gSl_l, gIt_t, gIt_l, gIt_s, gIsi_i, gIsi_b, gIsi_t, gIsi_l, gIsi_s, gIsi_n, gIsi_d, wFld, wMeth, wMake, wMakeF, wSetF, wExt, wFz, wRev, wRaise, wTry, wBits, insOf_ins, lk_kind, lk_size, lk_digest, lk_is_digest, gEnum_t, gEnum_l, gZip_t, gZip_l, mem1, reduceCtorEq, eq_self, wAsg, fTup, fCons, fNil, wAnd, wOr, wNot, wIf, wPar, wAug, wApp, wSetO, wRetO, br_t, br_f, shp_int, shp_bl, shp_non, deq_int, gAll_b, gAny_b, gSum_i, wDrop, wRetN, true_and, and_true, decide_true, decide_false, Bool.not_true, Bool.not_false, isi_NoneType_bool, isi_NoneType_int, isi_NoneType_str, isi_NoneType_tuple, isi_NoneType_list, isi_NoneType_dict, isi_bool_bool, isi_bool_int, isi_bool_str, isi_bool_tuple, isi_bool_list, isi_bool_dict, isi_int_bool, isi_int_int, isi_int_str, isi_int_tuple, isi_int_list, isi_int_dict, isi_str_bool, isi_str_int, isi_str_str, isi_str_tuple, isi_str_list, isi_str_dict, isi_tuple_bool, isi_tuple_int, isi_tuple_str, isi_tuple_tuple, isi_tuple_list, isi_tuple_dict, isi_list_bool, isi_list_int, isi_list_str, isi_list_tuple, isi_list_list, isi_list_dict, isi_dict_bool, isi_dict_int, isi_dict_str, isi_dict_tuple, isi_dict_list, isi_dict_dict, okTy_bool, okTy_int, okTy_str, okTy_tuple, okTy_list, okTy_dict])
local macro_rules | `(tactic| tm_at "nc") => `(tactic| first | exact True.intro | omega | exact mulL (by omega) (by omega) | exact mulR (by omega) (by omega) | exact divOk (by omega) (by omega) | (simp only [List.length_append, List.length_map, List.length_cons, List.length_nil, List.length_replicate, List.length_flatten, List.map_replicate, List.sum_replicate_nat, List.length_range, rngL_len, rngC_len, List.cons_append, List.nil_append]; first | done | omega))
local macro_rules | `(tactic| tm_at "ns") => `(tactic| repeat (with_reducible refine And.intro (by first | tm_at "nc" | exact ⟨by tm_at "nc", by tm_at "nc"⟩ | exact ⟨by tm_at "nc", by tm_at "nc", by tm_at "nc"⟩ | exact ⟨by tm_at "nc", by tm_at "nc", by tm_at "nc", by tm_at "nc"⟩) ?_))
theorem walk_ofX {l : PySem.W.OpenLaw} {n k : Nat} {q : Program} {loose : List Str} {XP : (Str → Option Value) → Heap → Prop} {YP : World → Heap → Prop} {d : DefRec} {x : Str}
    (hn : l.most = some n) (hn2 : n ≤ sizeLine) (hdf : d.params.defaults = []) (hr : Room k callerA)
    (F : ∀ (w : World) (mg : Str → Option Value) (fa : Addr) (h : Heap), YP w h → XP mg h → h.Ns mainGlobals mg → mg d.name = some (.ref fa) →
      ∃ (T : Th) (fd : FuncData) (S : DSp), T.K.In h ∧ (∀ (s : Shared) (u : Value), BindsTo s fd ⟨[u], []⟩ [(x, u)]) ∧
        (∀ ns : List Int, ns.length ≤ n → (∀ z ∈ ns, Builtin.Int.intBits z ≤ 1048576) → S [.scr ns] (fun _ => none) (fun d _ => d = .bl true) (fun _ _ => False)) ∧
        ∀ base : Heap, T.K.In base → base.Ns mainGlobals mg → FnOk l.prog w T.K mg base (L2.CX l.prog w) k fa fd [x] (toSp T 1 S)) :
    PySem.W.WalkO q loose XP YP l.row.toRowW d [] (fun f vs => PySem.call f vs) := by
  refine Att.attach_callB hn hdf fun w s₀ s₁ mg mb fa o pm cd doc a vs ns G Y ho hd hcd hmg hobj hints hlen hbits hg => ?_
  obtain ⟨T, fd, S, KX, hb, hsp, hF⟩ := F w mg fa _ Y G.X G.T.g hmg
  refine law_call (CX := L2.CX l.prog w) KX G.T.g G.T.b G.T.builtins G.T.nolimit hg hobj hints (Nat.le_trans hlen hn2) hr hF hb (fun H hO hS => sp_start hS (hsp ns hlen hbits)) fun H e s' h => ?_
  obtain ⟨_, _, h⟩ := h
  simp at h
end N

set_option Elab.async false
set_option linter.all false
set_option maxRecDepth 100000
set_option maxHeartbeats 0
/-! NSf: dict(pairs), keys may come again -/
namespace N
open PySem PySem.Spec PyProof.Rows L2
theorem putKs_mem {k x : Key} : ∀ {ks : List Key}, x ∈ putKs ks k ↔ x = k ∨ x ∈ ks
  | [] => by simp [putKs]
  | a :: r => by
    unfold putKs
    split
    · rename_i e
      subst e
      simp
    · rw [List.mem_cons, putKs_mem, List.mem_cons]
      constructor
      · rintro (h | h | h)
        · exact .inr (.inl h)
        · exact .inl h
        · exact .inr (.inr h)
      · rintro (h | h | h)
        · exact .inr (.inl h)
        · exact .inl h
        · exact .inr (.inr h)
theorem putKs_nodup {k : Key} : ∀ {ks : List Key}, ks.Nodup → (putKs ks k).Nodup
  | [], _ => by simp [putKs]
  | a :: r, h => by
    have h' := List.nodup_cons.mp h
    unfold putKs
    split
    · exact h
    · rename_i e
      refine List.nodup_cons.mpr ⟨fun z => ?_, putKs_nodup h'.2⟩
      rcases putKs_mem.mp z with z | z
      · exact e z
      · exact h'.1 z
def mgK : List Key → List Key → List Key := fun acc ks => ks.foldl putKs acc
def mgV : List Key → List D → List Key → List D → List D
  | ak, av, k :: ks, d :: ds => mgV (putKs ak k) (putVs ak av k d) ks ds
  | _, av, _, _ => av
theorem merge_rep {T : Th} {F : Addr → Prop} {H : Hp} : ∀ {ks : List Key} {ds : List D} {us : List V} {ak : List Key} {ad : List D} {au : List V}, ks.length = ds.length → Reps T F H ds us → ak.Nodup → ak.length = ad.length → Reps T F H ad au →
    ∃ ws, mergeK (ak.zip au) (ks.zip us) = (mgK ak ks).zip ws ∧ (mgK ak ks).length = (mgV ak ad ks ds).length ∧ Reps T F H (mgV ak ad ks ds) ws
  | [], [], us, ak, ad, au, _, _, _, l, r => ⟨au, rfl, l, r⟩
  | [], d :: ds, us, ak, ad, au, h, _, _, _, _ => by cases h
  | k :: ks, [], us, ak, ad, au, h, _, _, _, _ => by cases h
  | k :: ks, d :: ds, us, ak, ad, au, h, rs, nd, l, r => by
    simp only [Reps] at rs
    obtain ⟨u, us', rfl, r1, r2⟩ := rs
    obtain ⟨zs, e1, e2, e3⟩ := put_rep (k := k) r1 nd l r
    obtain ⟨ws, f1, f2, f3⟩ := merge_rep (ks := ks) (by simpa using h) r2 (putKs_nodup (k := k) nd) e2 e3
    refine ⟨ws, ?_, f2, f3⟩
    rw [List.zip_cons_cons]
    show mergeK (putK (ak.zip au) k u) (ks.zip us') = _
    rw [e1]
    exact f1
/-- dict(pairs) -/
def gDictM : GCF
  | [.lst ps], Q => ∃ ks vs, ps = prsD ks vs ∧ ks.length = vs.length ∧ Q (.dct (mgK [] ks) (mgV [] [] ks vs))
  | _, _ => False
theorem cf_dictM {X : Cx} {T : Th} (hK : T.K = X.K) (hcalm : X.calm = true) : CallF X T (.type "dict") gDictM := by
  intro pins s σ H xs us Q I r ⟨F, Pm, ds, Qd, hx, hF, hg, hq⟩
  match ds, hg with
  | [.lst ps], hg =>
    obtain ⟨ks, vs, rfl, l, hg⟩ := hg
    obtain ⟨v, rfl, h⟩ := reps1 hx
    simp only [RepT] at h
    obtain ⟨a, ws, rfl, ha, n, r2⟩ := h
    obtain ⟨ps, us2, rfl, pr, r3⟩ := prs_rep hK l r2
    refine call_dictP hcalm pins s σ H _ us Q I r ⟨a, ps, _, rfl, .inl (.of ha), pr, fun p hp => ?_⟩
    obtain ⟨zs, e1, e2, e3⟩ := merge_rep (ak := []) (ad := []) (au := []) l r3 List.nodup_nil rfl Reps.nil
    have e : mergeK [] (ks.zip us2) = (mgK [] ks).zip zs := e1
    rw [e]
    exact hq _ hg p (.dK _) hp ⟨zs, rfl, e2, e3⟩
theorem mgK_mem {x : Key} : ∀ {ks acc : List Key}, x ∈ mgK acc ks ↔ x ∈ acc ∨ x ∈ ks
  | [], acc => by simp [mgK]
  | k :: ks, acc => by
    have ih := mgK_mem (x := x) (ks := ks) (acc := putKs acc k)
    show x ∈ mgK (putKs acc k) ks ↔ _
    rw [ih, putKs_mem, List.mem_cons]
    constructor
    · rintro ((h | h) | h)
      · exact .inr (.inl h)
      · exact .inl h
      · exact .inr (.inr h)
    · rintro (h | h | h)
      · exact .inl (.inr h)
      · exact .inl (.inl h)
      · exact .inr h
theorem mgK_nodup : ∀ {ks acc : List Key}, acc.Nodup → (mgK acc ks).Nodup
  | [], acc, h => h
  | k :: ks, acc, h => mgK_nodup (ks := ks) (acc := putKs acc k) (putKs_nodup h)
theorem ints_keys : ∀ {ks : List Key}, (∀ k ∈ ks, ∃ i : Int, k = .inl i) → ∃ ns : List Int, ks = ns.map Sum.inl
  | [], _ => ⟨[], rfl⟩
  | k :: ks, h => by
    obtain ⟨i, rfl⟩ := h k List.mem_cons_self
    obtain ⟨ns, rfl⟩ := ints_keys fun x hx => h x (List.mem_cons_of_mem _ hx)
    exact ⟨i :: ns, rfl⟩
end N

set_option Elab.async false
set_option linter.all false
set_option maxRecDepth 100000
set_option maxHeartbeats 0
namespace K67
open PySem PySem.Spec PyProof.Rows L2 N
def top (i : Nat) : Stmt := PySem.Challenge.pw_anyenough_k67_whole_turns_of_many_neighb.main.body.getD i (.Pass ⟨0, 0, 0, 0⟩)
structure Mg (K : PySem.W.Frag) (mg : Str → Option Value) (T : Th) : Prop where
  n_REWARDS : ∃ t, mg "REWARDS" = some (.int 2 t)
  n_TURN : ∃ t, mg "TURN" = some (.int 5 t)
  n_dict : mg "dict" = none
  n_int : mg "int" = none
  n_isinstance : mg "isinstance" = none
  n_len : mg "len" = none
  n_list : mg "list" = none
  n_max : mg "max" = none
  n_min : mg "min" = none
  n_range : mg "range" = none
  n_sorted : mg "sorted" = none
  cl_Turns : Cls K (T.cm 20)
  na_Turns_holder : NoAttr K (T.cm 20) "holder"
  na_Turns_last : NoAttr K (T.cm 20) "last"
  na_Turns_left : NoAttr K (T.cm 20) "left"
  na_Turns_rewards : NoAttr K (T.cm 20) "rewards"
abbrev s__law_cell : Stmt := top 7
theorem sc__law_cell : FnScope ["script", "k"] ["script", "k"] (defScope s__law_cell) := ⟨rfl, rfl, rfl, by decide +kernel, rfl, by decide +kernel, by decide +kernel⟩
theorem k__law_cell {PR : Program} {w : World} {K : PySem.W.Frag} {mg : Str → Option Value} {base : Heap} {T : Th} {f : Addr} {fd : FuncData} (hT : T.K = K) (M : Mg K mg T) (F : FnP K "_law_cell" "_law_cell" s__law_cell [] f fd) :
    FnOk PR w K mg base (L2.CX PR w) 1 f fd ["script", "k"] (toSp T 2 (wFn 2 (w__law_cell))) :=
  fn_okD F sc__law_cell T (w__law_cell) fun cdv A outer s H E W ok hr tk po =>
    have nd := sc__law_cell.nd
    have hu := hr.units
    (dss_cons (ds_if (dt_cmp (od_lt) (db_var 1) (de_callB (cd_len hT) M.n_len (dab_cons (db_var 0) dab_nil)).br) (dss_one (ds_ret (de_callT (cd_int) M.n_int (dab_cons (de_ix (id_ix hT hu) (db_var 0) (db_var 1)).br dab_nil)))) dss_nil)
      (dss_one (ds_ret de_int)))
abbrev s__law_rich : Stmt := top 8
theorem sc__law_rich : FnScope ["cell", "k", "mixed"] ["cell", "k"] (defScope s__law_rich) := ⟨rfl, rfl, rfl, by decide +kernel, rfl, by decide +kernel, by decide +kernel⟩
theorem k__law_rich {PR : Program} {w : World} {K : PySem.W.Frag} {mg : Str → Option Value} {base : Heap} {T : Th} {f : Addr} {fd : FuncData} (hT : T.K = K) (M : Mg K mg T) (F : FnP K "_law_rich" "_law_rich" s__law_rich [] f fd) :
    FnOk PR w K mg base (L2.CX PR w) 1 f fd ["cell", "k"] (toSp T 2 (wFn 3 (w__law_rich))) :=
  fn_okD F sc__law_rich T (w__law_rich) fun cdv A outer s H E W ok hr tk po =>
    have nd := sc__law_rich.nd
    have hu := hr.units
    (dss_cons (ds_if (dt_cmp (od_ge) (db_var 0) (de_bin (od_pow) de_int.br de_int.br).br) (dss_one (ds_ret (de_callT (cd_int) M.n_int (dab_cons (db_var 0) dab_nil)))) dss_nil)
      (dss_cons (ds_set nd 2 (de_bin (od_mod) (de_callT (cd_int) M.n_int (dab_cons (de_bin (od_add hT) (de_bin (od_add hT) (de_bin (od_mul hT) (db_var 0) de_int.br).br (de_bin (od_mul hT) (db_var 1) de_int.br).br).br de_int.br).br dab_nil)).br de_int.br))
      (dss_one (ds_ret (de_bin (od_add hT) (de_bin (od_mul hT) (db_var 2) de_int.br).br (de_bin (od_mod) (de_callT (cd_int) M.n_int (dab_cons (de_bin (od_add hT) (de_bin (od_mul hT) (db_var 2) de_int.br).br (db_var 0)).br dab_nil)).br de_int.br).br)))))
abbrev s__law_wishing : Stmt := top 14
theorem sc__law_wishing : FnScope ["rich", "before", "count", "kind", "gone", "number"] ["rich", "before", "count"] (defScope s__law_wishing) := ⟨rfl, rfl, rfl, by decide +kernel, rfl, by decide +kernel, by decide +kernel⟩
def w__law_wishing : WS := (wSeq (wSet 3 (wBin (gMod) (wVarB 0) (wC (.int 5))))
  (wSeq (wIfS (wTst (wBin (gEq) (wVarB 3) (wC (.int 0)))) (wRet (wFrz (wComp (wRng gRng1 (waCons (wVar 2) waNil)) (fName 5) (wTst (wBin (gNe) (wBin (gMod) (wBin (gDiv) (wVarB 0) (wC (.int 5))) (wC (.int 7))) (wBin (gMod) (wCall gInt (waCons (wVarB 5) waNil)) (wC (.int 7))))) (wVar 5) [5]))) wNext)
  (wSeq (wIfS (wTst (wBin (gEq) (wVarB 3) (wC (.int 1)))) (wRet (wFrz (wComp (wRng gRng1 (waCons (wVar 2) waNil)) (fName 5) (wtOr (wTst (wBin (gIn true) (wVarB 5) (wVarB 1))) (wTst (wBin (gEq) (wBin (gMod) (wVarB 5) (wC (.int 2))) (wBin (gMod) (wBin (gDiv) (wVarB 0) (wC (.int 5))) (wC (.int 2)))))) (wVar 5) [5]))) wNext)
  (wSeq (wIfS (wTst (wBin (gEq) (wVarB 3) (wC (.int 2)))) (wSeq (wSet 4 (wBin (gMod) (wBin (gDiv) (wVarB 0) (wC (.int 5))) (wVarB 2)))
  (wRet (wFrz (wComp (wIt (wVarB 1)) (fName 5) (wTst (wBin (gNe) (wVarB 5) (wVarB 4))) (wVar 5) [5])))) wNext)
  (wRet (wFrz (wCallF gSorted (waCons (wFrz (wCallF gDictM (waCons (wFrz (wComp (wIt (wBin (gAdd) (wVarB 1) (wFrz (wLst (waCons (wBin (gMod) (wBin (gDiv) (wVarB 0) (wC (.int 5))) (wVarB 2)) waNil))))) (fName 5) wtYes (wTup (waCons (wVar 5) (waCons (wC (.bl true)) waNil))) [5])) waNil))) waNil))))))))
theorem k__law_wishing {PR : Program} {w : World} {K : PySem.W.Frag} {mg : Str → Option Value} {base : Heap} {T : Th} {f : Addr} {fd : FuncData} (hT : T.K = K) (M : Mg K mg T) (F : FnP K "_law_wishing" "_law_wishing" s__law_wishing [] f fd) :
    FnOk PR w K mg base (L2.CX PR w) 1 f fd ["rich", "before", "count"] (toSp T 3 (wFn 6 (w__law_wishing))) :=
  fn_okD F sc__law_wishing T (w__law_wishing) fun cdv A outer s H E W ok hr tk po =>
    have nd := sc__law_wishing.nd
    have hu := hr.units
    (dss_cons (ds_set nd 3 (de_bin (od_mod) (db_var 0) de_int.br))
      (dss_cons (ds_if (dt_cmp (od_eq hT hu) (db_var 3) de_int.br) (dss_one (ds_ret (df_lc rfl nd [("number", 5)] (di_rng1 M.n_range (da_cons (de_var 2) da_nil)) (fun _ _ _ _ _ => (dg_name nd 5)) (fun _ _ _ _ _ => (dts_one (dt_cmp (od_ne hT hu) (de_bin (od_mod) (de_bin (od_div) (db_var 0) de_int.br).br de_int.br).br (de_bin (od_mod) (de_callT (cd_int) M.n_int (dab_cons (db_var 5) dab_nil)).br de_int.br).br))) (fun _ _ _ _ _ => (de_var 5))).fz)) dss_nil)
      (dss_cons (ds_if (dt_cmp (od_eq hT hu) (db_var 3) de_int.br) (dss_one (ds_ret (df_lc rfl nd [("number", 5)] (di_rng1 M.n_range (da_cons (de_var 2) da_nil)) (fun _ _ _ _ _ => (dg_name nd 5)) (fun _ _ _ _ _ => (dts_one (dw_or (dt_cmp (od_notin hT hu) (db_var 5) (db_var 1)) (dw_or1 (dt_cmp (od_eq hT hu) (de_bin (od_mod) (db_var 5) de_int.br).br (de_bin (od_mod) (de_bin (od_div) (db_var 0) de_int.br).br de_int.br).br))).t)) (fun _ _ _ _ _ => (de_var 5))).fz)) dss_nil)
      (dss_cons (ds_if (dt_cmp (od_eq hT hu) (db_var 3) de_int.br) (dss_cons (ds_set nd 4 (de_bin (od_mod) (de_bin (od_div) (db_var 0) de_int.br).br (db_var 2)))
      (dss_one (ds_ret (df_lc rfl nd [("number", 5)] (di_valB hT (db_var 1)) (fun _ _ _ _ _ => (dg_name nd 5)) (fun _ _ _ _ _ => (dts_one (dt_cmp (od_ne hT hu) (db_var 5) (db_var 4)))) (fun _ _ _ _ _ => (de_var 5))).fz))) dss_nil)
      (dss_one (ds_ret (df_callB (cf_sorted hT rfl) M.n_sorted (dab_cons (df_callT (cf_dictM hT rfl) M.n_dict (dab_cons (df_lc rfl nd [("number", 5)] (di_valB hT (de_bin (od_add hT) (db_var 1) (df_lst (da_cons (de_bin (od_mod) (de_bin (od_div) (db_var 0) de_int.br).br (db_var 2)) da_nil)).br).br) (fun _ _ _ _ _ => (dg_name nd 5)) (fun _ _ _ _ _ => dts_nil) (fun _ _ _ _ _ => (de_tup (da_cons (de_var 5) (da_cons de_bl da_nil))))).br dab_nil)).br dab_nil)).fz))))))
abbrev s__law_turn_leave : Stmt := top 12
theorem sc__law_turn_leave : FnScope ["state", "number", "other"] ["state", "number"] (defScope s__law_turn_leave) := ⟨rfl, rfl, rfl, by decide +kernel, rfl, by decide +kernel, by decide +kernel⟩
def w__law_turn_leave : WS := (wSeq (wIfS (wTst (wBin (gEq) (wBinC gIx (wVarB 0) (wC (.str "holder"))) (wVarB 1))) (wSeq (wPutS (wC .non) (wVar 0) (wC (.str "holder")))
  (wPutS (wC (.int 0)) (wVar 0) (wC (.str "left")))) wNext)
  (wPutS (wFrz (wComp (wIt (wBinC gIx (wVarB 0) (wC (.str "rewards")))) (fName 2) (wTst (wBin (gNe) (wVarB 2) (wVarB 1))) (wVar 2) [2])) (wVar 0) (wC (.str "rewards"))))
theorem k__law_turn_leave {PR : Program} {w : World} {K : PySem.W.Frag} {mg : Str → Option Value} {base : Heap} {T : Th} {f : Addr} {fd : FuncData} (hT : T.K = K) (M : Mg K mg T) (F : FnP K "_law_turn_leave" "_law_turn_leave" s__law_turn_leave [] f fd) :
    FnOk PR w K mg base (L2.CX PR w) 1 f fd ["state", "number"] (toSp T 2 (wFn 3 (w__law_turn_leave))) :=
  fn_okD F sc__law_turn_leave T (w__law_turn_leave) fun cdv A outer s H E W ok hr tk po =>
    have nd := sc__law_turn_leave.nd
    have hu := hr.units
    (dss_cons (ds_if (dt_cmp (od_eq hT hu) (de_ixC (id_ix hT hu) (db_var 0) de_str.br).br (db_var 1)) (dss_cons (ds_putS hu de_non (de_var 0) de_str)
      (dss_one (ds_putS hu de_int (de_var 0) de_str))) dss_nil)
      (dss_one (ds_putS hu (df_lc rfl nd [("other", 2)] (di_valB hT (de_ixC (id_ix hT hu) (db_var 0) de_str.br).br) (fun _ _ _ _ _ => (dg_name nd 2)) (fun _ _ _ _ _ => (dts_one (dt_cmp (od_ne hT hu) (db_var 2) (db_var 1)))) (fun _ _ _ _ _ => (de_var 2))).fz (de_var 0) de_str)))
abbrev s__law_next : Stmt := top 9
theorem sc__law_next : FnScope ["wishing", "last", "behind", "number"] ["wishing", "last"] (defScope s__law_next) := ⟨rfl, rfl, rfl, by decide +kernel, rfl, by decide +kernel, by decide +kernel⟩
def w__law_next : WS := (wSeq (wSet 2 (wFrz (wComp (wIt (wVarB 0)) (fName 3) (wtOr (wTst (wBin (gIs) (wVarB 1) (wC .non))) (wTst (wBin (gGt) (wVarB 3) (wVarB 1)))) (wVar 3) [3])))
  (wSeq (wIfS (wTst (wBin (gGt) (wCall gLen (waCons (wVarB 2) waNil)) (wC (.int 0)))) (wRet (wBin gIx (wVarB 2) (wC (.int 0)))) wNext)
  (wRet (wIf (wTst (wBin (gGt) (wCall gLen (waCons (wVarB 0) waNil)) (wC (.int 0)))) (wBin gIx (wVarB 0) (wC (.int 0))) (wC .non)))))
theorem k__law_next {PR : Program} {w : World} {K : PySem.W.Frag} {mg : Str → Option Value} {base : Heap} {T : Th} {f : Addr} {fd : FuncData} (hT : T.K = K) (M : Mg K mg T) (F : FnP K "_law_next" "_law_next" s__law_next [] f fd) :
    FnOk PR w K mg base (L2.CX PR w) 1 f fd ["wishing", "last"] (toSp T 2 (wFn 4 (w__law_next))) :=
  fn_okD F sc__law_next T (w__law_next) fun cdv A outer s H E W ok hr tk po =>
    have nd := sc__law_next.nd
    have hu := hr.units
    (dss_cons (ds_setLc rfl nd 2 [("number", 3)] (di_valB hT (db_var 0)) (fun _ _ _ _ _ => (dg_name nd 3)) (fun _ _ _ _ _ => (dts_one (dw_or (dt_cmp (od_is) (db_var 1) de_non.br) (dw_or1 (dt_cmp (od_gt) (db_var 3) (db_var 1)))).t)) (fun _ _ _ _ _ => (de_var 3)))
      (dss_cons (ds_if (dt_cmp (od_gt) (de_callB (cd_len hT) M.n_len (dab_cons (db_var 2) dab_nil)).br de_int.br) (dss_one (ds_ret (de_ix (id_ix hT hu) (db_var 2) de_int.br))) dss_nil)
      (dss_one (ds_ret (de_if (dt_cmp (od_gt) (de_callB (cd_len hT) M.n_len (dab_cons (db_var 0) dab_nil)).br de_int.br) (de_ix (id_ix hT hu) (db_var 0) de_int.br) de_non)))))
abbrev s__law_best : Stmt := top 10
theorem sc__law_best : FnScope ["given", "numbers", "found", "number", "count", "at"] ["given", "numbers"] (defScope s__law_best) := ⟨rfl, rfl, rfl, by decide +kernel, rfl, by decide +kernel, by decide +kernel⟩
abbrev w__law_best_b1 : WS := (wSet 5 (wBin (gAdd) (wVarB 5) (wC (.int 1))))
abbrev w__law_best_b2 : WS := (wSeq (wSet 4 (wGet2 (wVarB 0) (wVar 3) (wC (.int 0))))
  (wSeq (wSet 5 (wC (.int 0)))
  (wSeq (wWh (wtAnd (wTst (wBin (gLt) (wVarB 5) (wCall gLen (waCons (wVarB 2) waNil)))) (wTst (wBin (gGe) (wGet2 (wVarB 0) (wBin gIx (wVarB 2) (wVarB 5)) (wC (.int 0))) (wVarB 4)))) (w__law_best_b1))
  (wIfS (wTst (wBin (gGt) (wVarB 4) (wC (.int 0)))) (wSet 2 (wBin (gAdd) (wBin (gAdd) (wSl (wVarB 2) woNone (woSome (wVar 5))) (wFrz (wLst (waCons (wVar 3) waNil)))) (wSl (wVarB 2) (woSome (wVar 5)) woNone))) wNext))))
def w__law_best : WS := (wSeq (wSet 2 (wFrz (wLst waNil)))
  (wSeq (wFor (wIt (wVar 1)) (fName 3) (w__law_best_b2))
  (wRet (wSl (wVarB 2) woNone (woSome (wC (.int 2)))))))
theorem k__law_best {PR : Program} {w : World} {K : PySem.W.Frag} {mg : Str → Option Value} {base : Heap} {T : Th} {f : Addr} {fd : FuncData} (hT : T.K = K) (M : Mg K mg T) (F : FnP K "_law_best" "_law_best" s__law_best [] f fd) :
    FnOk PR w K mg base (L2.CX PR w) 1 f fd ["given", "numbers"] (toSp T 2 (wFn 6 (w__law_best))) :=
  fn_okD F sc__law_best T (w__law_best) fun cdv A outer s H E W ok hr tk po =>
    have nd := sc__law_best.nd
    have hu := hr.units
    (dss_cons (ds_set nd 2 (df_lst da_nil).fz)
      (dss_cons (ds_for po rfl (di_val hT (de_var 1)) (dg_name nd 3) (dss_cons (ds_set nd 4 (de_get2 hu (db_var 0) (de_var 3) de_int))
      (dss_cons (ds_set nd 5 de_int)
      (dss_cons (ds_while po (dw_and (dt_cmp (od_lt) (db_var 5) (de_callB (cd_len hT) M.n_len (dab_cons (db_var 2) dab_nil)).br) (dw_and1 (dt_cmp (od_ge) (de_get2 hu (db_var 0) (de_ix (id_ix hT hu) (db_var 2) (db_var 5)) de_int).br (db_var 4)))).t (dss_one (ds_set nd 5 (de_bin (od_add hT) (db_var 5) de_int.br))))
      (dss_one (ds_if (dt_cmp (od_gt) (db_var 4) de_int.br) (dss_one (ds_set nd 2 (de_bin (od_add hT) (de_bin (od_add hT) (de_sl hT (db_var 2) do_none (do_some (de_var 5))).br (df_lst (da_cons (de_var 3) da_nil)).br).br (de_sl hT (db_var 2) (do_some (de_var 5)) do_none).br))) dss_nil))))))
      (dss_one (ds_ret (de_sl hT (db_var 2) do_none (do_some de_int))))))
abbrev s__law_turn_step : Stmt := top 11
theorem sc__law_turn_step : FnScope ["state", "wishing", "given", "number"] ["state", "wishing", "given"] (defScope s__law_turn_step) := ⟨rfl, rfl, rfl, by decide +kernel, rfl, by decide +kernel, by decide +kernel⟩
def w__law_turn_step : WS := (wSeq (wIfS (wTst (wBin (gGt) (wBinC gIx (wVarB 0) (wC (.str "left"))) (wC (.int 0)))) (wPutS (wBin (gSub) (wBinC gIx (wVarB 0) (wC (.str "left"))) (wC (.int 1))) (wVar 0) (wC (.str "left"))) wNext)
  (wSeq (wIfS (wtAnd (wTst (wBin (gIsNot) (wBinC gIx (wVarB 0) (wC (.str "holder"))) (wC .non))) (wtAnd (wTst (wBin (gIn false) (wBinC gIx (wVarB 0) (wC (.str "holder"))) (wVarB 1))) (wTst (wBin (gGt) (wBinC gIx (wVarB 0) (wC (.str "left"))) (wC (.int 0)))))) (wRet (wC .non)) wNext)
  (wSeq (wPutS (wCallU 2 sp__law_next [] (waCons (wVar 1) (waCons (wBinC gIx (wVarB 0) (wC (.str "last"))) waNil))) (wVar 0) (wC (.str "holder")))
  (wSeq (wPutS (wCallU 2 sp__law_best [] (waCons (wVar 2) (waCons (wFrz (wComp (wIt (wVarB 1)) (fName 3) (wTst (wBin (gNe) (wVarB 3) (wBinC gIx (wVarB 0) (wC (.str "holder"))))) (wVar 3) [3])) waNil))) (wVar 0) (wC (.str "rewards")))
  (wSeq (wIfS (wTst (wBin (gIs) (wBinC gIx (wVarB 0) (wC (.str "holder"))) (wC .non))) (wSeq (wPutS (wC (.int 0)) (wVar 0) (wC (.str "left")))
  (wRet (wC .non))) wNext)
  (wSeq (wPutS (wBinC gIx (wVarB 0) (wC (.str "holder"))) (wVar 0) (wC (.str "last")))
  (wSeq (wPutS (wC (.int 5)) (wVar 0) (wC (.str "left")))
  (wRet (wBinC gIx (wVarB 0) (wC (.str "holder")))))))))))
theorem k__law_turn_step {PR : Program} {w : World} {K : PySem.W.Frag} {mg : Str → Option Value} {base : Heap} {T : Th} {f : Addr} {fd : FuncData} (hT : T.K = K) (M : Mg K mg T) (F : FnP K "_law_turn_step" "_law_turn_step" s__law_turn_step [] f fd) (c__law_next : Cl PR w K mg base T 1 "_law_next" 2 sp__law_next) (c__law_best : Cl PR w K mg base T 1 "_law_best" 2 sp__law_best) :
    FnOk PR w K mg base (L2.CX PR w) 2 f fd ["state", "wishing", "given"] (toSp T 3 (wFn 4 (w__law_turn_step))) :=
  fn_okD F sc__law_turn_step T (w__law_turn_step) fun cdv A outer s H E W ok hr tk po =>
    have nd := sc__law_turn_step.nd
    have hu := hr.units
    (dss_cons (ds_if (dt_cmp (od_gt) (de_ixC (id_ix hT hu) (db_var 0) de_str.br).br de_int.br) (dss_one (ds_putS hu (de_bin (od_sub) (de_ixC (id_ix hT hu) (db_var 0) de_str.br).br de_int.br) (de_var 0) de_str)) dss_nil)
      (dss_cons (ds_if (dw_and (dt_cmp (od_isnot) (de_ixC (id_ix hT hu) (db_var 0) de_str.br).br de_non.br) (dw_and (dt_cmp (od_in hT hu) (de_ixC (id_ix hT hu) (db_var 0) de_str.br).br (db_var 1)) (dw_and1 (dt_cmp (od_gt) (de_ixC (id_ix hT hu) (db_var 0) de_str.br).br de_int.br)))).t (dss_one (ds_ret de_non)) dss_nil)
      (dss_cons (ds_putS hu (de_cl c__law_next (hr.mono (by decide)) tk (da_cons (de_var 1) (da_cons (de_ixC (id_ix hT hu) (db_var 0) de_str.br) da_nil))) (de_var 0) de_str)
      (dss_cons (ds_putS hu (de_cl c__law_best (hr.mono (by decide)) tk (da_cons (de_var 2) (da_cons (df_lc rfl nd [("number", 3)] (di_valB hT (db_var 1)) (fun _ _ _ _ _ => (dg_name nd 3)) (fun _ _ _ _ _ => (dts_one (dt_cmp (od_ne hT hu) (db_var 3) (de_ixC (id_ix hT hu) (db_var 0) de_str.br).br))) (fun _ _ _ _ _ => (de_var 3))).fz da_nil))) (de_var 0) de_str)
      (dss_cons (ds_if (dt_cmp (od_is) (de_ixC (id_ix hT hu) (db_var 0) de_str.br).br de_non.br) (dss_cons (ds_putS hu de_int (de_var 0) de_str)
      (dss_one (ds_ret de_non))) dss_nil)
      (dss_cons (ds_putS hu (de_ixC (id_ix hT hu) (db_var 0) de_str.br) (de_var 0) de_str)
      (dss_cons (ds_putS hu de_int (de_var 0) de_str)
      (dss_one (ds_ret (de_ixC (id_ix hT hu) (db_var 0) de_str.br))))))))))
abbrev s__law_served : Stmt := top 13
theorem sc__law_served : FnScope ["state", "own"] ["state"] (defScope s__law_served) := ⟨rfl, rfl, rfl, by decide +kernel, rfl, by decide +kernel, by decide +kernel⟩
def w__law_served : WS := (wSeq (wSet 1 (wIf (wTst (wBin (gIsNot) (wBinC gIx (wVarB 0) (wC (.str "holder"))) (wC .non))) (wFrz (wLst (waCons (wBinC gIx (wVarB 0) (wC (.str "holder"))) waNil))) (wFrz (wLst waNil))))
  (wRet (wFrz (wCallF gSorted (waCons (wBin (gAdd) (wVarB 1) (wBinC gIx (wVarB 0) (wC (.str "rewards")))) waNil)))))
theorem k__law_served {PR : Program} {w : World} {K : PySem.W.Frag} {mg : Str → Option Value} {base : Heap} {T : Th} {f : Addr} {fd : FuncData} (hT : T.K = K) (M : Mg K mg T) (F : FnP K "_law_served" "_law_served" s__law_served [] f fd) :
    FnOk PR w K mg base (L2.CX PR w) 1 f fd ["state"] (toSp T 1 (wFn 2 (w__law_served))) :=
  fn_okD F sc__law_served T (w__law_served) fun cdv A outer s H E W ok hr tk po =>
    have nd := sc__law_served.nd
    have hu := hr.units
    (dss_cons (ds_set nd 1 (de_if (dt_cmp (od_isnot) (de_ixC (id_ix hT hu) (db_var 0) de_str.br).br de_non.br) (df_lst (da_cons (de_ixC (id_ix hT hu) (db_var 0) de_str.br) da_nil)).fz (df_lst da_nil).fz))
      (dss_one (ds_ret (df_callB (cf_sorted hT rfl) M.n_sorted (dab_cons (de_bin (od_add hT) (db_var 1) (de_ixC (id_ix hT hu) (db_var 0) de_str.br).br).br dab_nil)).fz)))
abbrev s_Turns___init__ : Stmt := clsAt (top 5) 0
theorem sc_Turns___init__ : FnScope ["self"] ["self"] (defScope s_Turns___init__) := ⟨rfl, rfl, rfl, by decide +kernel, rfl, by decide +kernel, by decide +kernel⟩
def w_Turns___init__ : WS := (wSeq (wSetF [20] "holder" (wC .non) (wVar 0))
  (wSeq (wSetF [20] "last" (wC .non) (wVar 0))
  (wSeq (wSetF [20] "left" (wC (.int 0)) (wVar 0))
  (wSetF [20] "rewards" (wFrz (wLst waNil)) (wVar 0)))))
theorem k_Turns___init__ {PR : Program} {w : World} {K : PySem.W.Frag} {mg : Str → Option Value} {base : Heap} {T : Th} {f : Addr} {fd : FuncData} (hT : T.K = K) (M : Mg K mg T) (F : FnP K "__init__" "Turns.__init__" s_Turns___init__ [] f fd) :
    FnOk PR w K mg base (L2.CX PR w) 1 f fd ["self"] (toSp T 1 (wFn 1 (w_Turns___init__))) :=
  fn_okD F sc_Turns___init__ T (w_Turns___init__) fun cdv A outer s H E W ok hr tk po =>
    have nd := sc_Turns___init__.nd
    have hu := hr.units
    (dss_cons (ds_setF (fc_cons M.cl_Turns M.na_Turns_holder fc_nil) de_non (de_var 0))
      (dss_cons (ds_setF (fc_cons M.cl_Turns M.na_Turns_last fc_nil) de_non (de_var 0))
      (dss_cons (ds_setF (fc_cons M.cl_Turns M.na_Turns_left fc_nil) de_int (de_var 0))
      (dss_one (ds_setF (fc_cons M.cl_Turns M.na_Turns_rewards fc_nil) (df_lst da_nil).fz (de_var 0))))))
abbrev s_Turns_leave : Stmt := clsAt (top 5) 2
theorem sc_Turns_leave : FnScope ["self", "number", "other"] ["self", "number"] (defScope s_Turns_leave) := ⟨rfl, rfl, rfl, by decide +kernel, rfl, by decide +kernel, by decide +kernel⟩
def w_Turns_leave : WS := (wSeq (wIfS (wTst (wBin (gEq) (wFld [20] "holder" (wVarB 0)) (wVarB 1))) (wSeq (wSetF [20] "holder" (wC .non) (wVar 0))
  (wSetF [20] "left" (wC (.int 0)) (wVar 0))) wNext)
  (wSetF [20] "rewards" (wFrz (wComp (wIt (wFld [20] "rewards" (wVarB 0))) (fName 2) (wTst (wBin (gNe) (wVarB 2) (wVarB 1))) (wVar 2) [2])) (wVar 0)))
theorem k_Turns_leave {PR : Program} {w : World} {K : PySem.W.Frag} {mg : Str → Option Value} {base : Heap} {T : Th} {f : Addr} {fd : FuncData} (hT : T.K = K) (M : Mg K mg T) (F : FnP K "leave" "Turns.leave" s_Turns_leave [] f fd) :
    FnOk PR w K mg base (L2.CX PR w) 1 f fd ["self", "number"] (toSp T 2 (wFn 3 (w_Turns_leave))) :=
  fn_okD F sc_Turns_leave T (w_Turns_leave) fun cdv A outer s H E W ok hr tk po =>
    have nd := sc_Turns_leave.nd
    have hu := hr.units
    (dss_cons (ds_if (dt_cmp (od_eq hT hu) (de_fld (fc_cons M.cl_Turns M.na_Turns_holder fc_nil) (db_var 0)).br (db_var 1)) (dss_cons (ds_setF (fc_cons M.cl_Turns M.na_Turns_holder fc_nil) de_non (de_var 0))
      (dss_one (ds_setF (fc_cons M.cl_Turns M.na_Turns_left fc_nil) de_int (de_var 0)))) dss_nil)
      (dss_one (ds_setF (fc_cons M.cl_Turns M.na_Turns_rewards fc_nil) (df_lc rfl nd [("other", 2)] (di_valB hT (de_fld (fc_cons M.cl_Turns M.na_Turns_rewards fc_nil) (db_var 0)).br) (fun _ _ _ _ _ => (dg_name nd 2)) (fun _ _ _ _ _ => (dts_one (dt_cmp (od_ne hT hu) (db_var 2) (db_var 1)))) (fun _ _ _ _ _ => (de_var 2))).fz (de_var 0))))
abbrev s_next_of : Stmt := top 3
theorem sc_next_of : FnScope ["numbers", "last", "behind", "number"] ["numbers", "last"] (defScope s_next_of) := ⟨rfl, rfl, rfl, by decide +kernel, rfl, by decide +kernel, by decide +kernel⟩
def w_next_of : WS := (wSeq (wSet 2 (wFrz (wComp (wIt (wVarB 0)) (fName 3) (wtOr (wTst (wBin (gIs) (wVarB 1) (wC .non))) (wTst (wBin (gGt) (wVarB 3) (wVarB 1)))) (wVar 3) [3])))
  (wSeq (wIfS (wTst (wBin (gNe) (wVarB 2) (wFrz (wLst waNil)))) (wRet (wCall gMin (waCons (wVarB 2) waNil))) wNext)
  (wRet (wIf (wTst (wBin (gNe) (wVarB 0) (wFrz (wLst waNil)))) (wCall gMin (waCons (wVarB 0) waNil)) (wC .non)))))
theorem k_next_of {PR : Program} {w : World} {K : PySem.W.Frag} {mg : Str → Option Value} {base : Heap} {T : Th} {f : Addr} {fd : FuncData} (hT : T.K = K) (M : Mg K mg T) (F : FnP K "next_of" "next_of" s_next_of [] f fd) :
    FnOk PR w K mg base (L2.CX PR w) 1 f fd ["numbers", "last"] (toSp T 2 (wFn 4 (w_next_of))) :=
  fn_okD F sc_next_of T (w_next_of) fun cdv A outer s H E W ok hr tk po =>
    have nd := sc_next_of.nd
    have hu := hr.units
    (dss_cons (ds_setLc rfl nd 2 [("number", 3)] (di_valB hT (db_var 0)) (fun _ _ _ _ _ => (dg_name nd 3)) (fun _ _ _ _ _ => (dts_one (dw_or (dt_cmp (od_is) (db_var 1) de_non.br) (dw_or1 (dt_cmp (od_gt) (db_var 3) (db_var 1)))).t)) (fun _ _ _ _ _ => (de_var 3)))
      (dss_cons (ds_if (dt_cmp (od_ne hT hu) (db_var 2) (df_lst da_nil).br) (dss_one (ds_ret (de_callB (cd_min rfl) M.n_min (dab_cons (db_var 2) dab_nil)))) dss_nil)
      (dss_one (ds_ret (de_if (dt_cmp (od_ne hT hu) (db_var 0) (df_lst da_nil).br) (de_callB (cd_min rfl) M.n_min (dab_cons (db_var 0) dab_nil)) de_non)))))
abbrev s_best : Stmt := top 4
theorem sc_best : FnScope ["given", "numbers", "rows", "number", "_"] ["given", "numbers"] (defScope s_best) := ⟨rfl, rfl, rfl, by decide +kernel, rfl, by decide +kernel, by decide +kernel⟩
def w_best : WS := (wSeq (wSet 2 (wFrz (wCallF gSorted (waCons (wFrz (wComp (wIt (wVarB 1)) (fName 3) (wTst (wBin (gGt) (wGet2 (wVarB 0) (wVar 3) (wC (.int 0))) (wC (.int 0)))) (wTup (waCons (wUn gNeg (wBin gIx (wVarB 0) (wVarB 3))) (waCons (wVar 3) waNil))) [3])) waNil))))
  (wRet (wFrz (wComp (wIt (wSl (wVarB 2) woNone (woSome (wC (.int 2))))) (fTup 2 (fCons (fName 4) (fCons (fName 3) fNil))) wtYes (wVar 3) [4, 3]))))
theorem k_best {PR : Program} {w : World} {K : PySem.W.Frag} {mg : Str → Option Value} {base : Heap} {T : Th} {f : Addr} {fd : FuncData} (hT : T.K = K) (M : Mg K mg T) (F : FnP K "best" "best" s_best [] f fd) :
    FnOk PR w K mg base (L2.CX PR w) 1 f fd ["given", "numbers"] (toSp T 2 (wFn 5 (w_best))) :=
  fn_okD F sc_best T (w_best) fun cdv A outer s H E W ok hr tk po =>
    have nd := sc_best.nd
    have hu := hr.units
    (dss_cons (ds_set nd 2 (df_callB (cf_sorted hT rfl) M.n_sorted (dab_cons (df_lc rfl nd [("number", 3)] (di_valB hT (db_var 1)) (fun _ _ _ _ _ => (dg_name nd 3)) (fun _ _ _ _ _ => (dts_one (dt_cmp (od_gt) (de_get2 hu (db_var 0) (de_var 3) de_int).br de_int.br))) (fun _ _ _ _ _ => (de_tup (da_cons (de_un ud_neg (de_ix (id_ix hT hu) (db_var 0) (db_var 3)).br) (da_cons (de_var 3) da_nil))))).br dab_nil)).fz)
      (dss_one (ds_ret (df_lc rfl nd [("_", 4), ("number", 3)] (di_valB hT (de_sl hT (db_var 2) do_none (do_some (de_gintE M.n_REWARDS))).br) (fun _ _ _ _ _ => (dg_tup hT rfl (dgs_cons (dg_name nd 4) (dgs_cons (dg_name nd 3) dgs_nil)))) (fun _ _ _ _ _ => dts_nil) (fun _ _ _ _ _ => (de_var 3))).fz)))
abbrev s_Turns_step : Stmt := clsAt (top 5) 1
theorem sc_Turns_step : FnScope ["self", "wishing", "given", "number"] ["self", "wishing", "given"] (defScope s_Turns_step) := ⟨rfl, rfl, rfl, by decide +kernel, rfl, by decide +kernel, by decide +kernel⟩
def w_Turns_step : WS := (wSeq (wIfS (wTst (wBin (gGt) (wFld [20] "left" (wVarB 0)) (wC (.int 0)))) (wAugF [20] "left" (gSub) (wVar 0) (wC (.int 1))) wNext)
  (wSeq (wIfS (wtAnd (wTst (wBin (gIsNot) (wFld [20] "holder" (wVarB 0)) (wC .non))) (wtAnd (wTst (wBin (gIn false) (wFld [20] "holder" (wVarB 0)) (wVarB 1))) (wTst (wBin (gGt) (wFld [20] "left" (wVarB 0)) (wC (.int 0)))))) (wRet (wC .non)) wNext)
  (wSeq (wSetF [20] "holder" (wCallU 2 sp_next_of [] (waCons (wVar 1) (waCons (wFld [20] "last" (wVarB 0)) waNil))) (wVar 0))
  (wSeq (wSetF [20] "rewards" (wCallU 2 sp_best [] (waCons (wVar 2) (waCons (wFrz (wComp (wIt (wVarB 1)) (fName 3) (wTst (wBin (gNe) (wVarB 3) (wFld [20] "holder" (wVarB 0)))) (wVar 3) [3])) waNil))) (wVar 0))
  (wSeq (wIfS (wTst (wBin (gIs) (wFld [20] "holder" (wVarB 0)) (wC .non))) (wSeq (wSetF [20] "left" (wC (.int 0)) (wVar 0))
  (wRet (wC .non))) wNext)
  (wSeq (wSetF [20] "last" (wFld [20] "holder" (wVarB 0)) (wVar 0))
  (wSeq (wSetF [20] "left" (wC (.int 5)) (wVar 0))
  (wRet (wFld [20] "holder" (wVarB 0))))))))))
theorem k_Turns_step {PR : Program} {w : World} {K : PySem.W.Frag} {mg : Str → Option Value} {base : Heap} {T : Th} {f : Addr} {fd : FuncData} (hT : T.K = K) (M : Mg K mg T) (F : FnP K "step" "Turns.step" s_Turns_step [] f fd) (c_next_of : Cl PR w K mg base T 1 "next_of" 2 sp_next_of) (c_best : Cl PR w K mg base T 1 "best" 2 sp_best) :
    FnOk PR w K mg base (L2.CX PR w) 2 f fd ["self", "wishing", "given"] (toSp T 3 (wFn 4 (w_Turns_step))) :=
  fn_okD F sc_Turns_step T (w_Turns_step) fun cdv A outer s H E W ok hr tk po =>
    have nd := sc_Turns_step.nd
    have hu := hr.units
    (dss_cons (ds_if (dt_cmp (od_gt) (de_fld (fc_cons M.cl_Turns M.na_Turns_left fc_nil) (db_var 0)).br de_int.br) (dss_one (ds_augF (fc_cons M.cl_Turns M.na_Turns_left fc_nil) id_sub (de_var 0) de_int)) dss_nil)
      (dss_cons (ds_if (dw_and (dt_cmp (od_isnot) (de_fld (fc_cons M.cl_Turns M.na_Turns_holder fc_nil) (db_var 0)).br de_non.br) (dw_and (dt_cmp (od_in hT hu) (de_fld (fc_cons M.cl_Turns M.na_Turns_holder fc_nil) (db_var 0)).br (db_var 1)) (dw_and1 (dt_cmp (od_gt) (de_fld (fc_cons M.cl_Turns M.na_Turns_left fc_nil) (db_var 0)).br de_int.br)))).t (dss_one (ds_ret de_non)) dss_nil)
      (dss_cons (ds_setF (fc_cons M.cl_Turns M.na_Turns_holder fc_nil) (de_cl c_next_of (hr.mono (by decide)) tk (da_cons (de_var 1) (da_cons (de_fld (fc_cons M.cl_Turns M.na_Turns_last fc_nil) (db_var 0)) da_nil))) (de_var 0))
      (dss_cons (ds_setF (fc_cons M.cl_Turns M.na_Turns_rewards fc_nil) (de_cl c_best (hr.mono (by decide)) tk (da_cons (de_var 2) (da_cons (df_lc rfl nd [("number", 3)] (di_valB hT (db_var 1)) (fun _ _ _ _ _ => (dg_name nd 3)) (fun _ _ _ _ _ => (dts_one (dt_cmp (od_ne hT hu) (db_var 3) (de_fld (fc_cons M.cl_Turns M.na_Turns_holder fc_nil) (db_var 0)).br))) (fun _ _ _ _ _ => (de_var 3))).fz da_nil))) (de_var 0))
      (dss_cons (ds_if (dt_cmp (od_is) (de_fld (fc_cons M.cl_Turns M.na_Turns_holder fc_nil) (db_var 0)).br de_non.br) (dss_cons (ds_setF (fc_cons M.cl_Turns M.na_Turns_left fc_nil) de_int (de_var 0))
      (dss_one (ds_ret de_non))) dss_nil)
      (dss_cons (ds_setF (fc_cons M.cl_Turns M.na_Turns_last fc_nil) (de_fld (fc_cons M.cl_Turns M.na_Turns_holder fc_nil) (db_var 0)) (de_var 0))
      (dss_cons (ds_setF (fc_cons M.cl_Turns M.na_Turns_left fc_nil) (de_gintE M.n_TURN) (de_var 0))
      (dss_one (ds_ret (de_fld (fc_cons M.cl_Turns M.na_Turns_holder fc_nil) (db_var 0)))))))))))
abbrev s_Turns_served : Stmt := clsAt (top 5) 3
theorem sc_Turns_served : FnScope ["self", "found"] ["self"] (defScope s_Turns_served) := ⟨rfl, rfl, rfl, by decide +kernel, rfl, by decide +kernel, by decide +kernel⟩
def w_Turns_served : WS := (wSeq (wSetO 1 (wCallF gList (waCons (wFld [20] "rewards" (wVarB 0)) waNil)))
  (wSeq (wIfS (wTst (wBin (gIsNot) (wFld [20] "holder" (wVarB 0)) (wC .non))) (wApp 1 (wFld [20] "holder" (wVarB 0))) wNext)
  (wRet (wFrz (wCallF gSorted (waCons (wVarB 1) waNil))))))
theorem k_Turns_served {PR : Program} {w : World} {K : PySem.W.Frag} {mg : Str → Option Value} {base : Heap} {T : Th} {f : Addr} {fd : FuncData} (hT : T.K = K) (M : Mg K mg T) (F : FnP K "served" "Turns.served" s_Turns_served [] f fd) :
    FnOk PR w K mg base (L2.CX PR w) 1 f fd ["self"] (toSp T 1 (wFn 2 (w_Turns_served))) :=
  fn_okD F sc_Turns_served T (w_Turns_served) fun cdv A outer s H E W ok hr tk po =>
    have nd := sc_Turns_served.nd
    have hu := hr.units
    (dss_cons (ds_setO nd 1 (df_callT (cf_list hT) M.n_list (dab_cons (de_fld (fc_cons M.cl_Turns M.na_Turns_rewards fc_nil) (db_var 0)).br dab_nil)))
      (dss_cons (ds_if (dt_cmp (od_isnot) (de_fld (fc_cons M.cl_Turns M.na_Turns_holder fc_nil) (db_var 0)).br de_non.br) (dss_one (ds_app hT 1 (de_fld (fc_cons M.cl_Turns M.na_Turns_holder fc_nil) (db_var 0)))) dss_nil)
      (dss_one (ds_ret (df_callB (cf_sorted hT rfl) M.n_sorted (dab_cons (db_var 1) dab_nil)).fz))))
abbrev s_law : Stmt := top 15
theorem sc_law : FnScope ["script", "turns", "state", "count", "wishing", "waits", "held", "k", "rich", "given", "dealt", "due", "served", "number", "other"] ["script"] (defScope s_law) := ⟨rfl, rfl, rfl, by decide +kernel, rfl, by decide +kernel, by decide +kernel⟩
abbrev w_law_b1 : WS := (wSeq (wPutO 5 (wIf (wtOr (wTst (wBin (gIn true) (wVarB 13) (wVarB 4))) (wTst (wBin (gEq) (wVarB 13) (wVarB 10)))) (wC (.int 0)) (wBin (gAdd) (wGet2 (wVarB 5) (wVar 13) (wC (.int 0))) (wC (.int 1)))) (wVar 13))
  (wIfS (wTst (wBin (gGt) (wBin gIx (wVarB 5) (wVarB 13)) (wBin (gMul) (wC (.int 5)) (wVarB 3)))) (wRet (wC (.bl false))) wNext))
abbrev w_law_b2 : WS := (wSeq (wSet 8 (wCallU 2 sp__law_rich [] (waCons (wCallU 2 sp__law_cell [] (waCons (wVar 0) (waCons (wBin (gAdd) (wC (.int 1)) (wBin (gDiv) (wVarB 7) (wC (.int 2)))) waNil))) (waCons (wVar 7) waNil))))
  (wSeq (wIfS (wTst (wBin (gEq) (wBin (gMod) (wBin (gDiv) (wVarB 8) (wC (.int 3))) (wC (.int 3))) (wC (.int 0)))) (wSet 4 (wCallU 3 sp__law_wishing [] (waCons (wBin (gDiv) (wVarB 8) (wC (.int 9))) (waCons (wVar 4) (waCons (wVar 3) waNil))))) wNext)
  (wSeq (wIfS (wTst (wBin (gEq) (wBin (gMod) (wBin (gDiv) (wVarB 8) (wC (.int 7))) (wC (.int 11))) (wC (.int 0)))) (wSeq (wSet 13 (wBin (gMod) (wBin (gDiv) (wVarB 8) (wC (.int 77))) (wVarB 3)))
  (wSeq (wDrop (wMeth 20 "leave" 2 sp_Turns_leave (wVar 1) (waCons (wVar 13) waNil)))
  (wSeq (wDrop (wCallU 2 sp__law_turn_leave [] (waCons (wVar 2) (waCons (wVar 13) waNil))))
  (wSet 4 (wFrz (wComp (wIt (wVarB 4)) (fName 14) (wTst (wBin (gNe) (wVarB 14) (wVarB 13))) (wVar 14) [14])))))) wNext)
  (wSeq (wSet 9 (wFrz (wCallF gDict (waCons (wFrz (wComp (wRng gRng1 (waCons (wVar 3) waNil)) (fName 13) wtYes (wTup (waCons (wVar 13) (waCons (wBin (gMod) (wBin (gDiv) (wVarB 8) (wBin (gAdd) (wC (.int 5)) (wVarB 13))) (wC (.int 4))) waNil))) [13])) waNil))))
  (wSeq (wSet 10 (wMeth 20 "step" 3 sp_Turns_step (wVar 1) (waCons (wFrz (wCallF gList (waCons (wVarB 4) waNil))) (waCons (wFrz (wCallF gDict (waCons (wVarB 9) waNil))) waNil))))
  (wSeq (wSet 11 (wCallU 3 sp__law_turn_step [] (waCons (wVar 2) (waCons (wVar 4) (waCons (wVar 9) waNil)))))
  (wSeq (wIfS (wtOr (wTst (wBin (gNe) (wBin (gIs) (wVarB 11) (wC .non)) (wBin (gIs) (wVarB 10) (wC .non)))) (wtAnd (wTst (wBin (gIsNot) (wVarB 11) (wC .non))) (wtNot (wTst (wCall gIsi (waCons (wVarB 10) (waCons (wC (.ty "int")) waNil))))))) (wRet (wC (.bl false))) wNext)
  (wSeq (wIfS (wtOr (wtNot (wTst (wCall gIsi (waCons (wMeth 20 "served" 1 sp_Turns_served (wVar 1) waNil) (waCons (wC (.ty "list")) waNil))))) (wtOr (wTst (wBin (gNe) (wVarB 10) (wVarB 11))) (wTst (wBin (gNe) (wMeth 20 "served" 1 sp_Turns_served (wVar 1) waNil) (wCallU 1 sp__law_served [] (waCons (wVar 2) waNil)))))) (wRet (wC (.bl false))) wNext)
  (wSeq (wSet 6 (wIf (wTst (wBin (gIsNot) (wVarB 10) (wC .non))) (wC (.int 1)) (wBin (gAdd) (wVarB 6) (wC (.int 1)))))
  (wSeq (wSet 12 (wMeth 20 "served" 1 sp_Turns_served (wVar 1) waNil))
  (wSeq (wIfS (wtOr (wTst (wBin (gGt) (wCall gLen (waCons (wVarB 12) waNil)) (wC (.int 3)))) (wtAnd (wTst (wBin (gGt) (wCall gLen (waCons (wVarB 12) waNil)) (wC (.int 0)))) (wTst (wBin (gGt) (wVarB 6) (wC (.int 5)))))) (wRet (wC (.bl false))) wNext)
  (wFor (wRng gRng1 (waCons (wVar 3) waNil)) (fName 13) (w_law_b1)))))))))))))
def w_law : WS := (wSeq (wSet 1 (wMake 20 1 sp_Turns___init__ waNil))
  (wSeq (wSet 2 (wShF (wDsp [.inr "holder", .inr "last", .inr "left", .inr "rewards"] (waCons (wC .non) (waCons (wC .non) (waCons (wC (.int 0)) (waCons (wFrz (wLst waNil)) waNil)))))))
  (wSeq (wSet 3 (wBin (gAdd) (wC (.int 7)) (wBin (gMod) (wCallU 2 sp__law_cell [] (waCons (wVar 0) (waCons (wC (.int 0)) waNil))) (wC (.int 54)))))
  (wSeq (wSet 4 (wFrz (wComp (wRng gRng1 (waCons (wVar 3) waNil)) (fName 13) wtYes (wVar 13) [13])))
  (wSeq (wSetO 5 wDnew)
  (wSeq (wSet 6 (wC (.int 0)))
  (wSeq (wFor (wRng gRng1 (waCons (wCall gMax (waCons (wC (.int 30)) (waCons (wCall gMin (waCons (wC (.int 90)) (waCons (wBin (gMul) (wC (.int 2)) (wCall gLen (waCons (wVarB 0) waNil))) waNil))) waNil))) waNil)) (fName 7) (w_law_b2))
  (wRet (wC (.bl true))))))))))
theorem k_law {PR : Program} {w : World} {K : PySem.W.Frag} {mg : Str → Option Value} {base : Heap} {T : Th} {f : Addr} {fd : FuncData} (hT : T.K = K) (M : Mg K mg T) (F : FnP K "law" "law" s_law [] f fd) (c__law_cell : Cl PR w K mg base T 1 "_law_cell" 2 sp__law_cell) (c__law_rich : Cl PR w K mg base T 1 "_law_rich" 2 sp__law_rich) (c__law_wishing : Cl PR w K mg base T 1 "_law_wishing" 3 sp__law_wishing) (c__law_turn_leave : Cl PR w K mg base T 1 "_law_turn_leave" 2 sp__law_turn_leave) (c__law_turn_step : Cl PR w K mg base T 2 "_law_turn_step" 3 sp__law_turn_step) (c__law_served : Cl PR w K mg base T 1 "_law_served" 1 sp__law_served) (i_Turns : ClI PR w K mg base T 1 20 "Turns" 1 sp_Turns___init__) (c_Turns_leave : ClM PR w K mg base T 1 20 "leave" 2 sp_Turns_leave) (c_Turns_step : ClM PR w K mg base T 2 20 "step" 3 sp_Turns_step) (c_Turns_served : ClM PR w K mg base T 1 20 "served" 1 sp_Turns_served) :
    FnOk PR w K mg base (L2.CX PR w) 3 f fd ["script"] (toSp T 1 (wFn 15 (w_law))) :=
  fn_okD F sc_law T (w_law) fun cdv A outer s H E W ok hr tk po =>
    have nd := sc_law.nd
    have hu := hr.units
    (dss_cons (ds_set nd 1 (de_make0 i_Turns (hr.mono (by decide)) tk))
      (dss_cons (ds_set nd 2 (df_disp (dps_cons de_non (dps_cons de_non (dps_cons de_int (dps_cons (df_lst da_nil).fz dps_nil))))).sh)
      (dss_cons (ds_set nd 3 (de_bin (od_add hT) de_int.br (de_bin (od_mod) (de_cl c__law_cell (hr.mono (by decide)) tk (da_cons (de_var 0) (da_cons de_int da_nil))).br de_int.br).br))
      (dss_cons (ds_setLc rfl nd 4 [("number", 13)] (di_rng1 M.n_range (da_cons (de_var 3) da_nil)) (fun _ _ _ _ _ => (dg_name nd 13)) (fun _ _ _ _ _ => dts_nil) (fun _ _ _ _ _ => (de_var 13)))
      (dss_cons (ds_setO nd 5 df_dnew)
      (dss_cons (ds_set nd 6 de_int)
      (dss_cons (ds_for po rfl (di_rng1 M.n_range (da_cons (de_callB (cd_max rfl) M.n_max (dab_cons de_int.br (dab_cons (de_callB (cd_min rfl) M.n_min (dab_cons de_int.br (dab_cons (de_bin (od_mul hT) de_int.br (de_callB (cd_len hT) M.n_len (dab_cons (db_var 0) dab_nil)).br).br dab_nil))).br dab_nil))) da_nil)) (dg_name nd 7) (dss_cons (ds_set nd 8 (de_cl c__law_rich (hr.mono (by decide)) tk (da_cons (de_cl c__law_cell (hr.mono (by decide)) tk (da_cons (de_var 0) (da_cons (de_bin (od_add hT) de_int.br (de_bin (od_div) (db_var 7) de_int.br).br) da_nil))) (da_cons (de_var 7) da_nil))))
      (dss_cons (ds_if (dt_cmp (od_eq hT hu) (de_bin (od_mod) (de_bin (od_div) (db_var 8) de_int.br).br de_int.br).br de_int.br) (dss_one (ds_set nd 4 (de_cl c__law_wishing (hr.mono (by decide)) tk (da_cons (de_bin (od_div) (db_var 8) de_int.br) (da_cons (de_var 4) (da_cons (de_var 3) da_nil)))))) dss_nil)
      (dss_cons (ds_if (dt_cmp (od_eq hT hu) (de_bin (od_mod) (de_bin (od_div) (db_var 8) de_int.br).br de_int.br).br de_int.br) (dss_cons (ds_set nd 13 (de_bin (od_mod) (de_bin (od_div) (db_var 8) de_int.br).br (db_var 3)))
      (dss_cons (ds_expr (de_meth c_Turns_leave (hr.mono (by decide)) tk (de_var 1) (da_cons (de_var 13) da_nil)))
      (dss_cons (ds_expr (de_cl c__law_turn_leave (hr.mono (by decide)) tk (da_cons (de_var 2) (da_cons (de_var 13) da_nil))))
      (dss_one (ds_setLc rfl nd 4 [("other", 14)] (di_valB hT (db_var 4)) (fun _ _ _ _ _ => (dg_name nd 14)) (fun _ _ _ _ _ => (dts_one (dt_cmp (od_ne hT hu) (db_var 14) (db_var 13)))) (fun _ _ _ _ _ => (de_var 14))))))) dss_nil)
      (dss_cons (ds_set nd 9 (df_callT (cf_dict hT rfl) M.n_dict (dab_cons (df_lc rfl nd [("number", 13)] (di_rng1 M.n_range (da_cons (de_var 3) da_nil)) (fun _ _ _ _ _ => (dg_name nd 13)) (fun _ _ _ _ _ => dts_nil) (fun _ _ _ _ _ => (de_tup (da_cons (de_var 13) (da_cons (de_bin (od_mod) (de_bin (od_div) (db_var 8) (de_bin (od_add hT) de_int.br (db_var 13)).br).br de_int.br) da_nil))))).br dab_nil)).fz)
      (dss_cons (ds_set nd 10 (de_meth c_Turns_step (hr.mono (by decide)) tk (de_var 1) (da_cons (df_callT (cf_list hT) M.n_list (dab_cons (db_var 4) dab_nil)).fz (da_cons (df_callT (cf_dict hT rfl) M.n_dict (dab_cons (db_var 9) dab_nil)).fz da_nil))))
      (dss_cons (ds_set nd 11 (de_cl c__law_turn_step (hr.mono (by decide)) tk (da_cons (de_var 2) (da_cons (de_var 4) (da_cons (de_var 9) da_nil)))))
      (dss_cons (ds_if (dw_or (dt_cmp (od_ne hT hu) (de_cmp (od_is) (db_var 11) de_non.br).br (de_cmp (od_is) (db_var 10) de_non.br).br) (dw_or1 (dw_and (dt_cmp (od_isnot) (db_var 11) de_non.br) (dw_and1 (dt_not (dt_val (de_callB (cd_isi hT) M.n_isinstance (dab_cons (db_var 10) (dab_cons (de_ty M.n_int).br dab_nil))))))).t)).t (dss_one (ds_ret de_bl)) dss_nil)
      (dss_cons (ds_if (dw_or (dt_not (dt_val (de_callB (cd_isi hT) M.n_isinstance (dab_cons (de_meth0 c_Turns_served (hr.mono (by decide)) tk (de_var 1)).br (dab_cons (de_ty M.n_list).br dab_nil))))) (dw_or (dt_cmp (od_ne hT hu) (db_var 10) (db_var 11)) (dw_or1 (dt_cmp (od_ne hT hu) (de_meth0 c_Turns_served (hr.mono (by decide)) tk (de_var 1)).br (de_cl c__law_served (hr.mono (by decide)) tk (da_cons (de_var 2) da_nil)).br)))).t (dss_one (ds_ret de_bl)) dss_nil)
      (dss_cons (ds_set nd 6 (de_if (dt_cmp (od_isnot) (db_var 10) de_non.br) de_int (de_bin (od_add hT) (db_var 6) de_int.br)))
      (dss_cons (ds_set nd 12 (de_meth0 c_Turns_served (hr.mono (by decide)) tk (de_var 1)))
      (dss_cons (ds_if (dw_or (dt_cmp (od_gt) (de_callB (cd_len hT) M.n_len (dab_cons (db_var 12) dab_nil)).br de_int.br) (dw_or1 (dw_and (dt_cmp (od_gt) (de_callB (cd_len hT) M.n_len (dab_cons (db_var 12) dab_nil)).br de_int.br) (dw_and1 (dt_cmp (od_gt) (db_var 6) de_int.br))).t)).t (dss_one (ds_ret de_bl)) dss_nil)
      (dss_one (ds_for po rfl (di_rng1 M.n_range (da_cons (de_var 3) da_nil)) (dg_name nd 13) (dss_cons (ds_putO 5 hu (de_if (dw_or (dt_cmp (od_notin hT hu) (db_var 13) (db_var 4)) (dw_or1 (dt_cmp (od_eq hT hu) (db_var 13) (db_var 10)))).t de_int (de_bin (od_add hT) (de_get2 hu (db_var 5) (de_var 13) de_int).br de_int.br)) (de_var 13))
      (dss_one (ds_if (dt_cmp (od_gt) (de_ix (id_ix hT hu) (db_var 5) (db_var 13)).br (de_bin (od_mul hT) de_int.br (db_var 3)).br) (dss_one (ds_ret de_bl)) dss_nil)))))))))))))))))
      (dss_one (ds_ret de_bl)))))))))
end K67

set_option Elab.async false
set_option linter.all false
set_option maxRecDepth 100000
set_option maxHeartbeats 0
namespace K67
open PySem PySem.Spec PyProof.Rows L2 N
local macro_rules | `(tactic| tm_at "nv") => `(tactic| try simp -implicitDefEqProofs only [wDsp_e, wAugF_e, gSorted_d, lk_holder, lk_last, lk_left, lk_rewards, lk_step, lk_leave, lk_served, sn_holder, sv_holder, pa_holder, pv_holder, sn_last, sv_last, pa_last, pv_last, sn_left, sv_left, pa_left, pv_left, sn_rewards, sv_rewards, pa_rewards, pv_rewards, gk_holder, gk_last, gk_left, gk_rewards, asSh_l, asSh_d, asShL_l, asShD_d, cont_r, cont_n, cont_b, cont_i, cont_s, cont_t, cont_l, cont_d, cont_o, contL_n, contL_c, wBinC_e, wCallC_e, wCallFC_e, wShF_e, wItC_e, wForE_e, wCompE_e, wComp2_e, wAppS_e, wRemS_e, wSetIxS_e, wPutS_e, wMakeG_e, noOwn_n, noOwn_o, noOwn_v, noOwn_z, gSorted_i, gSorted_p, Int.cast_ofNat_Int, Int.reduceEq, Int.reduceLT, Int.reduceLE, List.length_map, List.length_append, see_l, see_d, see_i, Nat.reduceAdd, Nat.reduceLeDiff, Nat.zero_le, wFn_e, startG_c, startG_n, startG_z, wSeq_e, wSet_e, wC_e, wFor_e, wIt_e, wVar_e, wVarB_e, getSl_z, getSl_s, List.set_cons_zero, List.set_cons_succ, wRet_e, wBin_e, gI_i, gI0_i, gB0_i, gAdd_i, gAdd_t, gAdd_l, gAdd_s, gMul_i, gMul_t, gMul_l, gEq_, gNe_, gIs_n, gIs_b, gIsNot_n, gIsNot_b, isNon_n, isNon_i, isNon_b, isNon_t, isNon_l, isNon_s, wIfS_e, wtOr_e, wtAnd_e, wtNot_e, wTst_e, wNext_e, wNev_e, wCall_e, wCallF_e, wFrz_e, wLst_e, wTup_e, waNil_e, waCons_e, wComp_e, wRng_e, gRng1_i, gRng2_i, gRng3_i, wUn_e, gNeg_i, gTuple_t, gTuple_l, gList_t, gList_l, gList_s, gLen_t, gLen_l, gLen_s, gLen_d, gInt_i, gInt_b, gAbs_i, gMax_i, gMin_i, wipeG, fName_e, wCallU_e, wCallK_e, List.append_nil, List.length_cons, List.length_nil, wSl_e, woNone_e, woSome_e, gSl_t, gSl_l, gIt_t, gIt_l, gIt_s, gIsi_i, gIsi_b, gIsi_t, gIsi_l, gIsi_s, gIsi_n, gIsi_d, wFld_e, wMeth_e, wMake_e, wMakeF_e, wSetF_e, wExt_e, wFz_e, wRev_e, wRaise_e, wTry_e, wBits_e, insOf_ins, lk_kind, lk_size, lk_digest, lk_is_digest, gEnum_t, gEnum_l, gZip_t, gZip_l, mem1, reduceCtorEq, eq_self, wAsg_e, fTup_e, fCons_e, fNil_e, wAnd_e, wOr_e, wNot_e, wIf_e, wPar_e, wAug_e, wApp_e, wSetO_e, wRetO_e, br_t, br_f, shp_int, shp_bl, shp_non, deq_int, gAll_b, gAny_b, gSum_i, wDrop_e, wRetN_e, true_and, and_true, decide_true, decide_false, Bool.not_true, Bool.not_false, isi_NoneType_bool, isi_NoneType_int, isi_NoneType_str, isi_NoneType_tuple, isi_NoneType_list, isi_NoneType_dict, isi_bool_bool, isi_bool_int, isi_bool_str, isi_bool_tuple, isi_bool_list, isi_bool_dict, isi_int_bool, isi_int_int, isi_int_str, isi_int_tuple, isi_int_list, isi_int_dict, isi_str_bool, isi_str_int, isi_str_str, isi_str_tuple, isi_str_list, isi_str_dict, isi_tuple_bool, isi_tuple_int, isi_tuple_str, isi_tuple_tuple, isi_tuple_list, isi_tuple_dict, isi_list_bool, isi_list_int, isi_list_str, isi_list_tuple, isi_list_list, isi_list_dict, isi_dict_bool, isi_dict_int, isi_dict_str, isi_dict_tuple, isi_dict_list, isi_dict_dict, okTy_bool, okTy_int, okTy_str, okTy_tuple, okTy_list, okTy_dict, List.cons_append, List.nil_append, wChn_e, wSetIxO_e, wGet1_e, wGet2_e, wPutO_e, wDnew_e, slV_v, slB_v, slB_l, slB_d, slB_i, slL_l, slD_d, asB_b, asI_i, asR_r, asT_t, asQ_t, asQ_l, asD_d, asK_i, asK_s, asC_c, as2_2, asO_s, asIns_i, fz_l, fz_i, fz_v, fz_n, wKeys_e, wItems_e, wVals_e, exL_hit, asRev_l, asRev_t, wtYes_e, wFzD_e, fzD_d, fzD_v])
local macro_rules | `(tactic| tm_at "nw") => `(tactic| (tm_at "nv"; repeat (with_reducible refine sq_i ?_; tm_at "nv")))
local macro_rules | `(tactic| tm_at "nc") => `(tactic| first | exact True.intro | omega | exact mulL (by omega) (by omega) | exact mulR (by omega) (by omega) | exact divOk (by omega) (by omega) | exact shlI (n := 1) (by decide) (by decide) (by omega) (by omega) | (simp only [List.length_append, List.length_map, List.length_cons, List.length_nil, List.length_replicate, List.length_flatten, List.map_replicate, List.sum_replicate_nat, List.length_range, rngL_len, rngC_len, List.cons_append, List.nil_append]; first | done | omega))
local macro_rules | `(tactic| tm_at "ns") => `(tactic| repeat (with_reducible refine And.intro (by first | tm_at "nc" | exact ⟨by tm_at "nc", by tm_at "nc"⟩ | exact ⟨by tm_at "nc", by tm_at "nc", by tm_at "nc"⟩ | exact ⟨by tm_at "nc", by tm_at "nc", by tm_at "nc", by tm_at "nc"⟩) ?_))
local macro_rules | `(tactic| tm_at "go") => `(tactic| (tm_at "nw"; repeat (first | (with_reducible refine And.intro (by first | tm_at "nc" | exact ⟨by tm_at "nc", by tm_at "nc"⟩ | exact ⟨by tm_at "nc", by tm_at "nc", by tm_at "nc"⟩) ?_) | (with_reducible refine sq_i ?_)); tm_at "nw"))
/-- the numbers behind the last one -/
theorem behind_q {Om : N.Om} {w : List Int} {l : Option Int} {x0 x2 x3 : Sl} (hz : w.length ≤ 1000) {Q : List D → N.Om → Prop} (q : Q ((bhd w l).map .int) Om) :
    wTurns (fName 3) (wtOr (wTst (wBin (gIs) (wVarB 1) (wC .non))) (wTst (wBin (gGt) (wVarB 3) (wVarB 1)))) (wVar 3) [x0, .val (oI l), x2, x3] (w.map .int) [] Om Q := by
  cases l with
  | none =>
    refine turns_filA (h := D.int) (g := D.int) (t := fun _ => true) w [] (by simp; omega) (fun n _ K1 K2 k1 _ => ?_) (by rw [List.filter_eq_self.mpr (fun _ _ => rfl)]; exact q)
    simp only [oI]
    tm_at "go"
    exact k1 rfl
  | some y =>
    refine turns_filA (h := D.int) (g := D.int) (t := fun x => decide (y < x)) w [] (by simp; omega) (fun n _ K1 K2 k1 k2 => ?_) q
    simp only [oI]
    tm_at "go"
    refine br_d (fun h => k1 (by simpa using h)) fun h => k2 (by simpa using h)
theorem bhd_mem {w : List Int} {l : Option Int} {x : Int} (h : x ∈ bhd w l) : x ∈ w := by
  cases l with
  | none => exact h
  | some y => exact (List.mem_filter.mp h).1
theorem bhd_as {count : Nat} {w : List Int} {l : Option Int} (h : Wsh count w) : (bhd w l).Pairwise (· < ·) := by
  cases l with
  | none => exact h.as
  | some y => exact h.as.filter _
theorem min_head {x m : Int} {r : List Int} (as : (x :: r).Pairwise (· < ·)) (h1 : m ∈ x :: r) (h2 : ∀ y, y ∈ x :: r → m ≤ y) : m = x := by
  have := h2 x List.mem_cons_self
  rcases List.mem_cons.mp h1 with rfl | hr
  · rfl
  · have := (List.pairwise_cons.mp as).1 m hr
    omega
theorem gMin_h {x : Int} {r : List Int} {Q : D → Prop} (as : (x :: r).Pairwise (· < ·)) (q : Q (.int x)) : gMin [.lst ((x :: r).map .int)] Q := by
  have e : isL ((x :: r).map D.int) = some (x :: r) := isL_ints _
  simp only [gMin, e]
  exact ⟨by simp, fun m h1 h2 => by rw [min_head as h1 h2]; exact q⟩
theorem ne_nil (x : Int) (r : List Int) : deq (.lst ((x :: r).map .int)) (.lst []) = false := by
  rw [show (.lst [] : D) = .lst (([] : List Int).map .int) from rfl, deq_lints]
  simp
theorem m_next_of (ds : List D) (Om : N.Om) (Q : D → N.Om → Prop) (R : RX) (hl : ds.length = 2) (h : sp_next_of ds Om Q R) : wFn 4 w_next_of ds Om Q R := by
  obtain ⟨count, w, l, rfl, hw, hc, hz, q⟩ := h
  have sn : shp (.lst []) = true := shp_lints []
  have dn : deq (.lst []) (.lst []) = true := deq_refl sn
  unfold w_next_of
  tm_at "go"
  refine behind_q hz ?_
  unfold nextP at q
  have as := bhd_as (l := l) hw
  generalize bhd w l = b at *
  tm_at "go"
  cases b with
  | cons x r =>
    refine ⟨shp_lints _, sn, ?_⟩
    rw [ne_nil]
    tm_at "go"
    exact gMin_h as q
  | nil =>
    refine ⟨sn, sn, ?_⟩
    rw [show deq (.lst (([] : List Int).map .int)) (.lst []) = true from dn]
    tm_at "go"
    cases w with
    | nil =>
      refine ⟨sn, sn, ?_⟩
      rw [show deq (.lst (([] : List Int).map .int)) (.lst []) = true from dn]
      exact q
    | cons x r =>
      refine ⟨shp_lints _, sn, ?_⟩
      rw [ne_nil]
      exact gMin_h (Q := fun d => Q d Om) hw.as q
theorem m__law_next (ds : List D) (Om : N.Om) (Q : D → N.Om → Prop) (R : RX) (hl : ds.length = 2) (h : sp__law_next ds Om Q R) : wFn 4 w__law_next ds Om Q R := by
  obtain ⟨count, w, l, rfl, hw, hc, hz, q⟩ := h
  unfold w__law_next
  tm_at "go"
  refine behind_q hz ?_
  unfold nextP at q
  generalize bhd w l = b at *
  tm_at "go"
  cases b with
  | cons x r =>
    refine br_dt (by simp) ?_
    exact gIx_list (j := 0) rfl rfl q
  | nil =>
    refine br_df (by simp) ?_
    tm_at "go"
    cases w with
    | nil => exact br_df (by simp) q
    | cons x r =>
      refine br_dt (by simp) ?_
      exact gIx_list (j := 0) rfl rfl q
theorem m_Turns___init__ (ds : List D) (Om : N.Om) (Q : D → N.Om → Prop) (R : RX) (hl : ds.length = 1) (h : sp_Turns___init__ ds Om Q R) : wFn 1 w_Turns___init__ ds Om Q R := by
  obtain ⟨a, rfl, ha, q⟩ := h
  unfold w_Turns___init__
  tm_at "go"
  rw [ha]
  tm_at "go"
  rw [setN_nil, setV_nil, putO_same]
  tm_at "go"
  try (refine ⟨by decide, ?_⟩; tm_at "go")
  rw [putO_put, setN_miss (by decide), setN_nil, setV_miss (by decide), setV_nil, putO_same]
  tm_at "go"
  try (refine ⟨by decide, ?_⟩; tm_at "go")
  rw [putO_put, setN_miss (by decide), setN_miss (by decide), setN_nil, setV_miss (by decide), setV_miss (by decide), setV_nil, putO_same]
  tm_at "go"
  try (refine ⟨by decide, ?_⟩; tm_at "go")
  rw [putO_put, setN_miss (by decide), setN_miss (by decide), setN_miss (by decide), setN_nil, setV_miss (by decide), setV_miss (by decide), setV_miss (by decide), setV_nil]
  exact q
theorem m_Turns_leave (ds : List D) (Om : N.Om) (Q : D → N.Om → Prop) (R : RX) (hl : ds.length = 2) (h : sp_Turns_leave ds Om Q R) : wFn 3 w_Turns_leave ds Om Q R := by
  obtain ⟨a, count, s, n, rfl, ha, hs, q⟩ := h
  have r2 := hs.r2
  simp only [tnO, stV] at ha q
  unfold w_Turns_leave
  tm_at "go"
  rw [insOf_ref ha]
  tm_at "go"
  refine ⟨shp_oI _, ?_⟩
  rw [show D.int n = oI (some n) from rfl, deq_oI]
  have rews : ∀ (O : N.Om) (Q' : List D → N.Om → Prop), Q' ((s.rew.filter fun x => decide (x ≠ n)).map .int) O → wTurns (fName 2) (wTst (wBin gNe (wVarB 2) (wVarB 1))) (wVar 2) [.val (.ref a), .val (oI (some n)), .no] (s.rew.map .int) [] O Q' := fun O Q' q' => by
    refine turns_filA (h := D.int) (g := D.int) (t := fun x => decide (x ≠ n)) s.rew [] (by simp; omega) (fun x _ K1 K2 k1 k2 => ?_) q'
    tm_at "go"
    rw [show D.int x = oI (some x) from rfl, deq_oI]
    refine ⟨rfl, ?_⟩
    refine br_if (fun e => k1 ?_) fun e => k2 ?_
    · simpa using e
    · simpa using e
  by_cases e : s.h = some n
  · rw [show leaveP s n = ⟨none, s.l, 0, s.rew.filter fun x => decide (x ≠ n)⟩ by unfold leaveP; rw [if_pos e, if_pos e]] at q
    refine br_dt e ?_
    tm_at "go"
    rw [ha]
    tm_at "go"
    try (refine ⟨by decide, ?_⟩; tm_at "go")
    rw [putO_same]
    tm_at "go"
    try (refine ⟨by decide, ?_⟩; tm_at "go")
    rw [putO_put, insOf_put]
    tm_at "go"
    refine rews _ _ ?_
    tm_at "go"
    rw [putO_same]
    tm_at "go"
    try (refine ⟨by decide, ?_⟩; tm_at "go")
    rw [putO_put]
    exact q
  · rw [show leaveP s n = ⟨s.h, s.l, s.left, s.rew.filter fun x => decide (x ≠ n)⟩ by unfold leaveP; rw [if_neg e, if_neg e]] at q
    refine br_df e ?_
    tm_at "go"
    rw [insOf_ref ha]
    tm_at "go"
    refine rews _ _ ?_
    tm_at "go"
    rw [ha]
    tm_at "go"
    try (refine ⟨by decide, ?_⟩; tm_at "go")
    exact q
theorem m__law_turn_leave (ds : List D) (Om : N.Om) (Q : D → N.Om → Prop) (R : RX) (hl : ds.length = 2) (h : sp__law_turn_leave ds Om Q R) : wFn 3 w__law_turn_leave ds Om Q R := by
  obtain ⟨a, count, s, n, rfl, ha, hs, q⟩ := h
  have r2 := hs.r2
  have k4 : stK.length < 16777216 := by decide
  simp only [sdO, stV] at ha q
  unfold w__law_turn_leave
  tm_at "go"
  rw [ha]
  tm_at "go"
  rw [show D.int n = oI (some n) from rfl, deq_oI]
  refine ⟨shp_oI _, ?_⟩
  have rews : ∀ (O : N.Om) (Q' : List D → N.Om → Prop), Q' ((s.rew.filter fun x => decide (x ≠ n)).map .int) O → wTurns (fName 2) (wTst (wBin gNe (wVarB 2) (wVarB 1))) (wVar 2) [.val (.ref a), .val (oI (some n)), .no] (s.rew.map .int) [] O Q' := fun O Q' q' => by
    refine turns_filA (h := D.int) (g := D.int) (t := fun x => decide (x ≠ n)) s.rew [] (by simp; omega) (fun x _ K1 K2 k1 k2 => ?_) q'
    tm_at "go"
    rw [show D.int x = oI (some x) from rfl, deq_oI]
    refine ⟨rfl, ?_⟩
    refine br_if (fun e => k1 ?_) fun e => k2 ?_
    · simpa using e
    · simpa using e
  by_cases e : s.h = some n
  · rw [show leaveP s n = ⟨none, s.l, 0, s.rew.filter fun x => decide (x ≠ n)⟩ by unfold leaveP; rw [if_pos e, if_pos e]] at q
    refine br_dt e ?_
    refine ⟨stK_nd, k4, ?_⟩
    tm_at "go"
    rw [putO_same]
    tm_at "go"
    refine ⟨stK_nd, k4, ?_⟩
    tm_at "go"
    rw [putO_put, putO_same]
    tm_at "go"
    refine rews _ _ ?_
    tm_at "go"
    rw [putO_same]
    tm_at "go"
    refine ⟨stK_nd, k4, ?_⟩
    rw [putO_put]
    exact q
  · rw [show leaveP s n = ⟨s.h, s.l, s.left, s.rew.filter fun x => decide (x ≠ n)⟩ by unfold leaveP; rw [if_neg e, if_neg e]] at q
    refine br_df e ?_
    tm_at "go"
    rw [ha]
    tm_at "go"
    refine rews _ _ ?_
    tm_at "go"
    rw [ha]
    tm_at "go"
    refine ⟨stK_nd, k4, ?_⟩
    exact q
theorem m_Turns_served (ds : List D) (Om : N.Om) (Q : D → N.Om → Prop) (R : RX) (hl : ds.length = 1) (h : sp_Turns_served ds Om Q R) : wFn 2 w_Turns_served ds Om Q R := by
  obtain ⟨a, count, s, rfl, ha, hs, q⟩ := h
  have r2 := hs.r2
  simp only [tnO, stV] at ha
  unfold w_Turns_served
  tm_at "go"
  rw [insOf_ref ha]
  tm_at "go"
  rw [insOf_ref ha]
  tm_at "go"
  rw [isNon_oI]
  unfold servedP at q
  cases e : s.h with
  | none =>
    rw [e] at q
    refine br_if (fun z => absurd z (by simp)) fun _ => ?_
    tm_at "go"
    exact q
  | some x =>
    rw [e] at q ha
    refine br_if (fun _ => ?_) fun z => absurd z (by simp)
    tm_at "go"
    rw [show s.rew.map D.int ++ [oI (some x)] = (s.rew ++ [x]).map D.int by simp [oI]]
    tm_at "go"
    rw [← srtI_uniq (a := srtI ((some x).toList ++ s.rew)) (b := s.rew ++ [x]) ((srtI_perm _).trans (by simpa using (List.perm_append_comm (l₁ := [x]) (l₂ := s.rew)))) (srtI_sorted _)]
    exact q
theorem m__law_served (ds : List D) (Om : N.Om) (Q : D → N.Om → Prop) (R : RX) (hl : ds.length = 1) (h : sp__law_served ds Om Q R) : wFn 2 w__law_served ds Om Q R := by
  obtain ⟨a, count, s, rfl, ha, hs, q⟩ := h
  have r2 := hs.r2
  simp only [sdO, stV] at ha
  unfold w__law_served
  tm_at "go"
  rw [ha]
  tm_at "go"
  rw [isNon_oI]
  unfold servedP at q
  cases e : s.h with
  | none =>
    rw [e] at q
    refine br_if (fun z => absurd z (by simp)) fun _ => ?_
    tm_at "go"
    rw [ha]
    tm_at "go"
    exact q
  | some x =>
    rw [e] at q ha
    refine br_if (fun _ => ?_) fun z => absurd z (by simp)
    tm_at "go"
    rw [ha]
    tm_at "go"
    rw [show (oI (some x) :: s.rew.map D.int) = (x :: s.rew).map D.int from rfl]
    tm_at "go"
    exact q
end K67

set_option Elab.async false
set_option linter.all false
set_option maxRecDepth 100000
set_option maxHeartbeats 0
namespace K67
open PySem PySem.Spec PyProof.Rows L2 N
local macro_rules | `(tactic| tm_at "nv") => `(tactic| try simp -implicitDefEqProofs only [wDsp_e, wAugF_e, gSorted_d, lk_holder, lk_last, lk_left, lk_rewards, lk_step, lk_leave, lk_served, sn_holder, sv_holder, pa_holder, pv_holder, sn_last, sv_last, pa_last, pv_last, sn_left, sv_left, pa_left, pv_left, sn_rewards, sv_rewards, pa_rewards, pv_rewards, gk_holder, gk_last, gk_left, gk_rewards, asSh_l, asSh_d, asShL_l, asShD_d, cont_r, cont_n, cont_b, cont_i, cont_s, cont_t, cont_l, cont_d, cont_o, contL_n, contL_c, wBinC_e, wCallC_e, wCallFC_e, wShF_e, wItC_e, wForE_e, wCompE_e, wComp2_e, wAppS_e, wRemS_e, wSetIxS_e, wPutS_e, wMakeG_e, noOwn_n, noOwn_o, noOwn_v, noOwn_z, gSorted_i, gSorted_p, Int.cast_ofNat_Int, Int.reduceEq, Int.reduceLT, Int.reduceLE, List.length_map, List.length_append, see_l, see_d, see_i, Nat.reduceAdd, Nat.reduceLeDiff, Nat.zero_le, wFn_e, startG_c, startG_n, startG_z, wSeq_e, wSet_e, wC_e, wFor_e, wIt_e, wVar_e, wVarB_e, getSl_z, getSl_s, List.set_cons_zero, List.set_cons_succ, wRet_e, wBin_e, gI_i, gI0_i, gB0_i, gAdd_i, gAdd_t, gAdd_l, gAdd_s, gMul_i, gMul_t, gMul_l, gEq_, gNe_, gIs_n, gIs_b, gIsNot_n, gIsNot_b, isNon_n, isNon_i, isNon_b, isNon_t, isNon_l, isNon_s, wIfS_e, wtOr_e, wtAnd_e, wtNot_e, wTst_e, wNext_e, wNev_e, wCall_e, wCallF_e, wFrz_e, wLst_e, wTup_e, waNil_e, waCons_e, wComp_e, wRng_e, gRng1_i, gRng2_i, gRng3_i, wUn_e, gNeg_i, gTuple_t, gTuple_l, gList_t, gList_l, gList_s, gLen_t, gLen_l, gLen_s, gLen_d, gInt_i, gInt_b, gAbs_i, gMax_i, gMin_i, wipeG, fName_e, wCallU_e, wCallK_e, List.append_nil, List.length_cons, List.length_nil, wSl_e, woNone_e, woSome_e, gSl_t, gSl_l, gIt_t, gIt_l, gIt_s, gIsi_i, gIsi_b, gIsi_t, gIsi_l, gIsi_s, gIsi_n, gIsi_d, wFld_e, wMeth_e, wMake_e, wMakeF_e, wSetF_e, wExt_e, wFz_e, wRev_e, wRaise_e, wTry_e, wBits_e, insOf_ins, lk_kind, lk_size, lk_digest, lk_is_digest, gEnum_t, gEnum_l, gZip_t, gZip_l, mem1, reduceCtorEq, eq_self, wAsg_e, fTup_e, fCons_e, fNil_e, wAnd_e, wOr_e, wNot_e, wIf_e, wPar_e, wAug_e, wApp_e, wSetO_e, wRetO_e, br_t, br_f, shp_int, shp_bl, shp_non, deq_int, gAll_b, gAny_b, gSum_i, wDrop_e, wRetN_e, true_and, and_true, decide_true, decide_false, Bool.not_true, Bool.not_false, isi_NoneType_bool, isi_NoneType_int, isi_NoneType_str, isi_NoneType_tuple, isi_NoneType_list, isi_NoneType_dict, isi_bool_bool, isi_bool_int, isi_bool_str, isi_bool_tuple, isi_bool_list, isi_bool_dict, isi_int_bool, isi_int_int, isi_int_str, isi_int_tuple, isi_int_list, isi_int_dict, isi_str_bool, isi_str_int, isi_str_str, isi_str_tuple, isi_str_list, isi_str_dict, isi_tuple_bool, isi_tuple_int, isi_tuple_str, isi_tuple_tuple, isi_tuple_list, isi_tuple_dict, isi_list_bool, isi_list_int, isi_list_str, isi_list_tuple, isi_list_list, isi_list_dict, isi_dict_bool, isi_dict_int, isi_dict_str, isi_dict_tuple, isi_dict_list, isi_dict_dict, okTy_bool, okTy_int, okTy_str, okTy_tuple, okTy_list, okTy_dict, List.cons_append, List.nil_append, wChn_e, wSetIxO_e, wGet1_e, wGet2_e, wPutO_e, wDnew_e, slV_v, slB_v, slB_l, slB_d, slB_i, slL_l, slD_d, asB_b, asI_i, asR_r, asT_t, asQ_t, asQ_l, asD_d, asK_i, asK_s, asC_c, as2_2, asO_s, asIns_i, fz_l, fz_i, fz_v, fz_n, wKeys_e, wItems_e, wVals_e, exL_hit, asRev_l, asRev_t, wtYes_e, wFzD_e, fzD_d, fzD_v])
local macro_rules | `(tactic| tm_at "nw") => `(tactic| (tm_at "nv"; repeat (with_reducible refine sq_i ?_; tm_at "nv")))
local macro_rules | `(tactic| tm_at "nc") => `(tactic| first | exact True.intro | omega | exact mulL (by omega) (by omega) | exact mulR (by omega) (by omega) | exact divOk (by omega) (by omega) | exact shlI (n := 1) (by decide) (by decide) (by omega) (by omega) | (simp only [List.length_append, List.length_map, List.length_cons, List.length_nil, List.length_replicate, List.length_flatten, List.map_replicate, List.sum_replicate_nat, List.length_range, rngL_len, rngC_len, List.cons_append, List.nil_append]; first | done | omega))
local macro_rules | `(tactic| tm_at "ns") => `(tactic| repeat (with_reducible refine And.intro (by first | tm_at "nc" | exact ⟨by tm_at "nc", by tm_at "nc"⟩ | exact ⟨by tm_at "nc", by tm_at "nc", by tm_at "nc"⟩ | exact ⟨by tm_at "nc", by tm_at "nc", by tm_at "nc", by tm_at "nc"⟩) ?_))
local macro_rules | `(tactic| tm_at "go") => `(tactic| (tm_at "nw"; repeat (first | (with_reducible refine And.intro (by first | tm_at "nc" | exact ⟨by tm_at "nc", by tm_at "nc"⟩ | exact ⟨by tm_at "nc", by tm_at "nc", by tm_at "nc"⟩) ?_) | (with_reducible refine sq_i ?_)); tm_at "nw"))
theorem getD_g (g : Int → Int) (x : Int) : ∀ ks : List Nat, getD (ks.map fun (i : Nat) => Sum.inl (i : Int)) (ks.map fun (i : Nat) => D.int (g i)) (.inl x) = if (ks.map fun (i : Nat) => (i : Int)).contains x then some (.int (g x)) else none
  | [] => rfl
  | k :: ks => by
    have ih := getD_g g x ks
    simp only [List.map_cons, getD, List.contains_cons, ih]
    by_cases e : (k : Int) = x
    · subst e
      simp
    · have e1 : (Sum.inl (k : Int) : Key) ≠ .inl x := fun z => e (by cases z; rfl)
      have e2 : (x == (k : Int)) = false := by simpa using fun z => e z.symm
      rw [if_neg e1, e2, Bool.false_or]
theorem getD_in {count : Nat} {g : Int → Int} {x : Int} (h : 0 ≤ x ∧ x < count) : getD ((List.range count).map fun (i : Nat) => Sum.inl (i : Int)) ((List.range count).map fun (i : Nat) => D.int (g i)) (.inl x) = some (.int (g x)) := by
  rw [getD_g, if_pos]
  rw [List.contains_iff_mem]
  exact List.mem_map.mpr ⟨x.toNat, List.mem_range.mpr (by omega), by omega⟩
theorem m_best (ds : List D) (Om : N.Om) (Q : D → N.Om → Prop) (R : RX) (hl : ds.length = 2) (h : sp_best ds Om Q R) : wFn 5 w_best ds Om Q R := by
  obtain ⟨count, w, g, rfl, hw, hc, hz, q⟩ := h
  unfold w_best
  simp only [gvD]
  tm_at "go"
  refine turns_filA (h := D.int) (g := fun n => prD (-(g n), n)) (t := fun n => decide (0 < g n)) w [] (by simp; omega) (fun n hn K1 K2 k1 k2 => ?_) ?_
  · have hg := getD_in (g := g) (hw.rg n hn)
    tm_at "go"
    rw [hg]
    tm_at "go"
    simp only [Option.getD_some]
    tm_at "go"
    refine br_d (fun h => ?_) fun h => k2 (by simpa using h)
    simp only [gIx, keyD, hg]
    tm_at "go"
    exact k1 (by simpa using h)
  · rw [List.nil_append, show ((w.filter fun n => decide (0 < g n)).map fun n => prD (-(g n), n)) = ((w.filter fun n => decide (0 < g n)).map fun n => (-(g n), n)).map prD by rw [List.map_map]; rfl]
    tm_at "go"
    rw [show (some (2 : Int)) = some ((2 : Nat) : Int) from rfl, cut_to, ← List.map_take]
    refine turns_mapA (h := prD) (g := fun p => .int p.2) _ [] (by simp; omega) (fun p _ K k => ?_) ?_
    · simp only [prD]
      tm_at "go"
      exact k
    · rw [List.nil_append]
      unfold bestP at q
      rw [← List.map_take, List.map_map] at q
      exact q
/-- a number is put in its place -/
def ins (g : Int → Int) (n : Int) : List Int → List Int
  | [] => [n]
  | m :: r => if g n ≤ g m then m :: ins g n r else n :: m :: r
theorem ins_tw (g : Int → Int) (n : Int) : ∀ l : List Int, l.takeWhile (fun m => decide (g n ≤ g m)) ++ [n] ++ l.dropWhile (fun m => decide (g n ≤ g m)) = ins g n l
  | [] => rfl
  | m :: r => by
    have ih := ins_tw g n r
    by_cases e : g n ≤ g m
    · rw [List.takeWhile_cons_of_pos (by simpa using e), List.dropWhile_cons_of_pos (by simpa using e)]
      simp only [ins, if_pos e, ← ih, List.cons_append]
    · rw [List.takeWhile_cons_of_neg (by simpa using e), List.dropWhile_cons_of_neg (by simpa using e)]
      simp only [ins, if_neg e, List.nil_append, List.cons_append]
theorem ins_perm (g : Int → Int) (n : Int) : ∀ l : List Int, (ins g n l).Perm (n :: l)
  | [] => List.Perm.refl _
  | m :: r => by
    unfold ins
    split
    · exact ((ins_perm g n r).cons m).trans (List.Perm.swap n m r)
    · exact List.Perm.refl _
def leG (g : Int → Int) (a b : Int) : Prop := g b < g a ∨ (g a = g b ∧ a ≤ b)
theorem ins_sorted (g : Int → Int) (n : Int) : ∀ l : List Int, l.Pairwise (leG g) → (∀ m ∈ l, m < n) → (ins g n l).Pairwise (leG g)
  | [], _, _ => List.pairwise_singleton _ _
  | m :: r, hp, hl => by
    have hp' := List.pairwise_cons.mp hp
    have hm := hl m List.mem_cons_self
    unfold ins
    split
    · rename_i e
      refine List.pairwise_cons.mpr ⟨fun x hx => ?_, ins_sorted g n r hp'.2 fun x hx => hl x (List.mem_cons_of_mem _ hx)⟩
      rcases List.mem_cons.mp ((ins_perm g n r).mem_iff.mp hx) with rfl | hx
      · unfold leG; omega
      · exact hp'.1 x hx
    · rename_i e
      refine List.pairwise_cons.mpr ⟨fun x hx => ?_, hp⟩
      rcases List.mem_cons.mp hx with rfl | hx
      · unfold leG; omega
      · have := hp'.1 x hx
        unfold leG at this ⊢
        omega
def insB (g : Int → Int) (l : List Int) (n : Int) : List Int := if 0 < g n then ins g n l else l
theorem fold_best {count : Nat} (g : Int → Int) : ∀ (w l : List Int), w.Pairwise (· < ·) → l.Pairwise (leG g) → (∀ m ∈ l, ∀ n ∈ w, m < n) →
    (w.foldl (insB g) l).Pairwise (leG g) ∧ (w.foldl (insB g) l).Perm (w.filter (fun n => decide (0 < g n)) ++ l)
  | [], l, _, hl, _ => ⟨hl, List.Perm.refl _⟩
  | n :: w, l, hw, hl, hm => by
    have hw' := List.pairwise_cons.mp hw
    rw [List.foldl_cons]
    by_cases e : 0 < g n
    · have e1 : insB g l n = ins g n l := if_pos e
      rw [e1, List.filter_cons_of_pos (by simpa using e)]
      have := fold_best (count := count) g w (ins g n l) hw'.2 (ins_sorted g n l hl fun m h => hm m h n List.mem_cons_self) fun m h x hx => by
        rcases List.mem_cons.mp ((ins_perm g n l).mem_iff.mp h) with rfl | h
        · exact hw'.1 x hx
        · exact hm m h x (List.mem_cons_of_mem _ hx)
      refine ⟨this.1, this.2.trans ?_⟩
      refine ((ins_perm g n l).append_left _).trans ?_
      exact List.perm_middle
    · have e1 : insB g l n = l := if_neg e
      rw [e1, List.filter_cons_of_neg (by simpa using e)]
      exact fold_best (count := count) g w l hw'.2 hl fun m h x hx => hm m h x (List.mem_cons_of_mem _ hx)
theorem best_fold {count : Nat} {g : Int → Int} {w : List Int} (hw : Wsh count w) : (w.foldl (insB g) []).take 2 = bestP g w := by
  obtain ⟨h1, h2⟩ := fold_best (count := count) g w [] hw.as List.Pairwise.nil (fun m h => by cases h)
  rw [List.append_nil] at h2
  unfold bestP
  rw [← srtP_uniq (a := (w.foldl (insB g) []).map fun n => (-(g n), n)) (h2.map _) (List.pairwise_map.mpr (h1.imp fun {a b} h => by
    unfold leG at h
    simp only [leP, decide_eq_true_eq]
    omega)), List.map_map]
  congr 1
  exact (List.map_id _).symm
theorem tw_facts (p : Int → Bool) : ∀ l : List Int, (∀ j, j < (l.takeWhile p).length → ∃ m, l[j]? = some m ∧ p m = true) ∧ ((l.takeWhile p).length < l.length → ∃ m, l[(l.takeWhile p).length]? = some m ∧ p m = false) ∧ (l.takeWhile p).length ≤ l.length
  | [] => ⟨fun j h => by simp at h, fun h => by simp at h, by simp⟩
  | m :: r => by
    obtain ⟨h1, h2, h3⟩ := tw_facts p r
    cases e : p m
    · rw [List.takeWhile_cons_of_neg (by rw [e]; decide)]
      exact ⟨fun j h => by simp at h, fun _ => ⟨m, rfl, e⟩, by simp⟩
    · rw [List.takeWhile_cons_of_pos e]
      refine ⟨fun j h => ?_, fun h => ?_, by simpa using h3⟩
      · cases j with
        | zero => exact ⟨m, rfl, e⟩
        | succ j => exact h1 j (by simpa using h)
      · exact h2 (by simpa using h)
theorem loop_at {count : Nat} {g : Int → Int} {l : List Int} {n : Int} (hz : l.length ≤ 1000) (hr : ∀ m ∈ l, 0 ≤ m ∧ m < count) (x1 x3 : Sl) (Po : Post) (Om : N.Om)
    (h : Po.nx [.val (gvD count g), x1, .val (.lst (l.map .int)), x3, .val (.int (g n)), .val (.int ((l.takeWhile fun m => decide (g n ≤ g m)).length : Int))] Om) : ∀ (k j : Nat), j + k = (l.takeWhile fun m => decide (g n ≤ g m)).length →
    wWhN (wtAnd (wTst (wBin (gLt) (wVarB 5) (wCall gLen (waCons (wVarB 2) waNil)))) (wTst (wBin (gGe) (wGet2 (wVarB 0) (wBin gIx (wVarB 2) (wVarB 5)) (wC (.int 0))) (wVarB 4)))) (w__law_best_b1) (k + 1) [.val (gvD count g), x1, .val (.lst (l.map .int)), x3, .val (.int (g n)), .val (.int (j : Int))] Om Po
  | k, j, hj => by
    obtain ⟨f1, f2, f3⟩ := tw_facts (fun m => decide (g n ≤ g m)) l
    unfold wWhN
    simp only [gvD]
    tm_at "go"
    cases k with
    | zero =>
      have hj : j = (l.takeWhile fun m => decide (g n ≤ g m)).length := by omega
      refine br_d (fun hlt => ?_) fun _ => by rw [hj]; simpa only [gvD] using h
      obtain ⟨m, e1, e2⟩ := f2 (by omega)
      rw [← hj] at e1
      refine gIx_list (j := j) rfl (by rw [List.getElem?_map, e1]; rfl) ?_
      have hg := getD_in (g := g) (hr m (List.mem_of_getElem? e1))
      tm_at "go"
      rw [hg]
      simp only [Option.getD_some]
      tm_at "go"
      refine br_df (by simpa using e2) ?_
      rw [hj]; simpa only [gvD] using h
    | succ k =>
      obtain ⟨m, e1, e2⟩ := f1 j (by omega)
      refine br_dt (by omega) ?_
      refine gIx_list (j := j) rfl (by rw [List.getElem?_map, e1]; rfl) ?_
      have hg := getD_in (g := g) (hr m (List.mem_of_getElem? e1))
      tm_at "go"
      rw [hg]
      simp only [Option.getD_some]
      tm_at "go"
      refine br_dt (by simpa using e2) ?_
      have := loop_at hz hr x1 x3 Po Om h k (j + 1) (by omega)
      rw [show (((j + 1 : Nat)) : Int) = (j : Int) + 1 by omega] at this
      simpa only [gvD] using this
theorem take_tw (p : Int → Bool) : ∀ l : List Int, l.take (l.takeWhile p).length = l.takeWhile p ∧ l.drop (l.takeWhile p).length = l.dropWhile p
  | [] => ⟨rfl, rfl⟩
  | m :: r => by
    obtain ⟨h1, h2⟩ := take_tw p r
    cases e : p m
    · rw [List.takeWhile_cons_of_neg (by rw [e]; decide), List.dropWhile_cons_of_neg (by rw [e]; decide)]
      exact ⟨rfl, rfl⟩
    · rw [List.takeWhile_cons_of_pos e, List.dropWhile_cons_of_pos e]
      exact ⟨by simp [h1], by simp [h2]⟩
theorem insB_mem {g : Int → Int} {l : List Int} {n x : Int} (h : x ∈ insB g l n) : x = n ∨ x ∈ l := by
  unfold insB at h
  split at h
  · exact List.mem_cons.mp ((ins_perm g n l).mem_iff.mp h)
  · exact .inr h
theorem insB_len {g : Int → Int} {l : List Int} {n : Int} : (insB g l n).length ≤ l.length + 1 := by
  unfold insB
  split
  · rw [(ins_perm g n l).length_eq]; exact Nat.le_refl _
  · omega
theorem loop_best {count : Nat} {g : Int → Int} (x1 : Sl) (Po : Post) (Om : N.Om) : ∀ (w l : List Int) (x3 x4 x5 : Sl), l.length + w.length ≤ 1000 → (∀ m ∈ l, 0 ≤ m ∧ m < count) → (∀ m ∈ w, 0 ≤ m ∧ m < count) →
    (∀ y3 y4 y5, Po.nx [.val (gvD count g), x1, .val (.lst ((w.foldl (insB g) l).map .int)), y3, y4, y5] Om) →
    wForL (fName 3) w__law_best_b2 (w.map .int) [.val (gvD count g), x1, .val (.lst (l.map .int)), x3, x4, x5] Om Po
  | [], l, x3, x4, x5, _, _, _, h => wForL_n (h x3 x4 x5)
  | n :: w, l, x3, x4, x5, hz, hl, hw, h => by
    rw [List.length_cons] at hz
    rw [List.map_cons]
    refine wForL_c ?_
    have hn := hw n List.mem_cons_self
    have hg := getD_in (g := g) hn
    have next := fun l' y3 y4 y5 (e : insB g l n = l') => loop_best (count := count) (g := g) x1 Po Om w l' y3 y4 y5 (by rw [← e]; have := insB_len (g := g) (l := l) (n := n); omega) (fun m hm => by rw [← e] at hm; exact (insB_mem hm).elim (fun z => z ▸ hn) (hl m)) (fun m hm => hw m (List.mem_cons_of_mem _ hm)) (by rw [← e]; exact h)
    simp only [gvD]
    tm_at "go"
    rw [hg]
    simp only [Option.getD_some]
    tm_at "go"
    refine ⟨(l.takeWhile fun m => decide (g n ≤ g m)).length + 1, ?_⟩
    refine loop_at (count := count) (g := g) (n := n) (by omega) hl _ _ _ Om ?_ _ 0 (by omega)
    simp only [gvD]
    tm_at "go"
    obtain ⟨t1, t2⟩ := take_tw (fun m => decide (g n ≤ g m)) l
    refine br_d (fun hp => ?_) fun hp => ?_
    · tm_at "go"
      rw [cut_to, cut_from, ← List.map_take, ← List.map_drop, t1, t2]
      have tl := (tw_facts (fun m => decide (g n ≤ g m)) l).2.2
      have dl : (l.dropWhile fun m => decide (g n ≤ g m)).length ≤ l.length := by rw [← t2, List.length_drop]; omega
      refine ⟨by simp; omega, by simp; omega, ?_⟩
      rw [show (l.takeWhile fun m => decide (g n ≤ g m)).map D.int ++ [D.int n] ++ (l.dropWhile fun m => decide (g n ≤ g m)).map D.int = (ins g n l).map .int by rw [← ins_tw]; simp]
      have := next _ (.val (.int n)) (.val (.int (g n))) (.val (.int ((l.takeWhile fun m => decide (g n ≤ g m)).length : Int))) (show insB g l n = ins g n l from if_pos hp)
      simpa only [gvD] using this
    · have := next _ (.val (.int n)) (.val (.int (g n))) (.val (.int ((l.takeWhile fun m => decide (g n ≤ g m)).length : Int))) (show insB g l n = l from if_neg hp)
      simpa only [gvD] using this
theorem m__law_best (ds : List D) (Om : N.Om) (Q : D → N.Om → Prop) (R : RX) (hl : ds.length = 2) (h : sp__law_best ds Om Q R) : wFn 6 w__law_best ds Om Q R := by
  obtain ⟨count, w, g, rfl, hw, hc, hz, q⟩ := h
  unfold w__law_best
  tm_at "go"
  refine loop_best (count := count) (g := g) _ _ Om w [] _ _ _ (by simpa using hz) (fun m h => by cases h) hw.rg fun y3 y4 y5 => ?_
  tm_at "go"
  rw [show (some (2 : Int)) = some ((2 : Nat) : Int) from rfl, cut_to, ← List.map_take, best_fold hw]
  exact q
end K67

set_option Elab.async false
set_option linter.all false
set_option maxRecDepth 100000
set_option maxHeartbeats 0
namespace K67
open PySem PySem.Spec PyProof.Rows L2 N
local macro_rules | `(tactic| tm_at "nv") => `(tactic| try simp -implicitDefEqProofs only [wDsp_e, wAugF_e, gSorted_d, lk_holder, lk_last, lk_left, lk_rewards, lk_step, lk_leave, lk_served, sn_holder, sv_holder, pa_holder, pv_holder, sn_last, sv_last, pa_last, pv_last, sn_left, sv_left, pa_left, pv_left, sn_rewards, sv_rewards, pa_rewards, pv_rewards, gk_holder, gk_last, gk_left, gk_rewards, asSh_l, asSh_d, asShL_l, asShD_d, cont_r, cont_n, cont_b, cont_i, cont_s, cont_t, cont_l, cont_d, cont_o, contL_n, contL_c, wBinC_e, wCallC_e, wCallFC_e, wShF_e, wItC_e, wForE_e, wCompE_e, wComp2_e, wAppS_e, wRemS_e, wSetIxS_e, wPutS_e, wMakeG_e, noOwn_n, noOwn_o, noOwn_v, noOwn_z, gSorted_i, gSorted_p, Int.cast_ofNat_Int, Int.reduceEq, Int.reduceLT, Int.reduceLE, List.length_map, List.length_append, see_l, see_d, see_i, Nat.reduceAdd, Nat.reduceLeDiff, Nat.zero_le, wFn_e, startG_c, startG_n, startG_z, wSeq_e, wSet_e, wC_e, wFor_e, wIt_e, wVar_e, wVarB_e, getSl_z, getSl_s, List.set_cons_zero, List.set_cons_succ, wRet_e, wBin_e, gI_i, gI0_i, gB0_i, gAdd_i, gAdd_t, gAdd_l, gAdd_s, gMul_i, gMul_t, gMul_l, gEq_, gNe_, gIs_n, gIs_b, gIsNot_n, gIsNot_b, isNon_n, isNon_i, isNon_b, isNon_t, isNon_l, isNon_s, wIfS_e, wtOr_e, wtAnd_e, wtNot_e, wTst_e, wNext_e, wNev_e, wCall_e, wCallF_e, wFrz_e, wLst_e, wTup_e, waNil_e, waCons_e, wComp_e, wRng_e, gRng1_i, gRng2_i, gRng3_i, wUn_e, gNeg_i, gTuple_t, gTuple_l, gList_t, gList_l, gList_s, gLen_t, gLen_l, gLen_s, gLen_d, gInt_i, gInt_b, gAbs_i, gMax_i, gMin_i, wipeG, fName_e, wCallU_e, wCallK_e, List.append_nil, List.length_cons, List.length_nil, wSl_e, woNone_e, woSome_e, gSl_t, gSl_l, gIt_t, gIt_l, gIt_s, gIsi_i, gIsi_b, gIsi_t, gIsi_l, gIsi_s, gIsi_n, gIsi_d, wFld_e, wMeth_e, wMake_e, wMakeF_e, wSetF_e, wExt_e, wFz_e, wRev_e, wRaise_e, wTry_e, wBits_e, insOf_ins, lk_kind, lk_size, lk_digest, lk_is_digest, gEnum_t, gEnum_l, gZip_t, gZip_l, mem1, reduceCtorEq, eq_self, wAsg_e, fTup_e, fCons_e, fNil_e, wAnd_e, wOr_e, wNot_e, wIf_e, wPar_e, wAug_e, wApp_e, wSetO_e, wRetO_e, br_t, br_f, shp_int, shp_bl, shp_non, deq_int, gAll_b, gAny_b, gSum_i, wDrop_e, wRetN_e, true_and, and_true, decide_true, decide_false, Bool.not_true, Bool.not_false, isi_NoneType_bool, isi_NoneType_int, isi_NoneType_str, isi_NoneType_tuple, isi_NoneType_list, isi_NoneType_dict, isi_bool_bool, isi_bool_int, isi_bool_str, isi_bool_tuple, isi_bool_list, isi_bool_dict, isi_int_bool, isi_int_int, isi_int_str, isi_int_tuple, isi_int_list, isi_int_dict, isi_str_bool, isi_str_int, isi_str_str, isi_str_tuple, isi_str_list, isi_str_dict, isi_tuple_bool, isi_tuple_int, isi_tuple_str, isi_tuple_tuple, isi_tuple_list, isi_tuple_dict, isi_list_bool, isi_list_int, isi_list_str, isi_list_tuple, isi_list_list, isi_list_dict, isi_dict_bool, isi_dict_int, isi_dict_str, isi_dict_tuple, isi_dict_list, isi_dict_dict, okTy_bool, okTy_int, okTy_str, okTy_tuple, okTy_list, okTy_dict, List.cons_append, List.nil_append, wChn_e, wSetIxO_e, wGet1_e, wGet2_e, wPutO_e, wDnew_e, slV_v, slB_v, slB_l, slB_d, slB_i, slL_l, slD_d, asB_b, asI_i, asR_r, asT_t, asQ_t, asQ_l, asD_d, asK_i, asK_s, asC_c, as2_2, asO_s, asIns_i, fz_l, fz_i, fz_v, fz_n, wKeys_e, wItems_e, wVals_e, exL_hit, asRev_l, asRev_t, wtYes_e, wFzD_e, fzD_d, fzD_v])
local macro_rules | `(tactic| tm_at "nw") => `(tactic| (tm_at "nv"; repeat (with_reducible refine sq_i ?_; tm_at "nv")))
local macro_rules | `(tactic| tm_at "nc") => `(tactic| first | exact True.intro | omega | exact mulL (by omega) (by omega) | exact mulR (by omega) (by omega) | exact divOk (by omega) (by omega) | exact shlI (n := 1) (by decide) (by decide) (by omega) (by omega) | (simp only [List.length_append, List.length_map, List.length_cons, List.length_nil, List.length_replicate, List.length_flatten, List.map_replicate, List.sum_replicate_nat, List.length_range, rngL_len, rngC_len, List.cons_append, List.nil_append]; first | done | omega))
local macro_rules | `(tactic| tm_at "ns") => `(tactic| repeat (with_reducible refine And.intro (by first | tm_at "nc" | exact ⟨by tm_at "nc", by tm_at "nc"⟩ | exact ⟨by tm_at "nc", by tm_at "nc", by tm_at "nc"⟩ | exact ⟨by tm_at "nc", by tm_at "nc", by tm_at "nc", by tm_at "nc"⟩) ?_))
local macro_rules | `(tactic| tm_at "go") => `(tactic| (tm_at "nw"; repeat (first | (with_reducible refine And.intro (by first | tm_at "nc" | exact ⟨by tm_at "nc", by tm_at "nc"⟩ | exact ⟨by tm_at "nc", by tm_at "nc", by tm_at "nc"⟩) ?_) | (with_reducible refine sq_i ?_)); tm_at "nw"))
theorem putO_id67 {O : N.Om} {p : Addr} {m : MO} (h : O p = some m) : putO O p m = O := funext fun b => by
  by_cases z : b = p
  · rw [z, putO_same, h]
  · rw [putO_ne z]
theorem inD_ints67 (i : Int) : ∀ ns : List Int, inD (.int i) (ns.map .int) = ns.contains i
  | [] => rfl
  | n :: r => by
    have ih := inD_ints67 i r
    simp only [inD, List.map_cons, inV, List.any_cons, vOf, List.contains_cons] at ih ⊢
    rw [ih]
    congr 1
    show ((n : Int) == i) = (i == n)
    rw [Bool.eq_iff_iff, beq_iff_eq, beq_iff_eq]
    exact ⟨fun h => h.symm, fun h => h.symm⟩
theorem flD_ints67 : ∀ ns : List Int, (ns.map D.int).all flD = true
  | [] => rfl
  | n :: r => by simp only [List.map_cons, List.all_cons, flD_ints67 r, Bool.and_true]; rfl
def w_Turns_step_c4 : WS := (wSeq (wIfS (wTst (wBin (gIs) (wFld [20] "holder" (wVarB 0)) (wC .non))) (wSeq (wSetF [20] "left" (wC (.int 0)) (wVar 0))
  (wRet (wC .non))) wNext)
  (wSeq (wSetF [20] "last" (wFld [20] "holder" (wVarB 0)) (wVar 0))
  (wSeq (wSetF [20] "left" (wC (.int 5)) (wVar 0))
  (wRet (wFld [20] "holder" (wVarB 0))))))
def w_Turns_step_c2 : WS := (wSeq (wSetF [20] "holder" (wCallU 2 sp_next_of [] (waCons (wVar 1) (waCons (wFld [20] "last" (wVarB 0)) waNil))) (wVar 0)) (wSeq (wSetF [20] "rewards" (wCallU 2 sp_best [] (waCons (wVar 2) (waCons (wFrz (wComp (wIt (wVarB 1)) (fName 3) (wTst (wBin (gNe) (wVarB 3) (wFld [20] "holder" (wVarB 0)))) (wVar 3) [3])) waNil))) (wVar 0)) w_Turns_step_c4))
def w_Turns_step_c1 : WS := (wSeq (wIfS (wtAnd (wTst (wBin (gIsNot) (wFld [20] "holder" (wVarB 0)) (wC .non))) (wtAnd (wTst (wBin (gIn false) (wFld [20] "holder" (wVarB 0)) (wVarB 1))) (wTst (wBin (gGt) (wFld [20] "left" (wVarB 0)) (wC (.int 0)))))) (wRet (wC .non)) wNext) w_Turns_step_c2)
theorem w_Turns_step_eq : w_Turns_step = (wSeq (wIfS (wTst (wBin (gGt) (wFld [20] "left" (wVarB 0)) (wC (.int 0)))) (wAugF [20] "left" (gSub) (wVar 0) (wC (.int 1))) wNext) w_Turns_step_c1) := rfl
def w__law_turn_step_c4 : WS := (wSeq (wIfS (wTst (wBin (gIs) (wBinC gIx (wVarB 0) (wC (.str "holder"))) (wC .non))) (wSeq (wPutS (wC (.int 0)) (wVar 0) (wC (.str "left")))
  (wRet (wC .non))) wNext)
  (wSeq (wPutS (wBinC gIx (wVarB 0) (wC (.str "holder"))) (wVar 0) (wC (.str "last")))
  (wSeq (wPutS (wC (.int 5)) (wVar 0) (wC (.str "left")))
  (wRet (wBinC gIx (wVarB 0) (wC (.str "holder")))))))
def w__law_turn_step_c2 : WS := (wSeq (wPutS (wCallU 2 sp__law_next [] (waCons (wVar 1) (waCons (wBinC gIx (wVarB 0) (wC (.str "last"))) waNil))) (wVar 0) (wC (.str "holder"))) (wSeq (wPutS (wCallU 2 sp__law_best [] (waCons (wVar 2) (waCons (wFrz (wComp (wIt (wVarB 1)) (fName 3) (wTst (wBin (gNe) (wVarB 3) (wBinC gIx (wVarB 0) (wC (.str "holder"))))) (wVar 3) [3])) waNil))) (wVar 0) (wC (.str "rewards"))) w__law_turn_step_c4))
def w__law_turn_step_c1 : WS := (wSeq (wIfS (wtAnd (wTst (wBin (gIsNot) (wBinC gIx (wVarB 0) (wC (.str "holder"))) (wC .non))) (wtAnd (wTst (wBin (gIn false) (wBinC gIx (wVarB 0) (wC (.str "holder"))) (wVarB 1))) (wTst (wBin (gGt) (wBinC gIx (wVarB 0) (wC (.str "left"))) (wC (.int 0)))))) (wRet (wC .non)) wNext) w__law_turn_step_c2)
theorem w__law_turn_step_eq : w__law_turn_step = (wSeq (wIfS (wTst (wBin (gGt) (wBinC gIx (wVarB 0) (wC (.str "left"))) (wC (.int 0)))) (wPutS (wBin (gSub) (wBinC gIx (wVarB 0) (wC (.str "left"))) (wC (.int 1))) (wVar 0) (wC (.str "left"))) wNext) w__law_turn_step_c1) := rfl
theorem gin_oI {w : List Int} {h : Option Int} {x : Int} (e : h = some x) {K : D → Prop} (k : K (.bl (w.contains x))) : gIn false (oI h) (.lst (w.map .int)) K := by
  subst e
  refine ⟨rfl, flD_ints67 _, ?_⟩
  rw [if_neg (by decide)]
  rw [show oI (some x) = D.int x from rfl, inD_ints67]
  exact k
theorem neq_turns {w : List Int} {h : Option Int} (hz : w.length ≤ 1000) {f : WG} {wt : WT} {we : WE} {G : Gam} {Om : N.Om} {Q : List D → N.Om → Prop}
    (hs : ∀ (x : Int) (K1 : D → N.Om → Prop) (K2 : N.Om → Prop), (shp (.int x) = true → shp (oI h) = true → br (!deq (.int x) (oI h)) (K1 (.int x) Om) (K2 Om)) → f (.int x) G fun G2 => wt G2 Om (fun b O2 => br b (we G2 O2 K1 noR) (K2 O2)) noR)
    (q : Q ((w.filter fun x => decide (some x ≠ h)).map .int) Om) : wTurns f wt we G (w.map .int) [] Om Q := by
  refine turns_filA (h := D.int) (g := D.int) (t := fun x => decide (some x ≠ h)) w [] (by simp; omega) (fun x _ K1 K2 k1 k2 => ?_) q
  refine hs x K1 K2 fun _ _ => ?_
  rw [show deq (D.int x) (oI h) = decide (some x = h) from deq_oI (some x) h]
  refine br_if (fun e => k1 ?_) fun e => k2 ?_
  · simpa using e
  · simpa using e
abbrev PoR (Q : D → N.Om → Prop) (R : RX) : Post := { nx := fun x O => Q .non O, rt := Q, bk := fun x x_1 => False, ct := fun x x_1 => False, ex := fun x x_1 O => R x O }
theorem stepD {Q : D → N.Om → Prop} {R : RX} {a : Addr} {count : Nat} {w : List Int} {g : Int → Int} {O Om : N.Om} {l h : Option Int} {left : Int} {x3 : Sl} (hw : Wsh count w) (e : h = none ∨ ∃ x, h = some x)
    (hO : O a = some (.ins TnC stN [oI h, oI l, .int left, .lst ((rewP w g h).map .int)])) (pO : ∀ m, putO O a m = putO Om a m) (q : Q (oI (dealP w g l h).1) (putO Om a (tnO (dealP w g l h).2))) :
    w_Turns_step_c4 [.val (.ref a), .val (.lst (w.map .int)), .val (gvD count g), x3] O (PoR Q R) := by
  unfold w_Turns_step_c4
  simp only [tnO, stV] at q
  tm_at "go"
  rw [insOf_ref hO]
  tm_at "go"
  rw [isNon_oI]
  rcases e with rfl | ⟨x, rfl⟩
  · refine br_if (fun _ => ?_) fun z => absurd z (by simp)
    tm_at "go"
    rw [hO]
    tm_at "go"
    try (refine ⟨by decide, ?_⟩; tm_at "go")
    rw [pO]
    exact q
  · refine br_if (fun z => absurd z (by simp)) fun _ => ?_
    tm_at "go"
    rw [insOf_ref hO]
    tm_at "go"
    rw [hO]
    tm_at "go"
    try (refine ⟨by decide, ?_⟩; tm_at "go")
    rw [putO_same]
    tm_at "go"
    try (refine ⟨by decide, ?_⟩; tm_at "go")
    rw [putO_put, pO, insOf_put]
    tm_at "go"
    exact q
theorem stepC {Q : D → N.Om → Prop} {R : RX} {a : Addr} {count : Nat} {w : List Int} {g : Int → Int} {O Om : N.Om} {l h0 : Option Int} {left : Int} {rew : List Int} {x3 : Sl} (hw : Wsh count w) (hc : count ≤ 60) (hz : w.length ≤ 1000)
    (hO : O a = some (.ins TnC stN [oI h0, oI l, .int left, .lst (rew.map .int)])) (pO : ∀ m, putO O a m = putO Om a m) (q : Q (oI (dealP w g l (nextP w l)).1) (putO Om a (tnO (dealP w g l (nextP w l)).2))) :
    w_Turns_step_c2 [.val (.ref a), .val (.lst (w.map .int)), .val (gvD count g), x3] O (PoR Q R) := by
  unfold w_Turns_step_c2
  tm_at "go"
  rw [insOf_ref hO]
  tm_at "go"
  refine ⟨count, w, l, rfl, hw, hc, hz, ?_⟩
  tm_at "go"
  rw [hO]
  tm_at "go"
  try (refine ⟨by decide, ?_⟩; tm_at "go")
  refine neq_turns (h := nextP w l) hz (fun x K1 K2 hk => ?_) ?_
  · tm_at "go"
    rw [insOf_put]
    tm_at "go"
    have := hk rfl (shp_oI _)
    first | exact ⟨shp_oI _, this⟩ | exact this
  · tm_at "go"
    refine ⟨count, _, g, rfl, hw.filter _, hc, Nat.le_trans (List.length_filter_le _ _) hz, ?_⟩
    tm_at "go"
    rw [putO_same]
    tm_at "go"
    try (refine ⟨by decide, ?_⟩; tm_at "go")
    rw [putO_put, pO]
    refine stepD hw ?_ putO_same (fun m => by rw [putO_put]) q
    cases nextP w l
    · exact .inl rfl
    · exact .inr ⟨_, rfl⟩
theorem stepB {Q : D → N.Om → Prop} {R : RX} {a : Addr} {count : Nat} {s : St} {w : List Int} {g : Int → Int} {O Om : N.Om} {x3 : Sl} (hw : Wsh count w) (hc : count ≤ 60) (hz : w.length ≤ 1000)
    (hO : O a = some (.ins TnC stN [oI s.h, oI s.l, .int (leftP s), .lst (s.rew.map .int)])) (pO : ∀ m, putO O a m = putO Om a m) (pI : ∀ m, O a = some m → O = putO Om a m) (q : Q (oI (stepP s w g).1) (putO Om a (tnO (stepP s w g).2))) :
    w_Turns_step_c1 [.val (.ref a), .val (.lst (w.map .int)), .val (gvD count g), x3] O (PoR Q R) := by
  unfold w_Turns_step_c1
  tm_at "go"
  rw [insOf_ref hO]
  tm_at "go"
  rw [isNon_oI]
  have no : keptB s w = false → w_Turns_step_c2 [.val (.ref a), .val (.lst (w.map .int)), .val (gvD count g), x3] O (PoR Q R) := fun hk => by
    rw [stepP_d hk] at q
    exact stepC hw hc hz hO pO q
  cases e : s.h with
  | none =>
    refine br_if (fun z => absurd z (by simp)) fun _ => no ?_
    unfold keptB; rw [e]
  | some x =>
    refine br_if (fun _ => ?_) fun z => absurd z (by simp)
    have kb : keptB s w = (w.contains x && decide (0 < leftP s)) := by unfold keptB; rw [e]
    refine gin_oI (h := some x) rfl ?_
    tm_at "go"
    cases e1 : w.contains x
    · exact no (by rw [kb, e1]; rfl)
    · tm_at "go"
      refine br_d (fun e2 => ?_) fun e2 => no (by rw [kb, e1, Bool.true_and, decide_eq_false e2])
      rw [stepP_k (by rw [kb, e1, Bool.true_and, decide_eq_true e2])] at q
      rw [pI _ hO]
      exact q
theorem m_Turns_step (ds : List D) (Om : N.Om) (Q : D → N.Om → Prop) (R : RX) (hl : ds.length = 3) (h : sp_Turns_step ds Om Q R) : wFn 4 w_Turns_step ds Om Q R := by
  obtain ⟨a, count, s, w, g, rfl, ha, hs, hw, hc, hz, q⟩ := h
  rw [w_Turns_step_eq]
  simp only [tnO, stV] at ha
  tm_at "go"
  rw [insOf_ref ha]
  tm_at "go"
  refine br_d (fun e => ?_) fun e => ?_
  · rw [ha]
    tm_at "go"
    try (refine ⟨by decide, ?_⟩; tm_at "go")
    have el : leftP s = s.left - 1 := if_pos e
    refine stepB (Om := Om) (s := s) hw hc hz (by rw [putO_same, el]) (fun m => putO_put) (fun m h => ?_) q
    rw [putO_same] at h
    cases h
    rfl
  · have el : leftP s = s.left := if_neg e
    refine stepB (Om := Om) (s := s) hw hc hz (by rw [el]; exact ha) (fun m => rfl) (fun m h => ?_) q
    exact (putO_id67 h).symm
end K67

set_option Elab.async false
set_option linter.all false
set_option maxRecDepth 100000
set_option maxHeartbeats 0
namespace K67
open PySem PySem.Spec PyProof.Rows L2 N
local macro_rules | `(tactic| tm_at "nv") => `(tactic| try simp -implicitDefEqProofs only [wDsp_e, wAugF_e, gSorted_d, lk_holder, lk_last, lk_left, lk_rewards, lk_step, lk_leave, lk_served, sn_holder, sv_holder, pa_holder, pv_holder, sn_last, sv_last, pa_last, pv_last, sn_left, sv_left, pa_left, pv_left, sn_rewards, sv_rewards, pa_rewards, pv_rewards, gk_holder, gk_last, gk_left, gk_rewards, asSh_l, asSh_d, asShL_l, asShD_d, cont_r, cont_n, cont_b, cont_i, cont_s, cont_t, cont_l, cont_d, cont_o, contL_n, contL_c, wBinC_e, wCallC_e, wCallFC_e, wShF_e, wItC_e, wForE_e, wCompE_e, wComp2_e, wAppS_e, wRemS_e, wSetIxS_e, wPutS_e, wMakeG_e, noOwn_n, noOwn_o, noOwn_v, noOwn_z, gSorted_i, gSorted_p, Int.cast_ofNat_Int, Int.reduceEq, Int.reduceLT, Int.reduceLE, List.length_map, List.length_append, see_l, see_d, see_i, Nat.reduceAdd, Nat.reduceLeDiff, Nat.zero_le, wFn_e, startG_c, startG_n, startG_z, wSeq_e, wSet_e, wC_e, wFor_e, wIt_e, wVar_e, wVarB_e, getSl_z, getSl_s, List.set_cons_zero, List.set_cons_succ, wRet_e, wBin_e, gI_i, gI0_i, gB0_i, gAdd_i, gAdd_t, gAdd_l, gAdd_s, gMul_i, gMul_t, gMul_l, gEq_, gNe_, gIs_n, gIs_b, gIsNot_n, gIsNot_b, isNon_n, isNon_i, isNon_b, isNon_t, isNon_l, isNon_s, wIfS_e, wtOr_e, wtAnd_e, wtNot_e, wTst_e, wNext_e, wNev_e, wCall_e, wCallF_e, wFrz_e, wLst_e, wTup_e, waNil_e, waCons_e, wComp_e, wRng_e, gRng1_i, gRng2_i, gRng3_i, wUn_e, gNeg_i, gTuple_t, gTuple_l, gList_t, gList_l, gList_s, gLen_t, gLen_l, gLen_s, gLen_d, gInt_i, gInt_b, gAbs_i, gMax_i, gMin_i, wipeG, fName_e, wCallU_e, wCallK_e, List.append_nil, List.length_cons, List.length_nil, wSl_e, woNone_e, woSome_e, gSl_t, gSl_l, gIt_t, gIt_l, gIt_s, gIsi_i, gIsi_b, gIsi_t, gIsi_l, gIsi_s, gIsi_n, gIsi_d, wFld_e, wMeth_e, wMake_e, wMakeF_e, wSetF_e, wExt_e, wFz_e, wRev_e, wRaise_e, wTry_e, wBits_e, insOf_ins, lk_kind, lk_size, lk_digest, lk_is_digest, gEnum_t, gEnum_l, gZip_t, gZip_l, mem1, reduceCtorEq, eq_self, wAsg_e, fTup_e, fCons_e, fNil_e, wAnd_e, wOr_e, wNot_e, wIf_e, wPar_e, wAug_e, wApp_e, wSetO_e, wRetO_e, br_t, br_f, shp_int, shp_bl, shp_non, deq_int, gAll_b, gAny_b, gSum_i, wDrop_e, wRetN_e, true_and, and_true, decide_true, decide_false, Bool.not_true, Bool.not_false, isi_NoneType_bool, isi_NoneType_int, isi_NoneType_str, isi_NoneType_tuple, isi_NoneType_list, isi_NoneType_dict, isi_bool_bool, isi_bool_int, isi_bool_str, isi_bool_tuple, isi_bool_list, isi_bool_dict, isi_int_bool, isi_int_int, isi_int_str, isi_int_tuple, isi_int_list, isi_int_dict, isi_str_bool, isi_str_int, isi_str_str, isi_str_tuple, isi_str_list, isi_str_dict, isi_tuple_bool, isi_tuple_int, isi_tuple_str, isi_tuple_tuple, isi_tuple_list, isi_tuple_dict, isi_list_bool, isi_list_int, isi_list_str, isi_list_tuple, isi_list_list, isi_list_dict, isi_dict_bool, isi_dict_int, isi_dict_str, isi_dict_tuple, isi_dict_list, isi_dict_dict, okTy_bool, okTy_int, okTy_str, okTy_tuple, okTy_list, okTy_dict, List.cons_append, List.nil_append, wChn_e, wSetIxO_e, wGet1_e, wGet2_e, wPutO_e, wDnew_e, slV_v, slB_v, slB_l, slB_d, slB_i, slL_l, slD_d, asB_b, asI_i, asR_r, asT_t, asQ_t, asQ_l, asD_d, asK_i, asK_s, asC_c, as2_2, asO_s, asIns_i, fz_l, fz_i, fz_v, fz_n, wKeys_e, wItems_e, wVals_e, exL_hit, asRev_l, asRev_t, wtYes_e, wFzD_e, fzD_d, fzD_v])
local macro_rules | `(tactic| tm_at "nw") => `(tactic| (tm_at "nv"; repeat (with_reducible refine sq_i ?_; tm_at "nv")))
local macro_rules | `(tactic| tm_at "nc") => `(tactic| first | exact True.intro | omega | exact mulL (by omega) (by omega) | exact mulR (by omega) (by omega) | exact divOk (by omega) (by omega) | exact shlI (n := 1) (by decide) (by decide) (by omega) (by omega) | (simp only [List.length_append, List.length_map, List.length_cons, List.length_nil, List.length_replicate, List.length_flatten, List.map_replicate, List.sum_replicate_nat, List.length_range, rngL_len, rngC_len, List.cons_append, List.nil_append]; first | done | omega))
local macro_rules | `(tactic| tm_at "ns") => `(tactic| repeat (with_reducible refine And.intro (by first | tm_at "nc" | exact ⟨by tm_at "nc", by tm_at "nc"⟩ | exact ⟨by tm_at "nc", by tm_at "nc", by tm_at "nc"⟩ | exact ⟨by tm_at "nc", by tm_at "nc", by tm_at "nc", by tm_at "nc"⟩) ?_))
local macro_rules | `(tactic| tm_at "go") => `(tactic| (tm_at "nw"; repeat (first | (with_reducible refine And.intro (by first | tm_at "nc" | exact ⟨by tm_at "nc", by tm_at "nc"⟩ | exact ⟨by tm_at "nc", by tm_at "nc", by tm_at "nc"⟩) ?_) | (with_reducible refine sq_i ?_)); tm_at "nw"))
theorem stepDs {Q : D → N.Om → Prop} {R : RX} {a : Addr} {count : Nat} {w : List Int} {g : Int → Int} {O Om : N.Om} {l h : Option Int} {left : Int} {x3 : Sl} (hw : Wsh count w) (e : h = none ∨ ∃ x, h = some x)
    (hO : O a = some (.dct stK [oI h, oI l, .int left, .lst ((rewP w g h).map .int)])) (pO : ∀ m, putO O a m = putO Om a m) (q : Q (oI (dealP w g l h).1) (putO Om a (sdO (dealP w g l h).2))) :
    w__law_turn_step_c4 [.val (.ref a), .val (.lst (w.map .int)), .val (gvD count g), x3] O (PoR Q R) := by
  have k4 : stK.length < 16777216 := by decide
  unfold w__law_turn_step_c4
  simp only [sdO, stV] at q
  tm_at "go"
  rw [hO]
  tm_at "go"
  rw [isNon_oI]
  rcases e with rfl | ⟨x, rfl⟩
  · refine br_if (fun _ => ?_) fun z => absurd z (by simp)
    try tm_at "go"
    try rw [hO]
    try tm_at "go"
    refine ⟨stK_nd, k4, ?_⟩
    try tm_at "go"
    rw [pO]
    exact q
  · refine br_if (fun z => absurd z (by simp)) fun _ => ?_
    tm_at "go"
    rw [hO]
    tm_at "go"
    refine ⟨stK_nd, k4, ?_⟩
    tm_at "go"
    rw [putO_same]
    tm_at "go"
    refine ⟨stK_nd, k4, ?_⟩
    tm_at "go"
    rw [putO_put, pO, putO_same]
    tm_at "go"
    exact q
theorem stepCs {Q : D → N.Om → Prop} {R : RX} {a : Addr} {count : Nat} {w : List Int} {g : Int → Int} {O Om : N.Om} {l h0 : Option Int} {left : Int} {rew : List Int} {x3 : Sl} (hw : Wsh count w) (hc : count ≤ 60) (hz : w.length ≤ 1000)
    (hO : O a = some (.dct stK [oI h0, oI l, .int left, .lst (rew.map .int)])) (pO : ∀ m, putO O a m = putO Om a m) (q : Q (oI (dealP w g l (nextP w l)).1) (putO Om a (sdO (dealP w g l (nextP w l)).2))) :
    w__law_turn_step_c2 [.val (.ref a), .val (.lst (w.map .int)), .val (gvD count g), x3] O (PoR Q R) := by
  have k4 : stK.length < 16777216 := by decide
  unfold w__law_turn_step_c2
  tm_at "go"
  rw [hO]
  tm_at "go"
  refine ⟨count, w, l, rfl, hw, hc, hz, ?_⟩
  tm_at "go"
  rw [hO]
  tm_at "go"
  refine ⟨stK_nd, k4, ?_⟩
  tm_at "go"
  refine neq_turns (h := nextP w l) hz (fun x K1 K2 hk => ?_) ?_
  · tm_at "go"
    rw [putO_same]
    tm_at "go"
    have := hk rfl (shp_oI _)
    first | exact ⟨shp_oI _, this⟩ | exact this
  · tm_at "go"
    refine ⟨count, _, g, rfl, hw.filter _, hc, Nat.le_trans (List.length_filter_le _ _) hz, ?_⟩
    tm_at "go"
    rw [putO_same]
    tm_at "go"
    refine ⟨stK_nd, k4, ?_⟩
    rw [putO_put, pO]
    refine stepDs hw ?_ putO_same (fun m => by rw [putO_put]) q
    cases nextP w l
    · exact .inl rfl
    · exact .inr ⟨_, rfl⟩
theorem stepBs {Q : D → N.Om → Prop} {R : RX} {a : Addr} {count : Nat} {s : St} {w : List Int} {g : Int → Int} {O Om : N.Om} {x3 : Sl} (hw : Wsh count w) (hc : count ≤ 60) (hz : w.length ≤ 1000)
    (hO : O a = some (.dct stK [oI s.h, oI s.l, .int (leftP s), .lst (s.rew.map .int)])) (pO : ∀ m, putO O a m = putO Om a m) (pI : ∀ m, O a = some m → O = putO Om a m) (q : Q (oI (stepP s w g).1) (putO Om a (sdO (stepP s w g).2))) :
    w__law_turn_step_c1 [.val (.ref a), .val (.lst (w.map .int)), .val (gvD count g), x3] O (PoR Q R) := by
  unfold w__law_turn_step_c1
  tm_at "go"
  rw [hO]
  tm_at "go"
  rw [isNon_oI]
  have no : keptB s w = false → w__law_turn_step_c2 [.val (.ref a), .val (.lst (w.map .int)), .val (gvD count g), x3] O (PoR Q R) := fun hk => by
    rw [stepP_d hk] at q
    exact stepCs hw hc hz hO pO q
  cases e : s.h with
  | none =>
    refine br_if (fun z => absurd z (by simp)) fun _ => no ?_
    unfold keptB; rw [e]
  | some x =>
    refine br_if (fun _ => ?_) fun z => absurd z (by simp)
    have kb : keptB s w = (w.contains x && decide (0 < leftP s)) := by unfold keptB; rw [e]
    refine gin_oI (h := some x) rfl ?_
    tm_at "go"
    cases e1 : w.contains x
    · exact no (by rw [kb, e1]; rfl)
    · tm_at "go"
      try rw [hO]
      try tm_at "go"
      refine br_d (fun e2 => ?_) fun e2 => no (by rw [kb, e1, Bool.true_and, decide_eq_false e2])
      rw [stepP_k (by rw [kb, e1, Bool.true_and, decide_eq_true e2])] at q
      rw [pI _ hO]
      exact q
theorem m__law_turn_step (ds : List D) (Om : N.Om) (Q : D → N.Om → Prop) (R : RX) (hl : ds.length = 3) (h : sp__law_turn_step ds Om Q R) : wFn 4 w__law_turn_step ds Om Q R := by
  obtain ⟨a, count, s, w, g, rfl, ha, hs, hw, hc, hz, q⟩ := h
  have k4 : stK.length < 16777216 := by decide
  rw [w__law_turn_step_eq]
  simp only [sdO, stV] at ha
  tm_at "go"
  rw [ha]
  tm_at "go"
  refine br_d (fun e => ?_) fun e => ?_
  · try rw [ha]
    try tm_at "go"
    refine ⟨stK_nd, k4, ?_⟩
    have el : leftP s = s.left - 1 := if_pos e
    refine stepBs (Om := Om) (s := s) hw hc hz (by rw [putO_same, el]) (fun m => putO_put) (fun m h => ?_) q
    rw [putO_same] at h
    cases h
    rfl
  · have el : leftP s = s.left := if_neg e
    refine stepBs (Om := Om) (s := s) hw hc hz (by rw [el]; exact ha) (fun m => rfl) (fun m h => ?_) q
    exact (putO_id67 h).symm
/-! ### who wishes next -/
theorem wsh_range {count : Nat} (t : Int → Bool) : Wsh count (((List.range count).map fun (i : Nat) => (i : Int)).filter t) := by
  refine Wsh.filter ⟨?_, fun x hx => ?_⟩ t
  · rw [List.pairwise_map]
    exact List.pairwise_lt_range.imp fun h => by omega
  · obtain ⟨i, hi, rfl⟩ := List.mem_map.mp hx
    have := List.mem_range.mp hi
    omega
theorem wsh_srt {count : Nat} {l : List Int} (hnd : l.Nodup) (hr : ∀ x ∈ l, 0 ≤ x ∧ x < count) : Wsh count (srtI l) := by
  refine ⟨?_, fun x hx => hr x ((srtI_perm l).mem_iff.mp hx)⟩
  have h1 := srtI_sorted l
  have h2 : (srtI l).Nodup := (srtI_perm l).nodup_iff.mpr hnd
  exact (h1.and h2).imp fun {a b} h => by omega
end K67

set_option Elab.async false
set_option linter.all false
set_option maxRecDepth 100000
set_option maxHeartbeats 0
namespace K67
open PySem PySem.Spec PyProof.Rows L2 N
local macro_rules | `(tactic| tm_at "nv") => `(tactic| try simp -implicitDefEqProofs only [wDsp_e, wAugF_e, gSorted_d, lk_holder, lk_last, lk_left, lk_rewards, lk_step, lk_leave, lk_served, sn_holder, sv_holder, pa_holder, pv_holder, sn_last, sv_last, pa_last, pv_last, sn_left, sv_left, pa_left, pv_left, sn_rewards, sv_rewards, pa_rewards, pv_rewards, gk_holder, gk_last, gk_left, gk_rewards, asSh_l, asSh_d, asShL_l, asShD_d, cont_r, cont_n, cont_b, cont_i, cont_s, cont_t, cont_l, cont_d, cont_o, contL_n, contL_c, wBinC_e, wCallC_e, wCallFC_e, wShF_e, wItC_e, wForE_e, wCompE_e, wComp2_e, wAppS_e, wRemS_e, wSetIxS_e, wPutS_e, wMakeG_e, noOwn_n, noOwn_o, noOwn_v, noOwn_z, gSorted_i, gSorted_p, Int.cast_ofNat_Int, Int.reduceEq, Int.reduceLT, Int.reduceLE, List.length_map, List.length_append, see_l, see_d, see_i, Nat.reduceAdd, Nat.reduceLeDiff, Nat.zero_le, wFn_e, startG_c, startG_n, startG_z, wSeq_e, wSet_e, wC_e, wFor_e, wIt_e, wVar_e, wVarB_e, getSl_z, getSl_s, List.set_cons_zero, List.set_cons_succ, wRet_e, wBin_e, gI_i, gI0_i, gB0_i, gAdd_i, gAdd_t, gAdd_l, gAdd_s, gMul_i, gMul_t, gMul_l, gEq_, gNe_, gIs_n, gIs_b, gIsNot_n, gIsNot_b, isNon_n, isNon_i, isNon_b, isNon_t, isNon_l, isNon_s, wIfS_e, wtOr_e, wtAnd_e, wtNot_e, wTst_e, wNext_e, wNev_e, wCall_e, wCallF_e, wFrz_e, wLst_e, wTup_e, waNil_e, waCons_e, wComp_e, wRng_e, gRng1_i, gRng2_i, gRng3_i, wUn_e, gNeg_i, gTuple_t, gTuple_l, gList_t, gList_l, gList_s, gLen_t, gLen_l, gLen_s, gLen_d, gInt_i, gInt_b, gAbs_i, gMax_i, gMin_i, wipeG, fName_e, wCallU_e, wCallK_e, List.append_nil, List.length_cons, List.length_nil, wSl_e, woNone_e, woSome_e, gSl_t, gSl_l, gIt_t, gIt_l, gIt_s, gIsi_i, gIsi_b, gIsi_t, gIsi_l, gIsi_s, gIsi_n, gIsi_d, wFld_e, wMeth_e, wMake_e, wMakeF_e, wSetF_e, wExt_e, wFz_e, wRev_e, wRaise_e, wTry_e, wBits_e, insOf_ins, lk_kind, lk_size, lk_digest, lk_is_digest, gEnum_t, gEnum_l, gZip_t, gZip_l, mem1, reduceCtorEq, eq_self, wAsg_e, fTup_e, fCons_e, fNil_e, wAnd_e, wOr_e, wNot_e, wIf_e, wPar_e, wAug_e, wApp_e, wSetO_e, wRetO_e, br_t, br_f, shp_int, shp_bl, shp_non, deq_int, gAll_b, gAny_b, gSum_i, wDrop_e, wRetN_e, true_and, and_true, decide_true, decide_false, Bool.not_true, Bool.not_false, isi_NoneType_bool, isi_NoneType_int, isi_NoneType_str, isi_NoneType_tuple, isi_NoneType_list, isi_NoneType_dict, isi_bool_bool, isi_bool_int, isi_bool_str, isi_bool_tuple, isi_bool_list, isi_bool_dict, isi_int_bool, isi_int_int, isi_int_str, isi_int_tuple, isi_int_list, isi_int_dict, isi_str_bool, isi_str_int, isi_str_str, isi_str_tuple, isi_str_list, isi_str_dict, isi_tuple_bool, isi_tuple_int, isi_tuple_str, isi_tuple_tuple, isi_tuple_list, isi_tuple_dict, isi_list_bool, isi_list_int, isi_list_str, isi_list_tuple, isi_list_list, isi_list_dict, isi_dict_bool, isi_dict_int, isi_dict_str, isi_dict_tuple, isi_dict_list, isi_dict_dict, okTy_bool, okTy_int, okTy_str, okTy_tuple, okTy_list, okTy_dict, List.cons_append, List.nil_append, wChn_e, wSetIxO_e, wGet1_e, wGet2_e, wPutO_e, wDnew_e, slV_v, slB_v, slB_l, slB_d, slB_i, slL_l, slD_d, asB_b, asI_i, asR_r, asT_t, asQ_t, asQ_l, asD_d, asK_i, asK_s, asC_c, as2_2, asO_s, asIns_i, fz_l, fz_i, fz_v, fz_n, wKeys_e, wItems_e, wVals_e, exL_hit, asRev_l, asRev_t, wtYes_e, wFzD_e, fzD_d, fzD_v])
local macro_rules | `(tactic| tm_at "nw") => `(tactic| (tm_at "nv"; repeat (with_reducible refine sq_i ?_; tm_at "nv")))
local macro_rules | `(tactic| tm_at "nc") => `(tactic| first | exact True.intro | omega | exact mulL (by omega) (by omega) | exact mulR (by omega) (by omega) | exact divOk (by omega) (by omega) | exact shlI (n := 1) (by decide) (by decide) (by omega) (by omega) | (simp only [List.length_append, List.length_map, List.length_cons, List.length_nil, List.length_replicate, List.length_flatten, List.map_replicate, List.sum_replicate_nat, List.length_range, rngL_len, rngC_len, List.cons_append, List.nil_append]; first | done | omega))
local macro_rules | `(tactic| tm_at "ns") => `(tactic| repeat (with_reducible refine And.intro (by first | tm_at "nc" | exact ⟨by tm_at "nc", by tm_at "nc"⟩ | exact ⟨by tm_at "nc", by tm_at "nc", by tm_at "nc"⟩ | exact ⟨by tm_at "nc", by tm_at "nc", by tm_at "nc", by tm_at "nc"⟩) ?_))
local macro_rules | `(tactic| tm_at "go") => `(tactic| (tm_at "nw"; repeat (first | (with_reducible refine And.intro (by first | tm_at "nc" | exact ⟨by tm_at "nc", by tm_at "nc"⟩ | exact ⟨by tm_at "nc", by tm_at "nc", by tm_at "nc"⟩) ?_) | (with_reducible refine sq_i ?_)); tm_at "nw"))
theorem rng_i {count : Nat} : rngL 0 count = ((List.range count).map fun (i : Nat) => (i : Int)).map D.int := by rw [rng_r, List.map_map]; rfl
theorem prs_of (l : List Int) : (l.map fun x => D.tup [.int x, .bl true]) = prsD (l.map Sum.inl) (l.map fun _ => D.bl true) := by
  induction l with
  | nil => rfl
  | cons x l ih => simp only [List.map_cons, prsD, kD, ih]
theorem m__law_wishing (ds : List D) (Om : N.Om) (Q : D → N.Om → Prop) (R : RX) (hl : ds.length = 3) (h : sp__law_wishing ds Om Q R) : wFn 6 w__law_wishing ds Om Q R := by
  obtain ⟨r, count, w, rfl, h0, hw, h7, h60, q⟩ := h
  have hwl := hw.len'
  have kc : (2 : Int) ^ 62 = 4611686018427387904 := by decide
  have rl : ((List.range count).map fun (i : Nat) => (i : Int)).length ≤ 60 := by simp; omega
  unfold w__law_wishing
  tm_at "go"
  refine br_d (fun _ => ?_) fun _ => ?_
  · tm_at "go"
    rw [Int.toNat_natCast, rng_i]
    refine turns_filA (h := D.int) (g := D.int) (t := fun x => decide (r / 5 % 7 ≠ x % 7)) _ [] (by simp; omega) (fun x _ K1 K2 k1 k2 => ?_) ?_
    · tm_at "go"
      refine br_if (fun e => k1 ?_) fun e => k2 ?_
      · simpa using e
      · simpa using e
    · rw [List.nil_append]
      exact q _ (wsh_range _)
  tm_at "go"
  refine br_d (fun _ => ?_) fun _ => ?_
  · tm_at "go"
    rw [Int.toNat_natCast, rng_i]
    refine turns_filA (h := D.int) (g := D.int) (t := fun x => !w.contains x || decide (x % 2 = r / 5 % 2)) _ [] (by simp; omega) (fun x _ K1 K2 k1 k2 => ?_) ?_
    · tm_at "go"
      refine ⟨rfl, flD_ints67 _, ?_⟩
      rw [inD_ints67, if_pos rfl]
      cases e : w.contains x
      · exact k1 (by rw [e]; rfl)
      · tm_at "go"
        refine br_d (fun e2 => k1 (by rw [e, decide_eq_true e2]; rfl)) fun e2 => k2 (by rw [e, decide_eq_false e2]; rfl)
    · rw [List.nil_append]
      exact q _ (wsh_range _)
  tm_at "go"
  have hg0 : 0 ≤ r / 5 % count := Int.emod_nonneg _ (by omega)
  have hg1 : r / 5 % count < count := Int.emod_lt_of_pos _ (by omega)
  refine br_d (fun _ => ?_) fun _ => ?_
  · tm_at "go"
    refine turns_filA (h := D.int) (g := D.int) (t := fun x => decide (x ≠ r / 5 % count)) w [] (by simp; omega) (fun x _ K1 K2 k1 k2 => ?_) ?_
    · tm_at "go"
      refine br_if (fun e => k1 ?_) fun e => k2 ?_
      · simpa using e
      · simpa using e
    · rw [List.nil_append]
      tm_at "go"
      exact q _ (hw.filter _)
  · tm_at "go"
    have hx : ∀ x ∈ w ++ [r / 5 % (count : Int)], 0 ≤ x ∧ x < count := fun x hx => (List.mem_append.mp hx).elim (hw.rg x) fun hx => by simp only [List.mem_singleton] at hx; subst hx; exact ⟨hg0, hg1⟩
    rw [show w.map D.int ++ [D.int (r / 5 % (count : Int))] = (w ++ [r / 5 % (count : Int)]).map D.int by simp]
    have hll : (w ++ [r / 5 % (count : Int)]).length ≤ 61 := by simp; omega
    generalize w ++ [r / 5 % (count : Int)] = l at *
    refine turns_mapA (h := D.int) (g := fun x => D.tup [.int x, .bl true]) l [] (by simp; omega) (fun x _ K k => ?_) ?_
    · tm_at "go"
      exact k
    · rw [List.nil_append]
      refine ⟨_, _, prs_of l, by simp, ?_⟩
      obtain ⟨ns, e⟩ := ints_keys (ks := mgK [] (l.map Sum.inl)) fun k hk => by
        rcases mgK_mem.mp hk with hk | hk
        · cases hk
        · obtain ⟨i, _, rfl⟩ := List.mem_map.mp hk
          exact ⟨i, rfl⟩
      have nd : ns.Nodup := by
        have := mgK_nodup (ks := l.map Sum.inl) (acc := []) List.nodup_nil
        rw [e] at this
        exact (List.pairwise_map.mp this).imp fun h e => h (by rw [e])
      have hr : ∀ x ∈ ns, 0 ≤ x ∧ x < count := fun x hxn => by
        have : (Sum.inl x : Key) ∈ mgK [] (l.map Sum.inl) := by rw [e]; exact List.mem_map.mpr ⟨x, hxn, rfl⟩
        rcases mgK_mem.mp this with h | h
        · cases h
        · obtain ⟨y, hy, ey⟩ := List.mem_map.mp h
          cases ey
          exact hx x hy
      have hwn := wsh_srt nd hr
      have hlen := hwn.len'
      rw [(srtI_perm ns).length_eq] at hlen
      rw [e, see_d, gSorted_d]
      exact ⟨by omega, q _ hwn⟩
end K67

set_option Elab.async false
set_option linter.all false
set_option maxRecDepth 100000
set_option maxHeartbeats 0
namespace K67
open PySem PySem.Spec PyProof.Rows L2 N
local macro_rules | `(tactic| tm_at "nv") => `(tactic| try simp -implicitDefEqProofs only [wDsp_e, wAugF_e, gSorted_d, lk_holder, lk_last, lk_left, lk_rewards, lk_step, lk_leave, lk_served, sn_holder, sv_holder, pa_holder, pv_holder, sn_last, sv_last, pa_last, pv_last, sn_left, sv_left, pa_left, pv_left, sn_rewards, sv_rewards, pa_rewards, pv_rewards, gk_holder, gk_last, gk_left, gk_rewards, asSh_l, asSh_d, asShL_l, asShD_d, cont_r, cont_n, cont_b, cont_i, cont_s, cont_t, cont_l, cont_d, cont_o, contL_n, contL_c, wBinC_e, wCallC_e, wCallFC_e, wShF_e, wItC_e, wForE_e, wCompE_e, wComp2_e, wAppS_e, wRemS_e, wSetIxS_e, wPutS_e, wMakeG_e, noOwn_n, noOwn_o, noOwn_v, noOwn_z, gSorted_i, gSorted_p, Int.cast_ofNat_Int, Int.reduceEq, Int.reduceLT, Int.reduceLE, List.length_map, List.length_append, see_l, see_d, see_i, Nat.reduceAdd, Nat.reduceLeDiff, Nat.zero_le, wFn_e, startG_c, startG_n, startG_z, wSeq_e, wSet_e, wC_e, wFor_e, wIt_e, wVar_e, wVarB_e, getSl_z, getSl_s, List.set_cons_zero, List.set_cons_succ, wRet_e, wBin_e, gI_i, gI0_i, gB0_i, gAdd_i, gAdd_t, gAdd_l, gAdd_s, gMul_i, gMul_t, gMul_l, gEq_, gNe_, gIs_n, gIs_b, gIsNot_n, gIsNot_b, isNon_n, isNon_i, isNon_b, isNon_t, isNon_l, isNon_s, wIfS_e, wtOr_e, wtAnd_e, wtNot_e, wTst_e, wNext_e, wNev_e, wCall_e, wCallF_e, wFrz_e, wLst_e, wTup_e, waNil_e, waCons_e, wComp_e, wRng_e, gRng1_i, gRng2_i, gRng3_i, wUn_e, gNeg_i, gTuple_t, gTuple_l, gList_t, gList_l, gList_s, gLen_t, gLen_l, gLen_s, gLen_d, gInt_i, gInt_b, gAbs_i, gMax_i, gMin_i, wipeG, fName_e, wCallU_e, wCallK_e, List.append_nil, List.length_cons, List.length_nil, wSl_e, woNone_e, woSome_e, gSl_t, gSl_l, gIt_t, gIt_l, gIt_s, gIsi_i, gIsi_b, gIsi_t, gIsi_l, gIsi_s, gIsi_n, gIsi_d, wFld_e, wMeth_e, wMake_e, wMakeF_e, wSetF_e, wExt_e, wFz_e, wRev_e, wRaise_e, wTry_e, wBits_e, insOf_ins, lk_kind, lk_size, lk_digest, lk_is_digest, gEnum_t, gEnum_l, gZip_t, gZip_l, mem1, reduceCtorEq, eq_self, wAsg_e, fTup_e, fCons_e, fNil_e, wAnd_e, wOr_e, wNot_e, wIf_e, wPar_e, wAug_e, wApp_e, wSetO_e, wRetO_e, br_t, br_f, shp_int, shp_bl, shp_non, deq_int, gAll_b, gAny_b, gSum_i, wDrop_e, wRetN_e, true_and, and_true, decide_true, decide_false, Bool.not_true, Bool.not_false, isi_NoneType_bool, isi_NoneType_int, isi_NoneType_str, isi_NoneType_tuple, isi_NoneType_list, isi_NoneType_dict, isi_bool_bool, isi_bool_int, isi_bool_str, isi_bool_tuple, isi_bool_list, isi_bool_dict, isi_int_bool, isi_int_int, isi_int_str, isi_int_tuple, isi_int_list, isi_int_dict, isi_str_bool, isi_str_int, isi_str_str, isi_str_tuple, isi_str_list, isi_str_dict, isi_tuple_bool, isi_tuple_int, isi_tuple_str, isi_tuple_tuple, isi_tuple_list, isi_tuple_dict, isi_list_bool, isi_list_int, isi_list_str, isi_list_tuple, isi_list_list, isi_list_dict, isi_dict_bool, isi_dict_int, isi_dict_str, isi_dict_tuple, isi_dict_list, isi_dict_dict, okTy_bool, okTy_int, okTy_str, okTy_tuple, okTy_list, okTy_dict, List.cons_append, List.nil_append, wChn_e, wSetIxO_e, wGet1_e, wGet2_e, wPutO_e, wDnew_e, slV_v, slB_v, slB_l, slB_d, slB_i, slL_l, slD_d, asB_b, asI_i, asR_r, asT_t, asQ_t, asQ_l, asD_d, asK_i, asK_s, asC_c, as2_2, asO_s, asIns_i, fz_l, fz_i, fz_v, fz_n, wKeys_e, wItems_e, wVals_e, exL_hit, asRev_l, asRev_t, wtYes_e, wFzD_e, fzD_d, fzD_v])
local macro_rules | `(tactic| tm_at "nw") => `(tactic| (tm_at "nv"; repeat (with_reducible refine sq_i ?_; tm_at "nv")))
local macro_rules | `(tactic| tm_at "nc") => `(tactic| first | exact True.intro | omega | exact mulL (by omega) (by omega) | exact mulR (by omega) (by omega) | exact divOk (by omega) (by omega) | exact shlI (n := 1) (by decide) (by decide) (by omega) (by omega) | (simp only [List.length_append, List.length_map, List.length_cons, List.length_nil, List.length_replicate, List.length_flatten, List.map_replicate, List.sum_replicate_nat, List.length_range, rngL_len, rngC_len, List.cons_append, List.nil_append]; first | done | omega))
local macro_rules | `(tactic| tm_at "ns") => `(tactic| repeat (with_reducible refine And.intro (by first | tm_at "nc" | exact ⟨by tm_at "nc", by tm_at "nc"⟩ | exact ⟨by tm_at "nc", by tm_at "nc", by tm_at "nc"⟩ | exact ⟨by tm_at "nc", by tm_at "nc", by tm_at "nc", by tm_at "nc"⟩) ?_))
local macro_rules | `(tactic| tm_at "go") => `(tactic| (tm_at "nw"; repeat (first | (with_reducible refine And.intro (by first | tm_at "nc" | exact ⟨by tm_at "nc", by tm_at "nc"⟩ | exact ⟨by tm_at "nc", by tm_at "nc", by tm_at "nc"⟩) ?_) | (with_reducible refine sq_i ?_)); tm_at "nw"))
theorem prs_n67 (g : Nat → D) : ∀ there : List Nat, (there.map fun i : Nat => D.tup [.int (i : Int), g i]) = prsD (there.map fun i : Nat => Sum.inl (i : Int)) (there.map g)
  | [] => rfl
  | i :: r => by rw [List.map_cons, prs_n67 g r]; rfl
theorem keys_nd67 {there : List Nat} (h : there.Nodup) : (there.map fun i : Nat => (Sum.inl (i : Int) : Key)).Nodup :=
  List.Pairwise.map (S := fun a b : Key => a ≠ b) (fun i : Nat => (Sum.inl (i : Int) : Key)) (fun a b (h : a ≠ b) z => h (by have := Sum.inl.inj z; omega)) h
theorem dict_n67 {there : List Nat} {g : Nat → D} {K : MO → Prop} (h : there.Nodup) (k : K (.dct (there.map fun i : Nat => .inl (i : Int)) (there.map g))) : gDict [.lst (there.map fun i : Nat => D.tup [.int (i : Int), g i])] K := by
  rw [prs_n67]
  exact ⟨_, _, rfl, by simp, keys_nd67 h, k⟩
theorem getD_put67 : ∀ (ks : List Key) (vs : List D) (k k' : Key) (d : D), ks.length = vs.length → getD (putKs ks k) (putVs ks vs k d) k' = if k = k' then some d else getD ks vs k'
  | [], [], k, k', d, _ => by simp [putKs, putVs, getD]
  | [], v :: vs, _, _, _, h => by simp at h
  | x :: ks, [], _, _, _, h => by simp at h
  | x :: ks, v :: vs, k, k', d, h => by
    have ih := getD_put67 ks vs k k' d (by simpa using h)
    by_cases e : x = k
    · subst e
      simp only [putKs, putVs, if_true, getD]
      by_cases e2 : x = k'
      · rw [if_pos e2, if_pos e2]
      · rw [if_neg e2, if_neg e2, if_neg e2]
    · simp only [putKs, putVs, if_neg e, getD, ih]
      by_cases e2 : x = k'
      · rw [if_pos e2, if_pos e2]
        by_cases e3 : k = k'
        · exact absurd (e2.trans e3.symm) e
        · rw [if_neg e3]
      · rw [if_neg e2, if_neg e2]
theorem put_len67 : ∀ (ks : List Key) (vs : List D) (k : Key) (d : D), ks.length = vs.length → (putKs ks k).length = (putVs ks vs k d).length ∧ (putKs ks k).length ≤ ks.length + 1
  | [], [], k, d, _ => by simp [putKs, putVs]
  | [], v :: vs, _, _, h => by simp at h
  | x :: ks, [], _, _, h => by simp at h
  | x :: ks, v :: vs, k, d, h => by
    have ih := put_len67 ks vs k d (by simpa using h)
    by_cases e : x = k
    · simp only [putKs, putVs, if_pos e, List.length_cons]
      have : ks.length = vs.length := by simpa using h
      omega
    · simp only [putKs, putVs, if_neg e, List.length_cons]
      omega
/-- the waits as they lie -/
structure WD (count : Nat) (ks : List Key) (vs : List D) (wt : Int → Int) : Prop where
  len : ks.length = vs.length
  nd : ks.Nodup
  at_ : ∀ x : Int, 0 ≤ x → x < count → (getD ks vs (.inl x)).getD (.int 0) = .int (wt x)
theorem WD.put {count : Nat} {ks : List Key} {vs : List D} {wt : Int → Int} (h : WD count ks vs wt) (i v : Int) : WD count (putKs ks (.inl i)) (putVs ks vs (.inl i) (.int v)) (fun x => if x = i then v else wt x) :=
  ⟨(put_len67 ks vs _ _ h.len).1, putKs_nodup h.nd, fun x h0 h1 => by
    rw [getD_put67 _ _ _ _ _ h.len]
    by_cases e : x = i
    · subst e; rw [if_pos rfl, if_pos rfl]; rfl
    · rw [if_neg (fun z => e (by cases z; rfl)), if_neg e]
      exact h.at_ x h0 h1⟩
def wtI (w : List Int) (dealt : Option Int) (wt : Int → Int) (i : Nat) (x : Int) : Int := if x < i then waitP w dealt wt x else wt x
theorem WD.ext {count : Nat} {ks : List Key} {vs : List D} {wt wt' : Int → Int} (h : WD count ks vs wt) (e : ∀ x : Int, 0 ≤ x → x < count → wt x = wt' x) : WD count ks vs wt' := ⟨h.len, h.nd, fun x h0 h1 => by rw [h.at_ x h0 h1, e x h0 h1]⟩
theorem loop_w {count : Nat} {w : List Int} {dealt : Option Int} {wt : Int → Int} (hc : count ≤ 60) (hb : ∀ x : Int, 0 ≤ x → x < count → waitP w dealt wt x ≤ 5 * count) (hlo : ∀ x : Int, 0 ≤ x → x < count → 0 ≤ wt x ∧ wt x ≤ 1000) (x0 x1 x2 x6 x7 x8 x9 x11 x12 x14 : Sl) (Po : Post) (Om : N.Om) (M : Nat) (hM : M ≤ 100000)
    (h : ∀ ks vs y13, WD count ks vs (waitP w dealt wt) → ks.length ≤ M → Po.nx [x0, x1, x2, .val (.int count), .val (.lst (w.map .int)), .own (.dct ks vs), x6, x7, x8, x9, .val (oI dealt), x11, x12, y13, x14] Om) :
    ∀ (n i : Nat) (ks : List Key) (vs : List D) (x13 : Sl), i + n = count → WD count ks vs (wtI w dealt wt i) → ks.length + n ≤ M →
    wForL (fName 13) w_law_b1 ((List.range' i n).map fun (i : Nat) => D.int (i : Int)) [x0, x1, x2, .val (.int count), .val (.lst (w.map .int)), .own (.dct ks vs), x6, x7, x8, x9, .val (oI dealt), x11, x12, x13, x14] Om Po
  | 0, i, ks, vs, x13, e, d, l => wForL_n (h ks vs x13 (d.ext fun x h0 h1 => by unfold wtI; rw [if_pos (by omega)]) (by omega))
  | n + 1, i, ks, vs, x13, e, d, l => by
    rw [rng_from]
    refine wForL_c ?_
    have hi : (0 : Int) ≤ (i : Int) := by omega
    have hi2 : (i : Int) < count := by omega
    have gi := d.at_ i hi hi2
    have wi : wtI w dealt wt i (i : Int) = wt i := by unfold wtI; rw [if_neg (by omega)]
    rw [wi] at gi
    have lo := hlo i hi hi2
    have next : ∀ v, v = waitP w dealt wt i → wForL (fName 13) w_law_b1 ((List.range' (i + 1) n).map fun (i : Nat) => D.int (i : Int)) [x0, x1, x2, .val (.int count), .val (.lst (w.map .int)), .own (.dct (putKs ks (.inl (i : Int))) (putVs ks vs (.inl (i : Int)) (.int v))), x6, x7, x8, x9, .val (oI dealt), x11, x12, .val (.int (i : Int)), x14] Om Po := fun v hv => by
      refine loop_w hc hb hlo x0 x1 x2 x6 x7 x8 x9 x11 x12 x14 Po Om M hM h n (i + 1) _ _ _ (by omega) ((d.put i v).ext fun x h0 h1 => ?_) ?_
      · unfold wtI
        by_cases z : x = i
        · subst z
          rw [if_pos rfl, if_pos (by omega), hv]
        · rw [if_neg z]
          by_cases z2 : x < i
          · rw [if_pos z2, if_pos (by omega)]
          · rw [if_neg z2, if_neg (by omega)]
      · have := (put_len67 ks vs (.inl (i : Int)) (.int v) d.len).2
        omega
    have look : ∀ v, getD (putKs ks (.inl (i : Int))) (putVs ks vs (.inl (i : Int)) (.int v)) (.inl (i : Int)) = some (.int v) := fun v => by
      rw [getD_put67 _ _ _ _ _ d.len, if_pos rfl]
    have bnd := hb i hi hi2
    have fin : ∀ v, v = waitP w dealt wt i → (gIx (.dct (putKs ks (.inl (i : Int))) (putVs ks vs (.inl (i : Int)) (.int v))) (.int (i : Int)) fun x => IntMulOk 5 (count : Int) ∧ gGt x (.int (5 * (count : Int))) fun z => asB z fun b => br b (Po.rt (.bl false) Om) (wForL (fName 13) w_law_b1 ((List.range' (i + 1) n).map fun (i : Nat) => D.int (i : Int)) [x0, x1, x2, .val (.int count), .val (.lst (w.map .int)), .own (.dct (putKs ks (.inl (i : Int))) (putVs ks vs (.inl (i : Int)) (.int v))), x6, x7, x8, x9, .val (oI dealt), x11, x12, .val (.int (i : Int)), x14] Om Po)) := fun v hv => by
      simp only [gIx, keyD, look v]
      refine ⟨mulL (by omega) (by omega), ?_⟩
      tm_at "go"
      refine br_df (by rw [hv]; omega) ?_
      exact next v hv
    tm_at "go"
    refine ⟨rfl, flD_ints67 _, ?_⟩
    rw [inD_ints67, if_pos rfl]
    cases ec : w.contains (i : Int)
    · have nm : (i : Int) ∉ w := fun z => by rw [List.contains_iff_mem.mpr z] at ec; cases ec
      tm_at "go"
      refine ⟨d.nd, by omega, ?_⟩
      tm_at "go"
      exact fin 0 (by unfold waitP; rw [if_pos (.inl nm)])
    · have nm : (i : Int) ∈ w := List.contains_iff_mem.mp ec
      tm_at "go"
      refine ⟨shp_oI _, ?_⟩
      rw [show deq (D.int (i : Int)) (oI dealt) = decide (some (i : Int) = dealt) from deq_oI (some (i : Int)) dealt]
      refine br_d (fun e2 => ?_) fun e2 => ?_
      · refine ⟨d.nd, by omega, ?_⟩
        tm_at "go"
        exact fin 0 (by unfold waitP; rw [if_pos (.inr e2)])
      · rw [gi]
        tm_at "go"
        refine ⟨d.nd, by omega, ?_⟩
        tm_at "go"
        exact fin _ (by unfold waitP; rw [if_neg (fun z => z.elim (fun z => z nm) e2)])
def w_law_b2_c9 : WS := (wSeq (wSet 12 (wMeth 20 "served" 1 sp_Turns_served (wVar 1) waNil))
  (wSeq (wIfS (wtOr (wTst (wBin (gGt) (wCall gLen (waCons (wVarB 12) waNil)) (wC (.int 3)))) (wtAnd (wTst (wBin (gGt) (wCall gLen (waCons (wVarB 12) waNil)) (wC (.int 0)))) (wTst (wBin (gGt) (wVarB 6) (wC (.int 5)))))) (wRet (wC (.bl false))) wNext)
  (wFor (wRng gRng1 (waCons (wVar 3) waNil)) (fName 13) (w_law_b1))))
def w_law_b2_c8 : WS := (wSeq (wSet 6 (wIf (wTst (wBin (gIsNot) (wVarB 10) (wC .non))) (wC (.int 1)) (wBin (gAdd) (wVarB 6) (wC (.int 1))))) w_law_b2_c9)
def w_law_b2_c7 : WS := (wSeq (wIfS (wtOr (wtNot (wTst (wCall gIsi (waCons (wMeth 20 "served" 1 sp_Turns_served (wVar 1) waNil) (waCons (wC (.ty "list")) waNil))))) (wtOr (wTst (wBin (gNe) (wVarB 10) (wVarB 11))) (wTst (wBin (gNe) (wMeth 20 "served" 1 sp_Turns_served (wVar 1) waNil) (wCallU 1 sp__law_served [] (waCons (wVar 2) waNil)))))) (wRet (wC (.bl false))) wNext) w_law_b2_c8)
def w_law_b2_c6 : WS := (wSeq (wIfS (wtOr (wTst (wBin (gNe) (wBin (gIs) (wVarB 11) (wC .non)) (wBin (gIs) (wVarB 10) (wC .non)))) (wtAnd (wTst (wBin (gIsNot) (wVarB 11) (wC .non))) (wtNot (wTst (wCall gIsi (waCons (wVarB 10) (waCons (wC (.ty "int")) waNil))))))) (wRet (wC (.bl false))) wNext) w_law_b2_c7)
def w_law_b2_c4 : WS := (wSeq (wSet 10 (wMeth 20 "step" 3 sp_Turns_step (wVar 1) (waCons (wFrz (wCallF gList (waCons (wVarB 4) waNil))) (waCons (wFrz (wCallF gDict (waCons (wVarB 9) waNil))) waNil)))) (wSeq (wSet 11 (wCallU 3 sp__law_turn_step [] (waCons (wVar 2) (waCons (wVar 4) (waCons (wVar 9) waNil))))) w_law_b2_c6))
def w_law_b2_c3 : WS := (wSeq (wSet 9 (wFrz (wCallF gDict (waCons (wFrz (wComp (wRng gRng1 (waCons (wVar 3) waNil)) (fName 13) wtYes (wTup (waCons (wVar 13) (waCons (wBin (gMod) (wBin (gDiv) (wVarB 8) (wBin (gAdd) (wC (.int 5)) (wVarB 13))) (wC (.int 4))) waNil))) [13])) waNil)))) w_law_b2_c4)
def w_law_b2_c2 : WS := (wSeq (wIfS (wTst (wBin (gEq) (wBin (gMod) (wBin (gDiv) (wVarB 8) (wC (.int 7))) (wC (.int 11))) (wC (.int 0)))) (wSeq (wSet 13 (wBin (gMod) (wBin (gDiv) (wVarB 8) (wC (.int 77))) (wVarB 3)))
  (wSeq (wDrop (wMeth 20 "leave" 2 sp_Turns_leave (wVar 1) (waCons (wVar 13) waNil)))
  (wSeq (wDrop (wCallU 2 sp__law_turn_leave [] (waCons (wVar 2) (waCons (wVar 13) waNil))))
  (wSet 4 (wFrz (wComp (wIt (wVarB 4)) (fName 14) (wTst (wBin (gNe) (wVarB 14) (wVarB 13))) (wVar 14) [14])))))) wNext) w_law_b2_c3)
theorem w_law_b2_eq : w_law_b2 = (wSeq (wSet 8 (wCallU 2 sp__law_rich [] (waCons (wCallU 2 sp__law_cell [] (waCons (wVar 0) (waCons (wBin (gAdd) (wC (.int 1)) (wBin (gDiv) (wVarB 7) (wC (.int 2)))) waNil))) (waCons (wVar 7) waNil)))) (wSeq (wIfS (wTst (wBin (gEq) (wBin (gMod) (wBin (gDiv) (wVarB 8) (wC (.int 3))) (wC (.int 3))) (wC (.int 0)))) (wSet 4 (wCallU 3 sp__law_wishing [] (waCons (wBin (gDiv) (wVarB 8) (wC (.int 9))) (waCons (wVar 4) (waCons (wVar 3) waNil))))) wNext) w_law_b2_c2)) := rfl

/-- what holds at a turn -/
structure Iv (O : N.Om) (t sd : Addr) (count : Nat) (s : St) (ks : List Key) (vs : List D) (wt : Int → Int) (lag held : Int) : Prop where
  ht : O t = some (tnO s)
  hs : O sd = some (sdO s)
  ne : t ≠ sd
  ok : StOk count s
  fr : Fair count s wt lag
  hd : Held s held
  wd : WD count ks vs wt
  lo : ∀ x : Int, 0 ≤ x → x < count → 0 ≤ wt x
theorem wait_lo {w : List Int} {dealt : Option Int} {wt : Int → Int} {x : Int} (h : 0 ≤ wt x) : 0 ≤ waitP w dealt wt x := by unfold waitP; split <;> omega
theorem c8_ok {O : N.Om} {t sd : Addr} {count : Nat} {s : St} {ks : List Key} {vs : List D} {wt wt' : Int → Int} {lag held : Int} {w : List Int} {dealt : Option Int} (ht : O t = some (tnO s)) (hs : O sd = some (sdO s)) (ne : t ≠ sd) (ok : StOk count s) (hw : Wsh count w) (h7 : 7 ≤ count) (hc : count ≤ 60)
    (fr : Fair count s (waitP w dealt wt) lag) (hd : Held s (if dealt ≠ none then 1 else held + 1)) (hr : s.h = none → s.rew = []) (wd : WD count ks vs wt) (lo : ∀ x : Int, 0 ≤ x → x < count → 0 ≤ wt x) (hi : ∀ x : Int, 0 ≤ x → x < count → wt x ≤ 1000) (hz : ks.length ≤ 50000)
    (x0 x7 x8 x9 x11 x12 x13 x14 : Sl) (Po : Post)
    (h : ∀ ks' vs' held' lag' wt' y7 y8 y9 y10 y11 y12 y13 y14, ks'.length ≤ ks.length + 60 → Iv O t sd count s ks' vs' wt' lag' held' → Po.nx [x0, .val (.ref t), .val (.ref sd), .val (.int count), .val (.lst (w.map .int)), .own (.dct ks' vs'), .val (.int held'), y7, y8, y9, y10, y11, y12, y13, y14] O) :
    w_law_b2_c8 [x0, .val (.ref t), .val (.ref sd), .val (.int count), .val (.lst (w.map .int)), .own (.dct ks vs), .val (.int held), x7, x8, x9, .val (oI dealt), x11, x12, x13, x14] O Po := by
  have sl := served_len ok
  have sh := served_held hd hr
  unfold w_law_b2_c8
  have rest : ∀ held', held' = (if dealt ≠ none then 1 else held + 1) → w_law_b2_c9 [x0, .val (.ref t), .val (.ref sd), .val (.int count), .val (.lst (w.map .int)), .own (.dct ks vs), .val (.int held'), x7, x8, x9, .val (oI dealt), x11, x12, x13, x14] O Po := fun held' eh => by
    unfold w_law_b2_c9
    tm_at "go"
    rw [insOf_ref ht]
    simp only [tnO, stV]
    tm_at "go"
    refine ⟨t, count, s, rfl, ht, ok, ?_⟩
    tm_at "go"
    refine br_df (by omega) ?_
    have loop : wForL (fName 13) w_law_b1 ((List.range' 0 count).map fun (i : Nat) => D.int (i : Int)) [x0, .val (.ref t), .val (.ref sd), .val (.int count), .val (.lst (w.map .int)), .own (.dct ks vs), .val (.int held'), x7, x8, x9, .val (oI dealt), x11, .val (.lst ((servedP s).map .int)), x13, x14] O Po := by
      refine loop_w hc (fun x h0 h1 => fr.le ok h0 h1) (fun x h0 h1 => ⟨lo x h0 h1, hi x h0 h1⟩) x0 _ _ _ x7 x8 x9 x11 _ x14 Po O (ks.length + 60) (by omega) (fun ks' vs' y13 wd' hl => ?_) count 0 ks vs x13 (by omega) (wd.ext fun x h0 h1 => by unfold wtI; rw [if_neg (by omega)]) (by omega)
      exact h ks' vs' held' lag _ _ _ _ _ _ _ _ _ hl ⟨ht, hs, ne, ok, fr, eh ▸ hd, wd', fun x h0 h1 => wait_lo (lo x h0 h1)⟩
    have rg : ((rngL 0 ((count : Int)).toNat)) = (List.range' 0 count).map fun (i : Nat) => D.int (i : Int) := by rw [Int.toNat_natCast, rng_nat]
    tm_at "go"
    refine br_d (fun hp => ?_) fun _ => ?_
    · have h5 := sh (by omega)
      refine br_df (by rw [eh]; omega) ?_
      tm_at "go"
      rw [rg]
      exact loop
    · tm_at "go"
      rw [rg]
      exact loop
  tm_at "go"
  rw [isNon_oI]
  cases dealt with
  | none =>
    refine br_if (fun z => absurd z (by simp)) fun _ => ?_
    tm_at "go"
    exact rest _ (by simp)
  | some x =>
    refine br_if (fun _ => ?_) fun z => absurd z (by simp)
    tm_at "go"
    exact rest _ (by simp)
theorem deq_bl (a : Bool) : deq (.bl a) (.bl a) = true := deq_refl rfl
theorem isi_oI {d : Option Int} (h : d ≠ none) {K : D → Prop} (k : K (.bl true)) : gIsi [oI d, .ty "int"] K := by
  cases d with
  | none => exact absurd rfl h
  | some x => exact ⟨rfl, k⟩
/-- the step and what is compared -/
theorem c4_ok {O : N.Om} {t sd : Addr} {count : Nat} {s : St} {ks : List Key} {vs : List D} {wt : Int → Int} {lag held : Int} {w : List Int} {g : Int → Int} (v : Iv O t sd count s ks vs wt lag held) (hw : Wsh count w) (h7 : 7 ≤ count) (hc : count ≤ 60) (hz : ks.length ≤ 50000)
    (x0 x7 x8 x10 x11 x12 x13 x14 : Sl) (Po : Post)
    (h : ∀ O' s' ks' vs' held' lag' wt' y7 y8 y9 y10 y11 y12 y13 y14, ks'.length ≤ ks.length + 60 → Iv O' t sd count s' ks' vs' wt' lag' held' → Po.nx [x0, .val (.ref t), .val (.ref sd), .val (.int count), .val (.lst (w.map .int)), .own (.dct ks' vs'), .val (.int held'), y7, y8, y9, y10, y11, y12, y13, y14] O') :
    w_law_b2_c4 [x0, .val (.ref t), .val (.ref sd), .val (.int count), .val (.lst (w.map .int)), .own (.dct ks vs), .val (.int held), x7, x8, .val (gvD count g), x10, x11, x12, x13, x14] O Po := by
  have hwl := hw.len'
  have ok' := step_ok (g := g) v.ok hw
  obtain ⟨lag', fr'⟩ := v.fr.step (g := g) v.ok hw h7
  obtain ⟨hd', hr'⟩ := v.hd.step (w := w) (g := g)
  have le := fun x h0 h1 => v.fr.le v.ok (x := x) h0 h1
  unfold w_law_b2_c4
  tm_at "go"
  rw [insOf_ref v.ht]
  simp only [tnO, stV]
  tm_at "go"
  rw [show ∀ K : MO → Prop, gDict [gvD count g] K = K (.dct ((List.range count).map fun (i : Nat) => .inl (i : Int)) ((List.range count).map fun (i : Nat) => .int (g i))) from fun K => rfl]
  tm_at "go"
  refine ⟨t, count, s, w, g, rfl, v.ht, v.ok, hw, hc, by omega, ?_⟩
  have ht : (putO O t (tnO (stepP s w g).2)) t = some (tnO (stepP s w g).2) := putO_same
  have hs : (putO O t (tnO (stepP s w g).2)) sd = some (sdO s) := (putO_ne v.ne.symm).trans v.hs
  generalize putO O t (tnO (stepP s w g).2) = O1 at *
  tm_at "go"
  refine ⟨sd, count, s, w, g, rfl, hs, v.ok, hw, hc, by omega, ?_⟩
  have ht : (putO O1 sd (sdO (stepP s w g).2)) t = some (tnO (stepP s w g).2) := (putO_ne v.ne).trans ht
  have hs : (putO O1 sd (sdO (stepP s w g).2)) sd = some (sdO (stepP s w g).2) := putO_same
  generalize putO O1 sd (sdO (stepP s w g).2) = O2 at *
  have fin := c8_ok ht hs v.ne ok' hw h7 hc fr' hd' hr' v.wd v.lo (fun x h0 h1 => by have := le x h0 h1; omega) hz x0 x7 x8 (.val (gvD count g)) (.val (oI (stepP s w g).1)) x12 x13 x14 Po (fun ks' vs' held' lag' wt' y7 y8 y9 y10 y11 y12 y13 y14 hl iv => h O2 _ ks' vs' held' lag' wt' y7 y8 y9 y10 y11 y12 y13 y14 hl iv) (wt' := wt)
  unfold w_law_b2_c6
  have c7 : w_law_b2_c7 [x0, .val (.ref t), .val (.ref sd), .val (.int count), .val (.lst (w.map .int)), .own (.dct ks vs), .val (.int held), x7, x8, .val (gvD count g), .val (oI (stepP s w g).1), .val (oI (stepP s w g).1), x12, x13, x14] O2 Po := by
    unfold w_law_b2_c7
    tm_at "go"
    rw [insOf_ref ht]
    simp only [tnO, stV]
    tm_at "go"
    refine ⟨t, count, _, rfl, ht, ok', ?_⟩
    tm_at "go"
    refine ⟨shp_oI _, shp_oI _, ?_⟩
    rw [deq_refl (shp_oI _)]
    tm_at "go"
    rw [insOf_ref ht]
    simp only [tnO, stV]
    tm_at "go"
    refine ⟨t, count, _, rfl, ht, ok', ?_⟩
    tm_at "go"
    refine ⟨sd, count, _, rfl, hs, ok', ?_⟩
    tm_at "go"
    refine ⟨shp_lints _, shp_lints _, ?_⟩
    rw [deq_refl (shp_lints _)]
    exact fin
  tm_at "go"
  rw [deq_bl]
  tm_at "go"
  rw [isNon_oI]
  refine br_if (fun e => ?_) fun _ => c7
  refine isi_oI (fun z => by rw [z] at e; cases e) ?_
  exact c7
/-- the tape is not there: cells only -/
theorem turn_ok {O : N.Om} {ns : List Int} {t sd : Addr} {count : Nat} {s : St} {ks : List Key} {vs : List D} {wt : Int → Int} {lag held : Int} {w : List Int} {k : Nat} (v : Iv O t sd count s ks vs wt lag held) (hw : Wsh count w) (h7 : 7 ≤ count) (hc : count ≤ 60) (hz : ks.length ≤ 50000) (hk : k ≤ 1000)
    (x8 x9 x10 x11 x12 x13 x14 : Sl) (Po : Post)
    (h : ∀ O' s' ks' vs' held' lag' wt' w' y7 y8 y9 y10 y11 y12 y13 y14, ks'.length ≤ ks.length + 60 → Wsh count w' → Iv O' t sd count s' ks' vs' wt' lag' held' → Po.nx [.val (.scr ns), .val (.ref t), .val (.ref sd), .val (.int count), .val (.lst (w'.map .int)), .own (.dct ks' vs'), .val (.int held'), y7, y8, y9, y10, y11, y12, y13, y14] O') :
    w_law_b2 [.val (.scr ns), .val (.ref t), .val (.ref sd), .val (.int count), .val (.lst (w.map .int)), .own (.dct ks vs), .val (.int held), .val (.int (k : Int)), x8, x9, x10, x11, x12, x13, x14] O Po := by
  rw [w_law_b2_eq]
  have c3 : ∀ {O : N.Om} {s : St} {lag : Int} {w : List Int} {r : Int} (y9 y10 y11 y12 y13 y14 : Sl), Iv O t sd count s ks vs wt lag held → Wsh count w → 0 ≤ r → w_law_b2_c3 [.val (.scr ns), .val (.ref t), .val (.ref sd), .val (.int count), .val (.lst (w.map .int)), .own (.dct ks vs), .val (.int held), .val (.int (k : Int)), .val (.int r), y9, y10, y11, y12, y13, y14] O Po := fun {O s lag w r} y9 y10 y11 y12 y13 y14 v hw hr => by
    unfold w_law_b2_c3
    tm_at "go"
    rw [Int.toNat_natCast, rng_r]
    refine turns_mapA (h := fun i : Nat => D.int (i : Int)) (g := fun i : Nat => D.tup [.int (i : Int), .int (r / (5 + (i : Int)) % 4)]) (List.range count) [] (by simp; omega) (fun i hi K kk => ?_) ?_
    · have := List.mem_range.mp hi
      tm_at "go"
      exact kk
    · rw [List.nil_append]
      refine dict_n67 (g := fun i : Nat => .int (r / (5 + (i : Int)) % 4)) List.nodup_range ?_
      tm_at "go"
      exact c4_ok (g := fun x => r / (5 + x) % 4) v hw h7 hc hz _ _ _ _ _ _ _ _ Po fun O' s' ks' vs' held' lag' wt' y7 y8 y9 y10 y11 y12 y13 y14 hl iv => h O' s' ks' vs' held' lag' wt' w y7 y8 y9 y10 y11 y12 y13 y14 hl hw iv
  have c2 : ∀ {w : List Int} {r : Int}, Wsh count w → 0 ≤ r → w_law_b2_c2 [.val (.scr ns), .val (.ref t), .val (.ref sd), .val (.int count), .val (.lst (w.map .int)), .own (.dct ks vs), .val (.int held), .val (.int (k : Int)), .val (.int r), x9, x10, x11, x12, x13, x14] O Po := fun {w r} hw hr => by
    have hwl := hw.len'
    unfold w_law_b2_c2
    tm_at "go"
    refine br_d (fun _ => ?_) fun _ => ?_
    · tm_at "go"
      rw [insOf_ref v.ht]
      simp only [tnO, stV]
      tm_at "go"
      obtain ⟨lag', fr⟩ := v.fr.leave (n := r / 77 % count)
      refine ⟨t, count, s, _, rfl, v.ht, v.ok, ?_⟩
      have ht : (putO O t (tnO (leaveP s (r / 77 % count)))) t = some (tnO (leaveP s (r / 77 % count))) := putO_same
      have hs : (putO O t (tnO (leaveP s (r / 77 % count)))) sd = some (sdO s) := (putO_ne v.ne.symm).trans v.hs
      generalize putO O t (tnO (leaveP s (r / 77 % count))) = O1 at *
      tm_at "go"
      refine ⟨sd, count, s, _, rfl, hs, v.ok, ?_⟩
      have ht : (putO O1 sd (sdO (leaveP s (r / 77 % count)))) t = some (tnO (leaveP s (r / 77 % count))) := (putO_ne v.ne).trans ht
      have hs : (putO O1 sd (sdO (leaveP s (r / 77 % count)))) sd = some (sdO (leaveP s (r / 77 % count))) := putO_same
      generalize putO O1 sd (sdO (leaveP s (r / 77 % count))) = O2 at *
      tm_at "go"
      refine turns_filA (h := D.int) (g := D.int) (t := fun x => decide (x ≠ r / 77 % count)) w [] (by simp; omega) (fun x _ K1 K2 k1 k2 => ?_) ?_
      · tm_at "go"
        refine br_if (fun e => k1 ?_) fun e => k2 ?_
        · simpa using e
        · simpa using e
      · rw [List.nil_append]
        tm_at "go"
        exact c3 _ _ _ _ _ _ ⟨ht, hs, v.ne, leave_ok v.ok, fr, v.hd.leave, v.wd, v.lo⟩ (hw.filter _) hr
    · exact c3 _ _ _ _ _ _ v hw hr
  tm_at "go"
  refine ⟨ns, 1 + k / 2, by rw [show ((1 + k / 2 : Nat) : Int) = 1 + (k : Int) / 2 by omega], fun c => ?_⟩
  refine ⟨c, k, rfl, hk, fun r hr => ?_⟩
  tm_at "go"
  refine br_d (fun _ => ?_) fun _ => c2 hw hr
  refine ⟨divOk (by omega) (by omega), ?_⟩
  refine ⟨r / 9, count, w, rfl, by omega, hw, h7, hc, fun w' hw' => ?_⟩
  tm_at "go"
  exact c2 hw' hr
theorem loop_k {ns : List Int} {t sd : Addr} {count : Nat} (h7 : 7 ≤ count) (hc : count ≤ 60) (Po : Post) (h : ∀ G O, Po.nx G O) : ∀ (n k : Nat) (O : N.Om) (s : St) (ks : List Key) (vs : List D) (wt : Int → Int) (lag held : Int) (w : List Int) (x7 x8 x9 x10 x11 x12 x13 x14 : Sl), k + n ≤ 200 → ks.length + 60 * n ≤ 50000 → Iv O t sd count s ks vs wt lag held → Wsh count w →
    wForL (fName 7) w_law_b2 ((List.range' k n).map fun (i : Nat) => D.int (i : Int)) [.val (.scr ns), .val (.ref t), .val (.ref sd), .val (.int count), .val (.lst (w.map .int)), .own (.dct ks vs), .val (.int held), x7, x8, x9, x10, x11, x12, x13, x14] O Po
  | 0, k, O, s, ks, vs, wt, lag, held, w, x7, x8, x9, x10, x11, x12, x13, x14, _, _, _, _ => wForL_n (h _ _)
  | n + 1, k, O, s, ks, vs, wt, lag, held, w, x7, x8, x9, x10, x11, x12, x13, x14, hk, hz, v, hw => by
    rw [rng_from]
    refine wForL_c ?_
    exact turn_ok v hw h7 hc (by omega) (by omega) _ _ _ _ _ _ _ _ fun O' s' ks' vs' held' lag' wt' w' y7 y8 y9 y10 y11 y12 y13 y14 hl hw' v' => loop_k h7 hc Po h n (k + 1) O' s' ks' vs' wt' lag' held' w' y7 y8 y9 y10 y11 y12 y13 y14 (by omega) (by omega) v' hw'
theorem m_law (ds : List D) (Om : N.Om) (Q : D → N.Om → Prop) (R : RX) (hl : ds.length = 1) (h : sp_law ds Om Q R) : wFn 15 w_law ds Om Q R := by
  obtain ⟨ns, rfl, hn, q⟩ := h
  unfold w_law
  tm_at "go"
  intro t ht
  refine ⟨t, rfl, putO_same, ?_⟩
  rw [putO_put]
  have ht : (putO Om t (tnO ⟨none, none, 0, []⟩)) t = some (tnO ⟨none, none, 0, []⟩) := putO_same
  generalize putO Om t (tnO ⟨none, none, 0, []⟩) = O1 at *
  tm_at "go"
  refine ⟨stK_nd, fun sd hsd => ?_⟩
  have ne : t ≠ sd := fun z => by rw [← z, ht] at hsd; cases hsd
  have hs : (putO O1 sd (.dct [Sum.inr "holder", Sum.inr "last", Sum.inr "left", Sum.inr "rewards"] [.non, .non, .int 0, .lst []])) sd = some (sdO ⟨none, none, 0, []⟩) := putO_same
  have ht : (putO O1 sd (.dct [Sum.inr "holder", Sum.inr "last", Sum.inr "left", Sum.inr "rewards"] [.non, .non, .int 0, .lst []])) t = some (tnO ⟨none, none, 0, []⟩) := (putO_ne ne).trans ht
  generalize putO O1 sd (.dct [Sum.inr "holder", Sum.inr "last", Sum.inr "left", Sum.inr "rewards"] [.non, .non, .int 0, .lst []]) = O2 at *
  tm_at "go"
  refine ⟨ns, 0, rfl, fun c => ?_⟩
  tm_at "go"
  obtain ⟨count, ec, h7, h60⟩ : ∃ n : Nat, 7 + c % 54 = (n : Int) ∧ 7 ≤ n ∧ n ≤ 60 := ⟨(7 + c % 54).toNat, by omega, by omega, by omega⟩
  rw [ec]
  tm_at "go"
  rw [Int.toNat_natCast, rng_i]
  refine turns_mapA (h := D.int) (g := D.int) _ [] (by simp; omega) (fun x _ K k => ?_) ?_
  · tm_at "go"
    exact k
  rw [List.nil_append]
  tm_at "go"
  have bd : (if (if 2 * (ns.length : Int) < 90 then 2 * (ns.length : Int) else 90) > 30 then if 2 * (ns.length : Int) < 90 then 2 * (ns.length : Int) else 90 else 30).toNat ≤ 200 := by
    split
    · split <;> omega
    · decide
  generalize (if (if 2 * (ns.length : Int) < 90 then 2 * (ns.length : Int) else 90) > 30 then if 2 * (ns.length : Int) < 90 then 2 * (ns.length : Int) else 90 else 30).toNat = n at *
  rw [rng_nat]
  have w0 : Wsh count ((List.range count).map fun (i : Nat) => (i : Int)) := by
    have := wsh_range (count := count) (fun _ => true)
    rw [List.filter_eq_self.mpr (fun _ _ => rfl)] at this
    exact this
  refine loop_k h7 h60 _ (fun G O => ?_) n 0 O2 ⟨none, none, 0, []⟩ [] [] (fun _ => 0) 0 0 _ _ _ _ _ _ _ _ _ (by omega) (by simp; omega) ⟨ht, hs, ne, ?_, ?_, ?_, ?_, fun _ _ _ => Int.le_refl _⟩ w0
  · exact q O
  · exact ⟨Int.le_refl _, (by decide : (0 : Int) ≤ 5), fun x h => (by cases h), fun x h => (by cases h), by decide⟩
  · exact ⟨by omega, fun x _ _ => .inl rfl, fun z => absurd rfl z⟩
  · exact ⟨fun z => absurd rfl z⟩
  · exact ⟨rfl, List.nodup_nil, fun x _ _ => rfl⟩
end K67

set_option Elab.async false
set_option linter.all false
set_option maxRecDepth 100000
set_option maxHeartbeats 0
namespace K67
open PySem PySem.Spec PyProof.Rows L2 N
def fn0 : List He.DefD := [defD "_law_cell" s__law_cell, defD "_law_rich" s__law_rich, defD "_law_wishing" s__law_wishing, defD "_law_turn_leave" s__law_turn_leave, defD "_law_next" s__law_next, defD "_law_best" s__law_best, defD "_law_turn_step" s__law_turn_step, defD "_law_served" s__law_served, defM "Turns" "__init__" "Turns.__init__" s_Turns___init__, defM "Turns" "leave" "Turns.leave" s_Turns_leave, defD "next_of" s_next_of, defD "best" s_best, defM "Turns" "step" "Turns.step" s_Turns_step, defM "Turns" "served" "Turns.served" s_Turns_served, defD "law" s_law]
def fn : List He.DefD := fn0
def fa0 : List He.Fa := [.int "REWARDS" 2, .int "TURN" 5, .free "dict", .free "int", .free "isinstance", .free "len", .free "list", .free "max", .free "min", .free "range", .free "sorted", .cls "Turns", .noat "Turns" "holder", .noat "Turns" "last", .noat "Turns" "left", .noat "Turns" "rewards", .glo "_law_cell", .glo "_law_rich", .glo "_law_wishing", .glo "_law_turn_leave", .glo "_law_next", .glo "_law_best", .glo "_law_turn_step", .glo "_law_served", .glo "next_of", .glo "best", .glo "law", .glo "Turns", .mkr "Turns", .meth "Turns" "leave", .meth "Turns" "step", .meth "Turns" "served"]
def fa : List He.Fa := fa0
abbrev TT (K : PySem.W.Frag) : Th := ⟨K, cmL K ["", "", "", "", "", "", "", "", "", "", "", "", "", "", "", "", "", "", "", "", "Turns"], fun _ => (0, "")⟩
theorem facts {l : Program} {w : World} {K : PySem.W.Frag} {h : Heap} {mg : Str → Option Value} {f : Addr} (X : K.In h) (G : h.Ns mainGlobals mg) (hfa : mg ("law" : Str) = some (.ref f)) (c : He.SaysD fa fn K) :
    ∃ fd : FuncData, (∀ (s : Shared) (v : Value), BindsTo s fd ⟨[v], []⟩ [("script", v)]) ∧ ∀ base : Heap, K.In base → base.Ns mainGlobals mg → FnOk l w K mg base (L2.CX l w) 3 f fd ["script"] (toSp (TT K) 1 sp_law) := by
  have M : Mg K mg (TT K) := ⟨He.int_ok X G (c.fact 0 (f := .int "REWARDS" 2) rfl), He.int_ok X G (c.fact 1 (f := .int "TURN" 5) rfl), He.free_ok X G (c.fact 2 (f := .free "dict") rfl), He.free_ok X G (c.fact 3 (f := .free "int") rfl), He.free_ok X G (c.fact 4 (f := .free "isinstance") rfl), He.free_ok X G (c.fact 5 (f := .free "len") rfl), He.free_ok X G (c.fact 6 (f := .free "list") rfl), He.free_ok X G (c.fact 7 (f := .free "max") rfl), He.free_ok X G (c.fact 8 (f := .free "min") rfl), He.free_ok X G (c.fact 9 (f := .free "range") rfl), He.free_ok X G (c.fact 10 (f := .free "sorted") rfl), He.cls_ok (c.fact 11 (f := .cls "Turns") rfl), He.noat_ok (c.fact 12 (f := .noat "Turns" "holder") rfl), He.noat_ok (c.fact 13 (f := .noat "Turns" "last") rfl), He.noat_ok (c.fact 14 (f := .noat "Turns" "left") rfl), He.noat_ok (c.fact 15 (f := .noat "Turns" "rewards") rfl)⟩
  obtain ⟨fd__law_cell, F__law_cell⟩ := c.def_ 0 (d := defD "_law_cell" s__law_cell) rfl
  have g__law_cell := He.glo_ok X G (c.fact 16 (f := .glo "_law_cell") rfl)
  have b__law_cell := F__law_cell.bindsN (ps := ["script", "k"]) (fun _ _ _ _ _ _ us hl => match us, hl with | [_, _], _ => rfl)
  obtain ⟨fd__law_rich, F__law_rich⟩ := c.def_ 1 (d := defD "_law_rich" s__law_rich) rfl
  have g__law_rich := He.glo_ok X G (c.fact 17 (f := .glo "_law_rich") rfl)
  have b__law_rich := F__law_rich.bindsN (ps := ["cell", "k"]) (fun _ _ _ _ _ _ us hl => match us, hl with | [_, _], _ => rfl)
  obtain ⟨fd__law_wishing, F__law_wishing⟩ := c.def_ 2 (d := defD "_law_wishing" s__law_wishing) rfl
  have g__law_wishing := He.glo_ok X G (c.fact 18 (f := .glo "_law_wishing") rfl)
  have b__law_wishing := F__law_wishing.bindsN (ps := ["rich", "before", "count"]) (fun _ _ _ _ _ _ us hl => match us, hl with | [_, _, _], _ => rfl)
  obtain ⟨fd__law_turn_leave, F__law_turn_leave⟩ := c.def_ 3 (d := defD "_law_turn_leave" s__law_turn_leave) rfl
  have g__law_turn_leave := He.glo_ok X G (c.fact 19 (f := .glo "_law_turn_leave") rfl)
  have b__law_turn_leave := F__law_turn_leave.bindsN (ps := ["state", "number"]) (fun _ _ _ _ _ _ us hl => match us, hl with | [_, _], _ => rfl)
  obtain ⟨fd__law_next, F__law_next⟩ := c.def_ 4 (d := defD "_law_next" s__law_next) rfl
  have g__law_next := He.glo_ok X G (c.fact 20 (f := .glo "_law_next") rfl)
  have b__law_next := F__law_next.bindsN (ps := ["wishing", "last"]) (fun _ _ _ _ _ _ us hl => match us, hl with | [_, _], _ => rfl)
  obtain ⟨fd__law_best, F__law_best⟩ := c.def_ 5 (d := defD "_law_best" s__law_best) rfl
  have g__law_best := He.glo_ok X G (c.fact 21 (f := .glo "_law_best") rfl)
  have b__law_best := F__law_best.bindsN (ps := ["given", "numbers"]) (fun _ _ _ _ _ _ us hl => match us, hl with | [_, _], _ => rfl)
  obtain ⟨fd__law_turn_step, F__law_turn_step⟩ := c.def_ 6 (d := defD "_law_turn_step" s__law_turn_step) rfl
  have g__law_turn_step := He.glo_ok X G (c.fact 22 (f := .glo "_law_turn_step") rfl)
  have b__law_turn_step := F__law_turn_step.bindsN (ps := ["state", "wishing", "given"]) (fun _ _ _ _ _ _ us hl => match us, hl with | [_, _, _], _ => rfl)
  obtain ⟨fd__law_served, F__law_served⟩ := c.def_ 7 (d := defD "_law_served" s__law_served) rfl
  have g__law_served := He.glo_ok X G (c.fact 23 (f := .glo "_law_served") rfl)
  have b__law_served := F__law_served.bindsN (ps := ["state"]) (fun _ _ _ _ _ _ us hl => match us, hl with | [_], _ => rfl)
  obtain ⟨fd_Turns___init__, F_Turns___init__⟩ := c.def_ 8 (d := defM "Turns" "__init__" "Turns.__init__" s_Turns___init__) rfl
  have b_Turns___init__ := F_Turns___init__.bindsN (ps := ["self"]) (fun _ _ _ _ _ _ us hl => match us, hl with | [_], _ => rfl)
  obtain ⟨fd_Turns_leave, F_Turns_leave⟩ := c.def_ 9 (d := defM "Turns" "leave" "Turns.leave" s_Turns_leave) rfl
  have b_Turns_leave := F_Turns_leave.bindsN (ps := ["self", "number"]) (fun _ _ _ _ _ _ us hl => match us, hl with | [_, _], _ => rfl)
  obtain ⟨fd_next_of, F_next_of⟩ := c.def_ 10 (d := defD "next_of" s_next_of) rfl
  have g_next_of := He.glo_ok X G (c.fact 24 (f := .glo "next_of") rfl)
  have b_next_of := F_next_of.bindsN (ps := ["numbers", "last"]) (fun _ _ _ _ _ _ us hl => match us, hl with | [_, _], _ => rfl)
  obtain ⟨fd_best, F_best⟩ := c.def_ 11 (d := defD "best" s_best) rfl
  have g_best := He.glo_ok X G (c.fact 25 (f := .glo "best") rfl)
  have b_best := F_best.bindsN (ps := ["given", "numbers"]) (fun _ _ _ _ _ _ us hl => match us, hl with | [_, _], _ => rfl)
  obtain ⟨fd_Turns_step, F_Turns_step⟩ := c.def_ 12 (d := defM "Turns" "step" "Turns.step" s_Turns_step) rfl
  have b_Turns_step := F_Turns_step.bindsN (ps := ["self", "wishing", "given"]) (fun _ _ _ _ _ _ us hl => match us, hl with | [_, _, _], _ => rfl)
  obtain ⟨fd_Turns_served, F_Turns_served⟩ := c.def_ 13 (d := defM "Turns" "served" "Turns.served" s_Turns_served) rfl
  have b_Turns_served := F_Turns_served.bindsN (ps := ["self"]) (fun _ _ _ _ _ _ us hl => match us, hl with | [_], _ => rfl)
  obtain ⟨fd_law, F_law⟩ := c.def_ 14 (d := defD "law" s_law) rfl
  have g_law := He.glo_ok X G (c.fact 26 (f := .glo "law") rfl)
  have e := hfa.symm.trans g_law
  cases e
  have b_law := fun (s : Shared) (us : List Value) (hl : us.length = 1) => FunD.bindsA (ps := ["script"]) F_law (fun _ _ _ _ _ _ us hl => match us, hl with | [_], _ => rfl) s us hl
  refine ⟨_, fun s v => b_law s [v] rfl, fun base X0 G0 => ?_⟩
  have c__law_cell : Cl l w K mg base (TT K) 1 "_law_cell" 2 sp__law_cell := cl_mk (k__law_cell (PR := l) (w := w) (base := base) (T := TT K) rfl M F__law_cell ) (fun ds Om Q R hl h => m__law_cell ds Om Q R hl h) g__law_cell F__law_cell.kp b__law_cell
  have c__law_rich : Cl l w K mg base (TT K) 1 "_law_rich" 2 sp__law_rich := cl_mk (k__law_rich (PR := l) (w := w) (base := base) (T := TT K) rfl M F__law_rich ) (fun ds Om Q R hl h => m__law_rich ds Om Q R hl h) g__law_rich F__law_rich.kp b__law_rich
  have c__law_wishing : Cl l w K mg base (TT K) 1 "_law_wishing" 3 sp__law_wishing := cl_mk (k__law_wishing (PR := l) (w := w) (base := base) (T := TT K) rfl M F__law_wishing ) (fun ds Om Q R hl h => m__law_wishing ds Om Q R hl h) g__law_wishing F__law_wishing.kp b__law_wishing
  have c__law_turn_leave : Cl l w K mg base (TT K) 1 "_law_turn_leave" 2 sp__law_turn_leave := cl_mk (k__law_turn_leave (PR := l) (w := w) (base := base) (T := TT K) rfl M F__law_turn_leave ) (fun ds Om Q R hl h => m__law_turn_leave ds Om Q R hl h) g__law_turn_leave F__law_turn_leave.kp b__law_turn_leave
  have c__law_next : Cl l w K mg base (TT K) 1 "_law_next" 2 sp__law_next := cl_mk (k__law_next (PR := l) (w := w) (base := base) (T := TT K) rfl M F__law_next ) (fun ds Om Q R hl h => m__law_next ds Om Q R hl h) g__law_next F__law_next.kp b__law_next
  have c__law_best : Cl l w K mg base (TT K) 1 "_law_best" 2 sp__law_best := cl_mk (k__law_best (PR := l) (w := w) (base := base) (T := TT K) rfl M F__law_best ) (fun ds Om Q R hl h => m__law_best ds Om Q R hl h) g__law_best F__law_best.kp b__law_best
  have c__law_turn_step : Cl l w K mg base (TT K) 2 "_law_turn_step" 3 sp__law_turn_step := cl_mk (k__law_turn_step (PR := l) (w := w) (base := base) (T := TT K) rfl M F__law_turn_step c__law_next c__law_best) (fun ds Om Q R hl h => m__law_turn_step ds Om Q R hl h) g__law_turn_step F__law_turn_step.kp b__law_turn_step
  have c__law_served : Cl l w K mg base (TT K) 1 "_law_served" 1 sp__law_served := cl_mk (k__law_served (PR := l) (w := w) (base := base) (T := TT K) rfl M F__law_served ) (fun ds Om Q R hl h => m__law_served ds Om Q R hl h) g__law_served F__law_served.kp b__law_served
  have i_Turns : ClI l w K mg base (TT K) 1 20 "Turns" 1 sp_Turns___init__ := clI_mk (k_Turns___init__ (PR := l) (w := w) (base := base) (T := TT K) rfl M F_Turns___init__ ) (fun ds Om Q R hl h => m_Turns___init__ ds Om Q R hl h) (He.glo_ok X G (c.fact 27 (f := .glo "Turns") rfl)) (He.mkr_ok (c.fact 28 (f := .mkr "Turns") rfl)) b_Turns___init__
  have c_Turns_leave : ClM l w K mg base (TT K) 1 20 "leave" 2 sp_Turns_leave := clM_mk (k_Turns_leave (PR := l) (w := w) (base := base) (T := TT K) rfl M F_Turns_leave ) (fun ds Om Q R hl h => m_Turns_leave ds Om Q R hl h) (He.cls_ok (c.fact 11 (f := .cls "Turns") rfl)) (He.meth_ok (c.fact 29 (f := .meth "Turns" "leave") rfl)) b_Turns_leave
  have c_next_of : Cl l w K mg base (TT K) 1 "next_of" 2 sp_next_of := cl_mk (k_next_of (PR := l) (w := w) (base := base) (T := TT K) rfl M F_next_of ) (fun ds Om Q R hl h => m_next_of ds Om Q R hl h) g_next_of F_next_of.kp b_next_of
  have c_best : Cl l w K mg base (TT K) 1 "best" 2 sp_best := cl_mk (k_best (PR := l) (w := w) (base := base) (T := TT K) rfl M F_best ) (fun ds Om Q R hl h => m_best ds Om Q R hl h) g_best F_best.kp b_best
  have c_Turns_step : ClM l w K mg base (TT K) 2 20 "step" 3 sp_Turns_step := clM_mk (k_Turns_step (PR := l) (w := w) (base := base) (T := TT K) rfl M F_Turns_step c_next_of c_best) (fun ds Om Q R hl h => m_Turns_step ds Om Q R hl h) (He.cls_ok (c.fact 11 (f := .cls "Turns") rfl)) (He.meth_ok (c.fact 30 (f := .meth "Turns" "step") rfl)) b_Turns_step
  have c_Turns_served : ClM l w K mg base (TT K) 1 20 "served" 1 sp_Turns_served := clM_mk (k_Turns_served (PR := l) (w := w) (base := base) (T := TT K) rfl M F_Turns_served ) (fun ds Om Q R hl h => m_Turns_served ds Om Q R hl h) (He.cls_ok (c.fact 11 (f := .cls "Turns") rfl)) (He.meth_ok (c.fact 31 (f := .meth "Turns" "served") rfl)) b_Turns_served
  exact (k_law (PR := l) (w := w) (base := base) (T := TT K) rfl M F_law c__law_cell c__law_rich c__law_wishing c__law_turn_leave c__law_turn_step c__law_served i_Turns c_Turns_leave c_Turns_step c_Turns_served).imp (toSp_imp fun ds Om Q R hl h => m_law ds Om Q R hl h)
abbrev Rw : PySem.W.OpenRow := PySem.W.OpenLaw.row PySem.Challenge.rw_anyenough_k67_whole_turns_of_many_neighb
abbrev hk : PySem.W.Hook := He.hookD 6 fa fn
def ob (s : PySem.W.SharedT) : He.AlD := He.obsDG 6 fa fn (HandSHeadRun.getT s)
theorem ob_eq (s : PySem.W.SharedT) : ob s = hk.obs s.abs := He.obsDG_eq (HandSHeadRun.getT_eq s)
def names0 : List PySem.Str := ["TURN", "REWARDS", "next_of", "best", "Turns", "_law_cell", "_law_rich", "_law_next", "_law_best", "_law_turn_step", "_law_turn_leave", "_law_served", "_law_wishing"]
def names : List PySem.Str := names0
theorem run (w : World) : HandSHeadRun.RunEq Rw (PySem.W.view Rw.prog [15]) hk ob 20000 names w := by
  intro os
  kernel_rfl
end K67
open PySem PySem.W PySem.Calls PyProof.Rows
set_option maxHeartbeats 0 in
theorem PySem.Challenge.cw_anyenough_k67_whole_turns_of_many_neighb_holds : PySem.Challenge.rw_anyenough_k67_whole_turns_of_many_neighb.Holds := by
  w_on; o_law
  refine HandSHeadRun.head_any (r := OpenLaw.row PySem.Challenge.rw_anyenough_k67_whole_turns_of_many_neighb) (q := view (OpenLaw.row PySem.Challenge.rw_anyenough_k67_whole_turns_of_many_neighb).prog [15]) (H := K67.hk) (ob := K67.ob) (M := 20000) (loose := K67.names) (d := HandSHeadRun.topDef (OpenLaw.row PySem.Challenge.rw_anyenough_k67_whole_turns_of_many_neighb).prog 15) (kwd := []) K67.ob_eq
    (by kernel_rfl) (fun s => by kernel_rfl) K67.run (by kernel_rfl) (by kernel_rfl) (by kernel_rfl) (by rfl) (by first | assumption | decide +kernel) (by decide +kernel) ⟨rfl, rfl, rfl, rfl, rfl, by decide +kernel⟩ ?hw ?hc
  case hw => w_witness2
  case hc =>
    refine N.walk_of (l := PySem.Challenge.rw_anyenough_k67_whole_turns_of_many_neighb) (n := 63) (k := 3) (x := "script") rfl (by decide) (by kernel_rfl) ⟨rfl, by decide, by decide⟩ ?F
    intro w mg fa h Y G hmg0
    obtain ⟨K, KX, c⟩ := Y
    have hmg : mg ("law" : PySem.Str) = some (.ref fa) := by
      have e : (HandSHeadRun.topDef (OpenLaw.row PySem.Challenge.rw_anyenough_k67_whole_turns_of_many_neighb).prog 15).name = ("law" : PySem.Str) := by kernel_rfl
      rw [← e]
      exact hmg0
    obtain ⟨fd, hb, hF⟩ := K67.facts (l := (PySem.Challenge.rw_anyenough_k67_whole_turns_of_many_neighb).prog) (w := w) KX G hmg c
    exact ⟨K67.TT K, fd, K67.sp_law, KX, hb, fun ns hl hbits => ⟨ns, rfl, hl, fun _ => rfl⟩, hF⟩
