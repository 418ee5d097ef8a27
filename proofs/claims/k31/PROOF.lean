import PyProof.Rows.All
import Wide.All
import OpenK.AllK
import Wide.FinOn
import HandS.ForMost
import HandS.ForExc
import HandS.Walk
import HandS.WideBits
import HandS.TupAny
import HandS.TupMul
import HandS.Lambda
import HandS.TupLe
import HandS.IsInst
import HandS.CallSlots
import HandS.Style
import HandS.Defaults
import HandS.TryOnly
import HandS.ExcOwn
import HandS.Zip
import PyProof.Draws
import PyProof.EnumMake
import HandS.ExcBuiltin
import HandS.Small
import HandS.HeadHook1
import HandS.Head0
import HandS.Head1
import HandS.Head2
import HandS.Head3
import HandS.HeadHook2
import HandS.EndBits
import KE.BitLaws
import HandS.Gcd
import HandS.More
import HandS.TryMany
import HandS.EndTab
import KE.KFind
import HandS.SortRule
import HandS.SortInts
import HandS.Text
import PySem.Challenge.RW_anyenough_k31_whole_lookups_in_filled_ne
set_option Elab.async false
set_option linter.all false
set_option maxRecDepth 100000
/-! NA: values as data, what represents them, the ghost world, steps, the state of a frame -/
namespace N
open PySem PySem.Spec PyProof.Rows L2

/-- a branch -/
def br : Bool → Prop → Prop → Prop
  | true, A, _ => A
  | false, _, B => B

inductive D where
  | non | bl (b : Bool) | int (i : Int) | str (x : Str) | ty (n : String) | ref (a : Addr)
  | tup (xs : List D) | lst (xs : List D) | dct (ks : List Key) (vs : List D) | ins (c : Nat) (ns : List Str) (vs : List D)
  /-- the law's script -/
  | scr (ns : List Int)

/-- the law's fixed things: the written part, the classes' places -/
structure Th where
  K : PySem.W.Frag
  cm : Nat → Addr
  /-- the tables of code objects of the defs that make lambdas, the lambdas' names -/
  tb : Nat → Addr × Str
/-- no table -/
abbrev noTb (o : HO) : Prop := ∀ ps, o ≠ .tbl ps

/-- what lies in the written part -/
def KT (K : PySem.W.Frag) (a : Addr) (vs : List V) : Prop := SqT K (fun _ => none) a vs
def KL (K : PySem.W.Frag) (a : Addr) (vs : List V) : Prop := SqL K (fun _ => none) a vs
theorem KT.to {K : PySem.W.Frag} {a : Addr} {vs : List V} {H : Hp} (h : KT K a vs) : SqT K H a vs := by
  rcases h with (h | ⟨_, h⟩) | h
  · cases h
  · cases h
  · exact .inr h
theorem KL.to {K : PySem.W.Frag} {a : Addr} {vs : List V} {H : Hp} (h : KL K a vs) : SqL K H a vs := by
  rcases h with (h | ⟨_, h⟩) | h
  · cases h
  · cases h
  · exact .inr h

mutual
/-- v stands for d; F: the addresses that may change -/
def Rep (T : Th) (F : Addr → Prop) (H : Hp) : D → V → Prop
  | .non, v => v = .non
  | .bl b, v => v = .bl b
  | .int i, v => v = .int i
  | .str x, v => v = .str x
  | .ty n, v => v = .ty n
  | .ref a, v => v = .ref a
  | .tup xs, v => ∃ a vs, v = .ref a ∧ ((H a = some (.tup vs) ∧ ¬ F a) ∨ KT T.K a vs) ∧ Reps T F H xs vs
  | .scr ns, v => ∃ a, v = .ref a ∧ ((Rd H a (.lst (ns.map V.int)) ∧ ¬ F a) ∨ KL T.K a (ns.map V.int))
  | .lst xs, v => ∃ a vs, v = .ref a ∧ H a = some (.lst vs) ∧ ¬ F a ∧ Reps T F H xs vs
  | .dct ks xs, v => ∃ a vs, v = .ref a ∧ (∃ o, H a = some (.frz o (.dK (ks.zip vs)))) ∧ ¬ F a ∧ ks.length = xs.length ∧ Reps T F H xs vs
  | .ins c ns xs, v => ∃ a dx vs, v = .ref a ∧ H a = some (.ins (T.cm c) dx (ns.zip vs)) ∧ ¬ F a ∧ ns.length = xs.length ∧ Reps T F H xs vs
def Reps (T : Th) (F : Addr → Prop) (H : Hp) : List D → List V → Prop
  | [], vs => vs = []
  | d :: ds, vs => ∃ v r, vs = v :: r ∧ Rep T F H d v ∧ Reps T F H ds r
end

/-- what is kept: all tracked that is not of F; what is new to F was untracked -/
structure Kp (F : Addr → Prop) (H : Hp) (F' : Addr → Prop) (H' : Hp) : Prop where
  same' : ∀ b o, H b = some o → noTb o → ¬ F b → H' b = some o
  fnew : ∀ b, F' b → F b ∨ H b = none
  trk : ∀ b, H b ≠ none → H' b ≠ none
/-- what was tracked stays tracked -/
theorem trk_ext {H H' : Hp} (h : ∀ b o, H b = some o → H' b = some o) : ∀ b, H b ≠ none → H' b ≠ none := fun b q z => by
  cases e : H b with
  | none => exact q e
  | some o => rw [h b o e] at z; cases z
theorem trk_upd {H : Hp} {p : Addr} {o : HO} : ∀ b, H b ≠ none → (upd H p o) b ≠ none := fun b q => by
  by_cases z : b = p
  · rw [z, upd_same]; simp
  · rw [upd_ne z]; exact q
theorem Kp.same {F F' : Addr → Prop} {H H' : Hp} (k : Kp F H F' H') (b : Addr) (o : HO) (h : H b = some o) (n : ¬ F b) (t : noTb o := by intro _ z; cases z) : H' b = some o := k.same' b o h t n
theorem Kp.rd {F F' : Addr → Prop} {H H' : Hp} {a : Addr} {u : HO} (k : Kp F H F' H') (h : Rd H a u) (hF : ¬ F a) (t : noTb u := by intro _ z; cases z) : Rd H' a u ∧ ¬ F' a := by
  rcases h with h | ⟨o, h⟩
  · exact ⟨.inl (k.same _ _ h hF t), fun z => (k.fnew _ z).elim hF fun n => by rw [h] at n; cases n⟩
  · exact ⟨.inr ⟨o, k.same _ _ h hF⟩, fun z => (k.fnew _ z).elim hF fun n => by rw [h] at n; cases n⟩
theorem Kp.refl {F : Addr → Prop} {H : Hp} : Kp F H F H := ⟨fun _ _ h _ _ => h, fun _ h => .inl h, fun _ h => h⟩

mutual
theorem Rep.kp {T : Th} {F F' : Addr → Prop} {H H' : Hp} (k : Kp F H F' H') : ∀ (d : D) (v : V), Rep T F H d v → Rep T F' H' d v
  | .non, v, h => h
  | .bl b, v, h => h
  | .int i, v, h => h
  | .str x, v, h => h
  | .ty n, v, h => h
  | .ref a, v, h => h
  | .tup xs, v, h => by
    simp only [Rep] at h ⊢
    obtain ⟨a, vs, e, h, r⟩ := h
    exact ⟨a, vs, e, h.imp (fun h => ⟨k.same _ _ h.1 h.2, (k.rd (.inl h.1) h.2).2⟩) id, Reps.kp k xs vs r⟩
  | .scr ns, v, h => by
    simp only [Rep] at h ⊢
    obtain ⟨a, e, h⟩ := h
    exact ⟨a, e, h.imp (fun h => k.rd h.1 h.2) id⟩
  | .lst xs, v, h => by
    simp only [Rep] at h ⊢
    obtain ⟨a, vs, e, h, n, r⟩ := h
    exact ⟨a, vs, e, k.same _ _ h n, (k.rd (.inl h) n).2, Reps.kp k xs vs r⟩
  | .dct ks xs, v, h => by
    simp only [Rep] at h ⊢
    obtain ⟨a, vs, e, ⟨o, h⟩, n, l, r⟩ := h
    exact ⟨a, vs, e, ⟨o, k.same _ _ h n⟩, (k.rd (.inr ⟨o, h⟩) n).2, l, Reps.kp k xs vs r⟩
  | .ins c ns xs, v, h => by
    simp only [Rep] at h ⊢
    obtain ⟨a, dx, vs, e, h, n, l, r⟩ := h
    exact ⟨a, dx, vs, e, k.same _ _ h n, (k.rd (.inl h) n).2, l, Reps.kp k xs vs r⟩
theorem Reps.kp {T : Th} {F F' : Addr → Prop} {H H' : Hp} (k : Kp F H F' H') : ∀ (ds : List D) (vs : List V), Reps T F H ds vs → Reps T F' H' ds vs
  | [], vs, h => by simpa [Reps] using h
  | d :: ds, vs, h => by
    simp only [Reps] at h ⊢
    obtain ⟨v, r, e, h1, h2⟩ := h
    exact ⟨v, r, e, Rep.kp k d v h1, Reps.kp k ds r h2⟩
end
section
variable {T : Th} {F : Addr → Prop} {H : Hp}
theorem Reps.len : ∀ {ds : List D} {vs : List V}, Reps T F H ds vs → vs.length = ds.length
  | [], vs, h => by simp only [Reps] at h; simp [h]
  | d :: ds, vs, h => by
    simp only [Reps] at h
    obtain ⟨v, r, e, _, h2⟩ := h
    subst e
    simp [Reps.len h2]
theorem Reps.get : ∀ {ds : List D} {vs : List V} {i : Nat} {d : D}, Reps T F H ds vs → ds[i]? = some d → ∃ v, vs[i]? = some v ∧ Rep T F H d v
  | [], _, _, _, _, e => by simp at e
  | d :: ds, vs, i, x, h, e => by
    simp only [Reps] at h
    obtain ⟨v, r, q, h1, h2⟩ := h
    subst q
    cases i with
    | zero => simp at e; subst e; exact ⟨v, rfl, h1⟩
    | succ i => exact Reps.get (i := i) h2 (by simpa using e)
theorem Reps.nil : Reps T F H [] [] := by simp [Reps]
theorem Reps.cons {d : D} {v : V} {ds : List D} {vs : List V} (h : Rep T F H d v) (r : Reps T F H ds vs) : Reps T F H (d :: ds) (v :: vs) := by
  simp only [Reps]; exact ⟨v, vs, rfl, h, r⟩
theorem Reps.app : ∀ {ds es : List D} {vs ws : List V}, Reps T F H ds vs → Reps T F H es ws → Reps T F H (ds ++ es) (vs ++ ws)
  | [], es, vs, ws, h, q => by simp only [Reps] at h; subst h; exact q
  | d :: ds, es, vs, ws, h, q => by
    simp only [Reps] at h
    obtain ⟨v, r, e, h1, h2⟩ := h
    subst e
    exact .cons h1 (Reps.app h2 q)
theorem Reps.take : ∀ {ds : List D} {vs : List V} (n : Nat), Reps T F H ds vs → Reps T F H (ds.take n) (vs.take n)
  | _, _, 0, _ => by simp [Reps]
  | [], vs, n + 1, h => by simp only [Reps] at h; subst h; simp [Reps]
  | d :: ds, vs, n + 1, h => by
    simp only [Reps] at h
    obtain ⟨v, r, e, h1, h2⟩ := h
    subst e
    exact .cons h1 (Reps.take n h2)
theorem Reps.drop : ∀ {ds : List D} {vs : List V} (n : Nat), Reps T F H ds vs → Reps T F H (ds.drop n) (vs.drop n)
  | _, _, 0, h => h
  | [], vs, n + 1, h => by simp only [Reps] at h; subst h; simp [Reps]
  | d :: ds, vs, n + 1, h => by
    simp only [Reps] at h
    obtain ⟨v, r, e, h1, h2⟩ := h
    subst e
    exact Reps.drop n h2
theorem Reps.set {d : D} {v : V} (q : Rep T F H d v) : ∀ {ds : List D} {vs : List V} (i : Nat), Reps T F H ds vs → Reps T F H (ds.set i d) (vs.set i v)
  | [], vs, i, h => by simp only [Reps] at h; subst h; simp [Reps]
  | e :: ds, vs, 0, h => by
    simp only [Reps] at h
    obtain ⟨v', r, e', h1, h2⟩ := h
    subst e'
    exact .cons q h2
  | e :: ds, vs, i + 1, h => by
    simp only [Reps] at h
    obtain ⟨v', r, e', h1, h2⟩ := h
    subst e'
    exact .cons h1 (Reps.set q i h2)
theorem Reps.rep {ds : List D} {vs : List V} (h : Reps T F H ds vs) : ∀ n : Nat, Reps T F H (List.replicate n ds).flatten (List.replicate n vs).flatten
  | 0 => by simp [Reps]
  | n + 1 => by
    rw [List.replicate_succ, List.replicate_succ, List.flatten_cons, List.flatten_cons]
    exact h.app (Reps.rep h n)
theorem Reps.ints : ∀ ns : List Int, Reps T F H (ns.map D.int) (ns.map V.int)
  | [] => by simp [Reps]
  | n :: ns => by
    rw [List.map_cons, List.map_cons]
    exact .cons (by simp [Rep]) (Reps.ints ns)
theorem Reps.ofInts : ∀ {ns : List Int} {vs : List V}, Reps T F H (ns.map D.int) vs → vs = ns.map V.int
  | [], vs, h => by simpa [Reps] using h
  | n :: ns, vs, h => by
    rw [List.map_cons] at h
    simp only [Reps, Rep] at h
    obtain ⟨v, r, e, h1, h2⟩ := h
    rw [e, h1, Reps.ofInts h2, List.map_cons]
theorem Reps.ofBls : ∀ {bs : List Bool} {vs : List V}, Reps T F H (bs.map D.bl) vs → vs = bs.map V.bl
  | [], vs, h => by simpa [Reps] using h
  | n :: ns, vs, h => by
    rw [List.map_cons] at h
    simp only [Reps, Rep] at h
    obtain ⟨v, r, e, h1, h2⟩ := h
    rw [e, h1, Reps.ofBls h2, List.map_cons]
end

/-! ### shared and own mutable things -/
inductive MO where
  | lst (xs : List D) | dct (ks : List Key) (vs : List D) | ins (c : Nat) (ns : List Str) (vs : List D)
  /-- a thing whose inside is not told: 0 a tape -/
  | abs (n : Nat)
abbrev Om := Addr → Option MO
/-- a tape: a list of a list of ints and an int -/
def TapeR (fp : Addr → Prop) (H : Hp) (a : Addr) : Prop := ∃ (c : Addr) (cs : List Int) (s : Int), a ≠ c ∧ (∀ b, fp b ↔ b = a ∨ b = c) ∧ H a = some (.lst [.ref c, .int s]) ∧ H c = some (.lst (cs.map V.int)) ∧ (∀ n ∈ cs, 0 ≤ n) ∧ cs.length ≤ 63 ∧ 0 ≤ s
/-- a table of code objects: each code object that it tells bears the name q -/
def TabN (F : Addr → Prop) (H : Hp) (a : Addr) (q : Str) : Prop := ∃ ps : Array Value, H a = some (.tbl ps) ∧ TriplesOk ps.toList ∧ ∀ (pos : Pos) (cv : Value), codeAmong pos ps.toList = some cv → ∃ c, cv = .ref c ∧ H c = some (LamX.CodeO c q) ∧ ¬ F c
theorem codeO_no {c : Addr} {q : Str} : noTb (LamX.CodeO c q) := fun ps => LamX.codeO_ne ps
theorem TabN.kp {F F' : Addr → Prop} {H H' : Hp} {a : Addr} {q : Str} (k : Kp F H F' H') (e : H' a = H a) (h : TabN F H a q) : TabN F' H' a q := by
  obtain ⟨ps, h1, h2, h3⟩ := h
  refine ⟨ps, e.trans h1, h2, fun pos cv hc => ?_⟩
  obtain ⟨c, e1, e2, e3⟩ := h3 pos cv hc
  exact ⟨c, e1, k.same _ _ e2 e3 codeO_no, fun z => (k.fnew _ z).elim e3 fun n => by rw [e2] at n; cases n⟩
def MRep (T : Th) (F fp : Addr → Prop) (H : Hp) (a : Addr) : MO → Prop
  | .lst ds => ∃ vs, H a = some (.lst vs) ∧ Reps T F H ds vs
  | .dct ks ds => ∃ vs, H a = some (.dK (ks.zip vs)) ∧ ks.length = ds.length ∧ Reps T F H ds vs
  | .ins c ns ds => ∃ dx vs, H a = some (.ins (T.cm c) dx (ns.zip vs)) ∧ ns.length = ds.length ∧ Reps T F H ds vs
  | .abs 0 => TapeR fp H a
  | .abs (n + 1) => a = (T.tb n).1 ∧ (∀ b, fp b ↔ b = a) ∧ TabN F H a (T.tb n).2
theorem MRep.kp {T : Th} {F F' fp : Addr → Prop} {H H' : Hp} {a : Addr} (k : Kp F H F' H') (hfp : ∀ b, fp b → H' b = H b) (ha : fp a) : ∀ {m : MO}, MRep T F fp H a m → MRep T F' fp H' a m
  | .lst ds, ⟨vs, h, r⟩ => ⟨vs, (hfp a ha).trans h, Reps.kp k _ _ r⟩
  | .dct ks ds, ⟨vs, h, l, r⟩ => ⟨vs, (hfp a ha).trans h, l, Reps.kp k _ _ r⟩
  | .ins c ns ds, ⟨dx, vs, h, l, r⟩ => ⟨dx, vs, (hfp a ha).trans h, l, Reps.kp k _ _ r⟩
  | .abs 0, ⟨c, cs, s, h1, h2, h3, h4, h5⟩ => ⟨c, cs, s, h1, h2, (hfp a ha).trans h3, (hfp c ((h2 c).mpr (.inr rfl))).trans h4, h5⟩
  | .abs (_ + 1), ⟨e, h1, h2⟩ => ⟨e, h1, h2.kp k (hfp a ha)⟩

/-- the ghost world: the shared mutable things, their places, all places that may change -/
structure Wd where
  Om : Om
  fp : Addr → Addr → Prop
  F : Addr → Prop
/-- b is a place of a shared thing -/
def Wd.pm (W : Wd) (b : Addr) : Prop := ∃ a, W.Om a ≠ none ∧ W.fp a b
structure WOk (T : Th) (W : Wd) (H : Hp) : Prop where
  at_ : ∀ a m, W.Om a = some m → MRep T W.F (W.fp a) H a m ∧ W.fp a a
  sub : ∀ b, W.pm b → W.F b
  dis : ∀ a a' b, W.Om a ≠ none → W.Om a' ≠ none → W.fp a b → W.fp a' b → a = a'
  trk : ∀ b, W.F b → H b ≠ none
  code : ∀ b q, W.F b → H b ≠ some (LamX.CodeO b q)
structure Step (T : Th) (W : Wd) (H : Hp) (W' : Wd) (H' : Hp) : Prop where
  ok : WOk T W' H'
  keep' : ∀ b o, H b = some o → noTb o → ¬ W.pm b → H' b = some o
  trk : ∀ b, H b ≠ none → H' b ≠ none
  sub : ∀ b, W.F b → W'.F b
  fnew : ∀ b, W'.F b → W.F b ∨ H b = none
  om : ∀ a, W.Om a ≠ none → W'.Om a ≠ none ∧ W'.fp a = W.fp a
  new : ∀ a b, W.Om a = none → W'.Om a ≠ none → W'.fp a b → H b = none
section
variable {T : Th} {W W1 W2 W' : Wd} {H H1 H2 H' : Hp}
theorem Step.keep (s : Step T W H W' H') (b : Addr) (o : HO) (h : H b = some o) (n : ¬ W.pm b) (t : noTb o := by intro _ z; cases z) : H' b = some o := s.keep' b o h t n
theorem Step.kp (s : Step T W H W' H') (ok : WOk T W H) : Kp W.F H W'.F H' := ⟨fun b o h t n => s.keep' b o h t fun z => n (ok.sub b z), s.fnew, s.trk⟩
theorem Step.refl (ok : WOk T W H) : Step T W H W H := ⟨ok, fun _ _ h _ _ => h, fun _ h => h, fun _ h => h, fun _ h => .inl h, fun _ h => ⟨h, rfl⟩, fun a b h h' => (h' h).elim⟩
theorem Step.trans (a : Step T W H W1 H1) (b : Step T W1 H1 W2 H2) : Step T W H W2 H2 where
  ok := b.ok
  keep' := fun c o h t n => b.keep' c o (a.keep' c o h t n) t fun ⟨x, hx, hf⟩ => by
    by_cases q : W.Om x = none
    · have := a.new x c q hx hf
      rw [h] at this; cases this
    · exact n ⟨x, q, by rw [← (a.om x q).2]; exact hf⟩
  trk := fun c h => b.trk c (a.trk c h)
  sub := fun c h => b.sub c (a.sub c h)
  fnew := fun c h => (b.fnew c h).elim (a.fnew c) fun n => .inr (by
    cases q : H c with
    | none => rfl
    | some o => exact absurd n (a.trk c (by rw [q]; simp)))
  om := fun x h => ⟨(b.om x (a.om x h).1).1, (b.om x (a.om x h).1).2.trans (a.om x h).2⟩
  new := fun x c h h' hf => by
    by_cases q : W1.Om x = none
    · have n := b.new x c q h' hf
      cases q2 : H c with
      | none => rfl
      | some o => exact absurd n (a.trk c (by rw [q2]; simp))
    · rw [(b.om x q).2] at hf
      exact a.new x c h q hf
/-- new things were laid, nothing changed -/
theorem WOk.ext (ok : WOk T W H) (h : ∀ b o, H b = some o → H' b = some o) : WOk T W H' where
  at_ := fun a m e => by
    obtain ⟨r, f⟩ := ok.at_ a m e
    refine ⟨MRep.kp ⟨fun b o q _ _ => h b o q, fun b q => .inl q, trk_ext h⟩ (fun b hb => ?_) f r, f⟩
    cases q : H b with
    | none => exact absurd q (ok.trk b (ok.sub b ⟨a, by rw [e]; simp, hb⟩))
    | some o => exact h b o q
  sub := ok.sub
  dis := ok.dis
  trk := fun b hb z => by
    cases q : H b with
    | none => exact ok.trk b hb q
    | some o => rw [h b o q] at z; cases z
  code := fun b q hb z => by
    cases e : H b with
    | none => exact ok.trk b hb e
    | some o =>
      rw [h b o e] at z
      exact ok.code b q hb (e.trans z)
theorem Step.ext (ok : WOk T W H) (h : ∀ b o, H b = some o → H' b = some o) : Step T W H W H' :=
  ⟨ok.ext h, fun b o q _ _ => h b o q, fun b q z => (by
    cases e : H b with
    | none => exact q e
    | some o => (rw [h b o e] at z; cases z)), fun _ q => q, fun _ q => .inl q, fun _ q => ⟨q, rfl⟩, fun a b q q' => (q' q).elim⟩
theorem ext_upd {p : Addr} {o : HO} (h : H p = none) : ∀ b u, H b = some u → (upd H p o) b = some u := fun b u e => by
  rw [upd_ne (ne_of_none e h)]; exact e
theorem Step.new1 (ok : WOk T W H) {p : Addr} {o : HO} (h : H p = none) : Step T W H W (upd H p o) := Step.ext ok (ext_upd h)
theorem nF (ok : WOk T W H) {p : Addr} (h : H p = none) : ¬ W.F p := fun z => ok.trk p z h
end

def Wd.add (W : Wd) (p : Addr) : Wd := { W with F := fun b => W.F b ∨ b = p }
def Wd.del (W : Wd) (p : Addr) : Wd := { W with F := fun b => W.F b ∧ b ≠ p }
section
variable {T : Th} {W W1 : Wd} {H H1 : Hp} {p : Addr} {o : HO}
theorem Kp.mut {F : Addr → Prop} (h : F p) : Kp F H F (upd H p o) := ⟨fun b u e _ n => by rw [upd_ne fun z => n (by rw [z]; exact h)]; exact e, fun _ h => .inl h, trk_upd⟩
theorem Kp.less {F F' : Addr → Prop} (h : ∀ b, F' b → F b) : Kp F H F' H := ⟨fun _ _ e _ _ => e, fun b q => .inl (h b q), fun _ h => h⟩
theorem Step.newOwn (ok : WOk T W H) (hp : H p = none) (no : ∀ q, o ≠ LamX.CodeO p q := by intro _ z; cases z) : Step T W H (W.add p) (upd H p o) := by
  have kp : Kp W.F H (W.add p).F (upd H p o) := ⟨fun b u e _ _ => ext_upd hp b u e, fun b h => h.imp _root_.id (fun e => by rw [e]; exact hp), trk_upd⟩
  refine ⟨⟨fun a m e => ?_, fun b h => .inl (ok.sub b h), ok.dis, fun b h => ?_, fun b q h => ?_⟩, fun b u e _ _ => ext_upd hp b u e, fun b h => ?_, fun b h => .inl h, kp.fnew, fun a h => ⟨h, rfl⟩, fun a b h h' => (h' h).elim⟩
  · obtain ⟨r, f⟩ := ok.at_ a m e
    refine ⟨MRep.kp kp (fun b hb => ?_) f r, f⟩
    have e' : W.Om a = some m := e
    refine upd_ne fun z => ok.trk b (ok.sub b ⟨a, by rw [e']; simp, hb⟩) (by rw [z]; exact hp)
  · rcases h with h | h
    · by_cases z : b = p
      · rw [z, upd_same]; simp
      · rw [upd_ne z]; exact ok.trk b h
    · rw [h, upd_same]; simp
  · by_cases z : b = p
    · subst z
      rw [upd_same]
      exact fun z => no q (Option.some.inj z)
    · rw [upd_ne z]
      rcases h with h | h
      · exact ok.code b q h
      · exact absurd h z
  · by_cases z : b = p
    · rw [z, upd_same]; simp
    · rw [upd_ne z]; exact h
theorem Step.mutO (s : Step T W1 H1 W H) (hn : H1 p = none) (hF : W.F p) (hpm : ¬ W.pm p) (no : ∀ q, o ≠ LamX.CodeO p q := by intro _ z; cases z) : Step T W1 H1 W (upd H p o) := by
  refine ⟨⟨fun a m e => ?_, s.ok.sub, s.ok.dis, fun b h => ?_, fun b q h => ?_⟩, fun b u e t n => ?_, fun b h => ?_, s.sub, s.fnew, s.om, s.new⟩
  · obtain ⟨r, f⟩ := s.ok.at_ a m e
    exact ⟨MRep.kp (Kp.mut hF) (fun b hb => upd_ne fun z => hpm ⟨a, by rw [e]; simp, z ▸ hb⟩) f r, f⟩
  · by_cases z : b = p
    · rw [z, upd_same]; simp
    · rw [upd_ne z]; exact s.ok.trk b h
  · by_cases z : b = p
    · subst z
      rw [upd_same]
      exact fun z => no q (Option.some.inj z)
    · rw [upd_ne z]
      exact s.ok.code b q h
  · rw [upd_ne (ne_of_none e hn)]; exact s.keep' b u e t n
  · by_cases z : b = p
    · rw [z, upd_same]; simp
    · rw [upd_ne z]; exact s.trk b h
theorem Step.del (s : Step T W1 H1 W H) (ok : WOk T W1 H1) (hn : H1 p = none) (hpm : ¬ W.pm p) : Step T W1 H1 (W.del p) H := by
  refine ⟨⟨fun a m e => ?_, fun b h => ⟨s.ok.sub b h, fun z => hpm (z ▸ h)⟩, s.ok.dis, fun b h => s.ok.trk b h.1, fun b q h => s.ok.code b q h.1⟩, s.keep', s.trk, fun b h => ⟨s.sub b h, fun z => ok.trk b h (by rw [z]; exact hn)⟩, fun b h => s.fnew b h.1, s.om, s.new⟩
  obtain ⟨r, f⟩ := s.ok.at_ a m e
  exact ⟨MRep.kp (Kp.less fun b h => h.1) (fun b _ => rfl) f r, f⟩
theorem Step.back (s : Step T W1 H1 W H) (h : H p = none) : H1 p = none := by
  cases q : H1 p with
  | none => rfl
  | some o => exact absurd h (s.trk p (by rw [q]; simp))
end
/-- v stands for d just now: the thing itself may be one's own; Pm: the shared places -/
def RepT (T : Th) (F Pm : Addr → Prop) (H : Hp) : D → V → Prop
  | .lst xs, v => ∃ a vs, v = .ref a ∧ H a = some (.lst vs) ∧ ¬ Pm a ∧ Reps T F H xs vs
  | .dct ks xs, v => ∃ a vs, v = .ref a ∧ Rd H a (.dK (ks.zip vs)) ∧ ¬ Pm a ∧ ks.length = xs.length ∧ Reps T F H xs vs
  | .ins c ns xs, v => ∃ a dx vs, v = .ref a ∧ H a = some (.ins (T.cm c) dx (ns.zip vs)) ∧ ¬ Pm a ∧ ns.length = xs.length ∧ Reps T F H xs vs
  | .non, v => v = .non
  | .bl b, v => v = .bl b
  | .int i, v => v = .int i
  | .str x, v => v = .str x
  | .ty n, v => v = .ty n
  | .ref a, v => v = .ref a
  | .tup xs, v => Rep T F H (.tup xs) v
  | .scr ns, v => Rep T F H (.scr ns) v
section
variable {T : Th} {W W' : Wd} {H H' : Hp}
theorem Rep.t {F Pm : Addr → Prop} (s : ∀ b, Pm b → F b) : ∀ {d : D} {v : V}, Rep T F H d v → RepT T F Pm H d v
  | .non, v, h => by simp only [Rep] at h; exact h
  | .bl b, v, h => by simp only [Rep] at h; exact h
  | .int i, v, h => by simp only [Rep] at h; exact h
  | .str x, v, h => by simp only [Rep] at h; exact h
  | .ty n, v, h => by simp only [Rep] at h; exact h
  | .ref a, v, h => by simp only [Rep] at h; exact h
  | .tup xs, v, h => h
  | .scr xs, v, h => h
  | .lst xs, v, h => by
    simp only [Rep] at h
    obtain ⟨a, vs, e, h, n, r⟩ := h
    exact ⟨a, vs, e, h, fun z => n (s _ z), r⟩
  | .dct ks xs, v, h => by
    simp only [Rep] at h
    obtain ⟨a, vs, e, ⟨o, h⟩, n, l, r⟩ := h
    exact ⟨a, vs, e, .inr ⟨o, h⟩, fun z => n (s _ z), l, r⟩
  | .ins c ns xs, v, h => by
    simp only [Rep] at h
    obtain ⟨a, dx, vs, e, h, n, l, r⟩ := h
    exact ⟨a, dx, vs, e, h, fun z => n (s _ z), l, r⟩
theorem Step.pm (s : Step T W H W' H') {b : Addr} {o : HO} (h : H b = some o) (n : ¬ W.pm b) : ¬ W'.pm b := fun ⟨x, hx, hf⟩ => by
  by_cases q : W.Om x = none
  · have := s.new x b q hx hf
    rw [h] at this; cases this
  · exact n ⟨x, q, by rw [← (s.om x q).2]; exact hf⟩
theorem RepT.step (s : Step T W H W' H') (ok : WOk T W H) : ∀ {d : D} {v : V}, RepT T W.F W.pm H d v → RepT T W'.F W'.pm H' d v
  | .non, v, h => h
  | .bl b, v, h => h
  | .int i, v, h => h
  | .str x, v, h => h
  | .ty n, v, h => h
  | .ref a, v, h => h
  | .tup xs, v, h => Rep.kp (s.kp ok) _ _ h
  | .scr xs, v, h => Rep.kp (s.kp ok) _ _ h
  | .lst xs, v, ⟨a, vs, e, h, n, r⟩ => ⟨a, vs, e, s.keep _ _ h n, s.pm h n, Reps.kp (s.kp ok) _ _ r⟩
  | .dct ks xs, v, ⟨a, vs, e, .inl h, n, l, r⟩ => ⟨a, vs, e, .inl (s.keep _ _ h n), s.pm h n, l, Reps.kp (s.kp ok) _ _ r⟩
  | .dct ks xs, v, ⟨a, vs, e, .inr ⟨o, h⟩, n, l, r⟩ => ⟨a, vs, e, .inr ⟨o, s.keep _ _ h n⟩, s.pm h n, l, Reps.kp (s.kp ok) _ _ r⟩
  | .ins c ns xs, v, ⟨a, dx, vs, e, h, n, l, r⟩ => ⟨a, dx, vs, e, s.keep _ _ h n, s.pm h n, l, Reps.kp (s.kp ok) _ _ r⟩
end

/-! ### a frame's state -/
inductive Sl where
  | no | val (d : D) | own (m : MO)
abbrev Gam := List Sl
/-- a def's fixed things: the entry's world and heap, the wish about exceptions -/
structure Pm where
  T : Th
  W : WX
  W0 : Wd
  H0 : Hp
abbrev Pm.noW (P : Pm) : Pm := { P with W := fun _ _ _ _ => False }
structure OwnAt (P : Pm) (W : Wd) (H : Hp) (a : Addr) (m : MO) : Prop where
  f : W.F a
  o : W.Om a = none
  p : ¬ W.pm a
  n : P.H0 a = none
  r : MRep P.T W.F (fun _ => False) H a m
def SlR (P : Pm) (W : Wd) (H : Hp) : Sl → Option (Option V) → Prop
  | .no, _ => True
  | .val d, o => ∃ v, o = some (some v) ∧ Rep P.T W.F H d v
  | .own m, o => ∃ a, o = some (some (.ref a)) ∧ OwnAt P W H a m
structure Sta (P : Pm) (G : Gam) (W : Wd) (σ : L2.St) (H : Hp) : Prop where
  st : Step P.T P.W0 P.H0 W H
  len : G.length = σ.length
  sl : ∀ (i : Nat) s, G[i]? = some s → SlR P W H s σ[i]?
  ap : ∀ (i j : Nat) m m' a, G[i]? = some (.own m) → G[j]? = some (.own m') → σ[i]? = some (some (.ref a)) → σ[j]? = some (some (.ref a)) → i = j
theorem noFp {T : Th} {F F' fp : Addr → Prop} {H H' : Hp} {a : Addr} (k : Kp F H F' H') (e : H' a = H a) : ∀ {m : MO}, MRep T F (fun _ => False) H a m → MRep T F' (fun _ => False) H' a m
  | .lst ds, ⟨vs, h, r⟩ => ⟨vs, e.trans h, Reps.kp k _ _ r⟩
  | .dct ks ds, ⟨vs, h, l, r⟩ => ⟨vs, e.trans h, l, Reps.kp k _ _ r⟩
  | .ins c ns ds, ⟨dx, vs, h, l, r⟩ => ⟨dx, vs, e.trans h, l, Reps.kp k _ _ r⟩
  | .abs 0, ⟨c, cs, s, h1, h2, _⟩ => (((h2 a).mpr (.inl rfl))).elim
  | .abs (_ + 1), ⟨_, h1, _⟩ => ((h1 a).mpr rfl).elim
theorem MRep.noTb {T : Th} {F : Addr → Prop} {H : Hp} {a : Addr} {o : HO} : ∀ {m : MO}, MRep T F (fun _ => False) H a m → H a = some o → noTb o
  | .lst ds, ⟨vs, h, _⟩, e => fun ps z => by rw [h] at e; cases e; cases z
  | .dct ks ds, ⟨vs, h, _⟩, e => fun ps z => by rw [h] at e; cases e; cases z
  | .ins c ns ds, ⟨dx, vs, h, _⟩, e => fun ps z => by rw [h] at e; cases e; cases z
  | .abs 0, ⟨c, cs, s, h1, h2, _⟩, _ => (((h2 a).mpr (.inl rfl))).elim
  | .abs (_ + 1), ⟨_, h1, _⟩, _ => ((h1 a).mpr rfl).elim
theorem MRep.noCode {T : Th} {F : Addr → Prop} {H : Hp} {a : Addr} {o : HO} : ∀ {m : MO}, MRep T F (fun _ => False) H a m → H a = some o → ∀ q, o ≠ LamX.CodeO a q
  | .lst ds, ⟨vs, h, _⟩, e => fun ps z => by rw [h] at e; cases e; cases z
  | .dct ks ds, ⟨vs, h, _⟩, e => fun ps z => by rw [h] at e; cases e; cases z
  | .ins c ns ds, ⟨dx, vs, h, _⟩, e => fun ps z => by rw [h] at e; cases e; cases z
  | .abs 0, ⟨c, cs, s, h1, h2, _⟩, _ => (((h2 a).mpr (.inl rfl))).elim
  | .abs (_ + 1), ⟨_, h1, _⟩, _ => ((h1 a).mpr rfl).elim
section
variable {P : Pm} {G : Gam} {W W' : Wd} {σ : L2.St} {H H' : Hp} {m : MO} {a : Addr}
theorem OwnAt.there (h : OwnAt P W H a m) (ok : WOk P.T W H) : ∃ o, H a = some o := by
  cases q : H a with
  | none => exact absurd q (ok.trk a h.f)
  | some o => exact ⟨o, rfl⟩
theorem OwnAt.step (h : OwnAt P W H a m) (ok : WOk P.T W H) (s : Step P.T W H W' H') : OwnAt P W' H' a m := by
  obtain ⟨o, e⟩ := h.there ok
  have np : ¬ W'.pm a := fun ⟨x, hx, hf⟩ => by
    by_cases q : W.Om x = none
    · have := s.new x a q hx hf
      rw [e] at this; cases this
    · exact h.p ⟨x, q, by rw [← (s.om x q).2]; exact hf⟩
  refine ⟨s.sub _ h.f, ?_, np, h.n, noFp (fp := fun _ => False) (s.kp ok) ((s.keep a o e h.p (h.r.noTb e)).trans e.symm) h.r⟩
  cases q : W'.Om a with
  | none => rfl
  | some m' => exact (np ⟨a, by rw [q]; simp, (s.ok.at_ a m' q).2⟩).elim
theorem Sta.ok (S : Sta P G W σ H) : WOk P.T W H := S.st.ok
theorem Sta.step (S : Sta P G W σ H) (s : Step P.T W H W' H') : Sta P G W' σ H' := by
  refine ⟨S.st.trans s, S.len, fun i x e => ?_, S.ap⟩
  have q := S.sl i x e
  cases x with
  | no => trivial
  | val d =>
    obtain ⟨v, e1, r⟩ := q
    exact ⟨v, e1, Rep.kp (s.kp S.ok) d v r⟩
  | own m =>
    obtain ⟨a, e1, r⟩ := q
    exact ⟨a, e1, r.step S.ok s⟩
/-- another wish -/
theorem Sta.noW (S : Sta P G W σ H) : Sta P.noW G W σ H :=
  ⟨S.st, S.len, fun i x e => by
    have q := S.sl i x e
    cases x with
    | no => trivial
    | val d => exact q
    | own m => obtain ⟨a, e, o⟩ := q; exact ⟨a, e, ⟨o.f, o.o, o.p, o.n, o.r⟩⟩, S.ap⟩
end
end N

set_option Elab.async false
set_option linter.all false
set_option maxRecDepth 100000
/-! NB: what is wanted, told over data; the judgements; names, operators, tests, displays -/
namespace N
open PySem PySem.Spec PyProof.Rows L2

/-- an exception of an own class -/
structure Exn where
  c : Nat
  ns : List Str
  vs : List D
def XRep (T : Th) (F : Addr → Prop) (H : Hp) (x : Exn) (cls : Value) (dd : Option Addr) : Prop :=
  cls = .ref (T.cm x.c) ∧ ((x.ns = [] ∧ dd = none) ∨ ∃ d ws, dd = some d ∧ x.ns ≠ [] ∧ H d = some (.xd (x.ns.zip ws)) ∧ ¬ F d ∧ x.ns.length = x.vs.length ∧ Reps T F H x.vs ws)
abbrev RX := Exn → Om → Prop
abbrev WE := Gam → Om → (D → Om → Prop) → RX → Prop
abbrev WT := Gam → Om → (Bool → Om → Prop) → RX → Prop
abbrev WA := Gam → Om → (List D → Om → Prop) → RX → Prop

def exOk (P : Pm) (W : Wd) (H : Hp) (σ : L2.St) (R : RX) : Prop := ∀ x Om', R x Om' → ∀ cls dd H' W', Step P.T W H W' H' → W'.Om = Om' → XRep P.T W'.F H' x cls dd → P.W cls dd σ H'
theorem exOk.step {P : Pm} {W W' : Wd} {H H' : Hp} {σ : L2.St} {R : RX} (e : exOk P W H σ R) (s : Step P.T W H W' H') : exOk P W' H' σ R :=
  fun x o h cls dd H2 W2 s2 q r => e x o h cls dd H2 W2 (s.trans s2) q r

def tE (P : Pm) (w : WE) : TE := fun σ H Q => ∃ G W Q0 R0, Sta P G W σ H ∧ w G W.Om Q0 R0 ∧ exOk P W H σ R0 ∧ ∀ d Om', Q0 d Om' → ∀ v H' W', Step P.T W H W' H' → W'.Om = Om' → Rep P.T W'.F H' d v → Q v H'
def tB (P : Pm) (w : WE) : TE := fun σ H Q => ∃ G W Q0 R0, Sta P G W σ H ∧ w G W.Om Q0 R0 ∧ exOk P W H σ R0 ∧ ∀ d Om', Q0 d Om' → ∀ v H' W', Step P.T W H W' H' → W'.Om = Om' → RepT P.T W'.F W'.pm H' d v → Q v H'
def tT (P : Pm) (w : WT) : TT := fun σ H Q => ∃ G W Q0 R0, Sta P G W σ H ∧ w G W.Om Q0 R0 ∧ exOk P W H σ R0 ∧ ∀ b Om', Q0 b Om' → ∀ H' W', Step P.T W H W' H' → W'.Om = Om' → Q b H'
def tA (P : Pm) (w : WA) : TA := fun σ H Q => ∃ G W Q0 R0, Sta P G W σ H ∧ w G W.Om Q0 R0 ∧ exOk P W H σ R0 ∧ ∀ ds Om', Q0 ds Om' → ∀ vs H' W', Step P.T W H W' H' → W'.Om = Om' → Reps P.T W'.F H' ds vs → Q vs H'
/-- .. arguments that may be own things -/
def RepsT (T : Th) (F Pm : Addr → Prop) (H : Hp) : List D → List V → Prop
  | [], vs => vs = []
  | d :: ds, vs => ∃ v r, vs = v :: r ∧ RepT T F Pm H d v ∧ RepsT T F Pm H ds r
def tAB (P : Pm) (w : WA) : TA := fun σ H Q => ∃ G W Q0 R0, Sta P G W σ H ∧ w G W.Om Q0 R0 ∧ exOk P W H σ R0 ∧ ∀ ds Om', Q0 ds Om' → ∀ vs H' W', Step P.T W H W' H' → W'.Om = Om' → RepsT P.T W'.F W'.pm H' ds vs → Q vs H'

structure DE (X : Cx) (P : Pm) (e : Expr) (w : WE) : Prop where
  pe : PE X e (tE P w)
structure DB (X : Cx) (P : Pm) (e : Expr) (w : WE) : Prop where
  pe : PE X e (tB P w)
structure DT (X : Cx) (P : Pm) (e : Expr) (w : WT) : Prop where
  pt : PT X e (tT P w)
structure DA (X : Cx) (P : Pm) (es : List Expr) (w : WA) : Prop where
  pa : PA X es (tA P w)
structure DAB (X : Cx) (P : Pm) (es : List Expr) (w : WA) : Prop where
  pa : PA X es (tAB P w)

section
variable {X : Cx} {P : Pm} {e a b c : Expr} {es : List Expr} {wa wb wc w : WE} {pos : Pos}
theorem pe_imp {t t' : TE} (h : PE X e t) (i : ∀ σ H Q, t' σ H Q → t σ H Q) : PE X e t' := ⟨fun pins s σ H Q I q => h.run pins s σ H Q I (i σ H Q q)⟩
theorem pt_imp {t t' : TT} (h : PT X e t) (i : ∀ σ H Q, t' σ H Q → t σ H Q) : PT X e t' := ⟨fun pins s σ H Q I q => h.run pins s σ H Q I (i σ H Q q)⟩
theorem pw_imp {t t' : TT} (h : PW X e t) (i : ∀ σ H Q, t' σ H Q → t σ H Q) : PW X e t' := ⟨fun wh pins s σ H Q I q => h.run wh pins s σ H Q I (i σ H Q q)⟩
theorem pa_imp {t t' : TA} (h : PA X es t) (i : ∀ σ H Q, t' σ H Q → t σ H Q) : PA X es t' := ⟨fun pos pins s σ H Q I q => h.run pos pins s σ H Q I (i σ H Q q)⟩
/-- every value may be looked at -/
theorem DE.br (h : DE X P e w) : DB X P e w := ⟨pe_imp h.pe fun σ H Q ⟨G, W, Q0, R0, S, hw, ex, q⟩ => ⟨G, W, Q0, R0, S, hw, ex, fun d o h0 v H' W' s eq r => q d o h0 v H' W' s eq (r.t s.ok.sub)⟩⟩

/-! ### names and constants -/
def getSl : Gam → Nat → Sl
  | [], _ => .no
  | s :: _, 0 => s
  | _ :: r, i + 1 => getSl r i
theorem getSl_get : ∀ (G : Gam) (i : Nat), getSl G i ≠ .no → G[i]? = some (getSl G i)
  | [], _, h => (h rfl).elim
  | s :: _, 0, _ => rfl
  | _ :: r, i + 1, h => by
    show (_ :: r)[i + 1]? = some (getSl r i)
    rw [List.getElem?_cons_succ]
    exact getSl_get r i h
/-- what is seen of an own thing -/
def MO.see : MO → D
  | .lst xs => .lst xs
  | .dct ks vs => .dct ks vs
  | .ins c ns vs => .ins c ns vs
  | .abs _ => .non
def wVar (i : Nat) : WE := fun G Om Q _ => match getSl G i with | .val d => Q d Om | _ => False
def wVarB (i : Nat) : WE := fun G Om Q _ => match getSl G i with | .val d => Q d Om | .own m => Q m.see Om | _ => False
def wC (d : D) : WE := fun _ Om Q _ => Q d Om
theorem de_var (i : Nat) {x : Str} {pos : Pos} (hN : X.N[i]? = some x := by rfl) (hv : Vis X.env.scope x := by first | exact Or.inl rfl | exact Or.inr (Or.inl rfl) | exact Or.inr (Or.inr rfl)) (hd : (x == ("__debug__" : Str)) = false := by decide)
    (hcd : (x == ("__classdict__" : Str)) = false := by decide) : DE X P (.Name x pos) (wVar i) := by
  refine ⟨pe_imp (pe_var hN hv hd hcd) fun σ H Q ⟨G, W, Q0, R0, S, hw, ex, q⟩ => ?_⟩
  unfold wVar at hw
  split at hw
  · rename_i d e
    have g := getSl_get G i (by rw [e]; intro z; cases z)
    rw [e] at g
    obtain ⟨v, e1, r⟩ := S.sl i _ g
    exact ⟨v, e1, q d _ hw v H W (Step.refl S.ok) rfl r⟩
  · exact hw.elim
theorem db_var (i : Nat) {x : Str} {pos : Pos} (hN : X.N[i]? = some x := by rfl) (hv : Vis X.env.scope x := by first | exact Or.inl rfl | exact Or.inr (Or.inl rfl) | exact Or.inr (Or.inr rfl)) (hd : (x == ("__debug__" : Str)) = false := by decide)
    (hcd : (x == ("__classdict__" : Str)) = false := by decide) : DB X P (.Name x pos) (wVarB i) := by
  refine ⟨pe_imp (pe_var hN hv hd hcd) fun σ H Q ⟨G, W, Q0, R0, S, hw, ex, q⟩ => ?_⟩
  unfold wVarB at hw
  split at hw
  · rename_i d e
    have g := getSl_get G i (by rw [e]; intro z; cases z)
    rw [e] at g
    obtain ⟨v, e1, r⟩ := S.sl i _ g
    exact ⟨v, e1, q d _ hw v H W (Step.refl S.ok) rfl (r.t S.ok.sub)⟩
  · rename_i m e
    have g := getSl_get G i (by rw [e]; intro z; cases z)
    rw [e] at g
    obtain ⟨a, e1, o⟩ := S.sl i _ g
    refine ⟨.ref a, e1, q m.see _ hw _ H W (Step.refl S.ok) rfl ?_⟩
    cases m with
    | lst ds =>
      obtain ⟨vs, h, r⟩ := o.r
      exact ⟨a, vs, rfl, h, o.p, r⟩
    | dct ks ds =>
      obtain ⟨vs, h, l, r⟩ := o.r
      exact ⟨a, vs, rfl, .inl h, o.p, l, r⟩
    | ins c ns ds =>
      obtain ⟨dx, vs, h, l, r⟩ := o.r
      exact ⟨a, dx, vs, rfl, h, o.p, l, r⟩
    | abs n =>
      cases n with
      | zero => obtain ⟨c, cs, s, h1, h2, _⟩ := o.r; exact (((h2 a).mpr (.inl rfl))).elim
      | succ n => obtain ⟨_, h1, _⟩ := o.r; exact ((h1 a).mpr rfl).elim
  · exact hw.elim
theorem de_c {v : V} {d : D} (h : PE X e (tC v)) (hr : ∀ T F H, Rep T F H d v) : DE X P e (wC d) :=
  ⟨pe_imp h fun σ H Q ⟨G, W, Q0, R0, S, hw, ex, q⟩ => q d _ hw v H W (Step.refl S.ok) rfl (hr _ _ _)⟩
theorem de_int {i : Int} {j pos} : DE X P (.Constant (.int i) j pos) (wC (.int i)) := de_c pe_int fun _ _ _ => by simp [Rep]
theorem de_bl {i : Bool} {j pos} : DE X P (.Constant (.bool i) j pos) (wC (.bl i)) := de_c pe_bl fun _ _ _ => by simp [Rep]
theorem de_non {j pos} : DE X P (.Constant .none j pos) (wC .non) := de_c pe_non fun _ _ _ => by simp [Rep]
theorem de_str {x : Str} {j pos} : DE X P (.Constant (.str x) j pos) (wC (.str x)) := de_c pe_str fun _ _ _ => by simp [Rep]
/-- a module's int, text -/
theorem de_gint {x : Str} {i : Int} {t : Tok} {pos : Pos} (hm : X.mg x = some (.int i t)) (hg : Gl X x := by rfl) (hd : (x == ("__debug__" : Str)) = false := by decide) : DE X P (.Name x pos) (wC (.int i)) := de_c (pe_glob hg hm (v := .int i) ⟨t, rfl⟩ hd) fun _ _ _ => by simp [Rep]
theorem de_gstr {x s : Str} {t : Tok} {pos : Pos} (hm : X.mg x = some (.str s t)) (hg : Gl X x := by rfl) (hd : (x == ("__debug__" : Str)) = false := by decide) : DE X P (.Name x pos) (wC (.str s)) := de_c (pe_glob hg hm (v := .str s) ⟨t, rfl⟩ hd) fun _ _ _ => by simp [Rep]
/-- a built-in class as a value -/
theorem de_ty {x : Str} {n : String} {pos : Pos} (hm : X.mg x = none) (hg : Gl X x := by rfl) (hv : bootBuiltins x = some (.type n) := by decide +kernel) (hn : x ≠ "__name__" := by decide) (hd : (x == ("__debug__" : Str)) = false := by decide) : DE X P (.Name x pos) (wC (.ty n)) :=
  de_c (pe_bltn hg hm hv (v := .ty n) rfl hn hd) fun _ _ _ => by simp [Rep]
/-- an own class as a value -/
theorem de_cls {x : Str} {C : Addr} {pos : Pos} (hm : X.mg x = some (.ref C)) (hg : Gl X x := by rfl) (hd : (x == ("__debug__" : Str)) = false := by decide) : DE X P (.Name x pos) (wC (.ref C)) := de_c (pe_glob hg hm (v := .ref C) rfl hd) fun _ _ _ => by simp [Rep]
/-- code that is never come to -/
def wNever : WE := fun _ _ _ _ => False
theorem de_never : DE X P e wNever := ⟨⟨fun _ _ _ _ _ _ ⟨_, _, _, _, _, h, _⟩ => h.elim⟩⟩
theorem db_never : DB X P e wNever := de_never.br

/-! ### operators -/
abbrev GD := D → D → (D → Prop) → Prop
/-- new things may have come, nothing else -/
abbrev Nw (H H' : Hp) : Prop := ∀ b o, H b = some o → H' b = some o
def rD (T : Th) (g : GD) : R2 := fun x y H Q => ∃ (F Pm : Addr → Prop) (dx dy : D) (Qd : D → Prop), RepT T F Pm H dx x ∧ RepT T F Pm H dy y ∧ (∀ b, F b → H b ≠ none) ∧ g dx dy Qd ∧ ∀ z, Qd z → ∀ v H', Nw H H' → Rep T F H' z v → Q v H'
def OpD (X : Cx) (T : Th) (f : Value → Value → Sem Value) (g : GD) : Prop := OpR X f (rD T g)
def wBin (g : GD) (wa wb : WE) : WE := fun G Om Q R => wa G Om (fun x O1 => wb G O1 (fun y O2 => g x y fun z => Q z O2) R) R
theorem bin_imp {g : GD} {wa wb : WE} : ∀ σ H Q, tE P (wBin g wa wb) σ H Q → tOp (rD P.T g) (tB P wa) (tB P wb) σ H Q := fun σ H Q h => by
  obtain ⟨G, W, Q0, R0, S, h, ex, hq⟩ := h
  refine ⟨G, W, _, R0, S, h, ex, fun dx O1 h1 x H1 W1 s1 e1 rx => ?_⟩
  subst e1
  refine ⟨G, W1, _, R0, S.step s1, h1, ex.step s1, fun dy O2 h2 y H2 W2 s2 e2 ry => ?_⟩
  refine ⟨W2.F, W2.pm, dx, dy, _, rx.step s2 s1.ok, ry, s2.ok.trk, h2, fun z hz v H3 xt r => ?_⟩
  exact hq z O2 hz v H3 W2 ((s1.trans s2).trans (Step.ext s2.ok xt)) e2 r
theorem de_bin {op : Operator} {g : GD} (ho : OpD X P.T (binaryOp op) g) (ha : DB X P a wa) (hb : DB X P b wb) : DE X P (.BinOp a op b pos) (wBin g wa wb) := ⟨pe_imp (pe_op ho ha.pe hb.pe) bin_imp⟩
theorem de_cmp {op : CmpOp} {g : GD} (ho : OpD X P.T (compareOp op) g) (ha : DB X P a wa) (hb : DB X P b wb) (hm : behindInMarks op b = false := by first | exact nomark _ | rfl) : DE X P (.Compare a [op] [b] pos) (wBin g wa wb) :=
  ⟨pe_imp (pe_cmpR ho ha.pe hb.pe hm) bin_imp⟩
/-- a value as a test -/
def wTst (w : WE) : WT := fun G Om Q R => w G Om (fun d O => match d with | .bl b => Q b O | _ => False) R
theorem tst_imp {t : TE} (h : ∀ σ H Q, tE P w σ H Q → t σ H Q) : ∀ σ H Q, tT P (wTst w) σ H Q → tTest t σ H Q := fun σ H Q q => by
  obtain ⟨G, W, Q0, R0, S, q, ex, hq⟩ := q
  refine h σ H _ ⟨G, W, _, R0, S, q, ex, fun d O h1 v H1 W1 s1 e1 r => ?_⟩
  cases d with
  | bl b =>
    simp only [Rep] at r
    exact ⟨b, r, hq b O h1 H1 W1 s1 e1⟩
  | _ => exact h1.elim
theorem dt_cmp {op : CmpOp} {g : GD} (ho : OpD X P.T (compareOp op) g) (ha : DB X P a wa) (hb : DB X P b wb) (hm : behindInMarks op b = false := by first | exact nomark _ | rfl) : DT X P (.Compare a [op] [b] pos) (wTst (wBin g wa wb)) :=
  ⟨pt_imp (pt_cmpR ho ha.pe hb.pe hm) (tst_imp bin_imp)⟩
theorem dt_val (h : DE X P e w) (he : ∀ whole, isTrue e X.env whole = (do let v ← whole; standAt e.pos; holding [v] (truthy v)) := by intro _; rfl) : DT X P e (wTst w) :=
  ⟨pt_imp (pt_val h.pe he) fun σ H Q q => tst_imp (t := tE P w) (fun _ _ _ z => z) σ H Q q⟩
/-- one-place -/
def wUn (g : D → (D → Prop) → Prop) (wa : WE) : WE := fun G Om Q R => wa G Om (fun x O => g x fun z => Q z O) R
def UnD (X : Cx) (T : Th) (f : Value → Sem Value) (g : D → (D → Prop) → Prop) : Prop :=
  UnR X f fun x H Q => ∃ (F Pm : Addr → Prop) (dx : D) (Qd : D → Prop), RepT T F Pm H dx x ∧ g dx Qd ∧ ∀ z, Qd z → ∀ v H', Nw H H' → Rep T F H' z v → Q v H'
theorem de_un {op : UnaryOp} {g : D → (D → Prop) → Prop} (ho : UnD X P.T (unaryOp op) g) (ha : DB X P a wa) : DE X P (.UnaryOp op a pos) (wUn g wa) := by
  refine ⟨pe_imp (pe_un ho ha.pe) fun σ H Q q => ?_⟩
  obtain ⟨G, W, Q0, R0, S, q, ex, hq⟩ := q
  refine ⟨G, W, _, R0, S, q, ex, fun d O h1 v H1 W1 s1 e1 r => ⟨W1.F, W1.pm, d, _, r, h1, fun z hz u H2 xt r2 => ?_⟩⟩
  exact hq z O hz u H2 W1 (s1.trans (Step.ext s1.ok xt)) e1 r2

/-! ### and, or, not, a if t else b -/
def wtAnd (t u : WT) : WT := fun G Om Q R => t G Om (fun b O => br b (u G O Q R) (Q false O)) R
def wtOr (t u : WT) : WT := fun G Om Q R => t G Om (fun b O => br b (Q true O) (u G O Q R)) R
def wtNot (t : WT) : WT := fun G Om Q R => t G Om (fun b O => Q (!b) O) R
structure DW (X : Cx) (P : Pm) (e : Expr) (w : WT) : Prop where
  pw : PW X e (tT P w)
theorem DW.t {w : WT} (h : DW X P e w) : DT X P e w := ⟨h.pw.pt⟩
variable {ta tb tc : WT} {rest : List Expr}
theorem dw_and1 (h : DT X P a ta) : DW X P (.BoolOp .And [a] pos) ta := ⟨pw_and1 h.pt⟩
theorem dw_or1 (h : DT X P a ta) : DW X P (.BoolOp .Or [a] pos) ta := ⟨pw_or1 h.pt⟩
theorem dw_and (h : DT X P a ta) (k : DW X P (.BoolOp .And (b :: rest) pos) tb) : DW X P (.BoolOp .And (a :: b :: rest) pos) (wtAnd ta tb) := by
  refine ⟨pw_imp (pw_and h.pt k.pw) fun σ H Q q => ?_⟩
  obtain ⟨G, W, Q0, R0, S, q, ex, hq⟩ := q
  refine ⟨G, W, _, R0, S, q, ex, fun d O h1 H1 W1 s1 e1 => ?_⟩
  subst e1
  cases d with
  | true => exact ⟨G, W1, Q0, R0, S.step s1, h1, ex.step s1, fun d' O' h' H' W' s' e' => hq d' O' h' H' W' (s1.trans s') e'⟩
  | false => exact hq false _ h1 H1 W1 s1 rfl
theorem dw_or (h : DT X P a ta) (k : DW X P (.BoolOp .Or (b :: rest) pos) tb) : DW X P (.BoolOp .Or (a :: b :: rest) pos) (wtOr ta tb) := by
  refine ⟨pw_imp (pw_or h.pt k.pw) fun σ H Q q => ?_⟩
  obtain ⟨G, W, Q0, R0, S, q, ex, hq⟩ := q
  refine ⟨G, W, _, R0, S, q, ex, fun d O h1 H1 W1 s1 e1 => ?_⟩
  subst e1
  cases d with
  | false => exact ⟨G, W1, Q0, R0, S.step s1, h1, ex.step s1, fun d' O' h' H' W' s' e' => hq d' O' h' H' W' (s1.trans s') e'⟩
  | true => exact hq true _ h1 H1 W1 s1 rfl
theorem dt_not (h : DT X P a ta) : DT X P (.UnaryOp .Not a pos) (wtNot ta) := by
  refine ⟨pt_imp (pt_not h.pt) fun σ H Q q => ?_⟩
  obtain ⟨G, W, Q0, R0, S, q, ex, hq⟩ := q
  exact ⟨G, W, _, R0, S, q, ex, fun d O h1 H1 W1 s1 e1 => hq _ O h1 H1 W1 s1 e1⟩
/-- .. as values: all but the last True or False -/
def wAnd (t u : WE) : WE := fun G Om Q R => t G Om (fun b O => match b with | .bl b => br b (u G O Q R) (Q (.bl false) O) | _ => False) R
def wOr (t u : WE) : WE := fun G Om Q R => t G Om (fun b O => match b with | .bl b => br b (Q (.bl true) O) (u G O Q R) | _ => False) R
def wNot (t : WE) : WE := fun G Om Q R => t G Om (fun b O => match b with | .bl b => Q (.bl (!b)) O | _ => False) R
theorem de_one {op} (h : DE X P a w) : DE X P (.BoolOp op [a] pos) w := ⟨pe_one h.pe⟩
theorem de_and (h : DE X P a wa) (k : DE X P (.BoolOp .And (b :: rest) pos) wb) : DE X P (.BoolOp .And (a :: b :: rest) pos) (wAnd wa wb) := by
  refine ⟨pe_imp (pe_and h.pe k.pe) fun σ H Q q => ?_⟩
  obtain ⟨G, W, Q0, R0, S, q, ex, hq⟩ := q
  refine ⟨G, W, _, R0, S, q, ex, fun d O h1 v H1 W1 s1 e1 r => ?_⟩
  subst e1
  cases d with
  | bl b =>
    simp only [Rep] at r
    refine ⟨b, r, ?_⟩
    cases b with
    | true => exact ⟨G, W1, Q0, R0, S.step s1, h1, ex.step s1, fun d' O' h' v' H' W' s' e' r' => hq d' O' h' v' H' W' (s1.trans s') e' r'⟩
    | false => exact hq _ _ h1 _ H1 W1 s1 rfl (by simp [Rep])
  | _ => exact h1.elim
theorem de_or (h : DE X P a wa) (k : DE X P (.BoolOp .Or (b :: rest) pos) wb) : DE X P (.BoolOp .Or (a :: b :: rest) pos) (wOr wa wb) := by
  refine ⟨pe_imp (pe_or h.pe k.pe) fun σ H Q q => ?_⟩
  obtain ⟨G, W, Q0, R0, S, q, ex, hq⟩ := q
  refine ⟨G, W, _, R0, S, q, ex, fun d O h1 v H1 W1 s1 e1 r => ?_⟩
  subst e1
  cases d with
  | bl b =>
    simp only [Rep] at r
    refine ⟨b, r, ?_⟩
    cases b with
    | false => exact ⟨G, W1, Q0, R0, S.step s1, h1, ex.step s1, fun d' O' h' v' H' W' s' e' r' => hq d' O' h' v' H' W' (s1.trans s') e' r'⟩
    | true => exact hq _ _ h1 _ H1 W1 s1 rfl (by simp [Rep])
  | _ => exact h1.elim
theorem de_not (h : DE X P a wa) : DE X P (.UnaryOp .Not a pos) (wNot wa) := by
  refine ⟨pe_imp (pe_not h.pe) fun σ H Q q => ?_⟩
  obtain ⟨G, W, Q0, R0, S, q, ex, hq⟩ := q
  refine ⟨G, W, _, R0, S, q, ex, fun d O h1 v H1 W1 s1 e1 r => ?_⟩
  cases d with
  | bl b =>
    simp only [Rep] at r
    exact ⟨b, r, hq _ _ h1 _ H1 W1 s1 e1 (by simp [Rep])⟩
  | _ => exact h1.elim
def wIf (t : WT) (u v : WE) : WE := fun G Om Q R => t G Om (fun b O => br b (u G O Q R) (v G O Q R)) R
theorem de_if (hc : DT X P c tc) (ha : DE X P a wa) (hb : DE X P b wb) : DE X P (.IfExp c a b pos) (wIf tc wa wb) := by
  refine ⟨pe_imp (pe_ifExp hc.pt ha.pe hb.pe) fun σ H Q q => ?_⟩
  obtain ⟨G, W, Q0, R0, S, q, ex, hq⟩ := q
  refine ⟨G, W, _, R0, S, q, ex, fun d O h1 H1 W1 s1 e1 => ?_⟩
  subst e1
  cases d with
  | true => exact ⟨G, W1, Q0, R0, S.step s1, h1, ex.step s1, fun d' O' h' v' H' W' s' e' r' => hq d' O' h' v' H' W' (s1.trans s') e' r'⟩
  | false => exact ⟨G, W1, Q0, R0, S.step s1, h1, ex.step s1, fun d' O' h' v' H' W' s' e' r' => hq d' O' h' v' H' W' (s1.trans s') e' r'⟩

/-! ### arguments, displays -/
def waNil : WA := fun _ Om Q _ => Q [] Om
def waCons (w : WE) (r : WA) : WA := fun G Om Q R => w G Om (fun d O => r G O (fun ds O' => Q (d :: ds) O') R) R
theorem da_nil : DA X P [] waNil := ⟨pa_imp pa_nil fun σ H Q ⟨G, W, Q0, R0, S, q, ex, hq⟩ => hq [] _ q [] H W (Step.refl S.ok) rfl .nil⟩
theorem da_cons {wr : WA} (h : DE X P e w) (r : DA X P es wr) (hs : starEach (e :: es) X.env = (false, eval e X.env) :: starEach es X.env := by rfl) : DA X P (e :: es) (waCons w wr) := by
  refine ⟨pa_imp (pa_cons h.pe r.pa hs) fun σ H Q q => ?_⟩
  obtain ⟨G, W, Q0, R0, S, q, ex, hq⟩ := q
  refine ⟨G, W, _, R0, S, q, ex, fun d O h1 v H1 W1 s1 e1 r1 => ?_⟩
  subst e1
  refine ⟨G, W1, _, R0, S.step s1, h1, ex.step s1, fun ds O' h' vs H' W' s' e' r' => ?_⟩
  exact hq _ O' h' _ H' W' (s1.trans s') e' (.cons (Rep.kp (s'.kp s1.ok) _ _ r1) r')
theorem dab_nil : DAB X P [] waNil := ⟨pa_imp pa_nil fun σ H Q ⟨G, W, Q0, R0, S, q, ex, hq⟩ => hq [] _ q [] H W (Step.refl S.ok) rfl rfl⟩
theorem dab_cons {wr : WA} (h : DB X P e w) (r : DAB X P es wr) (hs : starEach (e :: es) X.env = (false, eval e X.env) :: starEach es X.env := by rfl) : DAB X P (e :: es) (waCons w wr) := by
  refine ⟨pa_imp (pa_cons h.pe r.pa hs) fun σ H Q q => ?_⟩
  obtain ⟨G, W, Q0, R0, S, q, ex, hq⟩ := q
  refine ⟨G, W, _, R0, S, q, ex, fun d O h1 v H1 W1 s1 e1 r1 => ?_⟩
  subst e1
  refine ⟨G, W1, _, R0, S.step s1, h1, ex.step s1, fun ds O' h' vs H' W' s' e' r' => ?_⟩
  exact hq _ O' h' _ H' W' (s1.trans s') e' ⟨v, vs, rfl, r1.step s' s1.ok, r'⟩
theorem sz16 {n : Nat} (h : n ≤ 16777216) : n ≤ sizeLine := Nat.le_trans h (by decide)
/-- a tuple -/
def wTup (w : WA) : WE := fun G Om Q R => w G Om (fun ds O => ds.length ≤ 16777216 ∧ Q (.tup ds) O) R
theorem de_tup {w : WA} {x1} (h : DA X P es w) : DE X P (.Tuple es x1 pos) (wTup w) := by
  refine ⟨pe_imp (pe_tup h.pa) fun σ H Q q => ?_⟩
  obtain ⟨G, W, Q0, R0, S, q, ex, hq⟩ := q
  refine ⟨G, W, _, R0, S, q, ex, fun ds O h1 vs H1 W1 s1 e1 r1 => ⟨sz16 (by rw [r1.len]; exact h1.1), fun p hp => ?_⟩⟩
  refine hq _ O h1.2 _ _ W1 (s1.trans (Step.new1 s1.ok hp)) e1 ?_
  simp only [Rep]
  exact ⟨p, vs, rfl, .inl ⟨upd_same, nF s1.ok hp⟩, Reps.kp ((Step.new1 s1.ok hp).kp s1.ok) _ _ r1⟩

/-! ### new things: frozen at once, or for an own name -/
/-- the value is a new thing that nobody else knows; it may be changed -/
def tF (P : Pm) (w : Gam → Om → (MO → Om → Prop) → RX → Prop) : TE := fun σ H Q => ∃ G W Q0 R0, Sta P G W σ H ∧ w G W.Om Q0 R0 ∧ exOk P W H σ R0 ∧
  ∀ m Om', Q0 m Om' → ∀ p H' W', Step P.T W H W' H' → W'.Om = Om' → H p = none → W'.F p → ¬ W'.pm p → W'.Om p = none → MRep P.T W'.F (fun _ => False) H' p m → Q (.ref p) H'
abbrev WF := Gam → Om → (MO → Om → Prop) → RX → Prop
structure DF (X : Cx) (P : Pm) (e : Expr) (w : WF) : Prop where
  pe : PE X e (tF P w)
def wFrz (w : WF) : WE := fun G Om Q R => w G Om (fun m O => Q m.see O) R
def noDct : MO → Prop
  | .dct _ _ => False
  | _ => True
theorem rep_see {T : Th} {F : Addr → Prop} {H : Hp} {p : Addr} (n : ¬ F p) : ∀ {m : MO}, noDct m → MRep T F (fun _ => False) H p m → Rep T F H m.see (.ref p)
  | .lst ds, _, ⟨vs, h, r⟩ => by simp only [MO.see, Rep]; exact ⟨p, vs, rfl, h, n, r⟩
  | .dct ks ds, z, _ => z.elim
  | .ins c ns ds, _, ⟨dx, vs, h, l, r⟩ => by simp only [MO.see, Rep]; exact ⟨p, dx, vs, rfl, h, n, l, r⟩
  | .abs 0, _, ⟨c, cs, s, h1, h2, _⟩ => (((h2 p).mpr (.inl rfl))).elim
  | .abs (_ + 1), _, ⟨_, h1, _⟩ => ((h1 p).mpr rfl).elim
/-- what comes may be locked -/
def tLock (t : TE) : TE := fun σ H Q => t σ H fun v H1 => Q v H1 ∨ ∃ d u, v = .ref d ∧ H1 d = some u ∧ Mut (some u) ∧ ∀ od, Q v (upd H1 d (.frz od u))
theorem pe_lock {t : TE} (h : PE X e t) : PE X e (tLock t) := by
  refine ⟨fun pins s σ H Q I q => ?_⟩
  refine thn (h.run pins s σ H _ I q) fun v s1 ⟨x, H1, I1, r1, q1⟩ => ?_
  rcases q1 with q1 | ⟨d, u, ex, hd, mu, q1⟩
  · exact ⟨x, H1, I1, r1, q1⟩
  · obtain ⟨od, I2⟩ := I1.lock hd mu
    exact ⟨x, _, I2, r1, q1 od⟩
/-- an own thing becomes a value: a dict is locked for good -/
theorem own_see {T : Th} {W0 W1 : Wd} {H0 H1 : Hp} {p : Addr} {m : MO} {Q : V → Hp → Prop} (s1 : Step T W0 H0 W1 H1) (ok : WOk T W0 H0) (n1 : H0 p = none) (n2 : W1.F p) (n3 : ¬ W1.pm p) (r : MRep T W1.F (fun _ => False) H1 p m)
    (hq : ∀ H', Step T W0 H0 (W1.del p) H' → Kp W1.F H1 (W1.del p).F H' → Rep T (W1.del p).F H' m.see (.ref p) → Q (.ref p) H') :
    Q (.ref p) H1 ∨ ∃ d u, (V.ref p) = .ref d ∧ H1 d = some u ∧ Mut (some u) ∧ ∀ od, Q (.ref p) (upd H1 d (.frz od u)) := by
  have kl : Kp W1.F H1 (W1.del p).F H1 := Kp.less fun b h => h.1
  by_cases z : noDct m
  · exact .inl (hq H1 (s1.del ok n1 n3) kl (rep_see (fun z => z.2 rfl) z (noFp (fp := fun _ => False) kl rfl r)))
  · cases m <;> try exact absurd trivial z
    rename_i ks ds
    obtain ⟨vs, h, l, r⟩ := r
    refine .inr ⟨p, _, rfl, h, trivial, fun od => ?_⟩
    have k1 : Kp W1.F H1 W1.F (upd H1 p (.frz od (.dK (ks.zip vs)))) := Kp.mut n2
    have k2 : Kp W1.F (upd H1 p (.frz od (.dK (ks.zip vs)))) (W1.del p).F (upd H1 p (.frz od (.dK (ks.zip vs)))) := Kp.less fun b h => h.1
    refine hq _ ((s1.mutO n1 n2 n3).del ok n1 n3) ⟨k1.same', fun b h => .inl h.1, k1.trk⟩ ?_
    · simp only [MO.see, Rep]
      exact ⟨p, vs, rfl, ⟨od, upd_same⟩, fun z => z.2 rfl, l, Reps.kp k2 _ _ (Reps.kp k1 _ _ r)⟩
theorem DF.fz {w : WF} (h : DF X P e w) : DE X P e (wFrz w) := by
  refine ⟨pe_imp (pe_lock h.pe) fun σ H Q q => ?_⟩
  obtain ⟨G, W, Q0, R0, S, q, ex, hq⟩ := q
  refine ⟨G, W, _, R0, S, q, ex, fun m O h1 p H1 W1 s1 e1 n1 n2 n3 n4 r => ?_⟩
  exact own_see s1 S.ok n1 n2 n3 r fun H' s2 _ r2 => hq _ O h1 _ H' (W1.del p) s2 e1 r2
theorem DF.br {w : WF} (h : DF X P e w) : DB X P e (wFrz w) := h.fz.br
/-- what is laid at a new place -/
def MRo (T : Th) (F : Addr → Prop) (H : Hp) : MO → HO → Prop
  | .lst ds, .lst vs => Reps T F H ds vs
  | .dct ks ds, .dK kvs => ∃ vs, kvs = ks.zip vs ∧ ks.length = ds.length ∧ Reps T F H ds vs
  | _, _ => False
theorem MRo.at_ {T : Th} {F F' : Addr → Prop} {H : Hp} {p : Addr} {m : MO} {o : HO} (h : MRo T F H m o) (k : Kp F H F' (upd H p o)) : MRep T F' (fun _ => False) (upd H p o) p m := by
  cases m <;> cases o <;> first | exact h.elim | skip
  · exact ⟨_, upd_same, Reps.kp k _ _ h⟩
  · obtain ⟨vs, e, l, r⟩ := h
    subst e
    exact ⟨vs, upd_same, l, Reps.kp k _ _ r⟩
/-- the end of a rule that lays one new thing -/
theorem newOwn_fin {W : Wd} {H : Hp} {p : Addr} {o : HO} {m : MO} (ok : WOk P.T W H) (hp : H p = none) (r : MRo P.T W.F H m o) :
    Step P.T W H (W.add p) (upd H p o) ∧ (W.add p).F p ∧ ¬ (W.add p).pm p ∧ (W.add p).Om p = none ∧ MRep P.T (W.add p).F (fun _ => False) (upd H p o) p m := by
  have s : Step P.T W H (W.add p) (upd H p o) := Step.newOwn ok hp fun q z => by subst z; cases m <;> exact r.elim
  have np : ¬ W.pm p := fun z => ok.trk p (ok.sub p z) hp
  refine ⟨s, .inr rfl, np, ?_, r.at_ (s.kp ok)⟩
  cases q : W.Om p with
  | none => exact q
  | some m' => exact (np ⟨p, by rw [q]; simp, (ok.at_ p m' q).2⟩).elim
def wLst (w : WA) : WF := fun G Om Q R => w G Om (fun ds O => ds.length ≤ 16777216 ∧ Q (.lst ds) O) R
theorem df_lst {w : WA} (h : DA X P es w) : DF X P (.List es pos) (wLst w) := by
  refine ⟨pe_imp (pe_lst h.pa) fun σ H Q q => ?_⟩
  obtain ⟨G, W, Q0, R0, S, q, ex, hq⟩ := q
  refine ⟨G, W, _, R0, S, q, ex, fun ds O h1 vs H1 W1 s1 e1 r1 => ⟨sz16 (by rw [r1.len]; exact h1.1), fun p hp => ?_⟩⟩
  obtain ⟨s2, a1, a2, a3, a4⟩ := newOwn_fin (o := .lst vs) (m := .lst ds) s1.ok hp r1
  exact hq _ O h1.2 p _ (W1.add p) (s1.trans s2) e1 (s1.back hp) a1 a2 a3 a4
end
end N

set_option Elab.async false
set_option linter.all false
set_option maxRecDepth 100000
set_option maxHeartbeats 0
/-! NC: the operators over data -/
namespace N
open PySem PySem.Spec PyProof.Rows L2
section
variable {X : Cx} {T : Th}
/-- ints under a condition -/
def gI (C : Int → Int → Prop) (f : Int → Int → Int) : GD
  | .int i, .int j, Q => C i j ∧ Q (.int (f i j))
  | _, _, _ => False
def gI0 (f : Int → Int → Int) : GD
  | .int i, .int j, Q => Q (.int (f i j))
  | _, _, _ => False
def gB0 (f : Int → Int → Bool) : GD
  | .int i, .int j, Q => Q (.bl (f i j))
  | _, _, _ => False
theorem od_I {f : Value → Value → Sem Value} {C : Int → Int → Prop} {g : Int → Int → Int} (h : OpR X f (rI C fun i j => .int (g i j))) : OpD X T f (gI C g) := by
  intro pins s σ H x y v u Q I rx ry ⟨F, Pm, dx, dy, Qd, hx, hy, hF, hg, hq⟩
  cases dx <;> try exact hg.elim
  cases dy <;> try exact hg.elim
  exact h pins s σ H x y v u Q I rx ry ⟨_, _, hx, hy, hg.1, hq _ hg.2 _ H (fun _ _ z => z) (by simp [Rep])⟩
theorem od_I0 {f : Value → Value → Sem Value} {g : Int → Int → Int} (h : OpR X f (rI0 fun i j => .int (g i j))) : OpD X T f (gI0 g) := by
  intro pins s σ H x y v u Q I rx ry ⟨F, Pm, dx, dy, Qd, hx, hy, hF, hg, hq⟩
  cases dx <;> try exact hg.elim
  cases dy <;> try exact hg.elim
  exact h pins s σ H x y v u Q I rx ry ⟨_, _, hx, hy, hq _ hg _ H (fun _ _ z => z) (by simp [Rep])⟩
theorem od_B0 {f : Value → Value → Sem Value} {g : Int → Int → Bool} (h : OpR X f (rI0 fun i j => .bl (g i j))) : OpD X T f (gB0 g) := by
  intro pins s σ H x y v u Q I rx ry ⟨F, Pm, dx, dy, Qd, hx, hy, hF, hg, hq⟩
  cases dx <;> try exact hg.elim
  cases dy <;> try exact hg.elim
  exact h pins s σ H x y v u Q I rx ry ⟨_, _, hx, hy, hq _ hg _ H (fun _ _ z => z) (by simp [Rep])⟩
abbrev gSub : GD := gI0 fun i j => i - j
abbrev gAnd : GD := gI0 Builtin.bitAnd
abbrev gOr : GD := gI0 Builtin.bitOr
abbrev gXor : GD := gI0 Builtin.bitXor
abbrev gMod : GD := gI (fun _ j => 0 < j) fun i j => i % j
abbrev gShr : GD := gI (fun _ j => 0 ≤ j) fun i j => i / 2 ^ j.toNat
abbrev gShl : GD := gI CShl fun i j => i * 2 ^ j.toNat
abbrev gPow : GD := gI CPow fun i j => i ^ j.toNat
/-- a divisor that the model takes -/
def CDv (i j : Int) : Prop := CDiv i j ∨ CDivW i j
abbrev gDiv : GD := gI CDv fun i j => i / j
theorem od_sub : OpD X T (binaryOp .Sub) gSub := od_I0 op_sub
theorem od_and : OpD X T (binaryOp .BitAnd) gAnd := od_I0 op_and
theorem od_or : OpD X T (binaryOp .BitOr) gOr := od_I0 op_or
theorem od_xor : OpD X T (binaryOp .BitXor) gXor := od_I0 op_xor
theorem od_mod : OpD X T (binaryOp .Mod) gMod := od_I op_mod
theorem od_shr : OpD X T (binaryOp .RShift) gShr := od_I op_shr
theorem od_shl : OpD X T (binaryOp .LShift) gShl := od_I op_shlW
theorem od_pow : OpD X T (binaryOp .Pow) gPow := od_I op_pow
theorem op_dv : OpR X (binaryOp .FloorDiv) (rI CDv fun i j => .int (i / j)) := by
  intro pins s σ H x y v u Q I rx ry ⟨i, j, e1, e2, h, q⟩
  rcases h with h | h
  · exact op_fdiv pins s σ H x y v u Q I rx ry ⟨i, j, e1, e2, h, q⟩
  · exact op_fdivW pins s σ H x y v u Q I rx ry ⟨i, j, e1, e2, h, q⟩
theorem od_div : OpD X T (binaryOp .FloorDiv) gDiv := od_I op_dv
abbrev gLt : GD := gB0 fun i j => decide (i < j)
abbrev gLe : GD := gB0 fun i j => decide (i ≤ j)
abbrev gGt : GD := gB0 fun i j => decide (j < i)
abbrev gGe : GD := gB0 fun i j => decide (j ≤ i)
theorem od_lt : OpD X T (compareOp .Lt) gLt := od_B0 op_lt
theorem od_le : OpD X T (compareOp .LtE) gLe := od_B0 op_le
theorem od_gt : OpD X T (compareOp .Gt) gGt := od_B0 op_gt
theorem od_ge : OpD X T (compareOp .GtE) gGe := od_B0 op_ge
/-- in place, at a name -/
theorem id_sub : OpD X T (inplaceOp .Sub) gSub := od_I0 iop_sub
theorem id_and : OpD X T (inplaceOp .BitAnd) gAnd := od_I0 iop_and
theorem id_or : OpD X T (inplaceOp .BitOr) gOr := od_I0 iop_or
theorem id_xor : OpD X T (inplaceOp .BitXor) gXor := od_I0 iop_xor
theorem id_mod : OpD X T (inplaceOp .Mod) gMod := od_I iop_mod
theorem id_shr : OpD X T (inplaceOp .RShift) gShr := od_I iop_shr
theorem id_shl : OpD X T (inplaceOp .LShift) gShl := od_I iop_shlW
theorem id_addI : OpD X T (inplaceOp .Add) (gI0 fun i j => i + j) := od_I0 iop_add

/-! ### + -/
def gAdd : GD
  | .int i, .int j, Q => Q (.int (i + j))
  | .tup a, .tup b, Q => a.length + b.length ≤ 16777216 ∧ Q (.tup (a ++ b))
  | .lst a, .lst b, Q => a.length + b.length ≤ 16777216 ∧ Q (.lst (a ++ b))
  | .str a, .str b, Q => a.length + b.length ≤ 16777216 ∧ Q (.str (a ++ b))
  | _, _, _ => False
theorem upN {F : Addr → Prop} {H : Hp} (hF : ∀ b, F b → H b ≠ none) {p : Addr} (hp : H p = none) {o : HO} : Kp F H F (upd H p o) ∧ ¬ F p :=
  ⟨⟨fun b u e _ _ => ext_upd hp b u e, fun _ h => .inl h, trk_upd⟩, fun z => hF p z hp⟩
theorem tupAt {K : PySem.W.Frag} {F : Addr → Prop} {H : Hp} {a : Addr} {vs : List V} (h : (H a = some (.tup vs) ∧ ¬ F a) ∨ KT K a vs) : SqT K H a vs := h.elim (fun h => .of h.1) KT.to
theorem od_add (hK : T.K = X.K) : OpD X T (binaryOp .Add) gAdd := by
  intro pins s σ H x y v u Q I rx ry ⟨F, Pm, dx, dy, Qd, hx, hy, hF, hg, hq⟩
  cases dx <;> try exact hg.elim
  · cases dy <;> try exact hg.elim
    exact op_add pins s σ H x y v u Q I rx ry ⟨_, _, hx, hy, hq _ hg _ H (fun _ _ z => z) (by simp [Rep])⟩
  · cases dy <;> try exact hg.elim
    exact op_add_str pins s σ H x y v u Q I rx ry ⟨_, _, hx, hy, sz16 hg.1, hq _ hg.2 _ H (fun _ _ z => z) (by simp [Rep])⟩
  · rename_i xs
    cases dy <;> try exact hg.elim
    rename_i ys
    simp only [RepT, Rep] at hx hy
    obtain ⟨a, vs, rfl, ha, ra⟩ := hx
    obtain ⟨b, ws, rfl, hb, rb⟩ := hy
    have h1 : SqT X.K H a vs := hK ▸ tupAt ha
    have h2 : SqT X.K H b ws := hK ▸ tupAt hb
    have l1 := ra.len
    have l2 := rb.len
    refine op_catA pins s σ H _ _ v u Q I rx ry ⟨a, b, vs, ws, rfl, rfl, h1, h2, sz16 (by rw [l1, l2]; exact hg.1), fun e => ?_, fun _ e => ?_, fun _ _ p hp => ?_⟩
    · refine hq _ hg.2 _ H (fun _ _ z => z) ?_
      have e2 : xs = [] := List.eq_nil_of_length_eq_zero (by rw [← l1, e]; rfl)
      subst e2
      simp only [Rep, List.nil_append]
      exact ⟨b, ws, rfl, hb, rb⟩
    · refine hq _ hg.2 _ H (fun _ _ z => z) ?_
      have e2 : ys = [] := List.eq_nil_of_length_eq_zero (by rw [← l2, e]; rfl)
      subst e2
      simp only [Rep, List.append_nil]
      exact ⟨a, vs, rfl, ha, ra⟩
    · obtain ⟨k, n⟩ := upN hF hp (o := .tup (vs ++ ws))
      refine hq _ hg.2 _ _ (ext_upd hp) ?_
      simp only [Rep]
      exact ⟨p, _, rfl, .inl ⟨upd_same, n⟩, Reps.kp k _ _ (ra.app rb)⟩
  · cases dy <;> try exact hg.elim
    obtain ⟨a, vs, rfl, ha, _, ra⟩ := hx
    obtain ⟨b, ws, rfl, hb, _, rb⟩ := hy
    refine op_cat pins s σ H _ _ v u Q I rx ry ⟨a, b, vs, ws, rfl, rfl, ha, hb, sz16 (by rw [ra.len, rb.len]; exact hg.1), fun p hp => ?_⟩
    obtain ⟨k, n⟩ := upN hF hp (o := .lst (vs ++ ws))
    refine hq _ hg.2 _ _ (ext_upd hp) ?_
    simp only [Rep]
    exact ⟨p, _, rfl, upd_same, n, Reps.kp k _ _ (ra.app rb)⟩

/-! ### * -/
theorem tuple_mul_one (l : Addr) (items : Array Value) (n : Nat) (dd : Option Addr) (sl : Array (Option Value)) (x : Int) (u : Tok) (c0 : (decide (x < -(2 ^ 63)) || decide (x ≥ 2 ^ 63)) = false) (c1 : (items.isEmpty || x == 1) = true) :
    Meets (Builtin.«tuple.__mul__» ⟨[.ref l, .int x u], []⟩) (fun _ R s => s.heap.get? l = some { cls := .type "tuple", dict := dd, data := .seq items n, slots := sl } ∧ R (.ok (.ret (Value.ref l))) s) :=
  .of_wp fun prog w A R s h => by
    obtain ⟨hp, g, d, tk, os⟩ := s
    obtain ⟨hl, h⟩ := h
    have f1 := AutoSeq1.idx_int
    wp_walk using wpAny_loadPart' hl
    repeat (first
      | (refine wpAny_ite_false (decide_eq_false (by rw [c0]; exact Bool.false_ne_true)) ?_; wp_walk using wpAny_loadPart' hl)
      | (refine wpAny_ite_true (decide_eq_true c1) ?_; wp_walk using wpAny_loadPart' hl))
    exact ⟨_, rfl, h⟩
theorem tuple_mul_nil (l : Addr) (items : Array Value) (n : Nat) (dd : Option Addr) (sl : Array (Option Value)) (x : Int) (u : Tok) (c0 : (decide (x < -(2 ^ 63)) || decide (x ≥ 2 ^ 63)) = false) (c1 : (items.isEmpty || x == 1) = false) (c2 : (decide (x ≤ 0) || items.isEmpty) = true) :
    Meets (Builtin.«tuple.__mul__» ⟨[.ref l, .int x u], []⟩) (fun _ R s => s.heap.get? l = some { cls := .type "tuple", dict := dd, data := .seq items n, slots := sl } ∧
      R (.ok (.ret (Value.ref s.heap.objs.size))) { s with heap := s.heap.push { cls := Value.type "tuple", data := Data.seq #[] }, toks := s.toks }) :=
  .of_wp fun prog w A R s h => by
    obtain ⟨hp, g, d, tk, os⟩ := s
    obtain ⟨hl, h⟩ := h
    have f1 := AutoSeq1.idx_int
    wp_walk using wpAny_loadPart' hl
    repeat (first
      | (refine wpAny_ite_false (decide_eq_false (by rw [c0]; exact Bool.false_ne_true)) ?_; wp_walk using wpAny_loadPart' hl)
      | (refine wpAny_ite_false (decide_eq_false (by rw [c1]; exact Bool.false_ne_true)) ?_; wp_walk using wpAny_loadPart' hl)
      | (refine wpAny_ite_true (decide_eq_true c2) ?_; wp_walk using wpAny_loadPart' hl))
    exact ⟨_, rfl, h⟩
end
end N

set_option Elab.async false
set_option linter.all false
set_option maxRecDepth 100000
set_option maxHeartbeats 0
/-! NC2: *, ==, is, in, items, slices over data -/
namespace N
open PySem PySem.Spec PyProof.Rows L2
section
variable {X : Cx} {T : Th}
/-- tuple * int, any -/
def rRepN (K : PySem.W.Frag) : R2 := fun x y H Q => ∃ l k xs, x = .ref l ∧ y = .int k ∧ SqT K H l xs ∧ -(2 ^ 63) ≤ k ∧ k < 2 ^ 40 ∧ xs.length * k.toNat ≤ 16777216 ∧
  (xs = [] ∨ k = 1 → Q (.ref l) H) ∧ (xs ≠ [] → k ≠ 1 → ∀ p, H p = none → Q (.ref p) (upd H p (.tup (List.replicate k.toNat xs).flatten)))
theorem op_repN : OpR X (binaryOp .Mult) (rRepN X.K) := by
  intro pins s σ H x y v u Q I rx ry h
  obtain ⟨l, k, xs, rfl, rfl, hT, h1, h2, hz, q1, q2⟩ := h
  cases rx
  obtain ⟨t, rfl⟩ := ry
  obtain ⟨its, r, ⟨⟨cls, dd, data, sl⟩, ho, hc, n, hd⟩, hs⟩ := I.tuple hT
  simp only at hc hd
  subst hc hd
  have hle : its.length = xs.length := r.length.symm
  have hsz0 : its.toArray.size = xs.length := by rw [List.size_toArray, hle]
  have c0 : (decide (k < -(2 ^ 63)) || decide (k ≥ 2 ^ 63)) = false := by
    rw [decide_eq_false (by omega), decide_eq_false (by omega)] <;> rfl
  have go : ∀ {Q' : Value → Shared → Prop}, wpAny (model X.prog X.w) X.A (call (.builtin "tuple.__mul__") [.ref l, .int k t]) Q' X.xe s → wpAny (model X.prog X.w) X.A (binaryOp .Mult (.ref l) (.int k t)) Q' X.xe s := fun hc =>
    wpAny_binaryOp_repeat_ref (T := "tuple") (U := "int") (by decide) ⟨_, ho, rfl⟩ (fun s' => typeIs_int s' k t) noFill_tuple_mul F.fills_int_mul F.slot_int_rmul repeat_tuple F.slot_int_index.lookup
      (call_meets F.slot_int_rmul (typeIs_int s k t) F.entry_int_rmul (F.args_int_rmul_2 _ _) (int_rmul_tuple k t l its.toArray n dd sl) ⟨ho, rfl, ⟨_, ho, rfl⟩, hc⟩)
  refine go ?_
  by_cases e1 : xs = [] ∨ k = 1
  · have c1 : (its.toArray.isEmpty || k == 1) = true := by
      rcases e1 with e | e
      · have : its = [] := List.eq_nil_of_length_eq_zero (by rw [hle, e]; rfl)
        simp [this]
      · simp [e]
    exact call_meets F.slot_tuple_mul ⟨_, ho, rfl⟩ F.entry_tuple_mul (F.args_tuple_mul_2 _ _) (tuple_mul_one l its.toArray n dd sl k t c0 c1) ⟨ho, .ref l, H, I, rfl, q1 e1⟩
  · have hne : xs ≠ [] := fun e => e1 (.inl e)
    have hk : k ≠ 1 := fun e => e1 (.inr e)
    have hi : its.toArray.isEmpty = false := by
      cases its with
      | nil => exact absurd (List.eq_nil_of_length_eq_zero (by rw [← hle]; rfl)) hne
      | cons a b => rfl
    have c1 : (its.toArray.isEmpty || k == 1) = false := by
      rw [hi, Bool.false_or]
      exact beq_eq_false_iff_ne.mpr hk
    by_cases h0 : k ≤ 0
    · have c2 : (decide (k ≤ 0) || its.toArray.isEmpty) = true := by simp [h0]
      have e0 : k.toNat = 0 := by omega
      refine call_meets F.slot_tuple_mul ⟨_, ho, rfl⟩ F.entry_tuple_mul (F.args_tuple_mul_2 _ _) (tuple_mul_nil l its.toArray n dd sl k t c0 c1 c2) ⟨ho, ?_⟩
      refine ⟨.ref s.heap.objs.size, _, I.laid (t' := s.toks) (o := .tup []) (fun b ob q => Heap.get?_push_of_some _ q) (Nat.le_refl _) ?_, rfl, ?_⟩
      · exact ⟨Nat.zero_le _, [], .nil, IsTup.new _ _⟩
      · have := q2 hne hk _ (I.hok.fresh (Nat.le_refl _))
        rw [e0] at this
        exact this
    · have hm : ((its.toArray.size : Nat) : Int) * k ≤ 16777216 := by
        rw [hsz0]
        have e : (k.toNat : Int) = k := by omega
        rw [← e]
        have := Int.ofNat_le.mpr hz
        simpa using this
      have flen : (List.replicate k.toNat its).flatten.length ≤ sizeLine := by
        rw [PyProof.Rows.lm_len_rep_flat, hle, sizeLine_eq, Nat.mul_comm]
        exact hz
      have c2 : (decide (k ≤ 0) || its.toArray.isEmpty) = false := by
        rw [hi, Bool.or_false]
        exact decide_eq_false (by omega)
      have c4 : Builtin.Tuple.tupleTooMany (((its.toArray.size : Nat) : Int) * k) = false := by
        unfold Builtin.Tuple.tupleTooMany
        rw [sizeLine_eq]
        exact decide_eq_false (by omega)
      refine call_meets F.slot_tuple_mul ⟨_, ho, rfl⟩ F.entry_tuple_mul (F.args_tuple_mul_2 _ _) (tuple_mulW l its.toArray n dd sl k t c0 c1 c2 (by omega) c4 (by rw [size_rep, List.size_toArray]; exact flen)) ⟨ho, ?_⟩
      rw [size_rep]
      refine ⟨.ref s.heap.objs.size, _, I.laid (t' := s.toks) (o := .tup (List.replicate k.toNat xs).flatten) (fun b ob q => Heap.get?_push_of_some _ q) (Nat.le_refl _) ?_, rfl, q2 hne hk _ (I.hok.fresh (Nat.le_refl _))⟩
      exact ⟨by rw [PyProof.Rows.lm_len_rep_flat, sizeLine_eq, Nat.mul_comm]; exact hz, _, r.rep k.toNat, IsTup.new _ _⟩
def gMul : GD
  | .int i, .int j, Q => IntMulOk i j ∧ Q (.int (i * j))
  | .tup xs, .int k, Q => (-(2 ^ 63) ≤ k ∧ k < 2 ^ 40 ∧ xs.length * k.toNat ≤ 16777216) ∧ Q (.tup (List.replicate k.toNat xs).flatten)
  | .lst xs, .int k, Q => (-(2 ^ 63) ≤ k ∧ k < 2 ^ 40 ∧ xs.length * k.toNat ≤ 16777216) ∧ Q (.lst (List.replicate k.toNat xs).flatten)
  | _, _, _ => False
theorem op_mulA : OpR X (binaryOp .Mult) (rI IntMulOk fun i j => .int (i * j)) := opI fun _ _ _ _ _ _ _ hc q => mul_int q hc
theorem od_mul (hK : T.K = X.K) : OpD X T (binaryOp .Mult) gMul := by
  intro pins s σ H x y v u Q I rx ry ⟨F, Pm, dx, dy, Qd, hx, hy, hF, hg, hq⟩
  cases dx <;> try exact hg.elim
  · cases dy <;> try exact hg.elim
    exact op_mulA pins s σ H x y v u Q I rx ry ⟨_, _, hx, hy, hg.1, hq _ hg.2 _ H (fun _ _ z => z) (by simp [Rep])⟩
  · rename_i xs
    cases dy <;> try exact hg.elim
    rename_i k
    simp only [RepT, Rep] at hx hy
    obtain ⟨a, vs, rfl, ha, ra⟩ := hx
    have l1 := ra.len
    obtain ⟨⟨h1, h2, h3⟩, hg⟩ := hg
    refine op_repN pins s σ H _ _ v u Q I rx ry ⟨a, k, vs, rfl, hy, hK ▸ tupAt ha, h1, h2, by rw [l1]; exact h3, fun e => ?_, fun _ _ p hp => ?_⟩
    · refine hq _ hg _ H (fun _ _ z => z) ?_
      simp only [Rep]
      refine ⟨a, vs, rfl, ha, ?_⟩
      rcases e with e | e
      · have : xs = [] := List.eq_nil_of_length_eq_zero (by rw [← l1, e]; rfl)
        subst this
        rw [show (List.replicate k.toNat ([] : List D)).flatten = [] by simp]
        exact ra
      · subst e
        simpa using ra
    · obtain ⟨kk, n⟩ := upN hF hp (o := .tup (List.replicate k.toNat vs).flatten)
      refine hq _ hg _ _ (ext_upd hp) ?_
      simp only [Rep]
      exact ⟨p, _, rfl, .inl ⟨upd_same, n⟩, Reps.kp kk _ _ (ra.rep _)⟩
  · rename_i xs
    cases dy <;> try exact hg.elim
    rename_i k
    obtain ⟨a, vs, rfl, ha, _, ra⟩ := hx
    have l1 := ra.len
    obtain ⟨⟨h1, h2, h3⟩, hg⟩ := hg
    refine op_rep pins s σ H _ _ v u Q I rx ry ⟨a, k, vs, rfl, hy, ha, h1, by omega, sz16 (by rw [l1]; exact h3), fun p hp => ?_⟩
    obtain ⟨kk, n⟩ := upN hF hp (o := .lst (List.replicate k.toNat vs).flatten)
    refine hq _ hg _ _ (ext_upd hp) ?_
    simp only [Rep]
    exact ⟨p, _, rfl, upd_same, n, Reps.kp kk _ _ (ra.rep _)⟩
theorem id_mulI : OpD X T (inplaceOp .Mult) (gI CMul fun i j => i * j) := od_I iop_mul

/-! ### == over data -/
mutual
def toPy : D → PyData
  | .non => .none
  | .bl b => .bool b
  | .int i => .int i
  | .str x => .str x
  | .tup xs => .tuple (toPys xs)
  | .lst xs => .list (toPys xs)
  | _ => .dict []
def toPys : List D → List PyData
  | [] => []
  | d :: ds => toPy d :: toPys ds
end
/-- == is told of it: no objects, no dicts, not too deep -/
def shp (d : D) : Bool := SeqAt.shaped (toPy d)
def deq (x y : D) : Bool := PyData.eqv (toPy x) (toPy y)
mutual
theorem rep_dp {F Pm : Addr → Prop} {H : Hp} : ∀ (d : D) (v : V), Rep T F H d v → (toPy d).canLay0 = true → Dp T.K H v (toPy d)
  | .non, v, h, _ => by simp only [Rep] at h; subst h; exact .non
  | .bl b, v, h, _ => by simp only [Rep] at h; subst h; exact .bl b
  | .int i, v, h, _ => by simp only [Rep] at h; subst h; exact .int i
  | .str x, v, h, _ => by simp only [Rep] at h; subst h; exact .str x
  | .tup xs, v, h, c => by
    simp only [Rep] at h
    obtain ⟨a, vs, e, h, r⟩ := h
    subst e
    have c : (PyData.tuple (toPys xs)).canLay0 = true := by simpa only [toPy] using c
    have c : PyData.canLayAll0 (toPys xs) = true := by simpa only [PyData.canLay0] using c
    simp only [toPy]
    exact .tup (tupAt h) (reps_dp (Pm := Pm) xs vs r c)
  | .lst xs, v, h, c => by
    simp only [Rep] at h
    obtain ⟨a, vs, e, h, _, r⟩ := h
    subst e
    have c : (PyData.list (toPys xs)).canLay0 = true := by simpa only [toPy] using c
    have c : PyData.canLayAll0 (toPys xs) = true := by simpa only [PyData.canLay0] using c
    simp only [toPy]
    exact .lst (.of h) (reps_dp (Pm := Pm) xs vs r c)
  | .ty n, v, h, c => by simp [toPy, PyData.canLay0] at c
  | .ref a, v, h, c => by simp [toPy, PyData.canLay0] at c
  | .dct _ _, v, h, c => by simp [toPy, PyData.canLay0] at c
  | .ins _ _ _, v, h, c => by simp [toPy, PyData.canLay0] at c
  | .scr _, v, h, c => by simp [toPy, PyData.canLay0] at c
theorem reps_dp {F Pm : Addr → Prop} {H : Hp} : ∀ (ds : List D) (vs : List V), Reps T F H ds vs → PyData.canLayAll0 (toPys ds) = true → DpAll T.K H vs (toPys ds)
  | [], vs, h, _ => by simp only [Reps] at h; subst h; simp only [toPys]; exact .nil
  | d :: ds, vs, h, c => by
    simp only [Reps] at h
    obtain ⟨v, r, e, h1, h2⟩ := h
    subst e
    simp only [toPys, PyData.canLayAll0, Bool.and_eq_true] at c ⊢
    exact .cons (rep_dp (Pm := Pm) d v h1 c.1) (reps_dp (Pm := Pm) ds r h2 c.2)
end
theorem shp_lay {d : D} (h : shp d = true) : (toPy d).canLay0 = true := (Bool.and_eq_true_iff.mp h).1
theorem repT_dp {F Pm : Addr → Prop} {H : Hp} {d : D} {v : V} (h : RepT T F Pm H d v) (c : shp d = true) : Dp T.K H v (toPy d) := by
  have c' := shp_lay c
  cases d with
  | lst xs =>
    obtain ⟨a, vs, e, h, _, r⟩ := h
    subst e
    have c2 : (PyData.list (toPys xs)).canLay0 = true := by simpa only [toPy] using c'
    have c2 : PyData.canLayAll0 (toPys xs) = true := by simpa only [PyData.canLay0] using c2
    simp only [toPy]
    exact .lst (.of h) (reps_dp (Pm := Pm) xs vs r c2)
  | tup xs => exact rep_dp (Pm := Pm) _ v h c'
  | scr xs => exact rep_dp (Pm := Pm) _ v h c'
  | non => exact rep_dp (F := F) (Pm := Pm) .non v (by simp only [Rep]; exact h) c'
  | bl b => exact rep_dp (F := F) (Pm := Pm) (.bl b) v (by simp only [Rep]; exact h) c'
  | int i => exact rep_dp (F := F) (Pm := Pm) (.int i) v (by simp only [Rep]; exact h) c'
  | str x => exact rep_dp (F := F) (Pm := Pm) (.str x) v (by simp only [Rep]; exact h) c'
  | ty n => simp [toPy, PyData.canLay0] at c'
  | ref a => simp [toPy, PyData.canLay0] at c'
  | dct _ _ => simp [toPy, PyData.canLay0] at c'
  | ins _ _ _ => simp [toPy, PyData.canLay0] at c'
def gEq : GD := fun x y Q => shp x = true ∧ shp y = true ∧ Q (.bl (deq x y))
def gNe : GD := fun x y Q => shp x = true ∧ shp y = true ∧ Q (.bl (!deq x y))
theorem od_eq (hK : T.K = X.K) (hu : X.A.units + 64 < cLine) : OpD X T (compareOp .Eq) gEq := by
  intro pins s σ H x y v u Q I rx ry ⟨F, Pm, dx, dy, Qd, hx, hy, hF, hg, hq⟩
  exact op_eqD hu pins s σ H x y v u Q I rx ry ⟨_, _, hK ▸ repT_dp hx hg.1, hK ▸ repT_dp hy hg.2.1, hg.1, hg.2.1, hq _ hg.2.2 _ H (fun _ _ z => z) (by simp [Rep, deq])⟩
theorem od_ne (hK : T.K = X.K) (hu : X.A.units + 64 < cLine) : OpD X T (compareOp .NotEq) gNe := by
  intro pins s σ H x y v u Q I rx ry ⟨F, Pm, dx, dy, Qd, hx, hy, hF, hg, hq⟩
  exact op_neD hu pins s σ H x y v u Q I rx ry ⟨_, _, hK ▸ repT_dp hx hg.1, hK ▸ repT_dp hy hg.2.1, hg.1, hg.2.1, hq _ hg.2.2 _ H (fun _ _ z => z) (by simp [Rep, deq])⟩

/-! ### is -/
def isNon : D → Bool
  | .non => true
  | _ => false
def gIs : GD
  | x, .non, Q => Q (.bl (isNon x))
  | .bl a, .bl b, Q => Q (.bl (decide (a = b)))
  | _, _, _ => False
def gIsNot : GD
  | x, .non, Q => Q (.bl (!isNon x))
  | .bl a, .bl b, Q => Q (.bl (!decide (a = b)))
  | _, _, _ => False
theorem isNon_rep {F Pm : Addr → Prop} {H : Hp} {d : D} {v : V} (h : RepT T F Pm H d v) : decide (v = .non) = isNon d := by
  cases d <;> simp only [RepT, Rep, isNon] at h ⊢
  case non => simp [h]
  case bl => simp [h]
  case int => simp [h]
  case str => simp [h]
  case ty => simp [h]
  case ref => simp [h]
  case tup => obtain ⟨a, vs, rfl, _⟩ := h; simp
  case lst => obtain ⟨a, vs, rfl, _⟩ := h; simp
  case dct => obtain ⟨a, vs, rfl, _⟩ := h; simp
  case ins => obtain ⟨a, dx, vs, rfl, _⟩ := h; simp
  case scr => obtain ⟨a, rfl, _⟩ := h; simp
theorem od_is : OpD X T (compareOp .Is) gIs := by
  intro pins s σ H x y v u Q I rx ry ⟨F, Pm, dx, dy, Qd, hx, hy, hF, hg, hq⟩
  by_cases e : dy = .non
  · subst e
    have hg : Qd (.bl (isNon dx)) := by simpa only [gIs] using hg
    exact op_isN pins s σ H x y v u Q I rx ry ⟨hy, hq _ hg _ H (fun _ _ z => z) (by simp [Rep, isNon_rep hx])⟩
  · cases dx <;> cases dy <;> first | exact (e rfl).elim | (simp only [gIs] at hg) | skip
    exact op_is_bl pins s σ H x y v u Q I rx ry ⟨_, _, hx, hy, hq _ hg _ H (fun _ _ z => z) (by simp [Rep])⟩
theorem od_isnot : OpD X T (compareOp .IsNot) gIsNot := by
  intro pins s σ H x y v u Q I rx ry ⟨F, Pm, dx, dy, Qd, hx, hy, hF, hg, hq⟩
  by_cases e : dy = .non
  · subst e
    have hg : Qd (.bl (!isNon dx)) := by simpa only [gIsNot] using hg
    exact op_notN pins s σ H x y v u Q I rx ry ⟨hy, hq _ hg _ H (fun _ _ z => z) (by simp [Rep, isNon_rep hx])⟩
  · cases dx <;> cases dy <;> first | exact (e rfl).elim | (simp only [gIsNot] at hg) | skip
    exact op_isnot_bl pins s σ H x y v u Q I rx ry ⟨_, _, hx, hy, hq _ hg _ H (fun _ _ z => z) (by simp [Rep])⟩
end
end N

set_option Elab.async false
set_option linter.all false
set_option maxRecDepth 100000
set_option maxHeartbeats 0
/-! NC3: in, items, slices, calls of built-ins over data -/
namespace N
open PySem PySem.Spec PyProof.Rows L2
section
variable {X : Cx} {T : Th}
/-! ### in -/
def flD : D → Bool
  | .non => true
  | .bl _ => true
  | .int _ => true
  | .str _ => true
  | _ => false
def vOf : D → V
  | .non => .non
  | .bl b => .bl b
  | .int i => .int i
  | .str x => .str x
  | _ => .non
theorem flD_rep {F : Addr → Prop} {H : Hp} {d : D} {v : V} (h : Rep T F H d v) (f : flD d = true) : v = vOf d ∧ flatV v = true := by
  cases d <;> simp only [Rep, flD, vOf] at h f ⊢ <;> first | (subst h; exact ⟨rfl, rfl⟩) | (cases f)
theorem flD_repT {F Pm : Addr → Prop} {H : Hp} {d : D} {v : V} (h : RepT T F Pm H d v) (f : flD d = true) : v = vOf d ∧ flatV v = true := by
  cases d <;> simp only [RepT, Rep, flD, vOf] at h f ⊢ <;> first | (subst h; exact ⟨rfl, rfl⟩) | (cases f)
theorem flD_reps {F : Addr → Prop} {H : Hp} : ∀ {ds : List D} {vs : List V}, Reps T F H ds vs → ds.all flD = true → vs = ds.map vOf ∧ vs.all flatV = true
  | [], vs, h, _ => by simp only [Reps] at h; subst h; exact ⟨rfl, rfl⟩
  | d :: ds, vs, h, f => by
    simp only [Reps] at h
    obtain ⟨v, r, e, h1, h2⟩ := h
    subst e
    simp only [List.all_cons, Bool.and_eq_true] at f ⊢
    obtain ⟨e1, f1⟩ := flD_rep h1 f.1
    obtain ⟨e2, f2⟩ := flD_reps h2 f.2
    rw [List.map_cons, ← e1, ← e2]
    exact ⟨rfl, f1, f2⟩
/-- is x among ys -/
def inD (x : D) (ys : List D) : Bool := inV (vOf x) (ys.map vOf)
def keyD : D → Option Key
  | .int i => some (.inl i)
  | .str x => some (.inr x)
  | _ => none
theorem keyD_rep {F Pm : Addr → Prop} {H : Hp} {d : D} {v : V} {k : Key} (h : RepT T F Pm H d v) (e : keyD d = some k) : v = kV k := by
  cases d <;> simp only [keyD, RepT] at e h <;> first | (cases e; rw [h]; rfl) | (cases e)
/-- the value at a key -/
def getD : List Key → List D → Key → Option D
  | k :: ks, d :: ds, x => if k = x then some d else getD ks ds x
  | _, _, _ => none
theorem getD_rep {F : Addr → Prop} {H : Hp} {x : Key} : ∀ {ks : List Key} {ds : List D} {vs : List V}, ks.length = ds.length → Reps T F H ds vs →
    (∀ d, getD ks ds x = some d → ∃ v, valV (ks.zip vs) x = some v ∧ Rep T F H d v) ∧ (getD ks ds x = none → valV (ks.zip vs) x = none)
  | [], ds, vs, l, r => ⟨fun d e => by simp [getD] at e, fun _ => rfl⟩
  | k :: ks, [], vs, l, r => by simp at l
  | k :: ks, d :: ds, vs, l, r => by
    simp only [Reps] at r
    obtain ⟨v, w, e, h1, h2⟩ := r
    subst e
    have ih := getD_rep (x := x) (by simpa using l) h2 (ks := ks)
    rw [List.zip_cons_cons]
    by_cases q : k = x
    · rw [valV_pos q]
      simp only [getD, if_pos q]
      exact ⟨fun d' e => ⟨v, rfl, by cases e; exact h1⟩, fun e => by cases e⟩
    · rw [valV_neg q]
      simp only [getD, if_neg q]
      exact ih
def gIn (neg : Bool) : GD
  | x, .tup ys, Q => flD x = true ∧ ys.all flD = true ∧ Q (.bl (if neg then !inD x ys else inD x ys))
  | x, .lst ys, Q => flD x = true ∧ ys.all flD = true ∧ Q (.bl (if neg then !inD x ys else inD x ys))
  | x, .dct ks ds, Q => match keyD x with
    | some k => Q (.bl (if neg then !(getD ks ds k).isSome else (getD ks ds k).isSome))
    | none => False
  | _, _, _ => False
theorem repT_seq (hK : T.K = X.K) {F Pm : Addr → Prop} {H : Hp} {v : V} : ∀ {d : D} {ys : List D}, d = .tup ys ∨ d = .lst ys → RepT T F Pm H d v → ∃ p vs, v = .ref p ∧ (SqL X.K H p vs ∨ SqT X.K H p vs) ∧ Reps T F H ys vs
  | _, ys, .inl rfl, h => by
    simp only [RepT, Rep] at h
    obtain ⟨a, vs, e, h, r⟩ := h
    exact ⟨a, vs, e, .inr (hK ▸ tupAt h), r⟩
  | _, ys, .inr rfl, h => by
    obtain ⟨a, vs, e, h, _, r⟩ := h
    exact ⟨a, vs, e, .inl (.of h), r⟩
theorem od_inX (hK : T.K = X.K) (hu : X.A.units + 1 < cLine) (neg : Bool) {op : CmpOp} (hs : OpR X (compareOp op) (rIn X.K neg))
    (hd : OpR X (compareOp op) (fun y x H Q => ∃ a o, x = .ref a ∧ DGet H a y o ∧ Q (.bl (if neg then !o.isSome else o.isSome)) H)) : OpD X T (compareOp op) (gIn neg) := by
  intro pins s σ H x y v u Q I rx ry ⟨F, Pm, dx, dy, Qd, hx, hy, hF, hg, hq⟩
  have go : ∀ ys, dy = .tup ys ∨ dy = .lst ys → (flD dx = true ∧ ys.all flD = true ∧ Qd (.bl (if neg then !inD dx ys else inD dx ys))) → wpAny (model X.prog X.w) X.A (compareOp op v u) (EP X pins σ Q) X.xe s := fun ys e hg => by
    obtain ⟨p, vs, rfl, h, r⟩ := repT_seq hK e hy
    obtain ⟨e1, f1⟩ := flD_repT hx hg.1
    obtain ⟨e2, f2⟩ := flD_reps r hg.2.1
    refine hs pins s σ H _ _ v u Q I rx ry ⟨p, vs, rfl, h, f1, f2, hq _ hg.2.2 _ H (fun _ _ z => z) ?_⟩
    simp only [Rep, inD, e1, e2]
  cases dy <;> try exact hg.elim
  · exact go _ (.inl rfl) hg
  · exact go _ (.inr rfl) hg
  · rename_i ks ds
    simp only [gIn] at hg
    split at hg
    · rename_i k ek
      obtain ⟨a, vs, rfl, h, _, l, r⟩ := hy
      have ex := keyD_rep hx ek
      subst ex
      refine hd pins s σ H _ _ v u Q I rx ry ⟨a, _, rfl, .inl ⟨_, k, h, rfl, rfl⟩, hq _ hg _ H (fun _ _ z => z) ?_⟩
      obtain ⟨g1, g2⟩ := getD_rep (x := k) l r
      simp only [Rep]
      cases q : getD ks ds k with
      | none => rw [g2 q]; rfl
      | some d => obtain ⟨z, e, _⟩ := g1 d q; rw [e]; rfl
    · exact hg.elim
theorem or_din (hu : X.A.units + 1 < cLine) : OpR X (compareOp .In) (fun y x H Q => ∃ a o, x = .ref a ∧ DGet H a y o ∧ Q (.bl (if false then !o.isSome else o.isSome)) H) := by
  intro pins s σ H y x iv u Q I ry rx ⟨a, ov, ex, g, q2⟩
  subst ex
  obtain rfl : u = Value.ref a := rx
  exact d_in hu I g ry fun s3 I3 => ⟨.bl ov.isSome, H, I3, rfl, q2⟩
theorem or_dnotin (hu : X.A.units + 1 < cLine) : OpR X (compareOp .NotIn) (fun y x H Q => ∃ a o, x = .ref a ∧ DGet H a y o ∧ Q (.bl (if true then !o.isSome else o.isSome)) H) := by
  intro pins s σ H y x iv u Q I ry rx ⟨a, ov, ex, g, q2⟩
  subst ex
  obtain rfl : u = Value.ref a := rx
  exact d_notIn hu I g ry fun s3 I3 => ⟨.bl (!ov.isSome), H, I3, rfl, q2⟩
theorem od_in (hK : T.K = X.K) (hu : X.A.units + 64 < cLine) : OpD X T (compareOp .In) (gIn false) := od_inX hK (by omega) false op_in_seq (or_din (by omega))
theorem od_notin (hK : T.K = X.K) (hu : X.A.units + 64 < cLine) : OpD X T (compareOp .NotIn) (gIn true) := od_inX hK (by omega) true op_notIn_seq (or_dnotin (by omega))

/-! ### items -/
def gIx : GD
  | .tup xs, .int i, Q => match atI xs i with | some d => Q d | none => False
  | .lst xs, .int i, Q => match atI xs i with | some d => Q d | none => False
  | .scr xs, .int i, Q => match atI xs i with | some d => Q (.int d) | none => False
  | .str z, .int i, Q => z.length ≤ 16777216 ∧ match atI z.cps.toList i with | some c => Q (.str ⟨#[c]⟩) | none => False
  | .dct ks ds, k, Q => match keyD k with
    | some k => (match getD ks ds k with | some d => Q d | none => False)
    | none => False
  | _, _, _ => False
theorem atI_rep {F : Addr → Prop} {H : Hp} {ds : List D} {vs : List V} {i : Int} {d : D} (r : Reps T F H ds vs) (h : atI ds i = some d) : ∃ v, atI vs i = some v ∧ Rep T F H d v := by
  unfold atI at h ⊢
  rw [r.len]
  cases e : ixN ds.length i with
  | none => rw [e] at h; cases h
  | some j =>
    rw [e] at h
    exact r.get h
def IxD (X : Cx) (T : Th) (g : GD) : Prop := IxR X (rD T g)
theorem ix_dict (hu : X.A.units + 1 < cLine) : IxR X (fun x y H Q => ∃ a v, x = .ref a ∧ DGet H a y (some v) ∧ Q v H) := by
  intro value slice pins s σ H x y v u Q I rx ry ⟨a, z, ex, g, q⟩ hs
  subst ex
  obtain rfl : v = Value.ref a := rx
  exact tail_any (dict_typeIs I g) PySem.F.slot_dict_getitem.lookup (d_getItem hu I g ry fun w' s3 I3 rw' => ⟨z, H, I3, rw', q⟩) hs
theorem id_ix (hK : T.K = X.K) (hu : X.A.units + 64 < cLine) : IxD X T gIx := by
  intro value slice pins s σ H x y v u Q I rx ry ⟨F, Pm, dx, dy, Qd, hx, hy, hF, hg, hq⟩ hs
  have fin : ∀ {d : D} {z : V}, Qd d → Rep T F H d z → Q z H := fun h r => hq _ h _ H (fun _ _ z => z) r
  have go : ∀ xs i, dx = .tup xs ∨ dx = .lst xs → dy = .int i → (match atI xs i with | some d => Qd d | none => False) → wpAny (model X.prog X.w) X.A (subscriptTail value slice v u) (EP X pins σ Q) X.xe s := fun xs i e ei hg2 => by
    subst ei
    obtain ⟨p, vs, rfl, h, r⟩ := repT_seq hK e hx
    cases ed : atI xs i with
    | some d =>
      rw [ed] at hg2
      obtain ⟨z, ez, rz⟩ := atI_rep r ed
      rcases h with h | h
      · exact ix_list value slice pins s σ H _ _ v u Q I rx ry ⟨p, vs, i, z, rfl, hy, h, ez, fin hg2 rz⟩ hs
      · exact ix_tup value slice pins s σ H _ _ v u Q I rx ry ⟨p, vs, i, z, rfl, hy, h, ez, fin hg2 rz⟩ hs
    | none => rw [ed] at hg2; exact hg2.elim
  cases dx <;> try exact hg.elim
  · cases dy <;> try exact hg.elim
    obtain ⟨hz, hg⟩ := hg
    split at hg
    · rename_i c ec
      exact ix_str value slice pins s σ H _ _ v u Q I rx ry ⟨_, _, c, hx, hy, sz16 hz, ec, fin hg (by simp [Rep])⟩ hs
    · exact hg.elim
  · cases dy <;> try exact hg.elim
    exact go _ _ (.inl rfl) rfl hg
  · cases dy <;> try exact hg.elim
    exact go _ _ (.inr rfl) rfl hg
  · rename_i ks ds
    simp only [gIx] at hg
    split at hg
    · rename_i k ek
      split at hg
      · rename_i d ed
        obtain ⟨a, vs, rfl, h, _, l, r⟩ := hx
        have ex := keyD_rep hy ek
        subst ex
        obtain ⟨z, ez, rz⟩ := (getD_rep (x := k) l r).1 d ed
        exact ix_dict (by omega) value slice pins s σ H _ _ v u Q I rx ry ⟨a, z, rfl, .inl ⟨_, k, h, rfl, ez.symm⟩, fin hg rz⟩ hs
      · exact hg.elim
    · exact hg.elim
  · cases dy <;> try exact hg.elim
    rename_i ns i
    simp only [RepT, Rep] at hx
    obtain ⟨a, rfl, h⟩ := hx
    simp only [gIx] at hg
    split at hg
    · rename_i n en
      have hl : SqL X.K H a (ns.map V.int) := h.elim (fun h => .inl h.1) (fun h => hK ▸ h.to)
      refine ix_list value slice pins s σ H _ _ v u Q I rx ry ⟨a, _, i, .int n, rfl, hy, hl, ?_, fin hg (by simp [Rep])⟩ hs
      unfold atI at en ⊢
      rw [List.length_map]
      cases e : ixN ns.length i with
      | none => rw [e] at en; cases en
      | some j =>
        rw [e] at en
        show (ns.map V.int)[j]? = _
        rw [List.getElem?_map, show ns[j]? = some n from en]
        rfl
    · exact hg.elim
theorem de_ix {P : Pm} {a b : Expr} {wa wb : WE} {pos : Pos} {g : GD} (ho : IxD X P.T g) (ha : DB X P a wa) (hb : DB X P b wb) (hs : PlainIx b := by exact fun _ _ => rfl) : DE X P (.Subscript a b pos) (wBin g wa wb) :=
  ⟨pe_imp (pe_ix ho ha.pe hb.pe hs) bin_imp⟩

/-! ### slices -/
abbrev WO := Gam → Om → (Option Int → Om → Prop) → RX → Prop
def tPo (P : Pm) (w : WO) : TO := fun σ H Q => ∃ G W Q0 R0, Sta P G W σ H ∧ w G W.Om Q0 R0 ∧ exOk P W H σ R0 ∧ ∀ b Om', Q0 b Om' → ∀ H' W', Step P.T W H W' H' → W'.Om = Om' → Q b H'
structure DO (X : Cx) (P : Pm) (e : Option Expr) (w : WO) : Prop where
  po : PO X e (tPo P w)
def woNone : WO := fun _ Om Q _ => Q none Om
def woSome (w : WE) : WO := fun G Om Q R => w G Om (fun d O => match d with | .int i => Q (some i) O | _ => False) R
variable {P : Pm} {e a b : Expr} {wa wb w : WE} {pos : Pos}
theorem po_imp {t t' : TO} {e : Option Expr} (h : PO X e t) (i : ∀ σ H Q, t' σ H Q → t σ H Q) : PO X e t' := ⟨fun pins s σ H Q I q => h.run pins s σ H Q I (i σ H Q q)⟩
theorem do_none : DO X P none woNone := ⟨po_imp po_none fun σ H Q ⟨G, W, Q0, R0, S, q, ex, hq⟩ => hq none _ q H W (Step.refl S.ok) rfl⟩
theorem do_some (h : DE X P e w) : DO X P (some e) (woSome w) := by
  refine ⟨po_imp (po_some h.pe) fun σ H Q q => ?_⟩
  obtain ⟨G, W, Q0, R0, S, q, ex, hq⟩ := q
  refine ⟨G, W, _, R0, S, q, ex, fun d O h1 v H1 W1 s1 e1 r => ?_⟩
  cases d <;> try exact h1.elim
  simp only [Rep] at r
  exact ⟨_, r, hq _ O h1 H1 W1 s1 e1⟩
def cutD {α : Type} (xs : List α) (lo hi : Option Int) : List α := (xs.drop (HT.sIx xs.length 0 lo)).take (HT.sIx xs.length xs.length hi - HT.sIx xs.length 0 lo)
def gSl : D → Option Int → Option Int → (D → Prop) → Prop
  | .tup xs, lo, hi, Q => Q (.tup (cutD xs lo hi))
  | .lst xs, lo, hi, Q => Q (.lst (cutD xs lo hi))
  | .str z, lo, hi, Q => z.length ≤ 16777216 ∧ Q (.str (cutS z lo hi))
  | _, _, _, _ => False
theorem cut_rep {F : Addr → Prop} {H : Hp} {ds : List D} {vs : List V} {lo hi : Option Int} (r : Reps T F H ds vs) : Reps T F H (cutD ds lo hi) (cutV vs lo hi) := by
  unfold cutD cutV
  rw [r.len]
  exact (r.drop _).take _
def rSlD (T : Th) : V → Option Int → Option Int → Hp → VK → Prop := fun x lo hi H Q => ∃ (F Pm : Addr → Prop) (dx : D) (Qd : D → Prop), RepT T F Pm H dx x ∧ (∀ b, F b → H b ≠ none) ∧ gSl dx lo hi Qd ∧ ∀ z, Qd z → ∀ v H', Nw H H' → Rep T F H' z v → Q v H'
theorem sl_D (hK : T.K = X.K) : L2.SlR X (rSlD T) := by
  intro pins s σ H x v vl vu lo hi sl Q I rx hs pl pu ⟨F, Pm, dx, Qd, hx, hF, hg, hq⟩
  cases dx <;> try exact hg.elim
  · exact sl_str pins s σ H x v vl vu lo hi sl Q I rx hs pl pu ⟨_, hx, sz16 hg.1, hq _ hg.2 _ H (fun _ _ z => z) (by simp [Rep])⟩
  · rename_i xs
    simp only [RepT, Rep] at hx
    obtain ⟨p, vs, rfl, h, r⟩ := hx
    have c := cut_rep (lo := lo) (hi := hi) r
    refine sl_tupA pins s σ H _ v vl vu lo hi sl Q I rx hs pl pu ⟨p, vs, rfl, hK ▸ tupAt h, fun e => ?_, fun e q hp => ?_⟩
    · refine hq _ hg _ H (fun _ _ z => z) ?_
      simp only [Rep]
      refine ⟨p, vs, rfl, h, ?_⟩
      have : cutV vs lo hi = vs := by
        unfold cutV
        rw [e.1, e.2]
        simp
      rw [this] at c
      exact c
    · obtain ⟨k, n⟩ := upN hF hp (o := .tup (cutV vs lo hi))
      refine hq _ hg _ _ (ext_upd hp) ?_
      simp only [Rep]
      exact ⟨q, _, rfl, .inl ⟨upd_same, n⟩, Reps.kp k _ _ c⟩
  · obtain ⟨p, vs, rfl, h, _, r⟩ := hx
    have c := cut_rep (lo := lo) (hi := hi) r
    refine sl_list pins s σ H _ v vl vu lo hi sl Q I rx hs pl pu ⟨p, vs, rfl, .of h, fun q hp => ?_⟩
    obtain ⟨k, n⟩ := upN hF hp (o := .lst (cutV vs lo hi))
    refine hq _ hg _ _ (ext_upd hp) ?_
    simp only [Rep]
    exact ⟨q, _, rfl, upd_same, n, Reps.kp k _ _ c⟩
def wSl (w : WE) (lo hi : WO) : WE := fun G Om Q R => w G Om (fun x O => lo G O (fun l O1 => hi G O1 (fun h O2 => gSl x l h fun z => Q z O2) R) R) R
theorem de_sl {lo hi : Option Expr} {wl wh : WO} {p2 : Pos} (hK : P.T.K = X.K) (he : DB X P e w) (hl : DO X P lo wl) (hh : DO X P hi wh) : DE X P (.Subscript e (.Slice lo hi none p2) pos) (wSl w wl wh) := by
  refine ⟨pe_imp (pe_slice (sl_D hK) he.pe hl.po hh.po) fun σ H Q q => ?_⟩
  obtain ⟨G, W, Q0, R0, S, q, ex, hq⟩ := q
  refine ⟨G, W, _, R0, S, q, ex, fun d O h1 v H1 W1 s1 e1 r => ?_⟩
  subst e1
  refine ⟨G, W1, _, R0, S.step s1, h1, ex.step s1, fun l O2 h2 H2 W2 s2 e2 => ?_⟩
  subst e2
  refine ⟨G, W2, _, R0, (S.step s1).step s2, h2, (ex.step s1).step s2, fun h O3 h3 H3 W3 s3 e3 => ?_⟩
  refine ⟨W3.F, W3.pm, d, _, (r.step s2 s1.ok).step s3 s2.ok, s3.ok.trk, h3, fun z hz u H4 xt r4 => ?_⟩
  exact hq z O3 hz u H4 W3 (((s1.trans s2).trans s3).trans (Step.ext s3.ok xt)) e3 r4
end
end N

set_option Elab.async false
set_option linter.all false
set_option maxRecDepth 100000
set_option maxHeartbeats 0
/-! ND: calls of built-ins; what is walked; targets; comprehensions -/
namespace N
open PySem PySem.Spec PyProof.Rows L2
section
variable {X : Cx} {T : Th} {P : Pm}
abbrev GC := List D → (D → Prop) → Prop
def rC (T : Th) (g : GC) : List V → Hp → VK → Prop := fun xs H Q => ∃ (F Pm : Addr → Prop) (ds : List D) (Qd : D → Prop), RepsT T F Pm H ds xs ∧ (∀ b, F b → H b ≠ none) ∧ g ds Qd ∧ ∀ z, Qd z → ∀ v H', Nw H H' → Rep T F H' z v → Q v H'
def CallD (X : Cx) (T : Th) (f : Value) (g : GC) : Prop := CallR X f (rC T g)
abbrev GCF := List D → (MO → Prop) → Prop
def rCF (T : Th) (g : GCF) : List V → Hp → VK → Prop := fun xs H Q => ∃ (F Pm : Addr → Prop) (ds : List D) (Qd : MO → Prop), RepsT T F Pm H ds xs ∧ (∀ b, F b → H b ≠ none) ∧ g ds Qd ∧ ∀ z, Qd z → ∀ p o, H p = none → MRo T F H z o → Q (.ref p) (upd H p o)
def CallF (X : Cx) (T : Th) (f : Value) (g : GCF) : Prop := CallR X f (rCF T g)
def wCall (g : GC) (wa : WA) : WE := fun G Om Q R => wa G Om (fun ds O => g ds fun z => Q z O) R
def wCallF (g : GCF) (wa : WA) : WF := fun G Om Q R => wa G Om (fun ds O => g ds fun z => Q z O) R
variable {e a b c : Expr} {es : List Expr} {w wa wb : WE} {wl : WA} {pos p : Pos} {x : Str} {id TT : String}
theorem call_imp {g : GC} : ∀ σ H Q, tE P (wCall g wl) σ H Q → tCB (rC P.T g) (tAB P wl) σ H Q := fun σ H Q h => by
  obtain ⟨G, W, Q0, R0, S, q, ex, hq⟩ := h
  refine ⟨G, W, _, R0, S, q, ex, fun ds O h1 vs H1 W1 s1 e1 r => ⟨W1.F, W1.pm, ds, _, r, s1.ok.trk, h1, fun z hz u H2 xt r2 => ?_⟩⟩
  exact hq z O hz u H2 W1 (s1.trans (Step.ext s1.ok xt)) e1 r2
theorem callF_imp {g : GCF} : ∀ σ H Q, tF P (wCallF g wl) σ H Q → tCB (rCF P.T g) (tAB P wl) σ H Q := fun σ H Q h => by
  obtain ⟨G, W, Q0, R0, S, q, ex, hq⟩ := h
  refine ⟨G, W, _, R0, S, q, ex, fun ds O h1 vs H1 W1 s1 e1 r => ⟨W1.F, W1.pm, ds, _, r, s1.ok.trk, h1, fun z hz p o hp r2 => ?_⟩⟩
  obtain ⟨s2, a1, a2, a3, a4⟩ := newOwn_fin (o := o) (m := z) s1.ok hp r2
  exact hq z O hz p _ (W1.add p) (s1.trans s2) e1 (s1.back hp) a1 a2 a3 a4
theorem de_callB {g : GC} (hc : CallD X P.T (.builtin id) g) (hm : X.mg x = none) (ha : DAB X P (e :: es) wl) (hv : bootBuiltins x = some (.builtin id) := by decide +kernel) (hg : Gl X x := by rfl) (hn : x ≠ "__name__" := by decide) (hdb : (x == ("__debug__" : Str)) = false := by decide)
    (he : starEach (e :: es) X.env = (false, eval e X.env) :: starEach es X.env := by rfl) (hpl : (backTo pos (starEach es X.env)).any (·.1) = false := by rfl) : DE X P (.Call (.Name x p) (e :: es) [] pos) (wCall g wl) :=
  ⟨pe_imp (pe_callB hc hg hm hv ha.pa hn hdb he hpl) call_imp⟩
theorem de_callT {g : GC} (hc : CallD X P.T (.type TT) g) (hm : X.mg x = none) (ha : DAB X P (e :: es) wl) (hv : bootBuiltins x = some (.type TT) := by decide +kernel) (hg : Gl X x := by rfl) (hn : x ≠ "__name__" := by decide) (hdb : (x == ("__debug__" : Str)) = false := by decide)
    (he : starEach (e :: es) X.env = (false, eval e X.env) :: starEach es X.env := by rfl) (hpl : (backTo pos (starEach es X.env)).any (·.1) = false := by rfl) : DE X P (.Call (.Name x p) (e :: es) [] pos) (wCall g wl) :=
  ⟨pe_imp (pe_callTy hc hg hm hv ha.pa hn hdb he hpl) call_imp⟩
theorem df_callB {g : GCF} (hc : CallF X P.T (.builtin id) g) (hm : X.mg x = none) (ha : DAB X P (e :: es) wl) (hv : bootBuiltins x = some (.builtin id) := by decide +kernel) (hg : Gl X x := by rfl) (hn : x ≠ "__name__" := by decide) (hdb : (x == ("__debug__" : Str)) = false := by decide)
    (he : starEach (e :: es) X.env = (false, eval e X.env) :: starEach es X.env := by rfl) (hpl : (backTo pos (starEach es X.env)).any (·.1) = false := by rfl) : DF X P (.Call (.Name x p) (e :: es) [] pos) (wCallF g wl) :=
  ⟨pe_imp (pe_callB hc hg hm hv ha.pa hn hdb he hpl) callF_imp⟩
theorem df_callT {g : GCF} (hc : CallF X P.T (.type TT) g) (hm : X.mg x = none) (ha : DAB X P (e :: es) wl) (hv : bootBuiltins x = some (.type TT) := by decide +kernel) (hg : Gl X x := by rfl) (hn : x ≠ "__name__" := by decide) (hdb : (x == ("__debug__" : Str)) = false := by decide)
    (he : starEach (e :: es) X.env = (false, eval e X.env) :: starEach es X.env := by rfl) (hpl : (backTo pos (starEach es X.env)).any (·.1) = false := by rfl) : DF X P (.Call (.Name x p) (e :: es) [] pos) (wCallF g wl) :=
  ⟨pe_imp (pe_callTy hc hg hm hv ha.pa hn hdb he hpl) callF_imp⟩

/-! ### the built-ins -/
theorem reps1 {F Pm : Addr → Prop} {H : Hp} {d : D} {xs : List V} (h : RepsT T F Pm H [d] xs) : ∃ v, xs = [v] ∧ RepT T F Pm H d v := by
  obtain ⟨v, r, e, h1, h2⟩ := h
  have h2 : r = [] := h2
  subst h2
  exact ⟨v, e, h1⟩
theorem reps2 {F Pm : Addr → Prop} {H : Hp} {d d' : D} {xs : List V} (h : RepsT T F Pm H [d, d'] xs) : ∃ v v', xs = [v, v'] ∧ RepT T F Pm H d v ∧ RepT T F Pm H d' v' := by
  obtain ⟨v, r, e, h1, h2⟩ := h
  obtain ⟨v', r', e', h3, h4⟩ := h2
  have h4 : r' = [] := h4
  subst h4
  subst e'
  exact ⟨v, v', e, h1, h3⟩
def gLen : GC
  | [.tup xs], Q => Q (.int xs.length)
  | [.lst xs], Q => Q (.int xs.length)
  | [.scr xs], Q => Q (.int xs.length)
  | [.str z], Q => z.length ≤ 16777216 ∧ Q (.int z.length)
  | [.dct ks _], Q => Q (.int ks.length)
  | _, _ => False
theorem call_lenR : CallR X (.builtin "len") (fun xs H Q => ∃ a kvs, xs = [V.ref a] ∧ Rd H a (.dK kvs) ∧ Q (.int kvs.length) H) := by
  intro pins s σ H xs us Q I r h
  obtain ⟨a, kvs, rfl, ha, q⟩ := h
  obtain ⟨u, rfl, ru⟩ := vals1 r
  cases ru
  exact d_len I ha fun t s' I' => ⟨.int kvs.length, H, I', ⟨t, rfl⟩, q⟩
theorem cd_len (hK : T.K = X.K) : CallD X T (.builtin "len") gLen := by
  intro pins s σ H xs us Q I r ⟨F, Pm, ds, Qd, hx, hF, hg, hq⟩
  match ds, hg with
  | [.tup xs], hg =>
    obtain ⟨v, rfl, h⟩ := reps1 hx
    obtain ⟨p, vs, rfl, h, r2⟩ := repT_seq hK (.inl rfl) h
    exact call_len_seq pins s σ H _ us Q I r ⟨p, vs, rfl, h, hq _ hg _ H (fun _ _ z => z) (by simp [Rep, r2.len])⟩
  | [.lst xs], hg =>
    obtain ⟨v, rfl, h⟩ := reps1 hx
    obtain ⟨p, vs, rfl, h, r2⟩ := repT_seq hK (.inr rfl) h
    exact call_len_seq pins s σ H _ us Q I r ⟨p, vs, rfl, h, hq _ hg _ H (fun _ _ z => z) (by simp [Rep, r2.len])⟩
  | [.scr ns], hg =>
    obtain ⟨v, rfl, h⟩ := reps1 hx
    simp only [RepT, Rep] at h
    obtain ⟨p, rfl, h⟩ := h
    have hl : SqL X.K H p (ns.map V.int) := h.elim (fun h => .inl h.1) (fun h => hK ▸ h.to)
    exact call_len_seq pins s σ H _ us Q I r ⟨p, _, rfl, .inl hl, hq _ hg _ H (fun _ _ z => z) (by simp [Rep])⟩
  | [.str z], hg =>
    obtain ⟨v, rfl, h⟩ := reps1 hx
    exact call_len_str pins s σ H _ us Q I r ⟨z, by rw [show v = .str z from h], sz16 hg.1, hq _ hg.2 _ H (fun _ _ z => z) (by simp [Rep])⟩
  | [.dct ks vs], hg =>
    obtain ⟨v, rfl, h⟩ := reps1 hx
    obtain ⟨a, ws, rfl, h, _, l, r2⟩ := h
    refine call_lenR pins s σ H _ us Q I r ⟨a, _, rfl, h, hq _ hg _ H (fun _ _ z => z) ?_⟩
    simp only [Rep, List.length_zip, r2.len, l, Nat.min_self]
def gInt : GC
  | [.int i], Q => Q (.int i)
  | [.bl b], Q => Q (.int (if b then 1 else 0))
  | _, _ => False
theorem cd_int : CallD X T (.type "int") gInt := by
  intro pins s σ H xs us Q I r ⟨F, Pm, ds, Qd, hx, hF, hg, hq⟩
  match ds, hg with
  | [.int i], hg =>
    obtain ⟨v, rfl, h⟩ := reps1 hx
    exact call_int1 pins s σ H _ us Q I r (.inl ⟨i, by rw [show v = .int i from h], hq _ hg _ H (fun _ _ z => z) (by simp [Rep])⟩)
  | [.bl i], hg =>
    obtain ⟨v, rfl, h⟩ := reps1 hx
    exact call_int1 pins s σ H _ us Q I r (.inr ⟨i, by rw [show v = .bl i from h], hq _ hg _ H (fun _ _ z => z) (by simp [Rep])⟩)
def gAbs : GC
  | [.int i], Q => Q (.int (if i < 0 then -i else i))
  | _, _ => False
theorem cd_abs : CallD X T (.builtin "abs") gAbs := by
  intro pins s σ H xs us Q I r ⟨F, Pm, ds, Qd, hx, hF, hg, hq⟩
  match ds, hg with
  | [.int i], hg =>
    obtain ⟨v, rfl, h⟩ := reps1 hx
    exact call_abs pins s σ H _ us Q I r ⟨i, by rw [show v = .int i from h], hq _ hg _ H (fun _ _ z => z) (by simp [Rep])⟩
def isL : List D → Option (List Int)
  | [] => some []
  | .int i :: r => (isL r).map (i :: ·)
  | _ :: _ => none
def bsL : List D → Option (List Bool)
  | [] => some []
  | .bl i :: r => (bsL r).map (i :: ·)
  | _ :: _ => none
theorem isL_map : ∀ {ds : List D} {ns : List Int}, isL ds = some ns → ds = ns.map D.int
  | [], ns, h => by simp only [isL] at h; cases h; rfl
  | d :: r, ns, h => by
    cases d <;> simp only [isL] at h <;> try cases h
    cases e : isL r with
    | none => rw [e] at h; cases h
    | some ms =>
      rw [e] at h
      cases h
      rw [isL_map e, List.map_cons]
theorem bsL_map : ∀ {ds : List D} {ns : List Bool}, bsL ds = some ns → ds = ns.map D.bl
  | [], ns, h => by simp only [bsL] at h; cases h; rfl
  | d :: r, ns, h => by
    cases d <;> simp only [bsL] at h <;> try cases h
    cases e : bsL r with
    | none => rw [e] at h; cases h
    | some ms =>
      rw [e] at h
      cases h
      rw [bsL_map e, List.map_cons]
theorem isL_ints : ∀ ns : List Int, isL (ns.map D.int) = some ns
  | [] => rfl
  | n :: r => by simp [isL, isL_ints r]
theorem bsL_bls : ∀ ns : List Bool, bsL (ns.map D.bl) = some ns
  | [] => rfl
  | n :: r => by simp [bsL, bsL_bls r]
/-- a list of ints, of bools -/
def gLI (f : List Int → (D → Prop) → Prop) : GC
  | [.lst ds], Q => match isL ds with | some ns => f ns Q | none => False
  | _, _ => False
def gLB (f : List Bool → Bool) : GC
  | [.lst ds], Q => match bsL ds with | some ns => Q (.bl (f ns)) | none => False
  | _, _ => False
theorem lst_ints {F Pm : Addr → Prop} {H : Hp} {ds : List D} {ns : List Int} {v : V} (h : RepT T F Pm H (.lst ds) v) (e : isL ds = some ns) : ∃ p, v = .ref p ∧ H p = some (.lst (ns.map V.int)) := by
  obtain ⟨p, vs, rfl, h, _, r⟩ := h
  rw [isL_map e] at r
  rw [r.ofInts] at h
  exact ⟨p, rfl, h⟩
theorem lst_bls {F Pm : Addr → Prop} {H : Hp} {ds : List D} {ns : List Bool} {v : V} (h : RepT T F Pm H (.lst ds) v) (e : bsL ds = some ns) : ∃ p, v = .ref p ∧ H p = some (.lst (ns.map V.bl)) := by
  obtain ⟨p, vs, rfl, h, _, r⟩ := h
  rw [bsL_map e] at r
  rw [r.ofBls] at h
  exact ⟨p, rfl, h⟩
abbrev gAll : GC := gLB fun bs => bs.all _root_.id
abbrev gAny : GC := gLB fun bs => bs.any _root_.id
theorem cd_all (hc : X.calm = true) : CallD X T (.builtin "all") gAll := by
  intro pins s σ H xs us Q I r ⟨F, Pm, ds, Qd, hx, hF, hg, hq⟩
  match ds, hg with
  | [.lst ds], hg =>
    obtain ⟨v, rfl, h⟩ := reps1 hx
    simp only [gAll, gLB] at hg
    split at hg
    · rename_i ns e
      obtain ⟨p, rfl, h9⟩ := lst_bls h e
      exact cr_all hc pins s σ H _ us Q I r ⟨p, ns, rfl, .of h9, hq _ hg _ H (fun _ _ z => z) (by simp [Rep])⟩
    · exact hg.elim
theorem cd_any (hc : X.calm = true) : CallD X T (.builtin "any") gAny := by
  intro pins s σ H xs us Q I r ⟨F, Pm, ds, Qd, hx, hF, hg, hq⟩
  match ds, hg with
  | [.lst ds], hg =>
    obtain ⟨v, rfl, h⟩ := reps1 hx
    simp only [gAny, gLB] at hg
    split at hg
    · rename_i ns e
      obtain ⟨p, rfl, h9⟩ := lst_bls h e
      exact cr_any hc pins s σ H _ us Q I r ⟨p, ns, rfl, .of h9, hq _ hg _ H (fun _ _ z => z) (by simp [Rep])⟩
    · exact hg.elim
abbrev gSum : GC := gLI fun ns Q => Q (.int ns.sum)
theorem cd_sum (hc : X.calm = true) : CallD X T (.builtin "sum") gSum := by
  intro pins s σ H xs us Q I r ⟨F, Pm, ds, Qd, hx, hF, hg, hq⟩
  match ds, hg with
  | [.lst ds], hg =>
    obtain ⟨v, rfl, h⟩ := reps1 hx
    simp only [gSum, gLI] at hg
    split at hg
    · rename_i ns e
      obtain ⟨p, rfl, h9⟩ := lst_ints h e
      exact cr_sum hc pins s σ H _ us Q I r ⟨p, ns, rfl, .of h9, hq _ hg _ H (fun _ _ z => z) (by simp [Rep])⟩
    · exact hg.elim
def gMax : GC
  | [.lst ds], Q => match isL ds with | some ns => 0 < ns.length ∧ ∀ m, m ∈ ns → (∀ y, y ∈ ns → y ≤ m) → Q (.int m) | none => False
  | [.int i, .int j], Q => Q (.int (if j > i then j else i))
  | _, _ => False
def gMin : GC
  | [.lst ds], Q => match isL ds with | some ns => 0 < ns.length ∧ ∀ m, m ∈ ns → (∀ y, y ∈ ns → m ≤ y) → Q (.int m) | none => False
  | [.int i, .int j], Q => Q (.int (if j < i then j else i))
  | _, _ => False
theorem cd_max (hc : X.calm = true) : CallD X T (.builtin "max") gMax := by
  intro pins s σ H xs us Q I r ⟨F, Pm, ds, Qd, hx, hF, hg, hq⟩
  match ds, hg with
  | [.lst ds], hg =>
    obtain ⟨v, rfl, h⟩ := reps1 hx
    simp only [gMax] at hg
    split at hg
    · rename_i ns e
      obtain ⟨p, rfl, h9⟩ := lst_ints h e
      exact cr_max hc pins s σ H _ us Q I r ⟨p, ns, rfl, .of h9, hg.1, fun m h1 h2 => hq _ (hg.2 m h1 h2) _ H (fun _ _ z => z) (by simp [Rep])⟩
    · exact hg.elim
  | [.int i, .int j], hg =>
    obtain ⟨v, v', rfl, h, h'⟩ := reps2 hx
    exact call_max2 hc pins s σ H _ us Q I r ⟨i, j, by rw [show v = .int i from h, show v' = .int j from h'], hq _ hg _ H (fun _ _ z => z) (by simp [Rep])⟩
theorem cd_min (hc : X.calm = true) : CallD X T (.builtin "min") gMin := by
  intro pins s σ H xs us Q I r ⟨F, Pm, ds, Qd, hx, hF, hg, hq⟩
  match ds, hg with
  | [.lst ds], hg =>
    obtain ⟨v, rfl, h⟩ := reps1 hx
    simp only [gMin] at hg
    split at hg
    · rename_i ns e
      obtain ⟨p, rfl, h9⟩ := lst_ints h e
      exact cr_min hc pins s σ H _ us Q I r ⟨p, ns, rfl, .of h9, hg.1, fun m h1 h2 => hq _ (hg.2 m h1 h2) _ H (fun _ _ z => z) (by simp [Rep])⟩
    · exact hg.elim
  | [.int i, .int j], hg =>
    obtain ⟨v, v', rfl, h, h'⟩ := reps2 hx
    exact call_min2 hc pins s σ H _ us Q I r ⟨i, j, by rw [show v = .int i from h, show v' = .int j from h'], hq _ hg _ H (fun _ _ z => z) (by simp [Rep])⟩
/-- tuple(list), tuple(tuple); list(list), list(tuple) -/
def gTuple : GC
  | [.tup xs], Q => Q (.tup xs)
  | [.lst xs], Q => Q (.tup xs)
  | _, _ => False
theorem cd_tuple (hK : T.K = X.K) : CallD X T (.type "tuple") gTuple := by
  intro pins s σ H xs us Q I r ⟨F, Pm, ds, Qd, hx, hF, hg, hq⟩
  match ds, hg with
  | [.tup xs], hg =>
    obtain ⟨v, rfl, h⟩ := reps1 hx
    simp only [RepT, Rep] at h
    obtain ⟨p, vs, rfl, h, r2⟩ := h
    refine call_tuple_of pins s σ H _ us Q I r ⟨p, vs, rfl, .inr ⟨hK ▸ tupAt h, hq _ hg _ H (fun _ _ z => z) ?_⟩⟩
    simp only [Rep]
    exact ⟨p, vs, rfl, h, r2⟩
  | [.lst xs], hg =>
    obtain ⟨v, rfl, h⟩ := reps1 hx
    obtain ⟨p, vs, rfl, h, _, r2⟩ := h
    refine call_tuple_of pins s σ H _ us Q I r ⟨p, vs, rfl, .inl ⟨.of h, fun q hp => ?_⟩⟩
    obtain ⟨k, n⟩ := upN hF hp (o := .tup vs)
    refine hq _ hg _ _ (ext_upd hp) ?_
    simp only [Rep]
    exact ⟨q, _, rfl, .inl ⟨upd_same, n⟩, Reps.kp k _ _ r2⟩
def gList : GCF
  | [.tup xs], Q => Q (.lst xs)
  | [.lst xs], Q => Q (.lst xs)
  | [.scr xs], Q => Q (.lst (xs.map D.int))
  | _, _ => False
theorem cf_list (hK : T.K = X.K) : CallF X T (.type "list") gList := by
  intro pins s σ H xs us Q I r ⟨F, Pm, ds, Qd, hx, hF, hg, hq⟩
  have go : ∀ p vs ys, (SqL X.K H p vs ∨ SqT X.K H p vs) → Reps T F H ys vs → xs = [.ref p] → Qd (.lst ys) → wpAny (model X.prog X.w) X.A (call (.type "list") us) (EP X pins σ Q) X.xe s := fun p vs ys h r2 e hg =>
    call_list_of pins s σ H _ us Q I r ⟨p, vs, e, h, fun l hl => hq (.lst ys) hg l (.lst vs) hl r2⟩
  match ds, hg with
  | [.tup xs], hg =>
    obtain ⟨v, rfl, h⟩ := reps1 hx
    obtain ⟨p, vs, rfl, h, r2⟩ := repT_seq hK (.inl rfl) h
    exact go p vs _ h r2 rfl hg
  | [.lst xs], hg =>
    obtain ⟨v, rfl, h⟩ := reps1 hx
    obtain ⟨p, vs, rfl, h, r2⟩ := repT_seq hK (.inr rfl) h
    exact go p vs _ h r2 rfl hg
  | [.scr ns], hg =>
    obtain ⟨v, rfl, h⟩ := reps1 hx
    simp only [RepT, Rep] at h
    obtain ⟨p, rfl, h⟩ := h
    exact go p _ _ (.inl (h.elim (fun h => .inl h.1) (fun h => hK ▸ h.to))) (Reps.ints ns) rfl hg
/-- isinstance -/
def tyS : D → Option String
  | .non => some "NoneType"
  | .bl _ => some "bool"
  | .int _ => some "int"
  | .str _ => some "str"
  | .tup _ => some "tuple"
  | .lst _ => some "list"
  | .dct _ _ => some "dict"
  | _ => none
def isiS (a b : String) : Bool := a == b || (a == "bool" && b == "int")
def okTy (b : String) : Bool := ["bool", "int", "str", "tuple", "list", "dict"].contains b
theorem kit_tab : (["NoneType", "bool", "int", "str", "tuple", "list", "dict"].all fun a => ["bool", "int", "str", "tuple", "list", "dict"].all fun b => kitB a b == some (isiS a b)) = true := by decide +kernel
theorem kit_at {K : PySem.W.Frag} {d : D} {a b : String} (h : tyS d = some a) (hb : okTy b = true) : PySem.W.kitOne K (.type a) (.type b) = some (isiS a b) := by
  refine kit_ty ?_
  have ha : a ∈ ["NoneType", "bool", "int", "str", "tuple", "list", "dict"] := by
    cases d <;> simp only [tyS] at h <;> cases h <;> simp
  have hb' : b ∈ ["bool", "int", "str", "tuple", "list", "dict"] := by simpa [okTy] using hb
  have t := kit_tab
  rw [List.all_eq_true] at t
  have t2 := t a ha
  rw [List.all_eq_true] at t2
  simpa using t2 b hb'
theorem ty_at (hK : T.K = X.K) {F Pm : Addr → Prop} {H : Hp} {d : D} {v : V} {a : String} (h : RepT T F Pm H d v) (e : tyS d = some a) : TyX X.K H v (.type a) := by
  cases d <;> simp only [tyS] at e <;> cases e
  case non => rw [show v = .non from h]; exact .base .non
  case bl => rw [show v = .bl _ from h]; exact .base (.bl _)
  case int => rw [show v = .int _ from h]; exact .base (.int _)
  case str => rw [show v = .str _ from h]; exact .base (.str _)
  case tup =>
    simp only [RepT, Rep] at h
    obtain ⟨p, vs, rfl, h, _⟩ := h
    rcases h with h | h
    · exact .base (.tup h.1)
    · rcases h with (h | ⟨_, h⟩) | ⟨o, its, n, h1, h2, _⟩
      · cases h
      · cases h
      · exact .kTuple (hK ▸ h1) h2
  case lst =>
    obtain ⟨p, vs, rfl, h, _⟩ := h
    exact .base (.lst h)
  case dct =>
    obtain ⟨p, vs, rfl, h, _⟩ := h
    rcases h with h | ⟨o, h⟩
    · exact .base (.dK h)
    · exact .fDict h
def tyL : List D → Option (List String)
  | [] => some []
  | .ty n :: r => if okTy n then (tyL r).map (n :: ·) else none
  | _ :: _ => none
def gIsi : GC
  | [d, .ty b], Q => okTy b = true ∧ match tyS d with | some a => Q (.bl (isiS a b)) | none => False
  | [d, .tup ts], Q => match tyS d with | some a => (match tyL ts with | some bs => Q (.bl (bs.any (isiS a))) | none => False) | none => False
  | _, _ => False
theorem tyL_any {K : PySem.W.Frag} {d : D} {a : String} (h : tyS d = some a) : ∀ {ts : List D} {bs : List String}, tyL ts = some bs → PySem.W.kitAny K (.type a) (bs.map Value.type) = some (bs.any (isiS a))
  | [], bs, e => by simp only [tyL] at e; cases e; rfl
  | t :: ts, bs, e => by
    cases t <;> simp only [tyL] at e <;> try cases e
    split at e
    · rename_i n hn
      cases e2 : tyL ts with
      | none => rw [e2] at e; cases e
      | some cs =>
        rw [e2] at e
        cases e
        have ih := tyL_any (K := K) h e2
        rw [List.map_cons]
        refine kitAny_cons (kit_at h hn) (fun z => ?_) (fun z => ?_)
        · rw [ih]; simp [z]
        · simp [z]
    · cases e
theorem tyL_vals {F : Addr → Prop} {H : Hp} : ∀ {ts : List D} {vs : List V} {bs : List String}, Reps T F H ts vs → tyL ts = some bs → vs = bs.map V.ty
  | [], vs, bs, h, e => by simp only [tyL] at e; cases e; simpa [Reps] using h
  | t :: ts, vs, bs, h, e => by
    cases t <;> simp only [tyL] at e <;> try cases e
    split at e
    · cases e2 : tyL ts with
      | none => rw [e2] at e; cases e
      | some cs =>
        rw [e2] at e
        cases e
        simp only [Reps, Rep] at h
        obtain ⟨v, r, e3, h1, h2⟩ := h
        rw [e3, h1, tyL_vals h2 e2, List.map_cons]
    · cases e
theorem clsV_tys : ∀ bs : List String, Paired ClsV (bs.map V.ty) (bs.map Value.type)
  | [] => .nil
  | b :: r => .cons (.ty b) (clsV_tys r)
theorem vals_tys : ∀ {bs : List String} {us : List Value}, Vals (bs.map V.ty) us → us = bs.map Value.type
  | [], _, .nil => rfl
  | b :: r, _, .cons h t => by rw [show _ = Value.type b from h, vals_tys t]; rfl
theorem cd_isi (hK : T.K = X.K) : CallD X T (.builtin "isinstance") gIsi := by
  intro pins s σ H xs us Q I r ⟨F, Pm, ds, Qd, hx, hF, hg, hq⟩
  match ds, hg with
  | [d, .ty b], hg =>
    obtain ⟨v, v', rfl, h, h'⟩ := reps2 hx
    obtain ⟨hb, hg⟩ := hg
    split at hg
    · rename_i a e
      refine call_isi pins s σ H _ us Q I r ⟨v, v', .type a, .type b, isiS a b, rfl, by rw [show v' = .ty b from h']; exact .ty b, ty_at hK h e, kit_at e hb, hq _ hg _ H (fun _ _ z => z) (by simp [Rep])⟩
    · exact hg.elim
  | [d, .tup ts], hg =>
    obtain ⟨v, v', rfl, h, h'⟩ := reps2 hx
    simp only [gIsi] at hg
    split at hg
    · rename_i a e
      split at hg
      · rename_i bs e2
        simp only [RepT, Rep] at h'
        obtain ⟨q, vs, rfl, h3, r2⟩ := h'
        have ev := tyL_vals r2 e2
        subst ev
        rcases h3 with h3 | h3
        · exact call_isiT pins s σ H _ us Q I r ⟨v, q, _, .type a, bs.map Value.type, _, rfl, h3.1, clsV_tys bs, ty_at hK h e, tyL_any e e2, hq _ hg _ H (fun _ _ z => z) (by simp [Rep])⟩
        · rcases h3 with (h3 | ⟨_, h3⟩) | ⟨⟨oc, dd, od, sl⟩, its, n, h1, h2, h4, h5, h6⟩
          · cases h3
          · cases h3
          · simp only at h2 h4
            subst h2 h4
            have := vals_tys h6
            refine call_isiK pins s σ H _ us Q I r ⟨v, q, dd, bs.map Value.type, n, sl, .type a, _, rfl, ?_, ty_at hK h e, tyL_any e e2, hq _ hg _ H (fun _ _ z => z) (by simp [Rep])⟩
            rw [← this]
            exact hK ▸ h1
      · exact hg.elim
    · exact hg.elim
end
end N

set_option Elab.async false
set_option linter.all false
set_option maxRecDepth 100000
set_option maxHeartbeats 0
/-! NE: what is walked, targets, comprehensions -/
namespace N
open PySem PySem.Spec PyProof.Rows L2

/-! ### what is walked -/
abbrev Rl := Wd → Hp → Wd → Hp → Prop
def RF (T : Th) : Rl := fun W H W' H' => Kp W.F H W'.F H' ∧ WOk T W' H'
def RS (T : Th) : Rl := fun W H W' H' => Step T W H W' H'
theorem Kp.trans {F F1 F2 : Addr → Prop} {H H1 H2 : Hp} (a : Kp F H F1 H1) (b : Kp F1 H1 F2 H2) : Kp F H F2 H2 where
  same' := fun c o h t n => b.same' c o (a.same' c o h t n) t fun z => (a.fnew c z).elim n fun q => by rw [h] at q; cases q
  fnew := fun c h => (b.fnew c h).elim (a.fnew c) fun n => .inr (by
    cases q : H c with
    | none => rfl
    | some o => exact absurd n (a.trk c (by rw [q]; simp)))
  trk := fun c h => b.trk c (a.trk c h)
/-- the iterator J gives just the items, as long as Rl holds -/
def Wk (T : Th) (R : Rl) (W1 : Wd) (H1 : Hp) (items : List D) (J : It) : Prop := ∃ (Gd : Hp → Prop) (Y : Nat → Hp → V → Hp → Prop), Walk J items.length Gd Y ∧
  ∀ W2 H2, R W1 H1 W2 H2 → Gd H2 ∧ ∀ (i : Nat) d, items[i]? = some d → ∀ x H3, Y i H2 x H3 → Nw H2 H3 ∧ Rep T W2.F H3 d x
def tI (P : Pm) (R : Rl) (w : WA) : TI := fun σ H K => ∃ G W Q0 R0, Sta P G W σ H ∧ w G W.Om Q0 R0 ∧ exOk P W H σ R0 ∧
  ∀ items Om', Q0 items Om' → ∀ J H1 W1, Step P.T W H W1 H1 → W1.Om = Om' → Wk P.T R W1 H1 items J → K J H1
structure DI (X : Cx) (P : Pm) (R : Rl) (tg iter : Expr) (w : WA) : Prop where
  pi : PI X tg iter (tI P R w)
theorem pi_imp {X : Cx} {tg iter : Expr} {t t' : TI} (h : PI X tg iter t) (i : ∀ σ H Q, t' σ H Q → t σ H Q) : PI X tg iter t' := ⟨fun pins s σ H Q I q => h.run pins s σ H Q I (i σ H Q q)⟩
section
variable {X : Cx} {P : Pm} {tg iter a b c e e2 : Expr} {w : WE} {wl : WA} {pos p tpos : Pos}
/-- a list, a tuple, a text, whatever comes -/
def iAny (K : PySem.W.Frag) (t : TE) : TI := fun σ H R => t σ H fun x H1 => (∃ a, x = .ref a ∧ (∃ xs, SqL K H1 a xs) ∧ R (Itl K a) H1) ∨ (∃ a, x = .ref a ∧ (∃ xs, SqT K H1 a xs) ∧ R (Itt K a) H1) ∨ ∃ z, x = .str z ∧ R (Its z) H1
theorem pi_any {t : TE} (h : PE X iter t) : PI X tg iter (iAny X.K t) := by
  refine ⟨fun pins s σ H R I q => ?_⟩
  refine thn (h.run pins s σ H _ I q) fun v s1 ⟨x, H1, I1, r1, q1⟩ => ?_
  rcases q1 with ⟨a, e, ⟨xs, hq⟩, q⟩ | ⟨a, e, ⟨xs, hq⟩, q⟩ | ⟨z, e, q⟩
  · subst e
    cases r1
    obtain ⟨its, rv, pl, _⟩ := I1.list hq
    exact wpAny_pyIter_list pl.isList (pi_one (tk := s1.toks) I1 _ (turn_list a _) ⟨_, Heap.get?_push_size _ rfl, rfl, rfl⟩ q)
  · subst e
    cases r1
    obtain ⟨its, rv, pl, _⟩ := I1.tuple hq
    exact wpAny_pyIter_tuple (show s1.heap.IsTuple a its.toArray from pl) (pi_one (tk := s1.toks) I1 _ (turn_tuple a _) ⟨_, Heap.get?_push_size _ rfl, rfl, rfl⟩ q)
  · subst e
    obtain ⟨t, rfl⟩ := r1
    cases ha : z.cps.all (· < 128)
    · exact wpAny_pyIter_wide ha (pi_one (tk := s1.toks) I1 _ (turn_str _ z t "str_iterator" (.inr rfl)) ⟨_, Heap.get?_push_size _ rfl, rfl, rfl⟩ q)
    · exact wpAny_pyIter_ascii ha (pi_one (tk := s1.toks) I1 _ (turn_str _ z t "str_ascii_iterator" (.inl rfl)) ⟨_, Heap.get?_push_size _ rfl, rfl, rfl⟩ q)
def gIt : D → (List D → Prop) → Prop
  | .tup xs, Q => Q xs
  | .lst xs, Q => Q xs
  | .scr ns, Q => Q (ns.map D.int)
  | .str z, Q => Q (z.cps.toList.map fun c => D.str ⟨#[c]⟩)
  | _, _ => False
def wIt (w : WE) : WA := fun G Om Q R => w G Om (fun d O => gIt d fun xs => Q xs O) R
theorem wk_str {T : Th} {R : Rl} {W1 : Wd} {H1 : Hp} (z : Str) : Wk T R W1 H1 (z.cps.toList.map fun c => D.str ⟨#[c]⟩) (Its z) := by
  refine ⟨_, _, (by rw [List.length_map, Array.length_toList]; exact walk_str), fun W2 H2 _ => ⟨trivial, fun i d e x H3 y => ?_⟩⟩
  obtain ⟨rfl, c, ec, rfl⟩ := y
  refine ⟨fun _ _ z => z, ?_⟩
  rw [List.getElem?_map, Array.getElem?_toList, ec] at e
  cases e
  simp [Rep]
theorem wk_at {T : Th} {R : Rl} {W1 : Wd} {H1 : Hp} {ds : List D} {vs : List V} {J : It} {Gd : Hp → Prop} (l : vs.length = ds.length) (wk : Walk J vs.length Gd (YAt vs)) (h : ∀ W2 H2, R W1 H1 W2 H2 → Gd H2 ∧ Reps T W2.F H2 ds vs) : Wk T R W1 H1 ds J := by
  refine ⟨Gd, YAt vs, l ▸ wk, fun W2 H2 r => ⟨(h W2 H2 r).1, fun i d e x H3 y => ?_⟩⟩
  obtain ⟨rfl, ex⟩ := y
  obtain ⟨v, ev, rv⟩ := (h W2 _ r).2.get e
  rw [ex] at ev
  cases ev
  exact ⟨fun _ _ z => z, rv⟩
theorem seqL_kp {K : PySem.W.Frag} {F F' : Addr → Prop} {H H' : Hp} {a : Addr} {vs : List V} (k : Kp F H F' H') (h : (Rd H a (.lst vs) ∧ ¬ F a) ∨ KL K a vs) : SqL K H' a vs := h.elim (fun h => .inl (k.rd h.1 h.2).1) KL.to
theorem di_val (hK : P.T.K = X.K) (h : DE X P iter w) : DI X P (RF P.T) tg iter (wIt w) := by
  refine ⟨pi_imp (pi_any h.pe) fun σ H R q => ?_⟩
  obtain ⟨G, W, Q0, R0, S, q, ex, hq⟩ := q
  refine ⟨G, W, _, R0, S, q, ex, fun d O h1 v H1 W1 s1 e1 r => ?_⟩
  cases d <;> try exact h1.elim
  · simp only [Rep] at r
    exact .inr (.inr ⟨_, r, hq _ O h1 _ H1 W1 s1 e1 (wk_str _)⟩)
  · simp only [Rep] at r
    obtain ⟨a, vs, rfl, ha, r⟩ := r
    refine .inr (.inl ⟨a, rfl, ⟨vs, hK ▸ tupAt ha⟩, hq _ O h1 _ H1 W1 s1 e1 (wk_at r.len walk_tup fun W2 H2 k => ⟨?_, Reps.kp k.1 _ _ r⟩)⟩)
    exact hK ▸ tupAt (F := W2.F) (ha.imp (fun h => ⟨k.1.same _ _ h.1 h.2, (k.1.rd (.inl h.1) h.2).2⟩) id)
  · simp only [Rep] at r
    obtain ⟨a, vs, rfl, ha, n, r⟩ := r
    exact .inl ⟨a, rfl, ⟨vs, .of ha⟩, hq _ O h1 _ H1 W1 s1 e1 (wk_at r.len walk_list fun W2 H2 k => ⟨.of (k.1.same _ _ ha n), Reps.kp k.1 _ _ r⟩)⟩
  · simp only [Rep] at r
    obtain ⟨a, rfl, ha⟩ := r
    exact .inl ⟨a, rfl, ⟨_, hK ▸ seqL_kp Kp.refl ha⟩, hq _ O h1 _ H1 W1 s1 e1 (wk_at (by simp) walk_list fun W2 H2 k => ⟨hK ▸ seqL_kp k.1 ha, Reps.ints _⟩)⟩
/-- .. in a comprehension the list may be one's own -/
theorem di_valB (hK : P.T.K = X.K) (h : DB X P iter w) : DI X P (RS P.T) tg iter (wIt w) := by
  refine ⟨pi_imp (pi_any h.pe) fun σ H R q => ?_⟩
  obtain ⟨G, W, Q0, R0, S, q, ex, hq⟩ := q
  refine ⟨G, W, _, R0, S, q, ex, fun d O h1 v H1 W1 s1 e1 r => ?_⟩
  cases d <;> try exact h1.elim
  · exact .inr (.inr ⟨_, r, hq _ O h1 _ H1 W1 s1 e1 (wk_str _)⟩)
  · simp only [RepT, Rep] at r
    obtain ⟨a, vs, rfl, ha, r⟩ := r
    refine .inr (.inl ⟨a, rfl, ⟨vs, hK ▸ tupAt ha⟩, hq _ O h1 _ H1 W1 s1 e1 (wk_at r.len walk_tup fun W2 H2 k => ⟨?_, Reps.kp (Step.kp k s1.ok) _ _ r⟩)⟩)
    have k := Step.kp k s1.ok
    exact hK ▸ tupAt (F := W2.F) (ha.imp (fun h => ⟨k.same _ _ h.1 h.2, (k.rd (.inl h.1) h.2).2⟩) id)
  · obtain ⟨a, vs, rfl, ha, n, r⟩ := r
    exact .inl ⟨a, rfl, ⟨vs, .of ha⟩, hq _ O h1 _ H1 W1 s1 e1 (wk_at r.len walk_list fun W2 H2 k => ⟨.of (Step.keep k _ _ ha n), Reps.kp (Step.kp k s1.ok) _ _ r⟩)⟩
  · simp only [RepT, Rep] at r
    obtain ⟨a, rfl, ha⟩ := r
    exact .inl ⟨a, rfl, ⟨_, hK ▸ seqL_kp Kp.refl ha⟩, hq _ O h1 _ H1 W1 s1 e1 (wk_at (by simp) walk_list fun W2 H2 k => ⟨hK ▸ seqL_kp (Step.kp k s1.ok) ha, Reps.ints _⟩)⟩
/-- ranges -/
theorem wk_fn {T : Th} {R : Rl} {W1 : Wd} {H1 : Hp} {n : Nat} {J : It} {f : Nat → Int} (wk : Walk J n (fun _ => True) (YFn fun i => .int (f i))) : Wk T R W1 H1 ((List.range n).map fun i => .int (f i)) J := by
  refine ⟨_, _, (by rw [List.length_map, List.length_range]; exact wk), fun W2 H2 _ => ⟨trivial, fun i d e x H3 y => ?_⟩⟩
  obtain ⟨rfl, rfl⟩ := y
  refine ⟨fun _ _ z => z, ?_⟩
  rw [List.getElem?_map] at e
  cases q : (List.range n)[i]? with
  | none => rw [q] at e; cases e
  | some j =>
    rw [q] at e
    obtain ⟨hj, ej⟩ := List.getElem?_eq_some_iff.mp q
    rw [List.getElem_range] at ej
    cases e
    rw [ej]
    simp [Rep]
def rngL (lo : Int) (n : Nat) : List D := (List.range n).map fun (i : Nat) => .int (lo + (i : Int))
def rngC (lo c : Int) (n : Nat) : List D := (List.range n).map fun (i : Nat) => .int (lo + (i : Int) * c)
def gRng1 : List D → (List D → Prop) → Prop
  | [.int j], Q => (-(2 ^ 62) ≤ j ∧ j < 2 ^ 62) ∧ Q (rngL 0 j.toNat)
  | _, _ => False
def gRng2 : List D → (List D → Prop) → Prop
  | [.int i, .int j], Q => (-(2 ^ 62) ≤ i ∧ i < 2 ^ 62 ∧ -(2 ^ 62) ≤ j ∧ j < 2 ^ 62) ∧ Q (rngL i (j - i).toNat)
  | _, _ => False
def gRng3 : List D → (List D → Prop) → Prop
  | [.int i, .int j, .int c], Q => ∃ n, RgC i j c n ∧ Q (rngC i c n)
  | _, _ => False
def wRng (g : List D → (List D → Prop) → Prop) (w : WA) : WA := fun G Om Q R => w G Om (fun ds O => g ds fun xs => Q xs O) R
variable {R : Rl}
theorem di_rng1 (hm : X.mg "range" = none) (h : DA X P [a] wl) (hg : Gl X "range" := by rfl) (hs : starEach [a] X.env = [(false, eval a X.env)] := by rfl) : DI X P R tg (.Call (.Name "range" p) [a] [] pos) (wRng gRng1 wl) := by
  refine ⟨pi_imp (pi_range1 hg hm h.pa hs) fun σ H K q => ?_⟩
  obtain ⟨G, W, Q0, R0, S, q, ex, hq⟩ := q
  refine ⟨G, W, _, R0, S, q, ex, fun ds O h1 vs H1 W1 s1 e1 r => ?_⟩
  match ds, h1, r with
  | [.int j], h1, r =>
    have := Reps.ofInts (ns := [j]) r
    subst this
    exact ⟨j, rfl, h1.1.1, h1.1.2, hq _ O h1.2 _ H1 W1 s1 e1 (wk_fn (f := fun i => 0 + (i : Int)) walk_range)⟩
theorem di_rng2 (hm : X.mg "range" = none) (h : DA X P [a, b] wl) (hg : Gl X "range" := by rfl) (hs : starEach [a, b] X.env = [(false, eval a X.env), (false, eval b X.env)] := by rfl) (hs2 : starEach [b] X.env = [(false, eval b X.env)] := by rfl) :
    DI X P R tg (.Call (.Name "range" p) [a, b] [] pos) (wRng gRng2 wl) := by
  refine ⟨pi_imp (pi_range2 hg hm h.pa hs hs2) fun σ H K q => ?_⟩
  obtain ⟨G, W, Q0, R0, S, q, ex, hq⟩ := q
  refine ⟨G, W, _, R0, S, q, ex, fun ds O h1 vs H1 W1 s1 e1 r => ?_⟩
  match ds, h1, r with
  | [.int i, .int j], h1, r =>
    have := Reps.ofInts (ns := [i, j]) r
    subst this
    exact ⟨i, j, rfl, h1.1, hq _ O h1.2 _ H1 W1 s1 e1 (wk_fn (f := fun k => i + (k : Int)) walk_range)⟩
theorem di_rng3 (hm : X.mg "range" = none) (h : DA X P [a, b, c] wl) (hg : Gl X "range" := by rfl) (hs : starEach [a, b, c] X.env = (false, eval a X.env) :: starEach [b, c] X.env := by rfl) (hpl : (backTo pos (starEach [b, c] X.env)).any (·.1) = false := by rfl) :
    DI X P R tg (.Call (.Name "range" p) [a, b, c] [] pos) (wRng gRng3 wl) := by
  refine ⟨pi_imp (pi_range3 hg hm h.pa hs hpl) fun σ H K q => ?_⟩
  obtain ⟨G, W, Q0, R0, S, q, ex, hq⟩ := q
  refine ⟨G, W, _, R0, S, q, ex, fun ds O h1 vs H1 W1 s1 e1 r => ?_⟩
  match ds, h1, r with
  | [.int i, .int j, .int c], h1, r =>
    have := Reps.ofInts (ns := [i, j, c]) r
    subst this
    obtain ⟨n, hn, h1⟩ := h1
    exact ⟨i, j, c, n, rfl, hn, hq _ O h1 _ H1 W1 s1 e1 (wk_fn (f := fun k => i + (k : Int) * c) walk_rangeC)⟩
end

/-! ### targets -/
/-- all but the slots of is are as they were -/
def Ag (is : List Nat) (σ σ' : L2.St) : Prop := σ'.length = σ.length ∧ ∀ j, j ∉ is → σ'[j]? = σ[j]?
theorem Ag.refl {is : List Nat} {σ : L2.St} : Ag is σ σ := ⟨rfl, fun _ _ => rfl⟩
theorem Ag.trans {is is' : List Nat} {σ σ1 σ2 : L2.St} (a : Ag is σ σ1) (b : Ag is' σ1 σ2) : Ag (is ++ is') σ σ2 :=
  ⟨b.1.trans a.1, fun j h => by
    rw [List.mem_append, not_or] at h
    exact (b.2 j h.2).trans (a.2 j h.1)⟩
theorem wipe_get (σ : L2.St) (j : Nat) : ∀ vs : List Nat, (wipe σ vs)[j]? = if j ∈ vs then (if j < σ.length then some none else none) else σ[j]?
  | [] => by simp [wipe]
  | v :: vs => by
    unfold wipe
    by_cases e : v = j
    · subst e
      rw [List.getElem?_set, if_pos rfl, wipe_length, if_pos List.mem_cons_self]
    · rw [List.getElem?_set_ne e, wipe_get σ j vs]
      have : (j ∈ v :: vs) = (j ∈ vs) := by
        simp only [List.mem_cons, eq_iff_iff]
        exact ⟨fun h => h.elim (fun h => absurd h.symm e) _root_.id, .inr⟩
      simp only [this]
theorem Ag.wipe {is vs : List Nat} {σ σ' : L2.St} (a : Ag is (wipe σ vs) σ') (h : ∀ i ∈ is, i ∈ vs) : L2.wipe σ' vs = L2.wipe σ vs := by
  refine List.ext_getElem? fun j => ?_
  rw [wipe_get, wipe_get]
  have l : σ'.length = σ.length := a.1.trans (wipe_length σ vs)
  rw [l]
  by_cases q : j ∈ vs
  · rw [if_pos q, if_pos q]
  · rw [if_neg q, if_neg q, a.2 j fun z => q (h j z), wipe_get, if_neg q]
def wipeG (G : Gam) : List Nat → Gam
  | [] => G
  | v :: vs => (wipeG G vs).set v .no
theorem wipeG_length (G : Gam) : ∀ vs : List Nat, (wipeG G vs).length = G.length
  | [] => rfl
  | v :: vs => by unfold wipeG; rw [List.length_set, wipeG_length G vs]
theorem wipeG_get (G : Gam) (j : Nat) : ∀ vs : List Nat, (wipeG G vs)[j]? = if j ∈ vs then (if j < G.length then some .no else none) else G[j]?
  | [] => by simp [wipeG]
  | v :: vs => by
    unfold wipeG
    by_cases e : v = j
    · subst e
      rw [List.getElem?_set, if_pos rfl, wipeG_length, if_pos List.mem_cons_self]
    · rw [List.getElem?_set_ne e, wipeG_get G j vs]
      have : (j ∈ v :: vs) = (j ∈ vs) := by
        simp only [List.mem_cons, eq_iff_iff]
        exact ⟨fun h => h.elim (fun h => absurd h.symm e) _root_.id, .inr⟩
      simp only [this]
section
variable {P : Pm} {G : Gam} {W : Wd} {σ : L2.St} {H : Hp}
theorem Sta.wipe (S : Sta P G W σ H) (vs : List Nat) : Sta P (wipeG G vs) W (wipe σ vs) H := by
  have out : ∀ (j : Nat) s, (wipeG G vs)[j]? = some s → s ≠ .no → j ∉ vs ∧ G[j]? = some s := fun j s e n => by
    rw [wipeG_get] at e
    by_cases q : j ∈ vs
    · rw [if_pos q] at e
      split at e
      · cases e; exact absurd rfl n
      · cases e
    · rw [if_neg q] at e
      exact ⟨q, e⟩
  refine ⟨S.st, by rw [wipeG_length, wipe_length, S.len], fun i s e => ?_, fun i j m m' a e1 e2 h1 h2 => ?_⟩
  · by_cases n : s = .no
    · subst n; trivial
    · obtain ⟨q, e⟩ := out i s e n
      rw [wipe_get, if_neg q]
      exact S.sl i s e
  · obtain ⟨q1, e1⟩ := out i _ e1 (by intro z; cases z)
    obtain ⟨q2, e2⟩ := out j _ e2 (by intro z; cases z)
    rw [wipe_get, if_neg q1] at h1
    rw [wipe_get, if_neg q2] at h2
    exact S.ap i j m m' a e1 e2 h1 h2
theorem Sta.set (S : Sta P G W σ H) {i : Nat} {d : D} {v : V} (r : Rep P.T W.F H d v) : Sta P (G.set i (.val d)) W (σ.set i (some v)) H := by
  have out : ∀ (j : Nat) m, (G.set i (.val d))[j]? = some (.own m) → j ≠ i ∧ G[j]? = some (.own m) := fun j m e => by
    by_cases q : i = j
    · subst q
      rw [List.getElem?_set, if_pos rfl] at e
      split at e <;> cases e
    · rw [List.getElem?_set_ne q] at e
      exact ⟨Ne.symm q, e⟩
  refine ⟨S.st, by simp [S.len], fun j s e => ?_, fun j k m m' a e1 e2 h1 h2 => ?_⟩
  · by_cases q : i = j
    · subst q
      rw [List.getElem?_set, if_pos rfl] at e
      split at e
      · rename_i hl
        cases e
        rw [List.getElem?_set, if_pos rfl, if_pos (by rw [← S.len]; exact hl)]
        exact ⟨v, rfl, r⟩
      · cases e
    · rw [List.getElem?_set_ne q] at e
      rw [List.getElem?_set_ne q]
      exact S.sl j s e
  · obtain ⟨q1, e1⟩ := out j m e1
    obtain ⟨q2, e2⟩ := out k m' e2
    rw [List.getElem?_set_ne (Ne.symm q1)] at h1
    rw [List.getElem?_set_ne (Ne.symm q2)] at h2
    exact S.ap j k m m' a e1 e2 h1 h2
end
abbrev WG := D → Gam → (Gam → Prop) → Prop
def tG (P : Pm) (is : List Nat) (f : WG) : TG := fun v σ H Q => ∃ G W d Q0, Sta P G W σ H ∧ Rep P.T W.F H d v ∧ f d G Q0 ∧ ∀ G', Q0 G' → ∀ σ', Sta P G' W σ' H → Ag is σ σ' → Q σ' H
def tGs (P : Pm) (is : List Nat) (f : List D → Gam → (Gam → Prop) → Prop) : TGs := fun vs σ H Q => ∃ G W ds Q0, Sta P G W σ H ∧ Reps P.T W.F H ds vs ∧ f ds G Q0 ∧ ∀ G', Q0 G' → ∀ σ', Sta P G' W σ' H → Ag is σ σ' → Q σ' H
structure DG (X : Cx) (P : Pm) (e : Expr) (is : List Nat) (f : WG) : Prop where
  pg : PG X e (tG P is f)
structure DGs (X : Cx) (P : Pm) (es : List Expr) (is : List Nat) (f : List D → Gam → (Gam → Prop) → Prop) : Prop where
  pg : PGs X es (tGs P is f)
section
variable {X : Cx} {P : Pm} {e : Expr} {es : List Expr} {pos : Pos}
theorem pg_imp {t t' : TG} (h : PG X e t) (i : ∀ v σ H Q, t' v σ H Q → t v σ H Q) : PG X e t' := ⟨fun pins s σ H v u Q I r q => h.run pins s σ H v u Q I r (i v σ H Q q)⟩
theorem pgs_imp {t t' : TGs} (h : PGs X es t) (i : ∀ v σ H Q, t' v σ H Q → t v σ H Q) : PGs X es t' := ⟨fun pins s σ H v u Q I r q => h.run pins s σ H v u Q I r (i v σ H Q q)⟩
def fName (i : Nat) : WG := fun d G Q => Q (G.set i (.val d))
def fNil : List D → Gam → (Gam → Prop) → Prop
  | [], G, Q => Q G
  | _ :: _, _, _ => False
def fCons (f : WG) (r : List D → Gam → (Gam → Prop) → Prop) : List D → Gam → (Gam → Prop) → Prop
  | [], _, _ => False
  | d :: ds, G, Q => f d G fun G' => r ds G' Q
def fTup (n : Nat) (f : List D → Gam → (Gam → Prop) → Prop) : WG
  | .tup ds, G, Q => ds.length = n ∧ f ds G Q
  | _, _, _ => False
theorem dg_name (hN : X.N.Nodup) (i : Nat) {x : Str} (hi : X.N[i]? = some x := by rfl) (hx : Loc X.env.scope x := by first | exact Or.inl rfl | exact Or.inr rfl) (hf : X.fn x = true ∨ X.env.scope.names.lookup x = some .local := by first | exact .inl rfl | exact .inr rfl) :
    DG X P (.Name x pos) [i] (fName i) := by
  refine ⟨pg_imp (pg_name hN hi hx hf) fun v σ H Q ⟨G, W, d, Q0, S, r, f, hq⟩ => ?_⟩
  exact hq _ f _ (S.set r) ⟨List.length_set, fun j hj => List.getElem?_set_ne fun z => hj (by rw [z]; exact List.mem_cons_self)⟩
theorem dgs_nil : DGs X P [] [] fNil := by
  refine ⟨pgs_imp pgs_nil fun vs σ H Q ⟨G, W, ds, Q0, S, r, f, hq⟩ => ?_⟩
  cases ds with
  | nil => exact ⟨by simpa [Reps] using r, hq _ f _ S .refl⟩
  | cons d ds => exact f.elim
theorem dgs_cons {is js : List Nat} {f : WG} {g : List D → Gam → (Gam → Prop) → Prop} (h1 : DG X P e is f) (h2 : DGs X P es js g) (hs : (assignEach (e :: es) X.env).map (·.2) = assign e X.env :: (assignEach es X.env).map (·.2) := by rfl) : DGs X P (e :: es) (is ++ js) (fCons f g) := by
  refine ⟨pgs_imp (pgs_cons h1.pg h2.pg hs) fun vs σ H Q ⟨G, W, ds, Q0, S, r, q, hq⟩ => ?_⟩
  cases ds with
  | nil => exact q.elim
  | cons d ds =>
    simp only [Reps] at r
    obtain ⟨v, vr, e, r1, r2⟩ := r
    refine ⟨v, vr, e, G, W, d, _, S, r1, q, fun G1 q1 σ1 S1 a1 => ⟨G1, W, ds, _, S1, r2, q1, fun G2 q2 σ2 S2 a2 => hq _ q2 _ S2 (a1.trans a2)⟩⟩
theorem dg_tup {n k : Nat} {is : List Nat} {f : List D → Gam → (Gam → Prop) → Prop} (hK : P.T.K = X.K) (hc : X.calm = true) (h : DGs X P es is f) (hn : (assignEach es X.env).length = n := by rfl) (hst : (assignEach es X.env).findIdx? (·.1) = none := by rfl) : DG X P (.Tuple es k pos) is (fTup n f) := by
  refine ⟨pg_imp (pg_tup hc h.pg hn hst) fun v σ H Q ⟨G, W, d, Q0, S, r, q, hq⟩ => ?_⟩
  cases d <;> try exact q.elim
  simp only [Rep] at r
  obtain ⟨a, vs, rfl, ha, r⟩ := r
  exact ⟨a, vs, rfl, hK ▸ tupAt ha, r.len.trans q.1, G, W, _, Q0, S, r, q.2, hq⟩
end
end N

set_option Elab.async false
set_option linter.all false
set_option maxRecDepth 100000
set_option maxHeartbeats 0
/-! NF: comprehensions -/
namespace N
open PySem PySem.Spec PyProof.Rows L2
section
variable {X : Cx} {P : Pm}
structure DTs (X : Cx) (P : Pm) (ifs : List Expr) (w : WT) : Prop where
  pt : PTs X ifs (tT P w)
def wtYes : WT := fun _ Om Q _ => Q true Om
theorem dts_nil : DTs X P [] wtYes := ⟨⟨fun pins s σ H Q I ⟨G, W, Q0, R0, S, q, ex, hq⟩ => pts_nil.run pins s σ H Q I (hq true _ q H W (Step.refl S.ok) rfl)⟩⟩
theorem dts_one {c : Expr} {w : WT} (h : DT X P c w) : DTs X P [c] w := ⟨pts_one h.pt⟩
def noR : RX := fun _ _ => False
theorem exNo {P : Pm} {W : Wd} {H : Hp} {σ : L2.St} : exOk P W H σ noR := fun _ _ h => h.elim
/-- the turns of a comprehension -/
def wTurns (f : WG) (wt : WT) (we : WE) (G : Gam) : List D → List D → Om → (List D → Om → Prop) → Prop
  | [], acc, O, Q => Q acc O
  | d :: r, acc, O, Q => acc.length < 16777216 ∧ f d G fun G2 => wt G2 O (fun b O2 => br b (we G2 O2 (fun x O3 => wTurns f wt we G r (acc ++ [x]) O3 Q) noR) (wTurns f wt we G r acc O2 Q)) noR
def wComp (wi : WA) (f : WG) (wt : WT) (we : WE) (vs : List Nat) : WF := fun G Om Q R => wi G Om (fun items O1 => wTurns f wt we (wipeG G vs) items [] O1 fun ds O2 => Q (.lst ds) O2) R
theorem lc_imp {wi : WA} {f : WG} {wt : WT} {we : WE} {vs is : List Nat} (hsub : ∀ i ∈ is, i ∈ vs) :
    ∀ σ H Q, tF P (wComp wi f wt we vs) σ H Q → tLc (tI P (RS P.T) wi) (tG P.noW is f) (tT P.noW wt) (tE P.noW we) vs σ H Q := fun σ H Q q => by
  obtain ⟨G, W, Q0, R0, S, q, ex, hq⟩ := q
  refine ⟨G, W, _, R0, S, q, ex, fun items O h1 J H1 W1 s1 e1 wk D hD => ?_⟩
  subst e1
  obtain ⟨Gd, Y, wk, hy⟩ := wk
  have S1 := S.step s1
  have n0 : Step P.T W1 H1 (W1.add D) (upd H1 D (.lst [])) := Step.newOwn s1.ok hD
  have npm0 : ¬ W1.pm D := fun z => s1.ok.trk D (s1.ok.sub D z) hD
  refine lc_it wk (fun i Hc => ∃ Wt acc vacc, Step P.T W1 H1 Wt Hc ∧ Wt.F D ∧ ¬ Wt.pm D ∧ Hc D = some (.lst vacc) ∧ Reps P.T Wt.F Hc acc vacc ∧ wTurns f wt we (wipeG G vs) (items.drop i) acc Wt.Om fun ds O2 => Q0 (.lst ds) O2)
    ⟨W1.add D, [], [], n0, .inr rfl, npm0, upd_same, .nil, h1⟩ (fun i Hc _ ⟨Wt, acc, vacc, st, _⟩ => (hy Wt Hc st).1) (fun i x Hc H' hi ⟨Wt, acc, vacc, st, hF, hpm, hl, hr, ht⟩ hyx => ?_) (fun Hc ⟨Wt, acc, vacc, st, hF, hpm, hl, hr, ht⟩ => ?_)
  · obtain ⟨_, hy2⟩ := hy Wt Hc st
    have gi : items[i]? = some items[i] := List.getElem?_eq_getElem hi
    obtain ⟨nw, rx⟩ := hy2 i _ gi x H' hyx
    have dr : items.drop i = items[i] :: items.drop (i + 1) := List.drop_eq_getElem_cons hi
    rw [dr] at ht
    obtain ⟨hsz, ht⟩ := ht
    have st' : Step P.T W1 H1 Wt H' := st.trans (Step.ext st.ok nw)
    have S2 : Sta P.noW (wipeG G vs) Wt (wipe σ vs) H' := ((S1.step st').noW).wipe vs
    refine ⟨wipeG G vs, Wt, items[i], _, S2, rx, ht, fun G2 h2 σ2 S3 ag => ⟨ag.wipe hsub, ?_⟩⟩
    refine ⟨G2, Wt, _, noR, S3, h2, exNo, fun b O2 h3 H3 W3 s3 e3 => ?_⟩
    subst e3
    have hl3 : H3 D = some (.lst vacc) := s3.keep D _ (nw D _ hl) hpm
    have npm3 : ¬ W3.pm D := s3.pm (nw D _ hl) hpm
    have hr3 : Reps P.T W3.F H3 acc vacc := Reps.kp (s3.kp st'.ok) _ _ (Reps.kp ((Step.ext st.ok nw).kp st.ok) _ _ hr)
    have st3 := st'.trans s3
    cases b with
    | false => exact ⟨W3, acc, vacc, st3, s3.sub D hF, npm3, hl3, hr3, h3⟩
    | true =>
      rw [if_pos rfl]
      refine ⟨G2, W3, _, noR, S3.step s3, h3, exNo, fun d O4 h4 y H4 W4 s4 e4 ry => ?_⟩
      subst e4
      have hl4 : H4 D = some (.lst vacc) := s4.keep D _ hl3 npm3
      have npm4 : ¬ W4.pm D := s4.pm hl3 npm3
      have hF4 := s4.sub D (s3.sub D hF)
      have hr4 : Reps P.T W4.F H4 acc vacc := Reps.kp (s4.kp s3.ok) _ _ hr3
      refine ⟨vacc, hl4, Nat.lt_of_lt_of_le (by rw [hr4.len]; exact hsz) (by decide), W4, acc ++ [d], vacc ++ [y], (st3.trans s4).mutO hD hF4 npm4, hF4, npm4, upd_same, ?_, h4⟩
      exact Reps.kp (Kp.mut hF4) _ _ (hr4.app (.cons ry .nil))
  · rw [List.drop_length] at ht
    have nOm : Wt.Om D = none := by
      cases q : Wt.Om D with
      | none => rfl
      | some m => exact (hpm ⟨D, by rw [q]; simp, (st.ok.at_ D m q).2⟩).elim
    exact hq _ _ ht D Hc Wt (s1.trans st) rfl (s1.back hD) hF hpm nOm ⟨vacc, hl, hr⟩
variable {elt tg iter : Expr} {ifs : List Expr} {scope : Scope} {own : List (Str × Nat)} {pos : Pos} {wi : WA} {f : WG} {wt : WT} {we : WE} {is : List Nat}
theorem df_lc (hc : X.calm = true) (hN : X.N.Nodup) (own : List (Str × Nat)) (hi : DI X P (RS P.T) tg iter wi)
    (hg : ∀ (s : Shared) (H : Hp) (C : Addr) (cl : List (Str × Addr)) (fp : List Addr), DG (X.blk s H scope (compEnvC scope cl C X.env) fp) P.noW tg is f)
    (ht : ∀ (s : Shared) (H : Hp) (C : Addr) (cl : List (Str × Addr)) (fp : List Addr), DTs (X.blk s H scope (compEnvC scope cl C X.env) fp) P.noW ifs wt)
    (he : ∀ (s : Shared) (H : Hp) (C : Addr) (cl : List (Str × Addr)) (fp : List Addr), DE (X.blk s H scope (compEnvC scope cl C X.env) fp) P.noW elt we)
    (ok : blkC X.N X.env.scope scope own = true := by kernel_rfl) (hsub : ∀ i ∈ is, i ∈ own.map (·.2) := by decide) (hs : ∀ x, foldedSetIterable iter X.env x = pure x := by intro _; rfl) :
    DF X P (.ListComp elt [⟨tg, iter, ifs, 0⟩] scope pos) (wComp wi f wt we (own.map (·.2))) :=
  ⟨pe_imp (pe_lc hc hN hi.pi (blkOk_by ok) (fun s H C cl fp => (hg s H C cl fp).pg) (fun s H C cl fp => (ht s H C cl fp).pt) (fun s H C cl fp => (he s H C cl fp).pe) hs) (lc_imp hsub)⟩
end
end N

set_option Elab.async false
set_option linter.all false
set_option maxRecDepth 100000
set_option maxHeartbeats 0
/-! NG: statements, defs, calls -/
namespace N
open PySem PySem.Spec PyProof.Rows L2
structure Post where
  nx : Gam → Om → Prop
  rt : D → Om → Prop
  bk : Gam → Om → Prop
  ct : Gam → Om → Prop
  ex : Exn → Gam → Om → Prop
abbrev WS := Gam → Om → Post → Prop
structure PostOk (P : Pm) (W : Wd) (H : Hp) (Po : Post) (E : Ends) (rt : VK) (bk ct : L2.St → Hp → Prop) : Prop where
  nx : ∀ G' O, Po.nx G' O → ∀ σ' H' W', Kp W.F H W'.F H' → Sta P G' W' σ' H' → W'.Om = O → E.nx σ' H'
  rt : ∀ d O, Po.rt d O → ∀ v H' W', Step P.T P.W0 P.H0 W' H' → W'.Om = O → Rep P.T W'.F H' d v → rt v H'
  bk : ∀ G' O, Po.bk G' O → ∀ σ' H' W', Kp W.F H W'.F H' → Sta P G' W' σ' H' → W'.Om = O → bk σ' H'
  ct : ∀ G' O, Po.ct G' O → ∀ σ' H' W', Kp W.F H W'.F H' → Sta P G' W' σ' H' → W'.Om = O → ct σ' H'
  ex : ∀ x G' O, Po.ex x G' O → ∀ cls dd σ' H' W', Kp W.F H W'.F H' → Sta P G' W' σ' H' → W'.Om = O → XRep P.T W'.F H' x cls dd → P.W cls dd σ' H'
def tS (P : Pm) (w : WS) : TS := fun E σ H => ∃ G W Po, Sta P G W σ H ∧ w G W.Om Po ∧ PostOk P W H Po E E.rt E.bk E.ct
structure DS (X : Cx) (P : Pm) (s : Stmt) (w : WS) : Prop where
  ps : PS X s (tS P w)
structure DSs (X : Cx) (P : Pm) (s : List Stmt) (w : WS) : Prop where
  ps : PSs X s (tS P w)
theorem ps_imp {X : Cx} {s : Stmt} {t t' : TS} (h : PS X s t) (i : ∀ D σ H, t' D σ H → t D σ H) : PS X s t' := ⟨fun pins s σ H D I q => h.run pins s σ H D I (i D σ H q)⟩
theorem pss_imp {X : Cx} {s : List Stmt} {t t' : TS} (h : PSs X s t) (i : ∀ D σ H, t' D σ H → t D σ H) : PSs X s t' := ⟨fun pins s σ H D I q => h.run pins s σ H D I (i D σ H q)⟩
section
variable {P : Pm} {G : Gam} {W W' : Wd} {σ : L2.St} {H H' : Hp} {Po : Post} {E : Ends} {rt : VK} {bk ct : L2.St → Hp → Prop}
theorem PostOk.exE (h : PostOk P W H Po E rt bk ct) (S : Sta P G W σ H) : exOk P W H σ fun x O => Po.ex x G O :=
  fun x O q cls dd H' W' s e r => h.ex x G O q cls dd σ H' W' (s.kp S.ok) (S.step s) e r
/-- from a later state on -/
theorem PostOk.kp (h : PostOk P W H Po E rt bk ct) (k : Kp W.F H W'.F H') : PostOk P W' H' Po E rt bk ct :=
  ⟨fun G' O q σ' H2 W2 k2 => h.nx G' O q σ' H2 W2 (k.trans k2), h.rt, fun G' O q σ' H2 W2 k2 => h.bk G' O q σ' H2 W2 (k.trans k2), fun G' O q σ' H2 W2 k2 => h.ct G' O q σ' H2 W2 (k.trans k2), fun x G' O q cls dd σ' H2 W2 k2 => h.ex x G' O q cls dd σ' H2 W2 (k.trans k2)⟩
end
section
variable {X : Cx} {P : Pm} {s : Stmt} {rest : List Stmt} {e a b c : Expr} {w wa wb : WE} {u v : WS} {pos pos' : Pos}
def wSeq (u v : WS) : WS := fun G Om Po => u G Om { Po with nx := fun G' O => v G' O Po }
def wNext : WS := fun G Om Po => Po.nx G Om
theorem dss_nil : DSs X P [] wNext := ⟨pss_imp pss_nil fun D σ H ⟨G, W, Po, S, q, h⟩ => h.nx G _ q σ H W Kp.refl S rfl⟩
theorem dss_cons (h1 : DS X P s u) (h2 : DSs X P rest v) : DSs X P (s :: rest) (wSeq u v) := by
  refine ⟨pss_imp (pss_cons h1.ps h2.ps) fun D σ H ⟨G, W, Po, S, q, h⟩ => ?_⟩
  exact ⟨G, W, _, S, q, ⟨fun G' O q' σ' H' W' k S' e => ⟨G', W', Po, S', by rw [e]; exact q', h.kp k⟩, h.rt, h.bk, h.ct, h.ex⟩⟩
theorem dss_one (h1 : DS X P s u) : DSs X P [s] u := ⟨pss_one h1.ps⟩
theorem ds_pass : DS X P (.Pass pos) wNext := ⟨ps_imp ps_pass fun D σ H ⟨G, W, Po, S, q, h⟩ => h.nx G _ q σ H W Kp.refl S rfl⟩
def wBrk : WS := fun G Om Po => Po.bk G Om
def wCnt : WS := fun G Om Po => Po.ct G Om
theorem ds_brk : DS X P (.Break pos) wBrk := ⟨ps_imp ps_break fun D σ H ⟨G, W, Po, S, q, h⟩ => h.bk G _ q σ H W Kp.refl S rfl⟩
theorem ds_cnt : DS X P (.Continue pos) wCnt := ⟨ps_imp ps_continue fun D σ H ⟨G, W, Po, S, q, h⟩ => h.ct G _ q σ H W Kp.refl S rfl⟩
def wNev : WS := fun _ _ _ => False
theorem ds_never : DS X P s wNev := ⟨ps_imp ps_never fun D σ H ⟨G, W, Po, S, q, h⟩ => q⟩
theorem dss_never {st : List Stmt} : DSs X P st wNev := ⟨pss_imp pss_never fun D σ H ⟨G, W, Po, S, q, h⟩ => q⟩
/-- a value that is dropped -/
def wDrop (w : WE) : WS := fun G Om Po => w G Om (fun _ O => Po.nx G O) fun x O => Po.ex x G O
theorem ds_expr (h : DE X P e w) (hs : swapsWith e none pos.line X.env = pure false := by rfl) : DS X P (.Expr e pos) (wDrop w) :=
  ⟨ps_imp (ps_expr h.pe hs) fun D σ H ⟨G, W, Po, S, q, h⟩ => ⟨G, W, _, _, S, q, h.exE S, fun d O q' v H' W' s' e r => h.nx G O q' σ H' W' (s'.kp S.ok) (S.step s') e⟩⟩
def wRet (w : WE) : WS := fun G Om Po => w G Om Po.rt fun x O => Po.ex x G O
theorem ds_ret (h : DE X P e w) : DS X P (.Return (some e) pos) (wRet w) :=
  ⟨ps_imp (ps_ret h.pe) fun D σ H ⟨G, W, Po, S, q, h⟩ => ⟨G, W, _, _, S, q, h.exE S, fun d O q' v H' W' s' e r => h.rt d O q' v H' W' (S.st.trans s') e r⟩⟩
def wRetN : WS := fun _ Om Po => Po.rt .non Om
theorem ds_retN : DS X P (.Return none pos) wRetN := ⟨ps_imp ps_retN fun D σ H ⟨G, W, Po, S, q, h⟩ => h.rt _ _ q _ H W S.st rfl (by simp [Rep])⟩
/-- an own thing is handed back: it is own no more -/
def wRetO (i : Nat) : WS := fun G Om Po => match getSl G i with | .val d => Po.rt d Om | .own m => Po.rt m.see Om | .no => False
theorem ds_retO (i : Nat) {x : Str} {p2 : Pos} (ok0 : WOk P.T P.W0 P.H0) (hN : X.N[i]? = some x := by rfl) (hv : Vis X.env.scope x := by first | exact Or.inl rfl | exact Or.inr (Or.inl rfl) | exact Or.inr (Or.inr rfl)) (hd : (x == ("__debug__" : Str)) = false := by decide)
    (hcd : (x == ("__classdict__" : Str)) = false := by decide) : DS X P (.Return (some (.Name x p2)) pos) (wRetO i) := by
  refine ⟨ps_imp (ps_ret (pe_lock (pe_var hN hv hd hcd))) fun D σ H ⟨G, W, Po, S, q, h⟩ => ?_⟩
  unfold wRetO at q
  split at q
  · rename_i d e
    have g := getSl_get G i (by rw [e]; intro z; cases z)
    rw [e] at g
    obtain ⟨v, e1, r⟩ := S.sl i _ g
    exact ⟨v, e1, .inl (h.rt d _ q v H W S.st rfl r)⟩
  · rename_i m e
    have g := getSl_get G i (by rw [e]; intro z; cases z)
    rw [e] at g
    obtain ⟨a, e1, o⟩ := S.sl i _ g
    exact ⟨.ref a, e1, own_see S.st ok0 o.n o.f o.p o.r fun H' s2 _ r2 => h.rt _ _ q _ H' (W.del a) s2 rfl r2⟩
  · exact q.elim
/-- name = value -/
def wSet (i : Nat) (w : WE) : WS := fun G Om Po => w G Om (fun d O => Po.nx (G.set i (.val d)) O) fun x O => Po.ex x G O
theorem set_imp {i : Nat} : ∀ D σ H, tS P (wSet i w) D σ H → tAsg (tE P w) (gName i) D σ H := fun D σ H ⟨G, W, Po, S, q, h⟩ =>
  ⟨G, W, _, _, S, q, h.exE S, fun d O q' v H' W' s' e r => h.nx _ O q' _ H' W' (s'.kp S.ok) ((S.step s').set r) e⟩
theorem ds_set (hN : X.N.Nodup) (i : Nat) {x : Str} (h : DE X P e w) (hi : X.N[i]? = some x := by rfl) (hx : Loc X.env.scope x := by first | exact Or.inl rfl | exact Or.inr rfl) (hs : swapsWith e (some (.Name x pos')) pos.line X.env = pure false := by rfl) (hf : X.fn x = true ∨ X.env.scope.names.lookup x = some .local := by first | exact .inl rfl | exact .inr rfl) :
    DS X P (.Assign [.Name x pos'] e pos) (wSet i w) := ⟨ps_imp (ps_set hN hi hx h.pe hs hf) set_imp⟩
/-- name = a new thing that is to be changed later -/
def wSetO (i : Nat) (w : WF) : WS := fun G Om Po => w G Om (fun m O => Po.nx (G.set i (.own m)) O) fun x O => Po.ex x G O
theorem Sta.setO {G : Gam} {W W' : Wd} {σ : L2.St} {H H' : Hp} (S : Sta P G W σ H) {i : Nat} {p : Addr} {m : MO} (s : Step P.T W H W' H') (n1 : H p = none) (a1 : W'.F p) (a2 : ¬ W'.pm p) (a3 : W'.Om p = none) (r : MRep P.T W'.F (fun _ => False) H' p m) :
    Sta P (G.set i (.own m)) W' (σ.set i (some (.ref p))) H' := by
  have S1 := S.step s
  have h0 : P.H0 p = none := S.st.back n1
  have ne : ∀ (j : Nat) m' a, G[j]? = some (.own m') → σ[j]? = some (some (.ref a)) → a ≠ p := fun j m' a e1 e2 z => by
    obtain ⟨b, e3, o⟩ := S.sl j _ e1
    rw [e2] at e3
    cases e3
    obtain ⟨u, q⟩ := o.there S.ok
    rw [z, n1] at q; cases q
  refine ⟨S1.st, by simp [S.len], fun j x e => ?_, fun j k m1 m2 a e1 e2 h1 h2 => ?_⟩
  · by_cases q : i = j
    · subst q
      rw [List.getElem?_set, if_pos rfl] at e
      split at e
      · rename_i hl
        cases e
        rw [List.getElem?_set, if_pos rfl, if_pos (by rw [← S.len]; exact hl)]
        exact ⟨p, rfl, ⟨a1, a3, a2, h0, r⟩⟩
      · cases e
    · rw [List.getElem?_set_ne q] at e
      rw [List.getElem?_set_ne q]
      exact S1.sl j x e
  · by_cases q : i = j <;> by_cases q2 : i = k
    · rw [← q, ← q2]
    · subst q
      rw [List.getElem?_set_ne q2] at e2 h2
      rw [List.getElem?_set, if_pos rfl] at h1
      split at h1
      · cases h1
        exact absurd rfl (ne k m2 _ e2 h2)
      · cases h1
    · subst q2
      rw [List.getElem?_set_ne q] at e1 h1
      rw [List.getElem?_set, if_pos rfl] at h2
      split at h2
      · cases h2
        exact absurd rfl (ne j m1 _ e1 h1)
      · cases h2
    · rw [List.getElem?_set_ne q] at e1 h1
      rw [List.getElem?_set_ne q2] at e2 h2
      exact S.ap j k m1 m2 a e1 e2 h1 h2
theorem setO_imp {i : Nat} {w : WF} : ∀ D σ H, tS P (wSetO i w) D σ H → tAsg (tF P w) (gName i) D σ H := fun D σ H ⟨G, W, Po, S, q, h⟩ =>
  ⟨G, W, _, _, S, q, h.exE S, fun m O q' p H' W' s' e n1 a1 a2 a3 r => h.nx _ O q' _ H' W' (s'.kp S.ok) (S.setO s' n1 a1 a2 a3 r) e⟩
def ndQ : MO → Prop → Prop
  | .dct _ _, _ => False
  | _, p => p
theorem ndQ_ok : ∀ {m : MO} {p : Prop}, ndQ m p → noDct m ∧ p
  | .dct _ _, _, h => h.elim
  | .lst _, _, h => ⟨trivial, h⟩
  | .ins _ _ _, _, h => ⟨trivial, h⟩
  | .abs _, _, h => ⟨trivial, h⟩
theorem setF_imp {i : Nat} {w : WF} (hl : ∀ G Om Q R, w G Om Q R → w G Om (fun m O => ndQ m (Q m O)) R) : ∀ D σ H, tS P (wSet i (wFrz w)) D σ H → tAsg (tF P w) (gName i) D σ H := fun D σ H ⟨G, W, Po, S, q, h⟩ =>
  ⟨G, W, _, _, S, hl _ _ _ _ q, h.exE S, fun m O q' p H' W' s' e n1 a1 a2 a3 r => have q' := ndQ_ok q'; h.nx _ O q'.2 _ H' (W'.del p) ((s'.del S.ok n1 a2).kp S.ok) ((S.step (s'.del S.ok n1 a2)).set (rep_see (fun z => z.2 rfl) q'.1 (noFp (fp := fun _ => False) (Kp.less fun b h => h.1) rfl r))) e⟩
theorem ds_setO (hN : X.N.Nodup) (i : Nat) {w : WF} {x : Str} (h : DF X P e w) (hi : X.N[i]? = some x := by rfl) (hx : Loc X.env.scope x := by first | exact Or.inl rfl | exact Or.inr rfl) (hs : swapsWith e (some (.Name x pos')) pos.line X.env = pure false := by rfl) (hf : X.fn x = true ∨ X.env.scope.names.lookup x = some .local := by first | exact .inl rfl | exact .inr rfl) :
    DS X P (.Assign [.Name x pos'] e pos) (wSetO i w) := ⟨ps_imp (ps_set hN hi hx h.pe hs hf) setO_imp⟩
/-- name = [.. for ..] on one line -/
theorem ps_lc {elt tg iter : Expr} {ifs : List Expr} {scope : Scope} {spos lpos : Pos} {wi : WA} {f : WG} {wt : WT} {we : WE} {is : List Nat} {y : Str} {py : Pos} (hc : X.calm = true) (hN : X.N.Nodup) (i : Nat) (own : List (Str × Nat)) (hi : DI X P (RS P.T) tg iter wi)
    (hg : ∀ (s : Shared) (H : Hp) (C : Addr) (cl : List (Str × Addr)) (fp : List Addr), DG (X.blk s H scope (compEnvC scope cl C X.env) fp) P.noW tg is f)
    (ht : ∀ (s : Shared) (H : Hp) (C : Addr) (cl : List (Str × Addr)) (fp : List Addr), DTs (X.blk s H scope (compEnvC scope cl C X.env) fp) P.noW ifs wt)
    (he : ∀ (s : Shared) (H : Hp) (C : Addr) (cl : List (Str × Addr)) (fp : List Addr), DE (X.blk s H scope (compEnvC scope cl C X.env) fp) P.noW elt we)
    (hy : X.N[i]? = some y) (hyl : X.env.scope.names.lookup y = some .local) (hsw : swapsWith (.ListComp elt [⟨tg, iter, ifs, 0⟩] scope lpos) (some (.Name y py)) spos.line X.env = pure true)
    (ok : blkC X.N X.env.scope scope own = true) (hsub : ∀ i ∈ is, i ∈ own.map (·.2)) (hs : ∀ x, foldedSetIterable iter X.env x = pure x) {t : TS} (himp : ∀ D σ H, t D σ H → tAsg (tF P (wComp wi f wt we (own.map (·.2)))) (gName i) D σ H) :
    PS X (.Assign [.Name y py] (.ListComp elt [⟨tg, iter, ifs, 0⟩] scope lpos) spos) t :=
  ps_imp (ps_setLc hc hN hy hyl hsw hi.pi (blkOk_by ok) (fun s H C cl fp => (hg s H C cl fp).pg) (fun s H C cl fp => (ht s H C cl fp).pt) (fun s H C cl fp => (he s H C cl fp).pe) hs) fun D σ H q => lc_imp hsub σ H _ (himp D σ H q)
theorem ds_setLc {elt tg iter : Expr} {ifs : List Expr} {scope : Scope} {spos lpos : Pos} {wi : WA} {f : WG} {wt : WT} {we : WE} {is : List Nat} {y : Str} {py : Pos} (hc : X.calm = true) (hN : X.N.Nodup) (i : Nat) (own : List (Str × Nat)) (hi : DI X P (RS P.T) tg iter wi)
    (hg : ∀ (s : Shared) (H : Hp) (C : Addr) (cl : List (Str × Addr)) (fp : List Addr), DG (X.blk s H scope (compEnvC scope cl C X.env) fp) P.noW tg is f)
    (ht : ∀ (s : Shared) (H : Hp) (C : Addr) (cl : List (Str × Addr)) (fp : List Addr), DTs (X.blk s H scope (compEnvC scope cl C X.env) fp) P.noW ifs wt)
    (he : ∀ (s : Shared) (H : Hp) (C : Addr) (cl : List (Str × Addr)) (fp : List Addr), DE (X.blk s H scope (compEnvC scope cl C X.env) fp) P.noW elt we)
    (hy : X.N[i]? = some y := by rfl) (hyl : X.env.scope.names.lookup y = some .local := by rfl) (hsw : swapsWith (.ListComp elt [⟨tg, iter, ifs, 0⟩] scope lpos) (some (.Name y py)) spos.line X.env = pure true := by exact sw_true rfl rfl rfl (by decide +kernel))
    (ok : blkC X.N X.env.scope scope own = true := by kernel_rfl) (hsub : ∀ i ∈ is, i ∈ own.map (·.2) := by decide) (hs : ∀ x, foldedSetIterable iter X.env x = pure x := by intro _; rfl) :
    DS X P (.Assign [.Name y py] (.ListComp elt [⟨tg, iter, ifs, 0⟩] scope lpos) spos) (wSet i (wFrz (wComp wi f wt we (own.map (·.2))))) := ⟨ps_lc hc hN i own hi hg ht he hy hyl hsw ok hsub hs (setF_imp fun _ _ _ _ h => h)⟩
theorem ds_setLcO {elt tg iter : Expr} {ifs : List Expr} {scope : Scope} {spos lpos : Pos} {wi : WA} {f : WG} {wt : WT} {we : WE} {is : List Nat} {y : Str} {py : Pos} (hc : X.calm = true) (hN : X.N.Nodup) (i : Nat) (own : List (Str × Nat)) (hi : DI X P (RS P.T) tg iter wi)
    (hg : ∀ (s : Shared) (H : Hp) (C : Addr) (cl : List (Str × Addr)) (fp : List Addr), DG (X.blk s H scope (compEnvC scope cl C X.env) fp) P.noW tg is f)
    (ht : ∀ (s : Shared) (H : Hp) (C : Addr) (cl : List (Str × Addr)) (fp : List Addr), DTs (X.blk s H scope (compEnvC scope cl C X.env) fp) P.noW ifs wt)
    (he : ∀ (s : Shared) (H : Hp) (C : Addr) (cl : List (Str × Addr)) (fp : List Addr), DE (X.blk s H scope (compEnvC scope cl C X.env) fp) P.noW elt we)
    (hy : X.N[i]? = some y := by rfl) (hyl : X.env.scope.names.lookup y = some .local := by rfl) (hsw : swapsWith (.ListComp elt [⟨tg, iter, ifs, 0⟩] scope lpos) (some (.Name y py)) spos.line X.env = pure true := by exact sw_true rfl rfl rfl (by decide +kernel))
    (ok : blkC X.N X.env.scope scope own = true := by kernel_rfl) (hsub : ∀ i ∈ is, i ∈ own.map (·.2) := by decide) (hs : ∀ x, foldedSetIterable iter X.env x = pure x := by intro _; rfl) :
    DS X P (.Assign [.Name y py] (.ListComp elt [⟨tg, iter, ifs, 0⟩] scope lpos) spos) (wSetO i (wComp wi f wt we (own.map (·.2)))) := ⟨ps_lc hc hN i own hi hg ht he hy hyl hsw ok hsub hs setO_imp⟩
/-- target = value, the target a tuple of names -/
def wAsg (w : WE) (f : WG) : WS := fun G Om Po => w G Om (fun d O => f d G fun G' => Po.nx G' O) fun x O => Po.ex x G O
theorem ds_asg {tg : Expr} {is : List Nat} {f : WG} (he : DE X P e w) (hg : DG X P tg is f) (hs : swapsWithSole [tg] e pos.line X.env = pure false := by rfl) (hw : swappedStores [tg] e X.env = pure none := by rfl) (h1 : (assignEach [tg] X.env).map (·.2) = [assign tg X.env] := by rfl) : DS X P (.Assign [tg] e pos) (wAsg w f) :=
  ⟨ps_imp (ps_asg he.pe hg.pg hs hw h1) fun D σ H ⟨G, W, Po, S, q, h⟩ => ⟨G, W, _, _, S, q, h.exE S, fun d O q' v H' W' s' e r => ⟨G, W', d, _, S.step s', r, q', fun G' q2 σ' S' _ => h.nx _ O q2 σ' H' W' (s'.kp S.ok) S' e⟩⟩⟩
/-- a, b = x, y -/
def wPar (i j : Nat) (w : WA) : WS := fun G Om Po => w G Om (fun ds O => match ds with | [d, d'] => Po.nx ((G.set i (.val d)).set j (.val d')) O | _ => False) fun x O => Po.ex x G O
theorem ds_par (i j : Nat) {x y : Str} {px py pt : Pos} {kt k2 pt2} {wl : WA} (hc : X.calm = true) (hN : X.N.Nodup) (ha : DA X P [a, b] wl) (hi : X.N[i]? = some x := by rfl) (hj : X.N[j]? = some y := by rfl) (hij : i ≠ j := by decide)
    (hx : X.env.scope.names.lookup x = some .local := by rfl) (hy : X.env.scope.names.lookup y = some .local := by rfl)
    (hw : swappedStores [.Tuple [.Name x px, .Name y py] kt pt] (.Tuple [a, b] k2 pt2) X.env = pure (some [x, y]) := by rfl)
    (hs : swapsWithSole [.Tuple [.Name x px, .Name y py] kt pt] (.Tuple [a, b] k2 pt2) pos.line X.env = pure false := by rfl) : DS X P (.Assign [.Tuple [.Name x px, .Name y py] kt pt] (.Tuple [a, b] k2 pt2) pos) (wPar i j wl) := by
  refine ⟨ps_imp (ps_par hc hN hi hj hij hx hy ha.pa hw hs) fun D σ H ⟨G, W, Po, S, q, h⟩ => ⟨G, W, _, _, S, q, h.exE S, fun ds O q' vs H' W' s' e r => ?_⟩⟩
  match ds, q' with
  | [d, d'], q' =>
    simp only [Reps] at r
    obtain ⟨v, _, e1, r1, v', _, e2, r2, e3⟩ := r
    subst e3 e2 e1
    exact ⟨v, v', rfl, h.nx _ O q' _ H' W' (s'.kp S.ok) (((S.step s').set r1).set r2) e⟩
/-- name op= value -/
def wAug (i : Nat) (g : GD) (w : WE) : WS := fun G Om Po => match getSl G i with
  | .val d => w G Om (fun y O => g d y fun z => Po.nx (G.set i (.val z)) O) fun x O => Po.ex x G O
  | _ => False
theorem ds_aug (hN : X.N.Nodup) (i : Nat) {x : Str} {op : Operator} {g : GD} (ho : OpD X P.T (inplaceOp op) g) (h : DE X P e w) (hi : X.N[i]? = some x := by rfl) (hx : Loc X.env.scope x := by first | exact Or.inl rfl | exact Or.inr rfl) (hf : X.fn x = true ∨ X.env.scope.names.lookup x = some .local := by first | exact .inl rfl | exact .inr rfl) :
    DS X P (.AugAssign (.Name x pos') op e pos) (wAug i g w) := by
  refine ⟨ps_imp (ps_aug hN hi hx h.pe ho hf) fun D σ H ⟨G, W, Po, S, q, h⟩ => ?_⟩
  unfold wAug at q
  split at q
  · rename_i d ed
    have gg := getSl_get G i (by rw [ed]; intro z; cases z)
    rw [ed] at gg
    obtain ⟨v, e1, r⟩ := S.sl i _ gg
    refine ⟨v, e1, G, W, _, _, S, q, h.exE S, fun y O q' u H' W' s' e ry => ?_⟩
    refine ⟨W'.F, W'.pm, d, y, _, (r.t S.ok.sub).step s' S.ok, ry.t s'.ok.sub, s'.ok.trk, q', fun z hz v2 H2 xt rz => ?_⟩
    exact h.nx _ O hz _ H2 W' ((s'.trans (Step.ext s'.ok xt)).kp S.ok) ((S.step (s'.trans (Step.ext s'.ok xt))).set rz) e
  · exact q.elim
def wIfS (c : WT) (u v : WS) : WS := fun G Om Po => c G Om (fun b O => br b (u G O Po) (v G O Po)) fun x O => Po.ex x G O
theorem ds_if {sa sb : List Stmt} {wc : WT} (hc : DT X P c wc) (ha : DSs X P sa u) (hb : DSs X P sb v) : DS X P (.If c sa sb pos) (wIfS wc u v) := by
  refine ⟨ps_imp (ps_if hc.pt ha.ps hb.ps) fun D σ H ⟨G, W, Po, S, q, h⟩ => ⟨G, W, _, _, S, q, h.exE S, fun k O q' H' W' s' e => ?_⟩⟩
  subst e
  cases k with
  | true => exact ⟨G, W', Po, S.step s', q', h.kp (s'.kp S.ok)⟩
  | false => exact ⟨G, W', Po, S.step s', q', h.kp (s'.kp S.ok)⟩
/-- while, by its number of turns -/
def wWhN (c : WT) (u : WS) : Nat → WS
  | 0 => fun _ _ _ => False
  | n + 1 => fun G Om Po => c G Om (fun b O => br b (u G O { Po with nx := fun G' O' => wWhN c u n G' O' Po, ct := fun G' O' => wWhN c u n G' O' Po, bk := Po.nx }) (Po.nx G O)) fun x O => Po.ex x G O
def wWh (c : WT) (u : WS) : WS := fun G Om Po => ∃ n, wWhN c u n G Om Po
theorem ds_while {sb : List Stmt} {wc : WT} (hp : PassesOwn (model X.prog X.w) X.A X.env X.xe) (hc : DT X P c wc) (hb : DSs X P sb u) : DS X P (.While c sb [] pos) (wWh wc u) := by
  refine ⟨ps_imp (ps_while hp hc.pt hb.ps) fun D σ H ⟨G, W, Po, S, ⟨n, q⟩, h⟩ => ?_⟩
  refine ⟨fun m σ' H' => ∃ G' W', Kp W.F H W'.F H' ∧ Sta P G' W' σ' H' ∧ wWhN wc u m G' W'.Om Po, ⟨n, G, W, Kp.refl, S, q⟩, fun m σ' H' ⟨G', W', k, S', q'⟩ => ?_⟩
  cases m with
  | zero => exact q'.elim
  | succ m =>
    have h' := h.kp k
    refine ⟨G', W', _, _, S', q', h'.exE S', fun b O q2 H2 W2 s2 e2 => ?_⟩
    subst e2
    have k2 := s2.kp S'.ok
    cases b with
    | false => exact h'.nx _ _ q2 _ H2 W2 k2 (S'.step s2) rfl
    | true =>
      refine ⟨fun σ3 H3 => ∃ G3 W3, Kp W.F H W3.F H3 ∧ Sta P G3 W3 σ3 H3 ∧ wWhN wc u m G3 W3.Om Po, fun σ3 H3 h3 => ⟨m, Nat.lt_succ_self m, h3⟩, ?_⟩
      have h2 := h'.kp k2
      refine ⟨G', W2, _, S'.step s2, q2, ⟨fun G3 O3 q3 σ3 H3 W3 k3 S3 e3 => ⟨G3, W3, (k.trans k2).trans k3, S3, by rw [e3]; exact q3⟩, h2.rt, fun G3 O3 q3 σ3 H3 W3 k3 S3 e3 => h2.nx G3 O3 q3 σ3 H3 W3 k3 S3 e3, fun G3 O3 q3 σ3 H3 W3 k3 S3 e3 => ⟨G3, W3, (k.trans k2).trans k3, S3, by rw [e3]; exact q3⟩, h2.ex⟩⟩
/-- for, item by item -/
def wForL (f : WG) (u : WS) : List D → WS
  | [] => fun G Om Po => Po.nx G Om
  | d :: r => fun G Om Po => f d G fun G' => u G' Om { Po with nx := fun G2 O2 => wForL f u r G2 O2 Po, ct := fun G2 O2 => wForL f u r G2 O2 Po, bk := Po.nx }
def wFor (wi : WA) (f : WG) (u : WS) : WS := fun G Om Po => wi G Om (fun items O => wForL f u items G O Po) fun x O => Po.ex x G O
theorem ds_for {tg iter : Expr} {sb : List Stmt} {wi : WA} {f : WG} {is : List Nat} (hp : PassesOwn (model X.prog X.w) X.A X.env X.xe) (hc : X.calm = true) (hi : DI X P (RF P.T) tg iter wi) (hg : DG X P tg is f) (hb : DSs X P sb u)
    (hs : ∀ x, foldedSetIterable iter X.env x = pure x := by intro _; rfl) : DS X P (.For tg iter sb [] pos) (wFor wi f u) := by
  refine ⟨ps_imp (ps_for hp hc hi.pi hg.pg hb.ps hs) fun D σ H ⟨G, W, Po, S, q, h⟩ => ?_⟩
  refine ⟨G, W, _, _, S, q, h.exE S, fun items O q1 J H1 W1 s1 e1 wk => ?_⟩
  subst e1
  obtain ⟨Gd, Y, wk, hy⟩ := wk
  have h1 := h.kp (s1.kp S.ok)
  refine for_it wk (fun i σ' H' => ∃ G' W', Kp W1.F H1 W'.F H' ∧ Sta P G' W' σ' H' ∧ wForL f u (items.drop i) G' W'.Om Po) ⟨G, W1, Kp.refl, S.step s1, q1⟩ (fun i σ' H' _ ⟨G', W', k, S', _⟩ => (hy W' H' ⟨k, S'.ok⟩).1)
    (fun i x σ' Hc H' hi ⟨G', W', k, S', q'⟩ hyx => ?_) (fun σ' H' ⟨G', W', k, S', q'⟩ => ?_)
  · have gi : items[i]? = some items[i] := List.getElem?_eq_getElem hi
    obtain ⟨nw, rx⟩ := (hy W' Hc ⟨k, S'.ok⟩).2 i _ gi x H' hyx
    rw [List.drop_eq_getElem_cons hi] at q'
    have sx : Step P.T W' Hc W' H' := Step.ext S'.ok nw
    have kx := k.trans (sx.kp S'.ok)
    refine ⟨G', W', _, _, S'.step sx, rx, q', fun G2 q2 σ2 S2 _ => ?_⟩
    have h2 := h1.kp kx
    exact ⟨G2, W', _, S2, q2, ⟨fun G3 O3 q3 σ3 H3 W3 k3 S3 e3 => ⟨G3, W3, kx.trans k3, S3, by rw [e3]; exact q3⟩, h2.rt, fun G3 O3 q3 σ3 H3 W3 k3 S3 e3 => h2.nx G3 O3 q3 σ3 H3 W3 k3 S3 e3, fun G3 O3 q3 σ3 H3 W3 k3 S3 e3 => ⟨G3, W3, kx.trans k3, S3, by rw [e3]; exact q3⟩, h2.ex⟩⟩
  · rw [List.drop_length] at q'
    exact h1.nx _ _ q' σ' H' W' k S' rfl

/-! ### an own thing is changed -/
theorem Sta.mut {G : Gam} {W : Wd} {σ : L2.St} {H : Hp} (S : Sta P G W σ H) {i : Nat} {a : Addr} {m m' : MO} {o : HO} (g : G[i]? = some (.own m)) (e : σ[i]? = some (some (.ref a))) (r : MRep P.T W.F (fun _ => False) (upd H a o) a m') :
    Sta P (G.set i (.own m')) W σ (upd H a o) ∧ Kp W.F H W.F (upd H a o) := by
  obtain ⟨a', e', oa⟩ := S.sl i _ g
  rw [e] at e'
  cases e'
  have kp : Kp W.F H W.F (upd H a o) := Kp.mut oa.f
  refine ⟨⟨S.st.mutO oa.n oa.f oa.p (MRep.noCode r upd_same), by simp [S.len], fun j x ex => ?_, fun j k m1 m2 b e1 e2 h1 h2 => ?_⟩, kp⟩
  · by_cases q : i = j
    · subst q
      rw [List.getElem?_set, if_pos rfl] at ex
      split at ex
      · cases ex
        exact ⟨a, e, ⟨oa.f, oa.o, oa.p, oa.n, r⟩⟩
      · cases ex
    · rw [List.getElem?_set_ne q] at ex
      have z := S.sl j x ex
      cases x with
      | no => trivial
      | val d =>
        obtain ⟨v, e1, r1⟩ := z
        exact ⟨v, e1, Rep.kp kp d v r1⟩
      | own mm =>
        obtain ⟨b, e1, ob⟩ := z
        have hne : b ≠ a := fun z => q (S.ap i j m mm a g ex e (z ▸ e1))
        exact ⟨b, e1, ⟨ob.f, ob.o, ob.p, ob.n, noFp (fp := fun _ => False) kp (upd_ne hne) ob.r⟩⟩
  · have back : ∀ (j : Nat) mm, (G.set i (.own m'))[j]? = some (.own mm) → ∃ mm', G[j]? = some (.own mm') := fun j mm e => by
      by_cases q : i = j
      · subst q; exact ⟨m, g⟩
      · rw [List.getElem?_set_ne q] at e; exact ⟨mm, e⟩
    obtain ⟨_, e1⟩ := back j m1 e1
    obtain ⟨_, e2⟩ := back k m2 e2
    exact S.ap j k _ _ b e1 e2 h1 h2
/-- x.append(e) -/
def wApp (i : Nat) (w : WE) : WS := fun G Om Po => match getSl G i with
  | .own (.lst xs) => w G Om (fun d O => xs.length < 16777216 ∧ Po.nx (G.set i (.own (.lst (xs ++ [d])))) O) fun x O => Po.ex x G O
  | _ => False
theorem ds_app (hK : P.T.K = X.K) (i : Nat) {x : Str} {p1 p2 p3 p4 : Pos} (h : DE X P e w) (hN : X.N[i]? = some x := by rfl) (hv : Vis X.env.scope x := by first | exact Or.inl rfl | exact Or.inr (Or.inl rfl) | exact Or.inr (Or.inr rfl)) (hd : (x == ("__debug__" : Str)) = false := by decide)
    (hcd : (x == ("__classdict__" : Str)) = false := by decide)
    (hbase : attributeBase (.Name x p1) "append" X.env (eval (.Name x p1) X.env) = eval (.Name x p1) X.env := by rfl)
    (hfew : ((backTo p3 (starEach [e] X.env)).all (fun x => !x.1) && (backToKw p3 (keywordEach [] X.env)).all (fun x => x.1.isSome) && decide ([e].length + ([] : List Keyword).length + (if ([] : List Keyword).isEmpty then 0 else 1) < 30)) = true := by rfl)
    (hline : (p2.endLine == p3.line) = true := by rfl) (hs1 : starEach [e] X.env = (false, eval e X.env) :: starEach [] X.env := by rfl) (hplain : (backTo p3 (starEach [] X.env)).any (·.1) = false := by rfl)
    (hs : swapsWith (.Call (.Attribute (.Name x p1) "append" p2) [e] [] p3) none p4.line X.env = pure false := by rfl) :
    DS X P (.Expr (.Call (.Attribute (.Name x p1) "append" p2) [e] [] p3) p4) (wApp i w) := by
  refine ⟨ps_imp (ps_expr (pe_bm PySem.F.plainAttrs_list PySem.F.slot_list_append PySem.F.type_list_append mt_append (pe_var hN hv hd hcd) (pa_cons h.pe pa_nil hs1) hbase hfew hline hs1 hplain) hs) fun D σ H ⟨G, W, Po, S, q, h⟩ => ?_⟩
  unfold wApp at q
  split at q
  · rename_i xs ed
    have gg := getSl_get G i (by rw [ed]; intro z; cases z)
    rw [ed] at gg
    obtain ⟨a, e1, oa⟩ := S.sl i _ gg
    obtain ⟨vs, hl, rl⟩ := oa.r
    refine ⟨.ref a, e1, .inl ⟨rfl, vs, .of hl⟩, G, W, _, _, S, q, h.exE S, fun d O q' v H' W' s' e r => ?_⟩
    have S' := S.step s'
    obtain ⟨a2, e2, oa'⟩ := S'.sl i _ gg
    rw [e1] at e2; cases e2
    obtain ⟨ws, hl', rl'⟩ := oa'.r
    have hsz : ws.length < sizeLine := Nat.lt_of_lt_of_le (by rw [rl'.len]; exact q'.1) (by decide)
    obtain ⟨S2, k2⟩ := S'.mut (o := .lst (ws ++ [v])) (m' := .lst (xs ++ [d])) gg e1 ⟨ws ++ [v], upd_same, Reps.kp (Kp.mut oa'.f) _ _ (rl'.app (.cons r .nil))⟩
    exact ⟨a, ws, v, rfl, rfl, hl', hsz, h.nx _ O q'.2 _ _ W' ((s'.kp S.ok).trans k2) S2 e⟩
  · exact q.elim
end
end N

set_option Elab.async false
set_option linter.all false
set_option maxRecDepth 100000
set_option maxHeartbeats 0
/-! NH: defs and their calls -/
namespace N
open PySem PySem.Spec PyProof.Rows L2
abbrev DSp := List D → Om → (D → Om → Prop) → RX → Prop
/-- the promise of a def, told over data -/
def toSp (T : Th) (n : Nat) (S : DSp) : Sp := fun vs H Q E => ∃ ds W Q0 R0, ds.length = n ∧ Reps T W.F H ds vs ∧ WOk T W H ∧ S ds W.Om Q0 R0 ∧
  (∀ d O, Q0 d O → ∀ v H' W', Step T W H W' H' → W'.Om = O → Rep T W'.F H' d v → Q v H') ∧ (∀ x O, R0 x O → ∀ cls dd H' W', Step T W H W' H' → W'.Om = O → XRep T W'.F H' x cls dd → E cls dd H')
theorem toSp_imp {T : Th} {n : Nat} {S S' : DSp} (h : ∀ ds Om Q R, ds.length = n → S' ds Om Q R → S ds Om Q R) : ∀ vs H Q E, toSp T n S' vs H Q E → toSp T n S vs H Q E :=
  fun _ _ _ _ ⟨ds, W, Q0, R0, l, r, ok, s, a, b⟩ => ⟨ds, W, Q0, R0, l, r, ok, h _ _ _ _ l s, a, b⟩
def startG (n : Nat) (ds : List D) : Gam := ds.map .val ++ List.replicate (n - ds.length) .no
def wFn (n : Nat) (w : WS) : DSp := fun ds Om Q R => w (startG n ds) Om ⟨fun _ O => Q .non O, Q, fun _ _ => False, fun _ _ => False, fun x _ O => R x O⟩
abbrev pmOf (T : Th) (E : XK) (W : Wd) (H : Hp) : Pm := ⟨T, fun cls dd _ H => E cls dd H, W, H⟩
section
variable {PR : Program} {w : World} {K : PySem.W.Frag} {mg : Str → Option Value} {base : Heap}
theorem startG_len {N : Nat} {ds : List D} (h : ds.length ≤ N) : (startG N ds).length = N := by simp [startG]; omega
theorem sta_start {T : Th} {E : XK} {W : Wd} {H : Hp} {N : List Str} {ds : List D} {vs : List V} (ok : WOk T W H) (r : Reps T W.F H ds vs) (hl : ds.length ≤ N.length) : Sta (pmOf T E W H) (startG N.length ds) W (L2.start N vs) H := by
  have lv := r.len
  have noown : ∀ (i : Nat) m, (startG N.length ds)[i]? ≠ some (.own m) := fun i m e => by
    unfold startG at e
    by_cases hi : i < ds.length
    · rw [List.getElem?_append_left (by simpa using hi), List.getElem?_map] at e
      cases q : ds[i]? with
      | none => rw [q] at e; cases e
      | some d => rw [q] at e; cases e
    · rw [List.getElem?_append_right (by simpa using hi), List.getElem?_replicate] at e
      split at e <;> cases e
  refine ⟨Step.refl ok, ?_, fun i s e => ?_, fun i j m m' a e1 _ _ _ => absurd e1 (noown i m)⟩
  · rw [startG_len hl]
    unfold L2.start
    simp [lv]
    omega
  · cases s with
    | no => trivial
    | own m => exact absurd e (noown i m)
    | val d =>
      unfold startG at e
      by_cases hi : i < ds.length
      · rw [List.getElem?_append_left (by simpa using hi), List.getElem?_map] at e
        cases q : ds[i]? with
        | none => rw [q] at e; cases e
        | some d' =>
          rw [q] at e
          cases e
          obtain ⟨v, ev, rv⟩ := r.get q
          refine ⟨v, ?_, rv⟩
          unfold L2.start
          rw [List.getElem?_append_left (by rw [List.length_map, lv]; exact hi), List.getElem?_map, ev]
          rfl
      · rw [List.getElem?_append_right (by simpa using hi), List.getElem?_replicate] at e
        split at e <;> cases e
theorem toSp_len {T : Th} {n : Nat} {S : DSp} : ∀ vs H Q E, toSp T n S vs H Q E → vs.length = n := fun vs H Q E ⟨ds, W, Q0, R0, l, r, _⟩ => r.len.trans l
/-- THE RULE: a def by its body -/
theorem fn_ok {x qual : Str} {st : Stmt} {f : Addr} {fd : FuncData} {N ps : List Str} {k : Nat} (F : Fun K x qual st f fd) (S : FnScope N ps (defScope st)) (T : Th) (ws : WS)
    (body : ∀ (cdv : Value) (A : Around) (outer : List Env) (s : Shared) (H : Hp) (E : XK) (W : Wd), WOk T W H → Room k (A.deeper (envOfC qual (defScope st) s.heap.objs.size f cdv)) →
      Takes (cxOf (L2.CX PR w) PR w K mg base N qual (defScope st) f cdv A outer s H E) (pmOf T E W H).W →
      PassesOwn (model PR w) (A.deeper (envOfC qual (defScope st) s.heap.objs.size f cdv)) (envOfC qual (defScope st) s.heap.objs.size f cdv) (cxOf (L2.CX PR w) PR w K mg base N qual (defScope st) f cdv A outer s H E).xe →
      DSs (cxOf (L2.CX PR w) PR w K mg base N qual (defScope st) f cdv A outer s H E) (pmOf T E W H) (defBody st) ws) : FnOk PR w K mg base (L2.CX PR w) (k + 1) f fd ps (toSp T ps.length (wFn N.length ws)) := by
  have hpl : ps.length ≤ N.length := by have := congrArg List.length S.pre; rw [List.length_take] at this; omega
  refine F.okX S toSp_len fun cdv A outer s H vs Q E hr ⟨ds, W, Q0, R0, l, r, ok, hw, hq, he⟩ => ?_
  refine ⟨_, (body cdv A outer s H E W ok hr (takes_of rfl rfl rfl rfl) (passes_of (X := cxOf (L2.CX PR w) PR w K mg base N qual (defScope st) f cdv A outer s H E) rfl)).ps, startG N.length ds, W, _, sta_start ok r (by rw [l]; exact hpl), hw, ⟨fun G' O q σ' H' W' k S' e => ?_, fun d O q v H' W' s e r => ?_, fun _ _ z => z.elim, fun _ _ z => z.elim, fun x G' O q cls dd σ' H' W' _ S' e r => ?_⟩⟩
  · exact hq _ O q _ H' W' S'.st e (by simp [Rep])
  · exact hq d O q v H' W' s e r
  · exact he x O q cls dd H' W' S'.st e r
/-- .. of a def with defaults -/
theorem fn_okD {x qual : Str} {st : Stmt} {dvs : List V} {kws : List (Str × V)} {f : Addr} {fd : FuncData} {N ps : List Str} {k : Nat} (F : FunD K x qual (defArgs st) (defBody st) (defScope st) dvs kws f fd) (S : FnScope N ps (defScope st)) (T : Th) (ws : WS)
    (body : ∀ (cdv : Value) (A : Around) (outer : List Env) (s : Shared) (H : Hp) (E : XK) (W : Wd), WOk T W H → Room k (A.deeper (envOfC qual (defScope st) s.heap.objs.size f cdv)) →
      Takes (cxOf (L2.CX PR w) PR w K mg base N qual (defScope st) f cdv A outer s H E) (pmOf T E W H).W →
      PassesOwn (model PR w) (A.deeper (envOfC qual (defScope st) s.heap.objs.size f cdv)) (envOfC qual (defScope st) s.heap.objs.size f cdv) (cxOf (L2.CX PR w) PR w K mg base N qual (defScope st) f cdv A outer s H E).xe →
      DSs (cxOf (L2.CX PR w) PR w K mg base N qual (defScope st) f cdv A outer s H E) (pmOf T E W H) (defBody st) ws) : FnOk PR w K mg base (L2.CX PR w) (k + 1) f fd ps (toSp T ps.length (wFn N.length ws)) := by
  have hpl : ps.length ≤ N.length := by have := congrArg List.length S.pre; rw [List.length_take] at this; omega
  refine F.ok S toSp_len fun cdv A outer s H vs Q E hr ⟨ds, W, Q0, R0, l, r, ok, hw, hq, he⟩ => ?_
  refine ⟨_, (body cdv A outer s H E W ok hr (takes_of rfl rfl rfl rfl) (passes_of (X := cxOf (L2.CX PR w) PR w K mg base N qual (defScope st) f cdv A outer s H E) rfl)).ps, startG N.length ds, W, _, sta_start ok r (by rw [l]; exact hpl), hw, ⟨fun G' O q σ' H' W' k S' e => ?_, fun d O q v H' W' s e r => ?_, fun _ _ z => z.elim, fun _ _ z => z.elim, fun x G' O q cls dd σ' H' W' _ S' e r => ?_⟩⟩
  · exact hq _ O q _ H' W' S'.st e (by simp [Rep])
  · exact hq d O q v H' W' s e r
  · exact he x O q cls dd H' W' S'.st e r
end
section
variable {X : Cx} {P : Pm} {k : Nat} {f : Addr} {fd : FuncData} {ps : List Str} {x : Str} {p pos : Pos} {e : Expr} {es : List Expr} {wl wk : WA} {S : DSp} {n : Nat}
/-- a call's end -/
theorem sp_of {T : Th} {W0 W : Wd} {H0 H : Hp} {σ : L2.St} {ds : List D} {vs : List V} {Q0 : D → Om → Prop} {R0 : RX} {Q : VK} (hT : P.T = T) (ok0 : WOk T W0 H0) (s : Step T W0 H0 W H) (l : ds.length = n) (r : Reps T W.F H ds vs) (h : S ds W.Om Q0 R0) (ex : exOk P W0 H0 σ R0)
    (hq : ∀ d O, Q0 d O → ∀ v H' W', Step T W0 H0 W' H' → W'.Om = O → Rep T W'.F H' d v → Q v H') : toSp T n S vs H Q (fun cls dd H' => P.W cls dd σ H') := by
  subst hT
  exact ⟨ds, W, Q0, R0, l, r, s.ok, h, fun d O q v H' W' s' e r' => hq d O q v H' W' (s.trans s') e r', fun x O q cls dd H' W' s' e r' => ex x O q cls dd H' W' (s.trans s') e r'⟩
/-- f(e, ..); dds: the defaults that fill up -/
def wCallU (n : Nat) (S : DSp) (dds : List D) (wa : WA) : WE := fun G Om Q R => wa G Om (fun ds O => (ds ++ dds).length = n ∧ S (ds ++ dds) O Q R) R
theorem de_callD (dds : List D) {dvs : List V} {dvl : List Value} (F : FnOk X.prog X.w X.K X.mg X.base (L2.CX X.prog X.w) k f fd ps (toSp P.T n S)) (hr : Room k X.A) (hm : X.mg x = some (.ref f)) (hk : PySem.W.keepIn X.K (.ref f) = true) (hb : Binds X.K fd ps dvl) (hd : Vals dvs dvl) (hdd : ∀ T F H, Reps T F H dds dvs) (tk : Takes X P.W) (ha : DA X P (e :: es) wl)
    (hg : Gl X x := by rfl) (hdb : (x == ("__debug__" : Str)) = false := by decide) (he : starEach (e :: es) X.env = (false, eval e X.env) :: starEach es X.env := by rfl) (hpl : (backTo pos (starEach es X.env)).any (·.1) = false := by rfl) :
    DE X P (.Call (.Name x p) (e :: es) [] pos) (wCallU n S dds wl) := by
  refine ⟨pe_imp (pe_callSD F hr hg hm hk hb hd (fun σ => passAt tk σ) ha.pa hdb he hpl) fun σ H Q ⟨G, W, Q0, R0, S0, q, ex, hq⟩ => ?_⟩
  refine ⟨G, W, _, R0, S0, q, ex, fun ds O h1 vs H1 W1 s1 e1 r => ?_⟩
  subst e1
  exact sp_of rfl S0.ok s1 h1.1 (r.app (hdd _ _ _)) h1.2 ex hq
theorem de_call (F : FnOk X.prog X.w X.K X.mg X.base (L2.CX X.prog X.w) k f fd ps (toSp P.T n S)) (hr : Room k X.A) (hm : X.mg x = some (.ref f)) (hk : PySem.W.keepIn X.K (.ref f) = true) (hb : Binds X.K fd ps []) (tk : Takes X P.W) (ha : DA X P (e :: es) wl)
    (hg : Gl X x := by rfl) (hdb : (x == ("__debug__" : Str)) = false := by decide) (he : starEach (e :: es) X.env = (false, eval e X.env) :: starEach es X.env := by rfl) (hpl : (backTo pos (starEach es X.env)).any (·.1) = false := by rfl) :
    DE X P (.Call (.Name x p) (e :: es) [] pos) (wCallU n S [] wl) := de_callD [] F hr hm hk hb .nil (fun _ _ _ => .nil) tk ha hg hdb he hpl
/-- keywords -/
structure DK (X : Cx) (P : Pm) (kws : List Keyword) (w : WA) : Prop where
  pk : PK X kws (tA P w)
theorem pk_imp {kws : List Keyword} {t t' : TA} (h : PK X kws t) (i : ∀ σ H Q, t' σ H Q → t σ H Q) : PK X kws t' := ⟨fun pos pins s σ H Q I q => h.run pos pins s σ H Q I (i σ H Q q)⟩
theorem dk_nil : DK X P [] waNil := ⟨pk_imp pk_nil fun σ H Q ⟨G, W, Q0, R0, S, q, ex, hq⟩ => hq [] _ q [] H W (Step.refl S.ok) rfl .nil⟩
theorem dk_cons {kws : List Keyword} {w : WE} {wr : WA} {nm : Option Str} {kpos : Pos} (h : DE X P e w) (r : DK X P kws wr) : DK X P (⟨nm, e, kpos⟩ :: kws) (waCons w wr) := by
  refine ⟨pk_imp (pk_cons h.pe r.pk) fun σ H Q q => ?_⟩
  obtain ⟨G, W, Q0, R0, S, q, ex, hq⟩ := q
  refine ⟨G, W, _, R0, S, q, ex, fun d O h1 v H1 W1 s1 e1 r1 => ?_⟩
  subst e1
  refine ⟨G, W1, _, R0, S.step s1, h1, ex.step s1, fun ds O' h' vs H' W' s' e' r' => ?_⟩
  exact hq _ O' h' _ H' W' (s1.trans s') e' (.cons (Rep.kp (s'.kp s1.ok) _ _ r1) r')
/-- f(e, .., k = v, ..): the positional ones, then the keywords as they are written -/
structure KB (K : PySem.W.Frag) (fd : FuncData) (ps : List Str) (n : Nat) (ks : List Str) : Prop where
  to : ∀ (s : Shared) (us ws : List Value), K.In s.heap → us.length = n → ws.length = ks.length → BindsTo s fd ⟨us, ks.zip ws⟩ (ps.zip (us ++ ws))
theorem KB.of {K : PySem.W.Frag} {n : Nat} {ks : List Str} (h : ∀ us ws : List Value, us.length = n → ws.length = ks.length → bindArgs fd ⟨us, ks.zip ws⟩ = pure (ps.zip (us ++ ws))) : KB K fd ps n ks := ⟨fun s us ws _ h1 h2 => .of_eq (h us ws h1 h2)⟩
def wCallK (m n : Nat) (S : DSp) (wa wk : WA) : WE := fun G Om Q R => wa G Om (fun ds O => ds.length = m ∧ wk G O (fun es O' => (ds ++ es).length = n ∧ S (ds ++ es) O' Q R) R) R
theorem de_callK {kws : List Keyword} {ks : List Str} {m : Nat} (F : FnOk X.prog X.w X.K X.mg X.base (L2.CX X.prog X.w) k f fd ps (toSp P.T n S)) (hr : Room k X.A) (hm : X.mg x = some (.ref f)) (hk : PySem.W.keepIn X.K (.ref f) = true) (hb : KB X.K fd ps m ks) (tk : Takes X P.W) (ha : DA X P (e :: es) wl) (hkw : DK X P kws wk)
    (hnk : n = m + ks.length := by rfl) (hg : Gl X x := by rfl) (hall : (backToKw pos (keywordEach kws X.env)).all (·.1.isSome) = true := by rfl) (hks : (backToKw pos (keywordEach kws X.env)).filterMap (·.1) = ks := by rfl)
    (hdb : (x == ("__debug__" : Str)) = false := by decide) (he : starEach (e :: es) X.env = (false, eval e X.env) :: starEach es X.env := by rfl)
    (hpl : ((backTo pos (starEach (e :: es) X.env)).any (·.1) || (backToKw pos (keywordEach kws X.env)).any (·.1.isNone)) = false := by rfl) :
    DE X P (.Call (.Name x p) (e :: es) kws pos) (wCallK m n S wl wk) := by
  refine ⟨⟨fun pins s σ H Q I q => ?_⟩⟩
  obtain ⟨G, W, Q0, R0, S0, q, ex, hq⟩ := q
  refine wpAny_Call_Name_kw (ld_glob I hg hm ?_ hdb)
  refine PySem.W.callWith_KW (h₀ := X.base) I.ok.mod.kin hk hall (thn (ha.pa.run pos pins s σ H (fun vs H1 => ∃ ds W1, Step P.T W H W1 H1 ∧ Reps P.T W1.F H1 ds vs ∧ ds.length = m ∧ wk G W1.Om (fun es O' => (ds ++ es).length = n ∧ S (ds ++ es) O' Q0 R0) R0) I
    ⟨G, W, _, R0, S0, q, ex, fun ds O h1 vs H1 W1 s1 e1 r => ⟨ds, W1, s1, r, h1.1, by rw [e1]; exact h1.2⟩⟩) fun us s1 ⟨vs, H1, I1, r, ds, W1, st1, r1, l1, q1⟩ => ?_) hpl he
  refine thn (hkw.pk.run pos pins s1 σ H1 (fun zs H2 => ∃ es W2, Step P.T W H W2 H2 ∧ Reps P.T W2.F H2 (ds ++ es) (vs ++ zs) ∧ (ds ++ es).length = n ∧ S (ds ++ es) W2.Om Q0 R0) I1
    ⟨G, W1, _, R0, S0.step st1, q1, ex.step st1, fun es O h2 zs H2 W2 st2 e2 r2 => ⟨es, W2, st1.trans st2, (Reps.kp (st2.kp st1.ok) _ _ r1).app r2, h2.1, by rw [e2]; exact h2.2⟩⟩) fun ws s2 ⟨zs, H2, I2, rz, es, W2, st2, r2, l2, q2⟩ => ⟨I2.kIn, ?_⟩
  rw [hks]
  have lu : us.length = m := by rw [← r.length, r1.len, l1]
  have lw : ws.length = ks.length := by
    have h1 : (vs ++ zs).length = n := r2.len.trans l2
    rw [List.length_append, r.length, rz.length, lu] at h1
    omega
  have sp := sp_of (Q := Q) rfl S0.ok st2 l2 r2 q2 ex hq
  refine wpAny_call (codeAny_mono (F.run X.A X.stack s2 H2 ⟨us, ks.zip ws⟩ (us ++ ws) (vs ++ zs) Q _ hr I2.env0 (hb.to s2 us ws I2.kIn lu lw) (r.append rz) sp) fun rr s' hr' => ?_)
  cases rr with
  | error er => exact passAt tk σ pins H2 s2 er s' I2 hr'
  | ok fl =>
    cases fl with
    | ret u => exact I2.after hr'
    | next => exact False.elim hr'
    | brk => exact False.elim hr'
    | cont => exact False.elim hr'
end
end N

set_option Elab.async false
set_option linter.all false
set_option maxRecDepth 100000
set_option maxHeartbeats 0
/-! NI: callables in short; small further rules -/
namespace N
open PySem PySem.Spec PyProof.Rows L2
/-- the module's name x is a def of n parameters that keeps S -/
structure Cl (PR : Program) (w : World) (K : PySem.W.Frag) (mg : Str → Option Value) (base : Heap) (T : Th) (k : Nat) (x : Str) (n : Nat) (S : DSp) : Prop where
  ex : ∃ f fd ps, FnOk PR w K mg base (L2.CX PR w) k f fd ps (toSp T n S) ∧ mg x = some (.ref f) ∧ PySem.W.keepIn K (.ref f) = true ∧ Binds K fd ps []
structure ClK (PR : Program) (w : World) (K : PySem.W.Frag) (mg : Str → Option Value) (base : Heap) (T : Th) (k : Nat) (x : Str) (n m : Nat) (ks : List Str) (S : DSp) : Prop where
  ex : ∃ f fd ps, FnOk PR w K mg base (L2.CX PR w) k f fd ps (toSp T n S) ∧ mg x = some (.ref f) ∧ PySem.W.keepIn K (.ref f) = true ∧ KB K fd ps m ks ∧ n = m + ks.length
theorem Cl.imp {PR : Program} {w : World} {K : PySem.W.Frag} {mg : Str → Option Value} {base : Heap} {T : Th} {k : Nat} {x : Str} {n : Nat} {S S' : DSp} (c : Cl PR w K mg base T k x n S) (h : ∀ ds Om Q R, ds.length = n → S' ds Om Q R → S ds Om Q R) : Cl PR w K mg base T k x n S' :=
  let ⟨f, fd, ps, F, a, b, d⟩ := c.ex
  ⟨f, fd, ps, F.imp (toSp_imp h), a, b, d⟩
theorem Cl.mono {PR : Program} {w : World} {K : PySem.W.Frag} {mg : Str → Option Value} {base : Heap} {T : Th} {j k : Nat} {x : Str} {n : Nat} {S : DSp} (c : Cl PR w K mg base T j x n S) (h : j ≤ k) : Cl PR w K mg base T k x n S :=
  let ⟨f, fd, ps, F, a, b, d⟩ := c.ex
  ⟨f, fd, ps, F.mono h, a, b, d⟩
theorem ClK.imp {PR : Program} {w : World} {K : PySem.W.Frag} {mg : Str → Option Value} {base : Heap} {T : Th} {k : Nat} {x : Str} {n m : Nat} {ks : List Str} {S S' : DSp} (c : ClK PR w K mg base T k x n m ks S) (h : ∀ ds Om Q R, ds.length = n → S' ds Om Q R → S ds Om Q R) : ClK PR w K mg base T k x n m ks S' :=
  let ⟨f, fd, ps, F, a, b, d⟩ := c.ex
  ⟨f, fd, ps, F.imp (toSp_imp h), a, b, d⟩
section
variable {X : Cx} {P : Pm} {k : Nat} {x : Str} {p pos : Pos} {e a : Expr} {es : List Expr} {wl wk : WA} {w : WE} {S : DSp} {n m : Nat} {ks : List Str} {j}
theorem de_cl (c : Cl X.prog X.w X.K X.mg X.base P.T k x n S) (hr : Room k X.A) (tk : Takes X P.W) (ha : DA X P (e :: es) wl)
    (hg : Gl X x := by rfl) (hdb : (x == ("__debug__" : Str)) = false := by decide) (he : starEach (e :: es) X.env = (false, eval e X.env) :: starEach es X.env := by rfl) (hpl : (backTo pos (starEach es X.env)).any (·.1) = false := by rfl) :
    DE X P (.Call (.Name x p) (e :: es) [] pos) (wCallU n S [] wl) :=
  let ⟨_, _, _, F, hm, hk, hb⟩ := c.ex
  de_call F hr hm hk hb tk ha hg hdb he hpl
theorem de_clK {kws : List Keyword} (c : ClK X.prog X.w X.K X.mg X.base P.T k x n m ks S) (hr : Room k X.A) (tk : Takes X P.W) (ha : DA X P (e :: es) wl) (hkw : DK X P kws wk)
    (hg : Gl X x := by rfl) (hall : (backToKw pos (keywordEach kws X.env)).all (·.1.isSome) = true := by rfl) (hks : (backToKw pos (keywordEach kws X.env)).filterMap (·.1) = ks := by rfl)
    (hdb : (x == ("__debug__" : Str)) = false := by decide) (he : starEach (e :: es) X.env = (false, eval e X.env) :: starEach es X.env := by rfl)
    (hpl : ((backTo pos (starEach (e :: es) X.env)).any (·.1) || (backToKw pos (keywordEach kws X.env)).any (·.1.isNone)) = false := by rfl) : DE X P (.Call (.Name x p) (e :: es) kws pos) (wCallK m n S wl wk) :=
  let ⟨_, _, _, F, hm, hk, hb, hn⟩ := c.ex
  de_callK F hr hm hk hb tk ha hkw hn hg hall hks hdb he hpl
theorem de_gintE {i : Int} {pos : Pos} (hm : ∃ t, X.mg x = some (.int i t)) (hg : Gl X x := by rfl) (hd : (x == ("__debug__" : Str)) = false := by decide) : DE X P (.Name x pos) (wC (.int i)) := let ⟨_, h⟩ := hm; de_gint h hg hd
theorem de_gstrE {s : Str} {pos : Pos} (hm : ∃ t, X.mg x = some (.str s t)) (hg : Gl X x := by rfl) (hd : (x == ("__debug__" : Str)) = false := by decide) : DE X P (.Name x pos) (wC (.str s)) := let ⟨_, h⟩ := hm; de_gstr h hg hd
def gNeg : D → (D → Prop) → Prop
  | .int i, Q => Q (.int (-i))
  | _, _ => False
theorem ud_neg {T : Th} : UnD X T (unaryOp .USub) gNeg := by
  intro pins s σ H x v Q I rx ⟨F, Pm, dx, Qd, hx, hg, hq⟩
  cases dx <;> try exact hg.elim
  exact un_neg pins s σ H x v Q I rx ⟨_, hx, hq _ hg _ H (fun _ _ z => z) (by simp [Rep])⟩
end
end N

set_option Elab.async false
set_option linter.all false
set_option maxRecDepth 100000
/-! NS: lemmas for the plain side: frames, comprehensions, small facts -/
namespace N
open PySem PySem.Spec PyProof.Rows L2
theorem startG_c (n : Nat) (d : D) (ds : List D) : startG (n + 1) (d :: ds) = .val d :: startG n ds := by simp [startG]
theorem startG_n (n : Nat) : startG (n + 1) [] = .no :: startG n [] := by simp [startG, List.replicate_succ]
theorem startG_z : startG 0 [] = [] := rfl
theorem getSl_z (s : Sl) (r : Gam) : getSl (s :: r) 0 = s := rfl
theorem getSl_s (s : Sl) (r : Gam) (i : Nat) : getSl (s :: r) (i + 1) = getSl r i := rfl
theorem br_t {A B : Prop} : br true A B = A := rfl
theorem br_f {A B : Prop} : br false A B = B := rfl
theorem br_if {b : Bool} {A B : Prop} (h1 : b = true → A) (h2 : b = false → B) : br b A B := by
  cases b
  · exact h2 rfl
  · exact h1 rfl
theorem br_d {p : Prop} [Decidable p] {A B : Prop} (h1 : p → A) (h2 : ¬ p → B) : br (decide p) A B := br_if (fun e => h1 (of_decide_eq_true e)) (fun e => h2 (of_decide_eq_false e))
theorem br_dt {p : Prop} [Decidable p] {A B : Prop} (h : p) (h1 : A) : br (decide p) A B := by rw [decide_eq_true h]; exact h1
theorem br_df {p : Prop} [Decidable p] {A B : Prop} (h : ¬ p) (h1 : B) : br (decide p) A B := by rw [decide_eq_false h]; exact h1
section
variable {f : WG} {we : WE} {wt : WT} {G : Gam} {O : Om} {Q : List D → Om → Prop}
/-- a comprehension whose element is a function of the item -/
theorem turns_map (g : D → D) : ∀ (items acc : List D), acc.length + items.length ≤ 16777216 → (∀ d ∈ items, ∀ K : D → Om → Prop, K (g d) O → f d G fun G2 => we G2 O K noR) → Q (acc ++ items.map g) O → wTurns f wtYes we G items acc O Q
  | [], acc, _, _, q => by simpa [wTurns] using q
  | d :: r, acc, l, h, q => by
    rw [List.length_cons] at l
    refine ⟨by omega, h d List.mem_cons_self _ (turns_map g r (acc ++ [g d]) (by rw [List.length_append, List.length_singleton]; omega) (fun d' h' => h d' (List.mem_cons_of_mem _ h')) (by simpa using q))⟩
/-- .. with a test -/
theorem turns_filter (t : D → Bool) (g : D → D) : ∀ (items acc : List D), acc.length + items.length ≤ 16777216 →
    (∀ d ∈ items, ∀ (K1 : D → Om → Prop) (K2 : Om → Prop), (t d = true → K1 (g d) O) → (t d = false → K2 O) → f d G fun G2 => wt G2 O (fun b O2 => br b (we G2 O2 K1 noR) (K2 O2)) noR) → Q (acc ++ (items.filter t).map g) O → wTurns f wt we G items acc O Q
  | [], acc, _, _, q => by simpa [wTurns] using q
  | d :: r, acc, l, h, q => by
    rw [List.length_cons] at l
    refine ⟨by omega, h d List.mem_cons_self _ _ (fun e => turns_filter t g r (acc ++ [g d]) (by rw [List.length_append, List.length_singleton]; omega) (fun d' h' => h d' (List.mem_cons_of_mem _ h')) ?_) (fun e => turns_filter t g r acc (by omega) (fun d' h' => h d' (List.mem_cons_of_mem _ h')) ?_)⟩
    · rw [List.filter_cons, if_pos e] at q
      simpa using q
    · rw [List.filter_cons, if_neg (by rw [e]; decide)] at q
      exact q
/-- a comprehension whose element is told by a relation -/
theorem turns_rel (Pd : D → D → Prop) : ∀ (items acc : List D), acc.length + items.length ≤ 16777216 → (∀ d ∈ items, ∀ K : D → Om → Prop, (∀ x, Pd d x → K x O) → f d G fun G2 => we G2 O K noR) →
    (∀ ds : List D, ds.length = items.length → (∀ (i : Nat) d x, items[i]? = some d → ds[i]? = some x → Pd d x) → Q (acc ++ ds) O) → wTurns f wtYes we G items acc O Q
  | [], acc, _, _, q => by simpa [wTurns] using q [] rfl (by simp)
  | d :: r, acc, l, h, q => by
    rw [List.length_cons] at l
    refine ⟨by omega, h d List.mem_cons_self _ fun x hx => turns_rel Pd r (acc ++ [x]) (by rw [List.length_append, List.length_singleton]; omega) (fun d' h' => h d' (List.mem_cons_of_mem _ h')) fun ds hl hp => ?_⟩
    have := q (x :: ds) (by simp [hl]) fun i d' x' e1 e2 => by
      cases i with
      | zero => simp at e1 e2; subst e1 e2; exact hx
      | succ i => exact hp i d' x' (by simpa using e1) (by simpa using e2)
    simpa using this
end
/-! ### numbers -/
theorem mulL {i j : Int} (h : -(2 ^ 64) < i) (h2 : i < 2 ^ 64) : IntMulOk i j := .of_left (intBits_le_64 h h2)
theorem mulR {i j : Int} (h : -(2 ^ 64) < j) (h2 : j < 2 ^ 64) : IntMulOk i j := .of_right (intBits_le_64 h h2)
theorem shlI {i j : Int} {n : Nat} (h0 : 0 ≤ i) (h : i < 2 ^ n) (hj : 0 ≤ j) (hn : (n : Int) + j ≤ 134217728) : CShl i j := by
  have e : ((j.toNat : Nat) : Int) = j := by omega
  have := shl_ok (i := i) (j := j.toNat) (n := n) (by
    have : ((i.natAbs : Nat) : Int) = i := by omega
    have h2 : ((i.natAbs : Nat) : Int) < ((2 ^ n : Nat) : Int) := by rw [this]; simpa using h
    exact Int.ofNat_lt.mp h2) (by omega)
  rw [e] at this
  exact this
/-! ### equality of data -/
theorem shp_int (i : Int) : shp (.int i) = true := rfl
theorem shp_bl (i : Bool) : shp (.bl i) = true := rfl
theorem shp_non : shp .non = true := rfl
theorem deq_int (i j : Int) : deq (.int i) (.int j) = decide (i = j) := by
  show (i == j) = _
  exact Bool.beq_eq_decide_eq _ _
theorem toPys_map {α : Type} (f : α → D) (xs : List α) : toPys (xs.map f) = xs.map fun x => toPy (f x) := by
  induction xs with
  | nil => rfl
  | cons x r ih => simp only [List.map_cons, toPys, ih]
theorem lay_ints (ns : List Int) : PyData.canLayAll0 (toPys (ns.map D.int)) = true := by
  induction ns with
  | nil => rfl
  | cons n r ih => simp only [List.map_cons, toPys, toPy, PyData.canLayAll0, PyData.canLay0, ih, Bool.and_self]
theorem eqv_ints (ns ms : List Int) : PyData.eqvAll (toPys (ns.map D.int)) (toPys (ms.map D.int)) = decide (ns = ms) := by
  induction ns generalizing ms with
  | nil => cases ms <;> simp [toPys, PyData.eqvAll]
  | cons n r ih =>
    cases ms with
    | nil => simp [toPys, PyData.eqvAll]
    | cons m s =>
      simp only [List.map_cons, toPys, PyData.eqvAll, ih, toPy, PyData.eqv]
      by_cases h : n = m <;> by_cases h2 : r = s <;> simp [h, h2]
end N
namespace N
open PySem PySem.Spec PyProof.Rows L2
theorem depth_ints (ns : List Int) : PyData.depthAll (toPys (ns.map D.int)) = 0 := by
  induction ns with
  | nil => rfl
  | cons n r ih => simp [List.map_cons, toPys, toPy, PyData.depthAll, PyData.depth, ih]
theorem shp_tints (ns : List Int) : shp (.tup (ns.map D.int)) = true := by
  simp [shp, SeqAt.shaped, toPy, PyData.canLay0, PyData.depth, lay_ints, depth_ints]
theorem shp_lints (ns : List Int) : shp (.lst (ns.map D.int)) = true := by
  simp [shp, SeqAt.shaped, toPy, PyData.canLay0, PyData.depth, lay_ints, depth_ints]
theorem deq_tints (ns ms : List Int) : deq (.tup (ns.map D.int)) (.tup (ms.map D.int)) = decide (ns = ms) := by
  simp only [deq, toPy, PyData.eqv, eqv_ints]
theorem deq_lints (ns ms : List Int) : deq (.lst (ns.map D.int)) (.lst (ms.map D.int)) = decide (ns = ms) := by
  simp only [deq, toPy, PyData.eqv, eqv_ints]
end N

set_option Elab.async false
set_option linter.all false
set_option maxRecDepth 100000
/-! NW: more lemmas of the plain side -/
namespace N
open PySem PySem.Spec PyProof.Rows L2
theorem gIx_list {xs : List D} {i : Int} {j : Nat} {d : D} {Q : D → Prop} (hi : i = (j : Int)) (hd : xs[j]? = some d) (q : Q d) : gIx (.lst xs) (.int i) Q := by
  subst hi
  simp only [gIx, atI_nat hd]
  exact q
theorem gIx_tup {xs : List D} {i : Int} {j : Nat} {d : D} {Q : D → Prop} (hi : i = (j : Int)) (hd : xs[j]? = some d) (q : Q d) : gIx (.tup xs) (.int i) Q := by
  subst hi
  simp only [gIx, atI_nat hd]
  exact q
theorem gIx_scr {xs : List Int} {i : Int} {j : Nat} {d : Int} {Q : D → Prop} (hi : i = (j : Int)) (hd : xs[j]? = some d) (q : Q (.int d)) : gIx (.scr xs) (.int i) Q := by
  subst hi
  simp only [gIx, atI_nat hd]
  exact q
/-- an index within, whatever it is -/
theorem gIx_any {xs : List D} {i : Int} {Q : D → Prop} (h0 : 0 ≤ i) (h1 : i < xs.length) (q : ∀ d ∈ xs, Q d) : gIx (.lst xs) (.int i) Q := by
  have hj : i.toNat < xs.length := by omega
  exact gIx_list (j := i.toNat) (d := xs[i.toNat]) (by omega) (List.getElem?_eq_getElem hj) (q _ (List.getElem_mem hj))
theorem mem_rngL {d : D} {lo : Int} {n : Nat} (h : d ∈ rngL lo n) : ∃ i : Nat, i < n ∧ d = .int (lo + i) := by
  obtain ⟨i, hi, rfl⟩ := List.mem_map.mp h
  exact ⟨i, List.mem_range.mp hi, rfl⟩
theorem mem_rngC {d : D} {lo c : Int} {n : Nat} (h : d ∈ rngC lo c n) : ∃ i : Nat, i < n ∧ d = .int (lo + i * c) := by
  obtain ⟨i, hi, rfl⟩ := List.mem_map.mp h
  exact ⟨i, List.mem_range.mp hi, rfl⟩
theorem rngL_len {lo : Int} {n : Nat} : (rngL lo n).length = n := by simp [rngL]
theorem rngC_len {lo c : Int} {n : Nat} : (rngC lo c n).length = n := by simp [rngC]
theorem rngL_map {lo : Int} {n : Nat} (g : D → D) (h : Nat → D) (e : ∀ i < n, g (.int (lo + (i : Nat))) = h i) : (rngL lo n).map g = (List.range n).map h := by
  simp only [rngL, List.map_map]
  exact List.map_congr_left fun i hi => e i (List.mem_range.mp hi)
theorem rngC_map {lo c : Int} {n : Nat} (g : D → D) (h : Nat → D) (e : ∀ i < n, g (.int (lo + (i : Nat) * c)) = h i) : (rngC lo c n).map g = (List.range n).map h := by
  simp only [rngC, List.map_map]
  exact List.map_congr_left fun i hi => e i (List.mem_range.mp hi)
theorem cut_nat {α : Type} (xs : List α) (a b : Nat) : cutD xs (some (a : Int)) (some (b : Int)) = (xs.drop a).take (b - a) := by
  unfold cutD
  rw [HT.sIx_nat, HT.sIx_nat]
  by_cases ha : a ≤ xs.length
  · rw [Nat.min_eq_left ha]
    by_cases hb : b ≤ xs.length
    · rw [Nat.min_eq_left hb]
    · rw [Nat.min_eq_right (by omega), List.take_of_length_le (by simp), List.take_of_length_le (by simp; omega)]
  · rw [Nat.min_eq_right (show xs.length ≤ a by omega), List.drop_of_length_le (Nat.le_refl _), List.drop_of_length_le (by omega)]
    simp
theorem cut_to {α : Type} (xs : List α) (b : Nat) : cutD xs none (some (b : Int)) = xs.take b := by
  unfold cutD
  rw [HT.sIx_none, HT.sIx_nat, List.drop_zero, Nat.sub_zero]
  by_cases hb : b ≤ xs.length
  · rw [Nat.min_eq_left hb]
  · rw [Nat.min_eq_right (by omega), List.take_of_length_le (Nat.le_refl _), List.take_of_length_le (by omega)]
theorem cut_from {α : Type} (xs : List α) (a : Nat) : cutD xs (some (a : Int)) none = xs.drop a := by
  unfold cutD
  rw [HT.sIx_none, HT.sIx_nat]
  by_cases ha : a ≤ xs.length
  · rw [Nat.min_eq_left ha, List.take_of_length_le (by simp)]
  · rw [Nat.min_eq_right (by omega), List.drop_of_length_le (Nat.le_refl _), List.drop_of_length_le (by omega)]
    simp
/-- all ints -/
theorem all_ints {p : Int → Prop} : ∀ {ds : List D}, (∀ x ∈ ds, ∃ v, x = .int v ∧ p v) → ∃ os : List Int, ds = os.map D.int ∧ (∀ o ∈ os, p o)
  | [], _ => ⟨[], rfl, by simp⟩
  | d :: r, h => by
    obtain ⟨v, rfl, hv⟩ := h d List.mem_cons_self
    obtain ⟨os, e, ho⟩ := all_ints (ds := r) fun x hx => h x (List.mem_cons_of_mem _ hx)
    exact ⟨v :: os, by rw [e, List.map_cons], fun o h => (List.mem_cons.mp h).elim (fun e => e ▸ hv) (ho o)⟩
theorem bsL_map' {α : Type} (g : α → Bool) (xs : List α) : bsL (xs.map fun x => .bl (g x)) = some (xs.map g) := by
  rw [show (xs.map fun x => D.bl (g x)) = (xs.map g).map D.bl by rw [List.map_map]; rfl]
  exact bsL_bls _
theorem divOk {i j : Int} (h0 : 0 < j) (h1 : j < 1073741824) : CDv i j := .inl ⟨h0, h1⟩
end N
namespace N
open PySem PySem.Spec PyProof.Rows L2
section
variable {C : Int → Int → Prop} {f : Int → Int → Int} {p : Int → Int → Bool} {i j : Int} {Q : D → Prop} {xs ys : List D} {x y : D} {z z' : Str} {b b' : Bool} {QL : List D → Prop} {QM : MO → Prop}
theorem gI_i : gI C f (.int i) (.int j) Q = (C i j ∧ Q (.int (f i j))) := rfl
theorem gI0_i : gI0 f (.int i) (.int j) Q = Q (.int (f i j)) := rfl
theorem gB0_i : gB0 p (.int i) (.int j) Q = Q (.bl (p i j)) := rfl
theorem gAdd_i : gAdd (.int i) (.int j) Q = Q (.int (i + j)) := rfl
theorem gAdd_t : gAdd (.tup xs) (.tup ys) Q = (xs.length + ys.length ≤ 16777216 ∧ Q (.tup (xs ++ ys))) := rfl
theorem gAdd_l : gAdd (.lst xs) (.lst ys) Q = (xs.length + ys.length ≤ 16777216 ∧ Q (.lst (xs ++ ys))) := rfl
theorem gAdd_s : gAdd (.str z) (.str z') Q = (z.length + z'.length ≤ 16777216 ∧ Q (.str (z ++ z'))) := rfl
theorem gMul_i : gMul (.int i) (.int j) Q = (IntMulOk i j ∧ Q (.int (i * j))) := rfl
theorem gMul_t : gMul (.tup xs) (.int i) Q = ((-(2 ^ 63) ≤ i ∧ i < 2 ^ 40 ∧ xs.length * i.toNat ≤ 16777216) ∧ Q (.tup (List.replicate i.toNat xs).flatten)) := rfl
theorem gMul_l : gMul (.lst xs) (.int i) Q = ((-(2 ^ 63) ≤ i ∧ i < 2 ^ 40 ∧ xs.length * i.toNat ≤ 16777216) ∧ Q (.lst (List.replicate i.toNat xs).flatten)) := rfl
theorem gEq_ : gEq x y Q = (shp x = true ∧ shp y = true ∧ Q (.bl (deq x y))) := rfl
theorem gNe_ : gNe x y Q = (shp x = true ∧ shp y = true ∧ Q (.bl (!deq x y))) := rfl
theorem gIs_n : gIs x .non Q = Q (.bl (isNon x)) := by cases x <;> rfl
theorem gIs_b : gIs (.bl b) (.bl b') Q = Q (.bl (decide (b = b'))) := rfl
theorem gIsNot_n : gIsNot x .non Q = Q (.bl (!isNon x)) := by cases x <;> rfl
theorem gIsNot_b : gIsNot (.bl b) (.bl b') Q = Q (.bl (!decide (b = b'))) := rfl
theorem isNon_n : isNon .non = true := rfl
theorem isNon_i : isNon (.int i) = false := rfl
theorem isNon_b : isNon (.bl b) = false := rfl
theorem isNon_t : isNon (.tup xs) = false := rfl
theorem isNon_l : isNon (.lst xs) = false := rfl
theorem isNon_s : isNon (.str z) = false := rfl
theorem gNeg_i : gNeg (.int i) Q = Q (.int (-i)) := rfl
theorem gTuple_t : gTuple [.tup xs] Q = Q (.tup xs) := rfl
theorem gTuple_l : gTuple [.lst xs] Q = Q (.tup xs) := rfl
theorem gList_t : gList [.tup xs] QM = QM (.lst xs) := rfl
theorem gList_l : gList [.lst xs] QM = QM (.lst xs) := rfl
theorem gList_s {ns : List Int} : gList [.scr ns] QM = QM (.lst (ns.map D.int)) := rfl
theorem gLen_t : gLen [.tup xs] Q = Q (.int xs.length) := rfl
theorem gLen_l : gLen [.lst xs] Q = Q (.int xs.length) := rfl
theorem gLen_s {ns : List Int} : gLen [.scr ns] Q = Q (.int ns.length) := rfl
theorem gLen_d {ks : List Key} : gLen [.dct ks xs] Q = Q (.int ks.length) := rfl
theorem gInt_i : gInt [.int i] Q = Q (.int i) := rfl
theorem gInt_b : gInt [.bl b] Q = Q (.int (if b then 1 else 0)) := rfl
theorem gAbs_i : gAbs [.int i] Q = Q (.int (if i < 0 then -i else i)) := rfl
theorem gMax_i : gMax [.int i, .int j] Q = Q (.int (if j > i then j else i)) := rfl
theorem gMin_i : gMin [.int i, .int j] Q = Q (.int (if j < i then j else i)) := rfl
theorem gSl_t {lo hi : Option Int} : gSl (.tup xs) lo hi Q = Q (.tup (cutD xs lo hi)) := rfl
theorem gSl_l {lo hi : Option Int} : gSl (.lst xs) lo hi Q = Q (.lst (cutD xs lo hi)) := rfl
theorem gIt_t : gIt (.tup xs) QL = QL xs := rfl
theorem gIt_l : gIt (.lst xs) QL = QL xs := rfl
theorem gIt_s {ns : List Int} : gIt (.scr ns) QL = QL (ns.map D.int) := rfl
theorem gRng1_i : gRng1 [.int j] QL = ((-(2 ^ 62) ≤ j ∧ j < 2 ^ 62) ∧ QL (rngL 0 j.toNat)) := rfl
theorem gRng2_i : gRng2 [.int i, .int j] QL = ((-(2 ^ 62) ≤ i ∧ i < 2 ^ 62 ∧ -(2 ^ 62) ≤ j ∧ j < 2 ^ 62) ∧ QL (rngL i (j - i).toNat)) := rfl
theorem gRng3_i {c : Int} : gRng3 [.int i, .int j, .int c] QL = ∃ n, RgC i j c n ∧ QL (rngC i c n) := rfl
theorem gAll_b {bs : List Bool} : gAll [.lst (bs.map D.bl)] Q = Q (.bl (bs.all _root_.id)) := by simp only [gAll, gLB, bsL_bls]
theorem gAny_b {bs : List Bool} : gAny [.lst (bs.map D.bl)] Q = Q (.bl (bs.any _root_.id)) := by simp only [gAny, gLB, bsL_bls]
theorem gSum_i {ns : List Int} : gSum [.lst (ns.map D.int)] Q = Q (.int ns.sum) := by simp only [gSum, gLI, isL_ints]
theorem gIsi_1 {t : String} {a : String} (h : okTy t = true) (h2 : tyS x = some a) (q : Q (.bl (isiS a t))) : gIsi [x, .ty t] Q := ⟨h, by rw [h2]; exact q⟩
theorem gIsi_i {t : String} : gIsi [.int i, .ty t] Q = (okTy t = true ∧ Q (.bl (isiS "int" t))) := rfl
theorem gIsi_b {t : String} : gIsi [.bl b, .ty t] Q = (okTy t = true ∧ Q (.bl (isiS "bool" t))) := rfl
theorem gIsi_t {t : String} : gIsi [.tup xs, .ty t] Q = (okTy t = true ∧ Q (.bl (isiS "tuple" t))) := rfl
theorem gIsi_l {t : String} : gIsi [.lst xs, .ty t] Q = (okTy t = true ∧ Q (.bl (isiS "list" t))) := rfl
theorem gIsi_s {t : String} : gIsi [.str z, .ty t] Q = (okTy t = true ∧ Q (.bl (isiS "str" t))) := rfl
theorem gIsi_n {t : String} : gIsi [.non, .ty t] Q = (okTy t = true ∧ Q (.bl (isiS "NoneType" t))) := rfl
theorem gIsi_d {t : String} {ks : List Key} : gIsi [.dct ks xs, .ty t] Q = (okTy t = true ∧ Q (.bl (isiS "dict" t))) := rfl
theorem wVar_v {k : Nat} {G : Gam} {Om : N.Om} {QQ : D → N.Om → Prop} {R : RX} {d : D} (h : getSl G k = .val d) : wVar k G Om QQ R = QQ d Om := by unfold wVar; rw [h]
end
end N
namespace N
open PySem PySem.Spec PyProof.Rows L2
theorem isi_NoneType_bool : isiS "NoneType" "bool" = false := rfl
theorem isi_NoneType_int : isiS "NoneType" "int" = false := rfl
theorem isi_NoneType_str : isiS "NoneType" "str" = false := rfl
theorem isi_NoneType_tuple : isiS "NoneType" "tuple" = false := rfl
theorem isi_NoneType_list : isiS "NoneType" "list" = false := rfl
theorem isi_NoneType_dict : isiS "NoneType" "dict" = false := rfl
theorem isi_bool_bool : isiS "bool" "bool" = true := rfl
theorem isi_bool_int : isiS "bool" "int" = true := rfl
theorem isi_bool_str : isiS "bool" "str" = false := rfl
theorem isi_bool_tuple : isiS "bool" "tuple" = false := rfl
theorem isi_bool_list : isiS "bool" "list" = false := rfl
theorem isi_bool_dict : isiS "bool" "dict" = false := rfl
theorem isi_int_bool : isiS "int" "bool" = false := rfl
theorem isi_int_int : isiS "int" "int" = true := rfl
theorem isi_int_str : isiS "int" "str" = false := rfl
theorem isi_int_tuple : isiS "int" "tuple" = false := rfl
theorem isi_int_list : isiS "int" "list" = false := rfl
theorem isi_int_dict : isiS "int" "dict" = false := rfl
theorem isi_str_bool : isiS "str" "bool" = false := rfl
theorem isi_str_int : isiS "str" "int" = false := rfl
theorem isi_str_str : isiS "str" "str" = true := rfl
theorem isi_str_tuple : isiS "str" "tuple" = false := rfl
theorem isi_str_list : isiS "str" "list" = false := rfl
theorem isi_str_dict : isiS "str" "dict" = false := rfl
theorem isi_tuple_bool : isiS "tuple" "bool" = false := rfl
theorem isi_tuple_int : isiS "tuple" "int" = false := rfl
theorem isi_tuple_str : isiS "tuple" "str" = false := rfl
theorem isi_tuple_tuple : isiS "tuple" "tuple" = true := rfl
theorem isi_tuple_list : isiS "tuple" "list" = false := rfl
theorem isi_tuple_dict : isiS "tuple" "dict" = false := rfl
theorem isi_list_bool : isiS "list" "bool" = false := rfl
theorem isi_list_int : isiS "list" "int" = false := rfl
theorem isi_list_str : isiS "list" "str" = false := rfl
theorem isi_list_tuple : isiS "list" "tuple" = false := rfl
theorem isi_list_list : isiS "list" "list" = true := rfl
theorem isi_list_dict : isiS "list" "dict" = false := rfl
theorem isi_dict_bool : isiS "dict" "bool" = false := rfl
theorem isi_dict_int : isiS "dict" "int" = false := rfl
theorem isi_dict_str : isiS "dict" "str" = false := rfl
theorem isi_dict_tuple : isiS "dict" "tuple" = false := rfl
theorem isi_dict_list : isiS "dict" "list" = false := rfl
theorem isi_dict_dict : isiS "dict" "dict" = true := rfl
theorem okTy_bool : okTy "bool" = true := rfl
theorem okTy_int : okTy "int" = true := rfl
theorem okTy_str : okTy "str" = true := rfl
theorem okTy_tuple : okTy "tuple" = true := rfl
theorem okTy_list : okTy "list" = true := rfl
theorem okTy_dict : okTy "dict" = true := rfl
end N

set_option Elab.async false
set_option linter.all false
set_option maxRecDepth 100000
set_option maxHeartbeats 0
/-! NJ: shared things, instances, methods, errors -/
namespace N
open PySem PySem.Spec PyProof.Rows L2
def putO (O : Om) (a : Addr) (m : MO) : Om := fun b => if b = a then some m else O b
def delO (O : Om) (a : Addr) : Om := fun b => if b = a then none else O b
theorem putO_same {O : Om} {a : Addr} {m : MO} : putO O a m a = some m := if_pos rfl
theorem putO_ne {O : Om} {a b : Addr} {m : MO} (h : b ≠ a) : putO O a m b = O b := if_neg h
theorem putO_put {O : Om} {a : Addr} {m m' : MO} : putO (putO O a m) a m' = putO O a m' := funext fun b => by unfold putO; split <;> rfl
theorem delO_put {O : Om} {a : Addr} {m : MO} (h : O a = none) : delO (putO O a m) a = O := funext fun b => by
  unfold delO putO
  by_cases e : b = a
  · rw [if_pos e, e, h]
  · rw [if_neg e, if_neg e]
def Wd.setO (W : Wd) (a : Addr) (m : MO) : Wd := { W with Om := putO W.Om a m }
def Wd.addS (W : Wd) (a : Addr) (m : MO) : Wd := ⟨putO W.Om a m, fun x b => if x = a then b = a else W.fp x b, fun b => W.F b ∨ b = a⟩
def Wd.delS (W : Wd) (a : Addr) : Wd := ⟨delO W.Om a, W.fp, fun b => W.F b ∧ b ≠ a⟩
section
variable {T : Th} {W W1 : Wd} {H H1 : Hp} {a : Addr} {o : HO} {m m' : MO}
theorem Step.mutS (ok : WOk T W H) (e : W.Om a = some m) (r : MRep T W.F (W.fp a) (upd H a o) a m') (no : ∀ q, o ≠ LamX.CodeO a q := by intro _ z; cases z) : Step T W H (W.setO a m') (upd H a o) := by
  have fa : W.fp a a := (ok.at_ a m e).2
  have ea : W.Om a ≠ none := by rw [e]; simp
  have Fa : W.F a := ok.sub a ⟨a, ea, fa⟩
  have kp : Kp W.F H W.F (upd H a o) := Kp.mut Fa
  have old : ∀ b, (W.setO a m').Om b ≠ none → W.Om b ≠ none := fun b h => by
    by_cases q : b = a
    · rw [q]; exact ea
    · rwa [show (W.setO a m').Om b = W.Om b from putO_ne q] at h
  have new : ∀ b, W.Om b ≠ none → (W.setO a m').Om b ≠ none := fun b h => by
    by_cases q : b = a
    · rw [q, show (W.setO a m').Om a = some m' from putO_same]; simp
    · rwa [show (W.setO a m').Om b = W.Om b from putO_ne q]
  have pm : ∀ b, (W.setO a m').pm b → W.pm b := fun b ⟨x, h, f⟩ => ⟨x, old x h, f⟩
  refine ⟨⟨fun b mb eb => ?_, fun b h => ok.sub b (pm b h), fun x y b h h' => ok.dis x y b (old x h) (old y h'), fun b h => ?_, fun b q h => ?_⟩, fun b u eb _ n => ?_, fun b h => ?_, fun _ h => h, fun _ h => .inl h, fun x h => ⟨new x h, rfl⟩, fun x b h h' => absurd h (old x h')⟩
  · by_cases q : b = a
    · subst q
      rw [show (W.setO b m').Om b = some m' from putO_same] at eb
      cases eb
      exact ⟨r, fa⟩
    · rw [show (W.setO a m').Om b = W.Om b from putO_ne q] at eb
      obtain ⟨r', f'⟩ := ok.at_ b mb eb
      exact ⟨MRep.kp kp (fun c hc => upd_ne fun z => q (ok.dis b a c (by rw [eb]; simp) ea hc (z ▸ fa))) f' r', f'⟩
  · by_cases z : b = a
    · rw [z, upd_same]; simp
    · rw [upd_ne z]; exact ok.trk b h
  · by_cases z : b = a
    · subst z
      rw [upd_same]
      exact fun z => no q (Option.some.inj z)
    · rw [upd_ne z]; exact ok.code b q h
  · rw [upd_ne fun z => n ⟨a, ea, by rw [z]; exact fa⟩]; exact eb
  · by_cases z : b = a
    · rw [z, upd_same]; simp
    · rw [upd_ne z]; exact h
theorem om_none (ok : WOk T W H) (h : H a = none) : W.Om a = none := by
  cases q : W.Om a with
  | none => rfl
  | some m => exact absurd h (ok.trk a (ok.sub a ⟨a, by rw [q]; simp, (ok.at_ a m q).2⟩))
theorem Step.newS (ok : WOk T W H) (h : H a = none) (r : MRep T (W.addS a m).F (fun b => b = a) (upd H a o) a m) (no : ∀ q, o ≠ LamX.CodeO a q := by intro _ z; cases z) : Step T W H (W.addS a m) (upd H a o) := by
  have na := om_none ok h
  have nf : ¬ W.F a := fun z => ok.trk a z h
  have kp : Kp W.F H (W.addS a m).F (upd H a o) := ⟨fun b u e _ _ => ext_upd h b u e, fun b q => q.imp _root_.id fun e => by rw [e]; exact h, trk_upd⟩
  have om : ∀ b, b ≠ a → (W.addS a m).Om b = W.Om b := fun b q => putO_ne q
  have fp : ∀ b, b ≠ a → (W.addS a m).fp b = W.fp b := fun b q => funext fun c => if_neg q
  have fpa : ∀ c, (W.addS a m).fp a c ↔ c = a := fun c => by show (if a = a then c = a else W.fp a c) ↔ c = a; rw [if_pos rfl]
  have nfp : ∀ b, W.Om b ≠ none → ¬ W.fp b a := fun b hb hf => nf (ok.sub a ⟨b, hb, hf⟩)
  refine ⟨⟨fun b mb eb => ?_, fun b ⟨x, hx, hf⟩ => ?_, fun x y b hx hy fx fy => ?_, fun b q => ?_, fun b y q => ?_⟩, fun b u e _ _ => ext_upd h b u e, fun b q => ?_, fun b q => .inl q, kp.fnew, fun x hx => ?_, fun x b hx hx' hf => ?_⟩
  · by_cases q : b = a
    · subst q
      rw [show (W.addS b m).Om b = some m from putO_same] at eb
      cases eb
      have e2 : (W.addS b m).fp b = fun c => c = b := funext fun c => propext (fpa c)
      rw [e2]
      exact ⟨r, rfl⟩
    · rw [om b q] at eb
      rw [fp b q]
      obtain ⟨r', f'⟩ := ok.at_ b mb eb
      exact ⟨MRep.kp kp (fun c hc => upd_ne fun z => nfp b (by rw [eb]; simp) (z ▸ hc)) f' r', f'⟩
  · by_cases q : x = a
    · subst q
      exact .inr ((fpa b).mp hf)
    · rw [om x q] at hx
      rw [fp x q] at hf
      exact .inl (ok.sub b ⟨x, hx, hf⟩)
  · by_cases q : x = a <;> by_cases q2 : y = a
    · rw [q, q2]
    · subst q
      rw [(fpa b).mp fx, fp y q2] at fy
      rw [om y q2] at hy
      exact absurd fy (nfp y hy)
    · subst q2
      rw [(fpa b).mp fy, fp x q] at fx
      rw [om x q] at hx
      exact absurd fx (nfp x hx)
    · rw [om x q] at hx; rw [om y q2] at hy; rw [fp x q] at fx; rw [fp y q2] at fy
      exact ok.dis x y b hx hy fx fy
  · by_cases z : b = a
    · rw [z, upd_same]; simp
    · rw [upd_ne z]; exact ok.trk b (q.resolve_right z)
  · by_cases z : b = a
    · subst z
      rw [upd_same]
      exact fun z => no y (Option.some.inj z)
    · rw [upd_ne z]; exact ok.code b y (q.resolve_right z)
  · by_cases z : b = a
    · rw [z, upd_same]; simp
    · rw [upd_ne z]; exact q
  · have q : x ≠ a := fun z => hx (z ▸ na)
    rw [om x q, fp x q]
    exact ⟨hx, rfl⟩
  · by_cases q : x = a
    · subst q
      rw [(fpa b).mp hf]; exact h
    · rw [om x q] at hx'; exact absurd hx hx'
/-- a shared thing is shared no more: nothing changes it from now on -/
theorem Step.frzS (s : Step T W1 H1 W H) (ok : WOk T W1 H1) (hn : H1 a = none) (e : W.Om a = some m) : Step T W1 H1 (W.delS a) H := by
  have na := om_none ok hn
  have ea : W.Om a ≠ none := by rw [e]; simp
  have fa := (s.ok.at_ a m e).2
  have om : ∀ b, b ≠ a → (W.delS a).Om b = W.Om b := fun b q => if_neg q
  have oma : (W.delS a).Om a = none := if_pos rfl
  have nea : ∀ b, (W.delS a).Om b ≠ none → b ≠ a ∧ W.Om b ≠ none := fun b h => by
    have q : b ≠ a := fun z => h (z ▸ oma)
    rw [om b q] at h
    exact ⟨q, h⟩
  refine ⟨⟨fun b mb eb => ?_, fun b ⟨x, hx, hf⟩ => ?_, fun x y b hx hy => s.ok.dis x y b (nea x hx).2 (nea y hy).2, fun b h => s.ok.trk b h.1, fun b q h => s.ok.code b q h.1⟩, s.keep', s.trk, fun b h => ⟨s.sub b h, fun z => ok.trk b h (by rw [z]; exact hn)⟩, fun b h => s.fnew b h.1, fun x hx => ?_, fun x b h h' hf => s.new x b h (nea x h').2 hf⟩
  · obtain ⟨q, eb'⟩ := nea b (by rw [eb]; simp)
    rw [om b q] at eb
    obtain ⟨r, f⟩ := s.ok.at_ b mb eb
    exact ⟨MRep.kp (Kp.less fun c h => h.1) (fun _ _ => rfl) f r, f⟩
  · obtain ⟨q, hx⟩ := nea x hx
    exact ⟨s.ok.sub b ⟨x, hx, hf⟩, fun z => q (s.ok.dis x a b hx ea hf (z ▸ fa))⟩
  · have q : x ≠ a := fun z => hx (z ▸ na)
    rw [om x q]
    exact s.om x hx
end
/-! ### instances -/
def insOf (O : Om) : D → Option (Nat × List Str × List D)
  | .ins c ns vs => some (c, ns, vs)
  | .ref a => match O a with
    | some (.ins c ns vs) => some (c, ns, vs)
    | _ => none
  | _ => none
theorem insOf_put {O : Om} {a : Addr} {c : Nat} {ns : List Str} {vs : List D} : insOf (putO O a (.ins c ns vs)) (.ref a) = some (c, ns, vs) := by
  unfold insOf
  simp only [putO_same]
theorem insOf_ref {O : Om} {a : Addr} {c : Nat} {ns : List Str} {vs : List D} (h : O a = some (.ins c ns vs)) : insOf O (.ref a) = some (c, ns, vs) := by
  unfold insOf
  simp only [h]
theorem insOf_ins {O : Om} {c : Nat} {ns : List Str} {vs : List D} : insOf O (.ins c ns vs) = some (c, ns, vs) := rfl
section
variable {T : Th} {W : Wd} {H : Hp} {d : D} {v : V} {c : Nat} {ns : List Str} {vs : List D}
theorem ins_at (ok : WOk T W H) (r : RepT T W.F W.pm H d v) (e : insOf W.Om d = some (c, ns, vs)) : ∃ a dx ws, v = .ref a ∧ H a = some (.ins (T.cm c) dx (ns.zip ws)) ∧ ns.length = vs.length ∧ Reps T W.F H vs ws := by
  cases d <;> try cases e
  · rename_i a
    have e : (match W.Om a with | some (.ins c ns vs) => some (c, ns, vs) | _ => none) = some (c, ns, vs) := e
    split at e
    · rename_i hh
      obtain ⟨⟨dx, ws, h, l, r2⟩, _⟩ := ok.at_ a _ hh
      cases e
      exact ⟨a, dx, ws, r, h, l, r2⟩
    · cases e
  · obtain ⟨a, dx, ws, e1, h, _, l, r2⟩ := r
    exact ⟨a, dx, ws, e1, h, l, r2⟩
end
def lk : List Str → List D → Str → Option D
  | n :: ns, v :: vs, f => bif f == n then some v else lk ns vs f
  | _, _, _ => none
theorem lk_hit {n : Str} {ns : List Str} {v : D} {vs : List D} : lk (n :: ns) (v :: vs) n = some v := by
  unfold lk
  rw [beq_self_eq_true]
  rfl
theorem lk_miss {f n : Str} {ns : List Str} {v : D} {vs : List D} (h : (f == n) = false) : lk (n :: ns) (v :: vs) f = lk ns vs f := by
  conv => lhs; unfold lk
  rw [h]
  rfl
theorem lk_nil {f : Str} {vs : List D} : lk [] vs f = none := by unfold lk; rfl
theorem lk_at {T : Th} {F : Addr → Prop} {H : Hp} {f : Str} {d : D} : ∀ {ns : List Str} {vs : List D} {ws : List V}, Reps T F H vs ws → lk ns vs f = some d → ∃ v, (ns.zip ws).lookup f = some v ∧ Rep T F H d v
  | [], _, _, _, e => by rw [lk_nil] at e; cases e
  | _ :: _, [], _, _, e => by simp [lk] at e
  | n :: ns, x :: vs, ws, r, e => by
    simp only [Reps] at r
    obtain ⟨v, w, e1, r1, r2⟩ := r
    subst e1
    unfold lk at e
    rw [List.zip_cons_cons, List.lookup_cons]
    cases q : (f == n) with
    | true =>
      rw [q] at e
      cases e
      exact ⟨v, rfl, r1⟩
    | false =>
      rw [q] at e
      exact lk_at r2 e
theorem lk_no {T : Th} {F : Addr → Prop} {H : Hp} {f : Str} : ∀ {ns : List Str} {vs : List D} {ws : List V}, ns.length = vs.length → Reps T F H vs ws → lk ns vs f = none → (ns.zip ws).lookup f = none
  | [], _, _, _, _, _ => by simp
  | n :: ns, [], ws, l, _, _ => by cases l
  | n :: ns, x :: vs, ws, l, r, e => by
    simp only [Reps] at r
    obtain ⟨v, w, e1, r1, r2⟩ := r
    subst e1
    unfold lk at e
    rw [List.zip_cons_cons, List.lookup_cons]
    cases q : (f == n) with
    | true => rw [q] at e; cases e
    | false =>
      rw [q] at e
      exact lk_no (by simpa using l) r2 e
/-- x.f = v -/
def setN : List Str → Str → List Str
  | [], f => [f]
  | n :: ns, f => bif n == f then n :: ns else n :: setN ns f
def setV : List Str → List D → Str → D → List D
  | [], _, _, d => [d]
  | _, [], _, _ => []
  | n :: ns, v :: vs, f, d => bif n == f then d :: vs else v :: setV ns vs f d
theorem setN_nil {f : Str} : setN [] f = [f] := rfl
theorem setN_hit {ns : List Str} {f : Str} : setN (f :: ns) f = f :: ns := by unfold setN; rw [beq_self_eq_true]; rfl
theorem setN_miss {ns : List Str} {n f : Str} (h : (n == f) = false) : setN (n :: ns) f = n :: setN ns f := by
  conv => lhs; unfold setN
  rw [h]
  rfl
theorem setV_nil {vs : List D} {f : Str} {d : D} : setV [] vs f d = [d] := by unfold setV; rfl
theorem setV_hit {ns : List Str} {v : D} {vs : List D} {f : Str} {d : D} : setV (f :: ns) (v :: vs) f d = d :: vs := by unfold setV; rw [beq_self_eq_true]; rfl
theorem setV_miss {ns : List Str} {v : D} {vs : List D} {n f : Str} {d : D} (h : (n == f) = false) : setV (n :: ns) (v :: vs) f d = v :: setV ns vs f d := by
  conv => lhs; unfold setV
  rw [h]
  rfl
theorem set_at {T : Th} {F : Addr → Prop} {H : Hp} {f : Str} {d : D} {y : V} (ry : Rep T F H d y) : ∀ {ns : List Str} {vs : List D} {ws : List V}, ns.length = vs.length → Reps T F H vs ws →
    ∃ us, putF f y (ns.zip ws) = (setN ns f).zip us ∧ (setN ns f).length = (setV ns vs f d).length ∧ Reps T F H (setV ns vs f d) us
  | [], vs, ws, l, r => ⟨[y], by simp [putF, setN], by simp [setN, setV], by unfold setV; exact .cons ry .nil⟩
  | n :: ns, [], ws, l, _ => by cases l
  | n :: ns, x :: vs, ws, l, r => by
    simp only [Reps] at r
    obtain ⟨v, w, e1, r1, r2⟩ := r
    subst e1
    rw [List.zip_cons_cons]
    by_cases q : n = f
    · have h : (n == f) = true := beq_iff_eq.mpr q
      refine ⟨y :: w, ?_, ?_, ?_⟩
      · unfold putF setN
        rw [if_pos q, h]
        rfl
      · unfold setN setV
        rw [h]
        simpa using l
      · unfold setV
        rw [h]
        exact .cons ry r2
    · have h : (n == f) = false := beq_eq_false_iff_ne.mpr q
      obtain ⟨us, h1, h2, h3⟩ := set_at (ns := ns) (vs := vs) (ws := w) ry (by simpa using l) r2
      refine ⟨v :: us, ?_, ?_, ?_⟩
      · conv => lhs; unfold putF
        unfold setN
        rw [if_neg q, h, h1]
        rfl
      · unfold setN setV
        rw [h]
        simpa using h2
      · unfold setV
        rw [h]
        exact .cons r1 h3
section
variable {X : Cx} {P : Pm} {e o a b : Expr} {es : List Expr} {f x m : Str} {pos pos' p apos tpos : Pos} {w wo : WE} {wl : WA} {k n c : Nat} {S : DSp}
/-- the classes of cs know no f -/
def FC (K : PySem.W.Frag) (T : Th) (f : Str) (cs : List Nat) : Prop := ∀ c ∈ cs, Cls K (T.cm c) ∧ NoAttr K (T.cm c) f
theorem fc_nil {K : PySem.W.Frag} {T : Th} : FC K T f [] := fun _ h => by cases h
theorem fc_cons {K : PySem.W.Frag} {T : Th} {cs : List Nat} (h : Cls K (T.cm c)) (h' : NoAttr K (T.cm c) f) (r : FC K T f cs) : FC K T f (c :: cs) := fun d hd => by
  cases hd with
  | head => exact ⟨h, h'⟩
  | tail _ hd => exact r d hd
def wFld (cs : List Nat) (f : Str) (w : WE) : WE := fun G Om Q R => w G Om (fun d O => match insOf O d with
  | some (c, ns, vs) => c ∈ cs ∧ (match lk ns vs f with | some v => Q v O | none => False)
  | none => False) R
theorem de_fld {cs : List Nat} (hC : FC X.K P.T f cs) (h : DB X P e w) (hb : attributeBase e f X.env (eval e X.env) = eval e X.env := by rfl) : DE X P (.Attribute e f pos) (wFld cs f w) := by
  refine ⟨pe_imp (pe_fld h.pe hb) fun σ H Q q => ?_⟩
  obtain ⟨G, W, Q0, R0, S, q, ex, hq⟩ := q
  refine ⟨G, W, _, R0, S, q, ex, fun d O h1 v H1 W1 s1 e1 r => ?_⟩
  subst e1
  split at h1
  · rename_i c ns vs ei
    obtain ⟨hc, h1⟩ := h1
    split at h1
    · rename_i z ez
      obtain ⟨a, dx, ws, e2, ha, l, rs⟩ := ins_at s1.ok r ei
      obtain ⟨y, ey, ry⟩ := lk_at rs ez
      exact ⟨a, P.T.cm c, dx, _, y, e2, ha, (hC c hc).1, (hC c hc).2, ey, hq z _ h1 y H1 W1 s1 rfl ry⟩
    · exact h1.elim
  · exact h1.elim
/-- o.f = e -/
def wSetF (cs : List Nat) (f : Str) (we wo : WE) : WS := fun G Om Po => we G Om (fun d O => wo G O (fun z O' => match z with
  | .ref a => (match O' a with
    | some (.ins c ns vs) => c ∈ cs ∧ ns.length < 1000 ∧ Po.nx G (putO O' a (.ins c (setN ns f) (setV ns vs f d)))
    | _ => False)
  | _ => False) fun x O' => Po.ex x G O') fun x O => Po.ex x G O
theorem ds_setF {cs : List Nat} {value : Expr} (hC : FC X.K P.T f cs) (he : DE X P value w) (ho : DE X P o wo) (hs : swapsWith value (some (.Attribute o f pos')) pos.line X.env = pure false := by rfl) : DS X P (.Assign [.Attribute o f pos'] value pos) (wSetF cs f w wo) := by
  refine ⟨ps_imp (ps_fld ho.pe he.pe hs) fun D σ H ⟨G, W, Po, S, q, h⟩ => ⟨G, W, _, _, S, q, h.exE S, fun d O q' y H1 W1 s1 e1 ry => ?_⟩⟩
  subst e1
  have h1 := h.kp (s1.kp S.ok)
  refine ⟨G, W1, _, _, S.step s1, q', h1.exE (S.step s1), fun z O' q2 v H2 W2 s2 e2 rz => ?_⟩
  subst e2
  cases z <;> try exact q2.elim
  rename_i a
  have q2' : (match W2.Om a with | some (.ins c ns vs) => c ∈ cs ∧ ns.length < 1000 ∧ Po.nx G (putO W2.Om a (.ins c (setN ns f) (setV ns vs f d))) | _ => False) := q2
  split at q2'
  · rename_i c ns vs ea
    obtain ⟨hc, hl, qn⟩ := q2'
    obtain ⟨⟨dx, ws, ha, l, rs⟩, fa⟩ := s2.ok.at_ a _ ea
    obtain ⟨us, e3, l3, r3⟩ := set_at (Rep.kp (s2.kp s1.ok) _ _ ry) l rs
    have Fa : W2.F a := s2.ok.sub a ⟨a, by rw [ea]; simp, fa⟩
    have sm : Step P.T W2 H2 (W2.setO a (.ins c (setN ns f) (setV ns vs f d))) (upd H2 a (.ins (P.T.cm c) dx (putF f y (ns.zip ws)))) :=
      Step.mutS s2.ok ea ⟨dx, us, by rw [upd_same, e3], l3, Reps.kp (Kp.mut Fa) _ _ r3⟩
    refine ⟨a, P.T.cm c, dx, ns.zip ws, (by simpa only [Rep] using rz), ha, (hC c hc).1, (hC c hc).2, ?_, ?_⟩
    · rw [List.length_zip]; omega
    · exact h1.nx _ _ qn _ _ _ ((s2.trans sm).kp s1.ok) ((S.step s1).step (s2.trans sm)) rfl
  · exact q2'.elim
/-- o.m(..) -/
def tMethQ (C : Addr) (m : Str) (sp : Sp) (E : L2.St → XK) (ta : TE) (t : TA) : TE := fun σ H Q => ta σ H fun x H1 => ∃ a dx fs, x = .ref a ∧ H1 a = some (.ins C dx fs) ∧ fs.lookup m = none ∧ t σ H1 fun vs H2 => sp (x :: vs) H2 Q (E σ)
theorem pe_methQ {C g : Addr} {fd : FuncData} {ps : List Str} {sp : Sp} {E : L2.St → XK} {ta : TE} {t : TA} {pl : Sem Bool} (he : PE X o ta) (cl : Cls X.K C) (hm : Meth X.K C m g) (F : FnOk X.prog X.w X.K X.mg X.base (L2.CX X.prog X.w) k g fd ps sp) (hr : Room k X.A) (hb : Binds X.K fd ps [])
    (hx : ∀ σ, PassesAt (L2.CX X.prog X.w) X σ (E σ)) (ha : PA X (e :: es) t) (hst : starEach (e :: es) X.env = (false, eval e X.env) :: starEach es X.env := by rfl) (hpl : (backTo pos (starEach es X.env)).any (·.1) = false := by rfl)
    (ht : eval (.Call (.Attribute o m apos) (e :: es) [] pos) X.env = (do
      let ov ← eval o X.env
      standAt apos.atName
      let (f, first) ← holding [ov] (getMethod ov m pl)
      callWith pos f first (backTo pos (starEach (e :: es) X.env)) (backToKw pos (keywordEach [] X.env))) := by rfl) : PE X (.Call (.Attribute o m apos) (e :: es) [] pos) (tMethQ C m sp E ta t) := by
  refine ⟨fun pins s σ H Q I h => PySem.W.methodCall_KW (pl := pl) (thn (he.run pins s σ H _ I h) fun u s1 ⟨x, H1, I1, rx, a, dx, fs, ex, ea, l, q⟩ => ?_) ht⟩
  subst ex
  obtain rfl : u = Value.ref a := rx
  refine getmeth_ok I1 ea cl hm l (PySem.W.callWith_K (first := [.ref a]) (h₀ := X.base) I.ok.mod.kin hm.kp (thn (ha.run pos pins s1 σ H1 _ I1 q) fun us s2 ⟨vs, H2, I2, r, q2⟩ => ⟨I2.kIn, ?_⟩) hst hpl)
  exact run_fnS (us := .ref a :: us) (vs := .ref a :: vs) F hr hb (hx σ) I2 (.cons rfl r) q2
theorem pe_methQ0 {C g : Addr} {fd : FuncData} {ps : List Str} {sp : Sp} {E : L2.St → XK} {ta : TE} {pl : Sem Bool} (he : PE X o ta) (cl : Cls X.K C) (hm : Meth X.K C m g) (F : FnOk X.prog X.w X.K X.mg X.base (L2.CX X.prog X.w) k g fd ps sp) (hr : Room k X.A) (hb : Binds X.K fd ps [])
    (hx : ∀ σ, PassesAt (L2.CX X.prog X.w) X σ (E σ))
    (ht : eval (.Call (.Attribute o m apos) [] [] pos) X.env = (do
      let ov ← eval o X.env
      standAt apos.atName
      let (f, first) ← holding [ov] (getMethod ov m pl)
      callWith pos f first (backTo pos (starEach [] X.env)) (backToKw pos (keywordEach [] X.env))) := by rfl) : PE X (.Call (.Attribute o m apos) [] [] pos) (tMethQ C m sp E ta tNil) := by
  refine ⟨fun pins s σ H Q I h => PySem.W.methodCall_KW (pl := pl) (thn (he.run pins s σ H _ I h) fun u s1 ⟨x, H1, I1, rx, a, dx, fs, ex, ea, l, q⟩ => ?_) ht⟩
  subst ex
  obtain rfl : u = Value.ref a := rx
  exact getmeth_ok I1 ea cl hm l (PySem.W.callWith_K0 (first := [.ref a]) I1.kIn hm.kp (run_fnS (us := [.ref a]) (vs := [.ref a]) F hr hb (hx σ) I1 (.cons rfl .nil) q))
/-- the class's method m is a def of n parameters that keeps S -/
structure ClM (PR : Program) (w : World) (K : PySem.W.Frag) (mg : Str → Option Value) (base : Heap) (T : Th) (k : Nat) (c : Nat) (m : Str) (n : Nat) (S : DSp) : Prop where
  ex : ∃ f fd ps, FnOk PR w K mg base (L2.CX PR w) k f fd ps (toSp T n S) ∧ Cls K (T.cm c) ∧ Meth K (T.cm c) m f ∧ Binds K fd ps []
structure ClI (PR : Program) (w : World) (K : PySem.W.Frag) (mg : Str → Option Value) (base : Heap) (T : Th) (k : Nat) (c : Nat) (x : Str) (n : Nat) (S : DSp) : Prop where
  ex : ∃ f fd ps, FnOk PR w K mg base (L2.CX PR w) k f fd ps (toSp T n S) ∧ mg x = some (.ref (T.cm c)) ∧ Mk K (T.cm c) f ∧ Binds K fd ps []
def wMeth (c : Nat) (m : Str) (n : Nat) (S : DSp) (wo : WE) (wa : WA) : WE := fun G Om Q R => wo G Om (fun d O => (match insOf O d with
  | some (c', ns, vs) => c' = c ∧ lk ns vs m = none
  | none => False) ∧ wa G O (fun ds O' => (d :: ds).length = n ∧ S (d :: ds) O' Q R) R) R
theorem da0 : ∀ σ H Q, tA P waNil σ H Q → tNil σ H Q := fun _ H _ ⟨G, W, Q0, R0, S0, q, ex, hq⟩ => hq [] _ q [] H W (Step.refl S0.ok) rfl .nil
theorem meth_imp {ta : TA} (i : ∀ σ H Q, tA P wl σ H Q → ta σ H Q) : ∀ σ H Q, tE P (wMeth c m n S wo wl) σ H Q → tMethQ (P.T.cm c) m (toSp P.T n S) (L2.WE P.W) (tE P wo) ta σ H Q := fun σ H Q q => by
  obtain ⟨G, W, Q0, R0, S0, q, ex, hq⟩ := q
  refine ⟨G, W, _, R0, S0, q, ex, fun d O h1 v H1 W1 s1 e1 r => ?_⟩
  subst e1
  obtain ⟨h1, h2⟩ := h1
  split at h1
  · rename_i c' ns vs ei
    obtain ⟨rfl, hl⟩ := h1
    obtain ⟨a, dx, ws, e2, ha, l, rs⟩ := ins_at s1.ok (r.t s1.ok.sub) ei
    refine ⟨a, dx, _, e2, ha, lk_no l rs hl, i _ _ _ ⟨G, W1, _, R0, S0.step s1, h2, ex.step s1, fun ds O' h3 us H2 W2 s2 e3 r2 => ?_⟩⟩
    subst e3
    exact sp_of rfl S0.ok (s1.trans s2) h3.1 (.cons (Rep.kp (s2.kp s1.ok) _ _ r) r2) h3.2 ex hq
  · exact h1.elim
theorem de_meth {pl : Sem Bool} (cl : ClM X.prog X.w X.K X.mg X.base P.T k c m n S) (hr : Room k X.A) (tk : Takes X P.W) (he : DE X P o wo) (ha : DA X P (e :: es) wl)
    (hst : starEach (e :: es) X.env = (false, eval e X.env) :: starEach es X.env := by rfl) (hpl : (backTo pos (starEach es X.env)).any (·.1) = false := by rfl)
    (ht : eval (.Call (.Attribute o m apos) (e :: es) [] pos) X.env = (do
      let ov ← eval o X.env
      standAt apos.atName
      let (f, first) ← holding [ov] (getMethod ov m pl)
      callWith pos f first (backTo pos (starEach (e :: es) X.env)) (backToKw pos (keywordEach [] X.env))) := by rfl) : DE X P (.Call (.Attribute o m apos) (e :: es) [] pos) (wMeth c m n S wo wl) :=
  let ⟨_, _, _, F, h1, h2, hb⟩ := cl.ex
  ⟨pe_imp (pe_methQ he.pe h1 h2 F hr hb (fun σ => passAt tk σ) ha.pa hst hpl ht) (meth_imp fun _ _ _ z => z)⟩
theorem de_meth0 {pl : Sem Bool} (cl : ClM X.prog X.w X.K X.mg X.base P.T k c m n S) (hr : Room k X.A) (tk : Takes X P.W) (he : DE X P o wo)
    (ht : eval (.Call (.Attribute o m apos) [] [] pos) X.env = (do
      let ov ← eval o X.env
      standAt apos.atName
      let (f, first) ← holding [ov] (getMethod ov m pl)
      callWith pos f first (backTo pos (starEach [] X.env)) (backToKw pos (keywordEach [] X.env))) := by rfl) : DE X P (.Call (.Attribute o m apos) [] [] pos) (wMeth c m n S wo waNil) :=
  let ⟨_, _, _, F, h1, h2, hb⟩ := cl.ex
  ⟨pe_imp (pe_methQ0 he.pe h1 h2 F hr hb (fun σ => passAt tk σ) ht) (meth_imp da0)⟩
/-- C(..) -/
def tMakeQ (C : Addr) (sp : Sp) (E : L2.St → XK) (t : TA) : TE := fun σ H Q => t σ H fun vs H1 => ∀ x dx, H1 x = none → H1 dx = none → dx ≠ x → sp (.ref x :: vs) (upd (upd H1 dx (.own x)) x (.ins C dx [])) (fun v H2 => v = .non ∧ Q (.ref x) H2) (E σ)
theorem run_makeQ {C g : Addr} {fd : FuncData} {ps : List Str} {sp : Sp} {E : XK} {pins : List (Addr × Obj)} {σ : L2.St} {H : Hp} {s : Shared} {Q : VK} {us : List Value} {vs : List V} (M : Mk X.K C g) (F : FnOk X.prog X.w X.K X.mg X.base (L2.CX X.prog X.w) k g fd ps sp) (hr : Room (k + 1) X.A) (hb : Binds X.K fd ps [])
    (hx : PassesAt (L2.CX X.prog X.w) X σ E) (I : Inv X pins σ H s) (r : Vals vs us) (h : ∀ x dx, H x = none → H dx = none → dx ≠ x → sp (.ref x :: vs) (upd (upd H dx (.own x)) x (.ins C dx [])) (fun v H2 => v = .non ∧ Q (.ref x) H2) E) :
    wpAny (model X.prog X.w) X.A (call (.ref C) us) (EP X pins σ Q) X.xe s := by
  have I2 := Inv.made (C := C) I
  have hq := h _ _ (I.hok.fresh (Nat.le_succ s.heap.objs.size)) (I.hok.fresh (Nat.le_refl _)) (Nat.ne_of_lt (Nat.lt_succ_self _))
  have r2 : Vals (V.ref (s.heap.objs.size + 1) :: vs) (Value.ref (s.heap.objs.size + 1) :: us) := .cons rfl r
  have hl : (Value.ref (s.heap.objs.size + 1) :: us ++ []).length = ps.length := by
    rw [List.append_nil, ← F.len _ _ _ _ hq, r2.length]
  have bb := hb _ (Value.ref (s.heap.objs.size + 1) :: us) I2.kIn hl
  rw [List.append_nil] at bb
  refine wpAny_call (make_map (f := g) I.kIn M.makes M.init (beq_iff_eq.mp M.fn) (codeAny_mono (F.run _ X.stack _ _ _ _ _ _ E (hr.make C us []) (I2.env0.make C us []) bb r2 hq) fun rr s' hq' => ?_))
  cases rr with
  | error er => exact hx pins _ _ er s' I2 hq'
  | ok fl =>
    cases fl with
    | ret u =>
      obtain ⟨v, H', I3, rv, ev, q3⟩ := I2.after hq'
      subst ev
      exact ⟨rv, ⟨V.ref (s.heap.objs.size + 1), H', I3, rfl, q3⟩⟩
    | next => exact False.elim hq'
    | brk => exact False.elim hq'
    | cont => exact False.elim hq'
theorem pe_makeQ {C g : Addr} {fd : FuncData} {ps : List Str} {sp : Sp} {E : L2.St → XK} {t : TA} (M : Mk X.K C g) (F : FnOk X.prog X.w X.K X.mg X.base (L2.CX X.prog X.w) k g fd ps sp) (hr : Room (k + 1) X.A) (hg : Gl X x) (hm : X.mg x = some (.ref C)) (hb : Binds X.K fd ps [])
    (hx : ∀ σ, PassesAt (L2.CX X.prog X.w) X σ (E σ)) (ha : PA X (e :: es) t) (hdb : (x == ("__debug__" : Str)) = false := by decide) (he : starEach (e :: es) X.env = (false, eval e X.env) :: starEach es X.env := by rfl) (hpl : (backTo pos (starEach es X.env)).any (·.1) = false := by rfl) :
    PE X (.Call (.Name x p) (e :: es) [] pos) (tMakeQ C sp E t) :=
  ⟨fun pins s σ H Q I h => wpAny_Call_Name_kw (ld_glob I hg hm (PySem.W.callWith_K (h₀ := X.base) I.ok.mod.kin M.kp (thn (ha.run pos pins s σ H _ I h) fun us s1 ⟨vs, H1, I1, r, q⟩ => ⟨I1.kIn, run_makeQ M F hr hb (hx σ) I1 r q⟩) he hpl) hdb)⟩
theorem pe_makeQ0 {C g : Addr} {fd : FuncData} {ps : List Str} {sp : Sp} {E : L2.St → XK} (M : Mk X.K C g) (F : FnOk X.prog X.w X.K X.mg X.base (L2.CX X.prog X.w) k g fd ps sp) (hr : Room (k + 1) X.A) (hg : Gl X x) (hm : X.mg x = some (.ref C)) (hb : Binds X.K fd ps [])
    (hx : ∀ σ, PassesAt (L2.CX X.prog X.w) X σ (E σ)) (hdb : (x == ("__debug__" : Str)) = false := by decide) : PE X (.Call (.Name x p) [] [] pos) (tMakeQ C sp E tNil) :=
  ⟨fun pins s σ H Q I h => wpAny_Call_Name_kw (ld_glob I hg hm (PySem.W.callWith_K0 I.kIn M.kp (run_makeQ (us := []) M F hr hb (hx σ) I .nil h)) hdb)⟩
/-- .. shared from now on -/
def wMake (c n : Nat) (S : DSp) (wa : WA) : WE := fun G Om Q R => wa G Om (fun ds O => ds.length + 1 = n ∧ ∀ a, O a = none → S (.ref a :: ds) (putO O a (.ins c [] [])) (fun d O' => d = .non ∧ Q (.ref a) O') R) R
/-- .. never changed again -/
def wMakeF (c n : Nat) (S : DSp) (wa : WA) : WE := fun G Om Q R => wa G Om (fun ds O => ds.length + 1 = n ∧ ∀ a, O a = none → S (.ref a :: ds) (putO O a (.ins c [] [])) (fun d O' => d = .non ∧ ∃ ns vs, O' = putO O a (.ins c ns vs) ∧ Q (.ins c ns vs) O) R) R
theorem make_st {T : Th} {W1 : Wd} {H1 : Hp} {y dx : Addr} (ok : WOk T W1 H1) (h1 : H1 y = none) (h2 : H1 dx = none) (ne : dx ≠ y) :
    Step T W1 H1 (W1.addS y (.ins c [] [])) (upd (upd H1 dx (.own y)) y (.ins (T.cm c) dx [])) := by
  have s1 : Step T W1 H1 W1 (upd H1 dx (.own y)) := Step.new1 ok h2
  refine s1.trans (Step.newS s1.ok (by rw [upd_ne ne.symm]; exact h1) ⟨dx, [], by rw [upd_same]; rfl, rfl, .nil⟩)
theorem make_imp {ta : TA} (i : ∀ σ H Q, tA P wl σ H Q → ta σ H Q) : ∀ σ H Q, tE P (wMake c n S wl) σ H Q → tMakeQ (P.T.cm c) (toSp P.T n S) (L2.WE P.W) ta σ H Q := fun σ H Q q => by
  obtain ⟨G, W, Q0, R0, S0, q, ex, hq⟩ := q
  refine i _ _ _ ⟨G, W, _, R0, S0, q, ex, fun ds O h1 vs H1 W1 s1 e1 r y dx hy hd ne => ?_⟩
  subst e1
  obtain ⟨hn, h1⟩ := h1
  have s2 := make_st (c := c) s1.ok hy hd ne
  have s3 := s1.trans s2
  refine sp_of rfl S0.ok s3 (ds := .ref y :: ds) (vs := .ref y :: vs) (by simpa using hn) (.cons (by simp [Rep]) (Reps.kp (s2.kp s1.ok) _ _ r)) (h1 y (om_none s1.ok hy)) ex fun d O' q2 v H' W' s' e' r' => ?_
  obtain ⟨rfl, q2⟩ := q2
  exact ⟨by simpa [Rep] using r', hq _ _ q2 _ H' W' s' e' (by simp [Rep])⟩
theorem makeF_imp {ta : TA} (i : ∀ σ H Q, tA P wl σ H Q → ta σ H Q) : ∀ σ H Q, tE P (wMakeF c n S wl) σ H Q → tMakeQ (P.T.cm c) (toSp P.T n S) (L2.WE P.W) ta σ H Q := fun σ H Q q => by
  obtain ⟨G, W, Q0, R0, S0, q, ex, hq⟩ := q
  refine i _ _ _ ⟨G, W, _, R0, S0, q, ex, fun ds O h1 vs H1 W1 s1 e1 r y dx hy hd ne => ?_⟩
  subst e1
  obtain ⟨hn, h1⟩ := h1
  have s2 := make_st (c := c) s1.ok hy hd ne
  have s3 := s1.trans s2
  have ny := om_none s1.ok hy
  refine sp_of rfl S0.ok s3 (ds := .ref y :: ds) (vs := .ref y :: vs) (by simpa using hn) (.cons (by simp [Rep]) (Reps.kp (s2.kp s1.ok) _ _ r)) (h1 y ny) ex fun d O' q2 v H' W' s' e' r' => ?_
  obtain ⟨rfl, ns, us, e4, q2⟩ := q2
  have ea : W'.Om y = some (.ins c ns us) := by rw [e', e4]; exact putO_same
  obtain ⟨⟨dx', ws, ha, l, rs⟩, fy⟩ := s'.ok.at_ y _ ea
  have s5 : Step P.T W H (W'.delS y) H' := s'.frzS S0.ok (s1.back hy) ea
  refine ⟨by simpa [Rep] using r', hq _ _ q2 _ H' (W'.delS y) s5 (show delO W'.Om y = W1.Om from by rw [e', e4]; exact delO_put ny) ?_⟩
  simp only [Rep]
  exact ⟨y, dx', ws, rfl, ha, fun z => z.2 rfl, l, Reps.kp (Kp.less fun b h => h.1) _ _ rs⟩
theorem de_make (cl : ClI X.prog X.w X.K X.mg X.base P.T k c x n S) (hr : Room (k + 1) X.A) (tk : Takes X P.W) (ha : DA X P (e :: es) wl) (hg : Gl X x := by rfl) (hdb : (x == ("__debug__" : Str)) = false := by decide)
    (he : starEach (e :: es) X.env = (false, eval e X.env) :: starEach es X.env := by rfl) (hpl : (backTo pos (starEach es X.env)).any (·.1) = false := by rfl) : DE X P (.Call (.Name x p) (e :: es) [] pos) (wMake c n S wl) :=
  let ⟨_, _, _, F, h1, h2, hb⟩ := cl.ex
  ⟨pe_imp (pe_makeQ h2 F hr hg h1 hb (fun σ => passAt tk σ) ha.pa hdb he hpl) (make_imp fun _ _ _ z => z)⟩
theorem de_makeF (cl : ClI X.prog X.w X.K X.mg X.base P.T k c x n S) (hr : Room (k + 1) X.A) (tk : Takes X P.W) (ha : DA X P (e :: es) wl) (hg : Gl X x := by rfl) (hdb : (x == ("__debug__" : Str)) = false := by decide)
    (he : starEach (e :: es) X.env = (false, eval e X.env) :: starEach es X.env := by rfl) (hpl : (backTo pos (starEach es X.env)).any (·.1) = false := by rfl) : DE X P (.Call (.Name x p) (e :: es) [] pos) (wMakeF c n S wl) :=
  let ⟨_, _, _, F, h1, h2, hb⟩ := cl.ex
  ⟨pe_imp (pe_makeQ h2 F hr hg h1 hb (fun σ => passAt tk σ) ha.pa hdb he hpl) (makeF_imp fun _ _ _ z => z)⟩
theorem de_make0 (cl : ClI X.prog X.w X.K X.mg X.base P.T k c x n S) (hr : Room (k + 1) X.A) (tk : Takes X P.W) (hg : Gl X x := by rfl) (hdb : (x == ("__debug__" : Str)) = false := by decide) : DE X P (.Call (.Name x p) [] [] pos) (wMake c n S waNil) :=
  let ⟨_, _, _, F, h1, h2, hb⟩ := cl.ex
  ⟨pe_imp (pe_makeQ0 h2 F hr hg h1 hb (fun σ => passAt tk σ) hdb) (make_imp da0)⟩
end
end N

set_option Elab.async false
set_option linter.all false
set_option maxRecDepth 100000
set_option maxHeartbeats 0
/-! NE2: enumerate(tuple), at the level below -/
namespace N
open PySem PySem.Spec PyProof.Rows L2 RZ
section
variable {prog : Program} {w : World} {A : Around} {E : Value → Shared → Prop} {s : Shared}
theorem meets_enumT (l : Addr) (items : Array Value) :
    Meets (Builtin.«enumerate.__new__» ⟨[.type "enumerate", .ref l], []⟩) (fun _ R s => s.heap.IsTuple l items ∧
      R (.ok (.ret (.ref (s.heap.push { cls := .type "tuple_iterator", data := .fields #[.ref l, .int 0 0] }).objs.size)))
        { s with heap := (s.heap.push { cls := .type "tuple_iterator", data := .fields #[.ref l, .int 0 0] }).push { cls := .type "enumerate", data := .fields #[.none, .bool false, .ref s.heap.objs.size, rawInt 0, .none, .none] } }) :=
  .of_wp fun prog w A R s h => by
    obtain ⟨hp, g, d, tk, os⟩ := s; obtain ⟨hl, h⟩ := h
    have hsub := sub_enumerate
    have hL : Heap.IsTuple (Shared.heap ⟨hp, g, d, tk, os⟩) l items := hl
    obtain ⟨⟨c0, dct, dt, sl⟩, hl0, hc0, n, hd0⟩ := id hl
    replace hc0 : c0 = .type "tuple" := hc0
    replace hd0 : dt = .seq items n := hd0
    subst hc0 hd0
    wp_walk using AutoSeq1.wpAny_loadPart' hl0
    refine wpAny_stack_any fun st => wpAny_pure ?_
    split
    · rename_i c _ _ _ _ _
      cases (c == Value.type "enumerate")
      · wp_walk using AutoSeq1.wpAny_loadPart' hl0, wpAny_pyIter_tuple hL
        exact ⟨_, rfl, h⟩
      · wp_walk using AutoSeq1.wpAny_loadPart' hl0, wpAny_pyIter_tuple hL
        exact ⟨_, rfl, h⟩
    · wp_walk using AutoSeq1.wpAny_loadPart' hl0, wpAny_pyIter_tuple hL
      exact ⟨_, rfl, h⟩
theorem call_enumT {l : Addr} {items : Array Value} {Q : Value → Shared → Prop} (hL : s.heap.IsTuple l items)
    (h : ∀ h', IsEnum h' (s.heap.objs.size + 1) s.heap.objs.size 0 .none → h'.IsTupleIter s.heap.objs.size l 0 → (∀ b o, s.heap.get? b = some o → h'.get? b = some o) → Q (.ref (s.heap.objs.size + 1)) { s with heap := h' }) :
    wpAny (model prog w) A (call (.type "enumerate") [.ref l]) Q E s := by
  refine callType_new F.called_enumerate (by decide) (F.typeCall_enumerate_1 _) (F.newCall_enumerate_1 _) (fun obj => F.args_object_init_2 obj _) F.entry_enumerate_new (meets_enumT l items) ⟨hL, ?_⟩
  have hz : (s.heap.push { cls := .type "tuple_iterator", data := .fields #[.ref l, .int 0 0] }).objs.size = s.heap.objs.size + 1 := Heap.size_push ..
  show _ ∧ _
  rw [hz]
  have he : IsEnum ((s.heap.push { cls := .type "tuple_iterator", data := .fields #[.ref l, .int 0 0] }).push
      { cls := .type "enumerate", data := .fields #[.none, .bool false, .ref s.heap.objs.size, rawInt 0, .none, .none] }) (s.heap.objs.size + 1) s.heap.objs.size 0 .none := by
    have q := Heap.get?_push_size (s.heap.push { cls := .type "tuple_iterator", data := .fields #[.ref l, .int 0 0] }) (o := { cls := .type "enumerate", data := .fields #[.none, .bool false, .ref s.heap.objs.size, rawInt 0, .none, .none] }) rfl
    rw [hz] at q
    exact q
  exact ⟨⟨_, he, rfl⟩, h _ he ⟨_, Heap.get?_push_of_some _ (Heap.get?_push_size _ rfl), rfl, rfl⟩ fun b o x => Heap.get?_push_of_some _ (Heap.get?_push_of_some _ x)⟩
theorem drawsT {it l : Addr} {items : Array Value} (hh : A.handled = none) (hne : it ≠ l) : Draws prog w A.in1 it [it, l] items.size (fun i x => items[i]? = some x) (fun i h => h.IsTupleIter it l i ∧ h.IsTuple l items) where
  live := fun i h st => let ⟨o, q, _⟩ := st.1; ⟨o, q⟩
  frame := fun i h h' st k => ⟨st.1.at fun o q => k it (by simp) o q, st.2.at fun o q => k l (by simp) o q⟩
  item := fun i s Q E hi st hQ => nextOf_tuple_item st.1 st.2 (x := items[i]) (by simp [hi]) fun h' a b => hQ items[i] h' s.toks (by simp [hi]) ⟨a, st.2.at fun o q => (b.2 l hne.symm).trans q⟩ b
  done := fun s Q E st hE => nextOf_tuple_end hh st.1 st.2 (by simp) hE
end
/-- enumerate of the tuple at a -/
def IteT (K : PySem.W.Frag) (a : Addr) : It :=
  ⟨fun i H => ∃ (xs : List V) (x : V), SqT K H a xs ∧ xs[i]? = some x, fun i H v H' => ∃ T x, v = .ref T ∧ H T = none ∧ H' = upd H T (.tup [.int (i : Nat), x]) ∧ ∀ xs, SqT K H a xs → xs[i]? = some x, fun i H => ∃ xs : List V, SqT K H a xs ∧ xs.length = i⟩
theorem turn_enumT {P : Program} {w : World} {K : PySem.W.Frag} {elts : List Expr} {kk : Nat} {tpos : Pos} (a e it : Addr) :
    Turn P w K (.Tuple elts kk tpos) (IteT K a) [e, it] e (fun i h => (∃ old, IsEnum h e it ((i : Nat) : Int) old) ∧ h.IsTupleIter it a i ∧ e ≠ it) where
  mem := by simp
  obj := fun i h st b hb => by
    obtain ⟨⟨old, he⟩, ⟨o, ho, hc, hd⟩, _⟩ := st
    have e' : b = e ∨ b = it := by simpa using hb
    rcases e' with z | z
    · rw [z]; exact ⟨_, he, fun v q => nomatch q⟩
    · rw [z]; exact ⟨o, ho, fun v q => by rw [hd] at q; cases q⟩
  keep := fun i h h' st k => let ⟨⟨old, he⟩, hi, hne⟩ := st; ⟨⟨old, k e (by simp) _ he⟩, hi.at fun o q => k it (by simp) o q, hne⟩
  item := by
    intro X hP hw hK hc i pins s σ H E I hf st hg
    subst hP hw hK
    obtain ⟨⟨old, he⟩, hit, hne⟩ := st
    obtain ⟨xs, x, hq, hx⟩ := hg
    obtain ⟨its, rv, p, hz⟩ := I.tuple hq
    obtain ⟨u, hu, ru⟩ := rv.get hx
    have hel : e < s.heap.objs.size := Heap.lt_size he
    have hil : it < s.heap.objs.size := by obtain ⟨_, q, _⟩ := hit; exact Heap.lt_size q
    have pT : s.heap.IsTuple a its.toArray := p
    have nea : e ≠ a := fun z => by
      obtain ⟨o, ho, hc, _⟩ := pT
      rw [← z, show s.heap.get? e = some _ from he] at ho
      cases ho
      have hc : Value.type "enumerate" = .type "tuple" := hc
      simp at hc
    have nia : it ≠ a := fun z => by
      obtain ⟨o, ho, hc, _⟩ := pT
      obtain ⟨o', ho', hc', _⟩ := hit
      rw [← z, ho'] at ho
      cases ho
      rw [hc'] at hc
      simp at hc
    have hlt : i < its.toArray.size := by
      have := (List.getElem?_eq_some_iff.mp hu).1
      simpa using this
    refine wpAny_pyNext_enum_itemD (drawsT (A := X.A) (I.ok.hd hc) nia) he ⟨hit, pT⟩ hlt hne (by simp [hne, nea]) fun x' h' tk hx' ho st' hT hsz hk => ?_
    have ex : x' = u := by
      rw [List.getElem?_toArray, hu] at hx'
      exact (Option.some.inj hx').symm
    subst ex
    refine ⟨_, rfl, wpAny_letOwnedTupleGo_enum (s := { s with heap := h', toks := tk + 1 }) ho fun h'' he' sb => ?_⟩
    have hT2 : h''.get? s.heap.objs.size = some { cls := .type "tuple", data := .seq #[.int i tk, x'] } := (sb.2 _ (Nat.ne_of_gt hel)).trans hT
    have new : ObjOk X.prog X.w (upd H s.heap.objs.size (.tup [.int (i : Nat), x])) h'' s.heap.objs.size (.tup [.int (i : Nat), x]) :=
      ⟨by show 2 ≤ sizeLine; decide, [.int i tk, x'], .cons ⟨_, rfl⟩ (.cons ru .nil), ⟨_, hT2, rfl, _, rfl⟩⟩
    have I1 : Inv X pins σ (upd H s.heap.objs.size (.tup [.int (i : Nat), x])) { s with heap := h'', toks := tk + 1 } :=
      I.turnedNew (ch := [e, it]) (fun b ob hb q => (sb.2 b (fun z => hb (by simp [z]))).trans (hk b ob (fun z => hb (by simp [z])) (fun z => hb (by simp [z])) q)) hf (Nat.le_refl _) new
    refine ⟨.ref s.heap.objs.size, _, I1, rfl, ⟨_, x, rfl, I.hok.fresh (Nat.le_refl _), rfl, fun ys hy => by rw [I.tuple_inj hy hq]; exact hx⟩, ⟨⟨x', ?_⟩, st'.1.at fun o q => (sb.2 it (Ne.symm hne)).trans q, hne⟩, fun b hb => ?_⟩
    · have e1 : ((i + 1 : Nat) : Int) = (i : Int) + 1 := by omega
      rw [e1]; exact he'
    · have hb' : b < s.heap.objs.size := by
        have e' : b = e ∨ b = it := by simpa using hb
        rcases e' with z | z
        · rw [z]; exact hel
        · rw [z]; exact hil
      rw [upd_ne (Nat.ne_of_lt hb')]
      exact (hf b hb).1
  done := by
    intro X hP hw hK hc i pins s σ H E I hf st hg
    subst hP hw hK
    obtain ⟨⟨old, he⟩, hit, hne⟩ := st
    obtain ⟨xs, hq, hx⟩ := hg
    obtain ⟨its, rv, p, hz⟩ := I.tuple hq
    have hl := rv.length
    subst hx
    have pT : s.heap.IsTuple a its.toArray := p
    have nia : it ≠ a := fun z => by
      obtain ⟨o, ho, hc, _⟩ := pT
      obtain ⟨o', ho', hc', _⟩ := hit
      rw [← z, ho'] at ho
      cases ho
      rw [hc'] at hc
      simp at hc
    obtain ⟨f0, f1, f2, f3, f4, f5⟩ := hf it (by simp)
    have en : its.toArray.size = xs.length := by simp [hl]
    refine wpAny_pyNext_enum_endD (drawsT (A := X.A) (items := its.toArray) (I.ok.hd hc) nia) he (by rw [en]; exact ⟨hit, pT⟩) fun h' eb => ⟨rfl, I.turned (t' := s.toks) (fun b o hb q => eb b o hb q) f0 f1 f3 f4 f5⟩
  self := fun A i s Q E st h => let ⟨⟨_, he⟩, _⟩ := st; wpAny_pyIter_enum he h
theorem walk_enumT {K : PySem.W.Frag} {a : Addr} {xs : List V} : Walk (IteT K a) xs.length (fun H => SqT K H a xs) (YPair (fun i => some (.int (i : Nat))) (fun i => xs[i]?)) := by
  refine ⟨fun i _ hi q => ⟨xs, xs[i], q, by simp [hi]⟩, fun _ q => ⟨xs, q, rfl⟩, fun i H v H' _ q y => ?_⟩
  obtain ⟨T, x, h1, h2, h3, h4⟩ := y
  exact ⟨T, .int (i : Nat), x, h1, h2, h3, rfl, h4 xs q⟩
/-- enumerate of a list or a tuple -/
def iEnumA (K : PySem.W.Frag) (ta : TA) : TI := fun σ H R => ta σ H fun vs H1 => ∃ a xs, vs = [.ref a] ∧ ((SqL K H1 a xs ∧ R (Ite K a) H1) ∨ (SqT K H1 a xs ∧ R (IteT K a) H1))
theorem pi_enumA {X : Cx} {e : Expr} {ta : TA} {p pos tpos : Pos} {elts : List Expr} {kk : Nat} (hg : Gl X "enumerate") (hm : X.mg "enumerate" = none) (ha : PA X [e] ta) (hs : starEach [e] X.env = [(false, eval e X.env)] := by rfl) :
    PI X (.Tuple elts kk tpos) (.Call (.Name "enumerate" p) [e] [] pos) (iEnumA X.K ta) := by
  refine ⟨fun pins s σ H R I h => ?_⟩
  refine Call_ (ld_blt I hg hm boot_enumerate (PyProof.Rows.callWith_type1 (thn (ha.run pos pins s σ H _ I h) fun us s1 ⟨vs, H1, I1, r1, q1⟩ => ?_) hs rfl))
  obtain ⟨a, xs, ex, q1⟩ := q1
  subst ex
  cases r1 with
  | cons r rr =>
    cases rr
    cases r
    have fresh : ∀ b, b ∈ [s1.heap.objs.size + 1, s1.heap.objs.size] → FpOk X pins H1 b := fun b hb => by
      have e' : b = s1.heap.objs.size + 1 ∨ b = s1.heap.objs.size := by simpa using hb
      have hle : s1.heap.objs.size ≤ b := by
        rcases e' with z | z
        · rw [z]; exact Nat.le_add_right _ _
        · rw [z]; exact Nat.le_refl _
      exact I1.fpOk hle (I1.hok.fresh hle)
    rcases q1 with ⟨hq, q⟩ | ⟨hq, q⟩
    · obtain ⟨its, rv, p', hz⟩ := I1.list hq
      refine call_enumerate_list p'.isList fun h' he hit hsz hk => wpAny_pyIter_enum he ?_
      exact ⟨s1.heap.objs.size + 1, [s1.heap.objs.size + 1, s1.heap.objs.size], _, _, H1, rfl, I1.kept (t' := s1.toks) hk, turn_enum a (s1.heap.objs.size + 1) s1.heap.objs.size, ⟨⟨.none, he⟩, hit, Nat.succ_ne_self _⟩, fresh, q⟩
    · obtain ⟨its, rv, p', hz⟩ := I1.tuple hq
      refine call_enumT (show s1.heap.IsTuple a its.toArray from p') fun h' he hit hk => wpAny_pyIter_enum he ?_
      exact ⟨s1.heap.objs.size + 1, [s1.heap.objs.size + 1, s1.heap.objs.size], _, _, H1, rfl, I1.kept (t' := s1.toks) hk, turn_enumT a (s1.heap.objs.size + 1) s1.heap.objs.size, ⟨⟨.none, he⟩, hit, Nat.succ_ne_self _⟩, fresh, q⟩
end N

set_option Elab.async false
set_option linter.all false
set_option maxRecDepth 100000
set_option maxHeartbeats 0
/-! NE3: x[::-1]; extend by a tuple; enumerate, zip over data; raise, try -/
namespace N
open PySem PySem.Spec PyProof.Rows L2 RZ
section
variable {prog : Program} {w : World} {A : Around} {E : Value → Shared → Prop} {s : Shared}
theorem fmCongr {α β : Type} {f g : α → Option β} : ∀ {l : List α}, (∀ x ∈ l, f x = g x) → l.filterMap f = l.filterMap g
  | [], _ => rfl
  | x :: r, h => by
    rw [List.filterMap_cons, List.filterMap_cons, h x List.mem_cons_self, fmCongr fun y hy => h y (List.mem_cons_of_mem _ hy)]
theorem pick_rev (its : List Value) : ((List.range its.length).filterMap fun (m : Nat) => its.toArray[(((its.length : Int) - 1) + (m : Int) * (-1)).toNat]?) = its.reverse := by
  have e : ((List.range its.length).filterMap fun (m : Nat) => its.toArray[(((its.length : Int) - 1) + (m : Int) * (-1)).toNat]?) = (List.range its.length).filterMap fun (m : Nat) => its.reverse[m]? := by
    refine fmCongr fun m hm => ?_
    have hm := List.mem_range.mp hm
    rw [List.getElem?_toArray, List.getElem?_reverse hm]
    congr 1
    omega
  rw [e]
  have := HT.pick_gen its.reverse.toArray 0 its.length
  simp only [Int.zero_add, Int.mul_one] at this
  have h2 := congrArg Array.toList this
  simp only [List.toList_toArray] at h2
  have e3 : ((List.range its.length).filterMap fun (m : Nat) => its.reverse[m]?) = (List.range its.length).filterMap fun (m : Nat) => its.reverse.toArray[((0 : Nat) + (m : Int)).toNat]? := by
    refine fmCongr fun m hm => ?_
    rw [List.getElem?_toArray]
    congr 1
    omega
  rw [e3]
  have e4 := h2
  simp only [List.drop_zero] at e4
  refine Eq.trans ?_ (e4.trans ?_)
  · refine fmCongr fun m hm => ?_
    congr 1
    try omega
  · rw [← List.length_reverse, List.take_length]
theorem slicePick_rev (its : List Value) : slicePick its.toArray none none (some (-1)) = its.reverse.toArray := by
  unfold slicePick sliceBounds sliceRange
  simp only [Option.getD_some, show ¬ ((-1 : Int) > 0) by decide, if_false, List.size_toArray]
  congr 1
  by_cases h : its = []
  · subst h; rfl
  · have hp : 0 < its.length := List.length_pos_iff.mpr h
    have h1 : ((its.length : Int) - 1 > -1) := by omega
    rw [if_pos h1]
    have h2 : (((its.length : Int) - 1 - -1 - -1 - 1) / -(-1)).toNat = its.length := by
      rw [show -(-1 : Int) = 1 by decide, Int.ediv_one]
      omega
    rw [h2, List.filterMap_map, ← pick_rev its]
    refine fmCongr fun m hm => ?_
    show its.toArray[(((its.length : Int) - 1) + (-1) * (m : Int)).toNat]? = its.toArray[(((its.length : Int) - 1) + (m : Int) * (-1)).toNat]?
    rw [Int.mul_comm]
theorem sliceApplied_rev {sl : Addr} {t : Tok} {n : Nat} {Q : Int × Int × Nat → Shared → Prop} (hs : s.heap.IsSliceOf sl .none .none (.int (-1) t)) (h : Q ((n : Int) - 1, -1, n) s) : wpAny (model prog w) A (Builtin.Slice.sliceApplied (.ref sl) (pure (n : Int))) Q E s := by
  obtain ⟨os, hos, hcs, hds⟩ := id hs
  unfold Builtin.Slice.sliceApplied Builtin.Slice.sliceFields
  refine wpAny_bind (wpAny_bind (wpAny_field hos hds (x := .none) rfl (wpAny_bind (wpAny_field hos hds (x := .none) rfl (wpAny_bind (wpAny_field hos hds (x := .int (-1) t) rfl (wpAny_pure ?_)))))))
  refine wpAny_bind (PyProof.Rows.slicePart_int ?_)
  show wpAny _ _ (if ((-1 : Int) == 0) = true then _ else _) _ _ s
  rw [if_neg (by decide)]
  refine wpAny_bind (HT.slicePart_ IsPart.none (wpAny_bind (HT.slicePart_ IsPart.none (wpAny_bind (wpAny_pure ?_)))))
  show wpAny _ _ (match Builtin.Slice.sliceAdjust none none (-1) (n : Int) with | (lo, hi) => pure (lo, (-1 : Int), Builtin.Slice.slicePlaces lo hi (-1))) _ _ s
  have e1 : Builtin.Slice.sliceAdjust none none (-1) (n : Int) = ((n : Int) - 1, -1) := by unfold Builtin.Slice.sliceAdjust; rfl
  have e2 : Builtin.Slice.slicePlaces ((n : Int) - 1) (-1) (-1) = n := by
    unfold Builtin.Slice.slicePlaces
    simp
    try split <;> omega
  rw [e1]
  show wpAny _ _ (pure ((n : Int) - 1, (-1 : Int), Builtin.Slice.slicePlaces ((n : Int) - 1) (-1) (-1))) _ _ s
  rw [e2]
  exact wpAny_pure h
theorem getItem_tuple_rev {t sl : Addr} {its : List Value} {tk : Tok} {Q : Value → Shared → Prop} (ht : IsTup s.heap t its.toArray) (hs : s.heap.IsSliceOf sl .none .none (.int (-1) tk))
    (h : Q (.ref s.heap.objs.size) { s with heap := s.heap.push { cls := .type "tuple", data := .seq its.reverse.toArray } }) (hsz : its.length ≤ sizeLine) : wpAny (model prog w) A (getItem (.ref t) (.ref sl)) Q E s := by
  have htake : sizeOk (.seq its.reverse.toArray) := by
    show its.reverse.toArray.size ≤ sizeLine
    simpa using hsz
  obtain ⟨os, hos, hcs, hds⟩ := id hs
  have hTs : s.TypeIs (.ref sl) "slice" := ⟨os, hos, hcs⟩
  unfold getItem
  try with_reducible refine wpAny_holding ?_
  first | refine wpAny_bind (wpAny_pure ?_) | skip
  refine wpAny_bind (wpAny_sequenceKey ht.typeIs (by decide) ?_)
  refine wpAny_bind (wpAny_callSpecial?_slot (name := Str.ofString "__getitem__") ht.typeIs PyProof.Rows.slot_tuple_getitem
    (wpAny_call_entry PyProof.Rows.slot_tuple_getitem ht.typeIs PyProof.Rows.entry_tuple_getitem ?_ (PyProof.Rows.args_tuple_getitem _ _)))
  show wpAny _ _ (Builtin.Tuple.tupleItemsOf (.ref t) >>= _) _ _ s
  refine wpAny_bind (PyProof.Rows.tupleItemsOf_ ht ?_)
  refine wpAny_bind (wpAny_typeOf hTs ?_)
  rw [if_pos (by decide)]
  refine wpAny_bind (sliceApplied_rev hs ?_)
  have hz : its.toArray.size = its.length := List.size_toArray ..
  have hno : ¬ ((((its.toArray.size : Int) - 1) == 0 && (-1 : Int) == 1 && its.toArray.size == its.toArray.size) = true) := by simp
  show wpAny _ _ (if (((its.toArray.size : Int) - 1) == 0 && (-1 : Int) == 1 && its.toArray.size == its.toArray.size) = true then _ else _) _ _ s
  rw [if_neg hno, hz, pick_rev]
  first
    | exact wpAny_bind (m := Builtin.Tuple.tupleExact _) (wpAny_newObj_type (wpAny_pure ⟨_, rfl, wpAny_pure h⟩) htake)
    | exact wpAny_bind (m := Builtin.Tuple.tupleExact _) (wpAny_newObj_type (wpAny_bind (wpAny_pure (wpAny_pure ⟨_, rfl, wpAny_pure h⟩))) htake)
    | exact wpAny_bind (wpAny_bind (m := Builtin.Tuple.tupleExact _) (wpAny_newObj_type (wpAny_pure (wpAny_pure ⟨_, rfl, wpAny_pure h⟩)) htake))
    | exact wpAny_bind (wpAny_bind (m := Builtin.Tuple.tupleExact _) (wpAny_newObj_type (wpAny_pure ⟨_, rfl, wpAny_pure h⟩) htake))
end
section
variable {X : Cx} {P : Pm} {e : Expr} {w : WE} {pos p2 : Pos}
theorem valsRev {xs : List V} {us : List Value} (h : Vals xs us) : Vals xs.reverse us.reverse := L2.Vals.reverse h
def tRev (K : PySem.W.Frag) (te : TE) : TE := fun σ H Q => te σ H fun x H1 => ∃ a xs, x = .ref a ∧ ((SqL K H1 a xs ∧ ∀ p, H1 p = none → Q (.ref p) (upd H1 p (.lst xs.reverse))) ∨ (SqT K H1 a xs ∧ ∀ p, H1 p = none → Q (.ref p) (upd H1 p (.tup xs.reverse))))
theorem pe_rev {te : TE} {p3 p4 : Pos} {k : Nat} (he : PE X e te) : PE X (.Subscript e (.Slice none none (some (.UnaryOp .USub (.Constant (.int 1) k p3) p4)) p2) pos) (tRev X.K te) := by
  refine ⟨fun pins s σ H Q I h => ?_⟩
  refine Subscript_ (thn (he.run pins s σ H _ I h) fun v s1 ⟨x, H1, I1, r1, a, xs, ex, q1⟩ => ?_)
  subst ex
  obtain rfl : v = Value.ref a := r1
  refine wpAny_Slice ?_
  rw [evalPart_none]
  refine wpAny_pure (wpAny_pure ?_)
  rw [evalPart_some]
  refine thn ((pe_un un_neg pe_int).run pins s1 σ H1 (fun y H2 => y = .int (-1) ∧ H2 = H1) I1 ⟨1, rfl, rfl, rfl⟩) fun vs s3 ⟨y, H3, I3, ry, ey, eH⟩ => ?_
  subst ey eH
  obtain ⟨t, rfl⟩ := ry
  have I4 : Inv X pins σ H3 { s3 with heap := s3.heap.push { cls := .type "slice", data := .fields #[.none, .none, .int (-1) t] } } := I3.kept (t' := s3.toks) fun b ob q => Heap.get?_push_of_some _ q
  have hs := Heap.IsSliceOf.new (h := s3.heap) .none .none (.int (-1) t)
  have go : ∀ {T : String} {id}, typeLookup (.type T) "__getitem__" = pure (some (.builtin id)) → Shared.TypeIs { s3 with heap := s3.heap.push { cls := .type "slice", data := .fields #[.none, .none, .int (-1) t] } } (.ref a) T →
      wpAny (model X.prog X.w) X.A (getItem (.ref a) (.ref s3.heap.objs.size)) (EP X pins σ Q) X.xe { s3 with heap := s3.heap.push { cls := .type "slice", data := .fields #[.none, .none, .int (-1) t] } } →
      wpAny (model X.prog X.w) X.A (subscriptTail e (.Slice none none (some (.UnaryOp .USub (.Constant (.int 1) k p3) p4)) p2) (.ref a) (.ref s3.heap.objs.size)) (EP X pins σ Q) X.xe { s3 with heap := s3.heap.push { cls := .type "slice", data := .fields #[.none, .none, .int (-1) t] } } := fun hT ht hg => tail_any (ops := [.ref a, .ref s3.heap.objs.size]) ht hT hg (by with_unfolding_all rfl)
  rcases q1 with ⟨hx, q⟩ | ⟨hx, q⟩
  · obtain ⟨its, r, ht, hz⟩ := I4.list hx
    have hlen := r.length
    refine go slot_list_getitem.lookup ht.isList.typeIs (wpAny_getItem_list_slice ht.isList hs .none .none (.int (-1) t) (by decide) ?_ (by rw [List.size_toArray] <;> omega))
    rw [slicePick_rev]
    refine ⟨.ref _, _, I4.laid (t' := s3.toks) (o := .lst xs.reverse) (fun b ob q => Heap.get?_push_of_some _ q) (Nat.le_refl _) ?_, rfl, q _ (I4.hok.fresh (Nat.le_refl _))⟩
    exact ⟨by rw [List.length_reverse]; exact hz, _, 0, valsRev r, Heap.get?_push_size _ rfl⟩
  · obtain ⟨its, r, ht, hz⟩ := I4.tuple hx
    have hlen := r.length
    refine go PyProof.Rows.slot_tuple_getitem.lookup ht.typeIs (getItem_tuple_rev ht hs ?_ (by omega))
    refine ⟨.ref _, _, I4.laid (t' := s3.toks) (o := .tup xs.reverse) (fun b ob q => Heap.get?_push_of_some _ q) (Nat.le_refl _) ?_, rfl, q _ (I4.hok.fresh (Nat.le_refl _))⟩
    exact ⟨by rw [List.length_reverse]; exact hz, _, valsRev r, IsTup.new _ _⟩
end
end N

set_option Elab.async false
set_option linter.all false
set_option maxRecDepth 100000
set_option maxHeartbeats 0
/-! NK: over data: x[::-1], extend, enumerate, zip, raise, try -/
namespace N
open PySem PySem.Spec PyProof.Rows L2 RZ
section
variable {X : Cx} {P : Pm} {tg iter e e2 : Expr} {es : List Expr} {w : WE} {wl : WA} {pos p tpos : Pos}
def wRev (w : WE) : WE := fun G Om Q R => w G Om (fun d O => match d with | .lst xs => Q (.lst xs.reverse) O | .tup xs => Q (.tup xs.reverse) O | _ => False) R
theorem Reps.rev {T : Th} {F : Addr → Prop} {H : Hp} : ∀ {ds : List D} {vs : List V}, Reps T F H ds vs → Reps T F H ds.reverse vs.reverse
  | [], vs, h => by simp only [Reps] at h; subst h; exact .nil
  | d :: ds, vs, h => by
    simp only [Reps] at h
    obtain ⟨v, r, e, h1, h2⟩ := h
    subst e
    rw [List.reverse_cons, List.reverse_cons]
    exact (Reps.rev h2).app (.cons h1 .nil)
theorem de_rev {p2 p3 p4 : Pos} {k : Nat} (hK : P.T.K = X.K) (h : DB X P e w) : DE X P (.Subscript e (.Slice none none (some (.UnaryOp .USub (.Constant (.int 1) k p3) p4)) p2) pos) (wRev w) := by
  refine ⟨pe_imp (pe_rev h.pe) fun σ H Q q => ?_⟩
  obtain ⟨G, W, Q0, R0, S, q, ex, hq⟩ := q
  refine ⟨G, W, _, R0, S, q, ex, fun d O h1 v H1 W1 s1 e1 r => ?_⟩
  cases d <;> try exact h1.elim
  · simp only [RepT, Rep] at r
    obtain ⟨a, vs, rfl, ha, r⟩ := r
    refine ⟨a, vs, rfl, .inr ⟨hK ▸ tupAt ha, fun p hp => hq _ O h1 _ _ W1 (s1.trans (Step.new1 s1.ok hp)) e1 ?_⟩⟩
    simp only [Rep]
    exact ⟨p, _, rfl, .inl ⟨upd_same, nF s1.ok hp⟩, Reps.kp ((Step.new1 s1.ok hp).kp s1.ok) _ _ r.rev⟩
  · obtain ⟨a, vs, rfl, ha, n, r⟩ := r
    refine ⟨a, vs, rfl, .inl ⟨.of ha, fun p hp => hq _ O h1 _ _ W1 (s1.trans (Step.new1 s1.ok hp)) e1 ?_⟩⟩
    simp only [Rep]
    exact ⟨p, _, rfl, upd_same, nF s1.ok hp, Reps.kp ((Step.new1 s1.ok hp).kp s1.ok) _ _ r.rev⟩
/-! ### enumerate, zip -/
def enumF : Nat → List D → List D
  | _, [] => []
  | k, d :: r => .tup [.int (k : Int), d] :: enumF (k + 1) r
theorem enumF_len : ∀ (k : Nat) (ds : List D), (enumF k ds).length = ds.length
  | _, [] => rfl
  | k, d :: r => by rw [enumF, List.length_cons, List.length_cons, enumF_len]
theorem enumF_get : ∀ (k : Nat) (ds : List D) (i : Nat), (enumF k ds)[i]? = ds[i]?.map fun d => .tup [.int ((k + i : Nat) : Int), d]
  | _, [], i => by simp [enumF]
  | k, d :: r, 0 => by simp [enumF]
  | k, d :: r, i + 1 => by
    rw [enumF, List.getElem?_cons_succ, List.getElem?_cons_succ, enumF_get]
    congr 2
    funext x
    rw [show k + 1 + i = k + (i + 1) by omega]
def zipF : List D → List D → List D
  | a :: r, b :: r' => .tup [a, b] :: zipF r r'
  | _, _ => []
theorem zipF_len : ∀ xs ys : List D, (zipF xs ys).length = min xs.length ys.length
  | [], ys => by simp [zipF]
  | a :: r, [] => by simp [zipF]
  | a :: r, b :: r' => by rw [zipF, List.length_cons, List.length_cons, List.length_cons, zipF_len]; omega
theorem zipF_get : ∀ (xs ys : List D) (i : Nat) (d : D), (zipF xs ys)[i]? = some d → ∃ a b, xs[i]? = some a ∧ ys[i]? = some b ∧ d = .tup [a, b]
  | [], ys, i, d, h => by simp [zipF] at h
  | a :: r, [], i, d, h => by simp [zipF] at h
  | a :: r, b :: r', 0, d, h => by simp [zipF] at h; exact ⟨a, b, rfl, rfl, h.symm⟩
  | a :: r, b :: r', i + 1, d, h => by rw [zipF, List.getElem?_cons_succ] at h; exact zipF_get r r' i d h
def KpOk (T : Th) (R : Rl) : Prop := ∀ W H W' H', WOk T W H → R W H W' H' → Kp W.F H W'.F H' ∧ WOk T W' H'
theorem kpRF {T : Th} : KpOk T (RF T) := fun _ _ _ _ _ k => k
theorem kpRS {T : Th} : KpOk T (RS T) := fun _ _ _ _ ok k => ⟨Step.kp k ok, Step.ok k⟩
theorem pair_rep {T : Th} {W : Wd} {H H' : Hp} {p : Addr} {a b : D} {x y : V} (ok : WOk T W H) (hp : H p = none) (e : H' = upd H p (.tup [x, y])) (ra : Rep T W.F H a x) (rb : Rep T W.F H b y) : Nw H H' ∧ Rep T W.F H' (.tup [a, b]) (.ref p) := by
  subst e
  refine ⟨ext_upd hp, ?_⟩
  simp only [Rep]
  exact ⟨p, _, rfl, .inl ⟨upd_same, nF ok hp⟩, Reps.kp ((Step.new1 ok hp).kp ok) _ _ (.cons ra (.cons rb .nil))⟩
theorem wk_enum {T : Th} {R : Rl} {W1 : Wd} {H1 : Hp} {J : It} {Gd : Hp → Prop} {ds : List D} {vs : List V} (l : vs.length = ds.length) (wk : Walk J vs.length Gd (YPair (fun i => some (.int (i : Nat))) (fun i => vs[i]?))) (h : ∀ W2 H2, R W1 H1 W2 H2 → Gd H2 ∧ WOk T W2 H2 ∧ Reps T W2.F H2 ds vs) :
    Wk T R W1 H1 (enumF 0 ds) J := by
  refine ⟨Gd, _, (by rw [enumF_len, ← l]; exact wk), fun W2 H2 r => ⟨(h W2 H2 r).1, fun i d e x H3 y => ?_⟩⟩
  obtain ⟨p, x', y', rfl, hp, eH, e1, e2⟩ := y
  rw [enumF_get] at e
  cases q : ds[i]? with
  | none => rw [q] at e; cases e
  | some d' =>
    rw [q] at e
    cases e
    obtain ⟨v, ev, rv⟩ := (h W2 _ r).2.2.get q
    have e2 : vs[i]? = some y' := e2
    rw [e2] at ev
    cases ev
    cases e1
    refine pair_rep (h W2 _ r).2.1 hp eH ?_ rv
    simp [Rep]
theorem wk_zip {T : Th} {R : Rl} {W1 : Wd} {H1 : Hp} {J : It} {Gd : Hp → Prop} {ds es : List D} {vs ws : List V} (l : vs.length = ds.length) (l' : ws.length = es.length) (wk : Walk J (min vs.length ws.length) Gd (YPair (fun i => vs[i]?) (fun i => ws[i]?)))
    (h : ∀ W2 H2, R W1 H1 W2 H2 → Gd H2 ∧ WOk T W2 H2 ∧ Reps T W2.F H2 ds vs ∧ Reps T W2.F H2 es ws) : Wk T R W1 H1 (zipF ds es) J := by
  refine ⟨Gd, _, (by rw [zipF_len, ← l, ← l']; exact wk), fun W2 H2 r => ⟨(h W2 H2 r).1, fun i d e x H3 y => ?_⟩⟩
  obtain ⟨p, x', y', rfl, hp, eH, e1, e2⟩ := y
  obtain ⟨a, b, ea, eb, rfl⟩ := zipF_get _ _ _ _ e
  obtain ⟨_, ok, r1, r2⟩ := h W2 _ r
  obtain ⟨v, ev, rv⟩ := r1.get ea
  obtain ⟨v', ev', rv'⟩ := r2.get eb
  have e1 : vs[i]? = some x' := e1
  have e2 : ws[i]? = some y' := e2
  rw [e1] at ev
  rw [e2] at ev'
  cases ev
  cases ev'
  exact pair_rep ok hp eH rv rv'
theorem walk_zipT {K : PySem.W.Frag} {a b : Addr} {xs ys : List V} {n : Nat} (hn : n = min xs.length ys.length) : Walk (ItzT K a b) n (fun H => SqT K H a xs ∧ SqT K H b ys) (YPair (fun i => xs[i]?) (fun i => ys[i]?)) := by
  subst hn
  refine ⟨fun i _ hi q => ?_, fun _ q => ⟨xs, ys, q.1, q.2, by omega⟩, fun i H v H' _ q y => ?_⟩
  · have h1 : i < xs.length := by omega
    have h2 : i < ys.length := by omega
    exact ⟨xs, ys, xs[i], ys[i], q.1, q.2, by simp [h1], by simp [h2]⟩
  · obtain ⟨T, x, z, h1, h2, h3, h4, h5⟩ := y
    exact ⟨T, x, z, h1, h2, h3, h4 xs q.1, h5 ys q.2⟩
def gEnum : List D → (List D → Prop) → Prop
  | [.tup xs], Q => Q (enumF 0 xs)
  | [.lst xs], Q => Q (enumF 0 xs)
  | _, _ => False
def gZip : List D → (List D → Prop) → Prop
  | [.tup xs, .tup ys], Q => Q (zipF xs ys)
  | [.lst xs, .lst ys], Q => Q (zipF xs ys)
  | _, _ => False
variable {R : Rl}
theorem tup_kp {K : PySem.W.Frag} {F F' : Addr → Prop} {H H' : Hp} {a : Addr} {vs : List V} (k : Kp F H F' H') (h : (H a = some (.tup vs) ∧ ¬ F a) ∨ KT K a vs) : SqT K H' a vs :=
  tupAt (F := F') (h.imp (fun h => ⟨k.same _ _ h.1 h.2, (k.rd (.inl h.1) h.2).2⟩) id)
theorem di_enum {elts : List Expr} {kk : Nat} (hK : P.T.K = X.K) (kR : KpOk P.T R) (hm : X.mg "enumerate" = none) (h : DA X P [e] wl) (hg : Gl X "enumerate" := by rfl) (hs : starEach [e] X.env = [(false, eval e X.env)] := by rfl) :
    DI X P R (.Tuple elts kk tpos) (.Call (.Name "enumerate" p) [e] [] pos) (wRng gEnum wl) := by
  refine ⟨pi_imp (pi_enumA hg hm h.pa hs) fun σ H K q => ?_⟩
  obtain ⟨G, W, Q0, R0, S, q, ex, hq⟩ := q
  refine ⟨G, W, _, R0, S, q, ex, fun ds O h1 vs H1 W1 s1 e1 r => ?_⟩
  match ds, h1, r with
  | [.tup xs], h1, r =>
    simp only [Reps, Rep] at r
    obtain ⟨v, _, e2, ⟨a, us, rfl, ha, r⟩, rfl⟩ := r
    exact ⟨a, us, e2, .inr ⟨hK ▸ tupAt ha, hq _ O h1 _ H1 W1 s1 e1 (wk_enum r.len walk_enumT fun W2 H2 k => have kk := kR _ _ _ _ s1.ok k; ⟨hK ▸ tup_kp kk.1 ha, kk.2, Reps.kp kk.1 _ _ r⟩)⟩⟩
  | [.lst xs], h1, r =>
    simp only [Reps, Rep] at r
    obtain ⟨v, _, e2, ⟨a, us, rfl, ha, n, r⟩, rfl⟩ := r
    exact ⟨a, us, e2, .inl ⟨.of ha, hq _ O h1 _ H1 W1 s1 e1 (wk_enum r.len walk_enum fun W2 H2 k => have kk := kR _ _ _ _ s1.ok k; ⟨.of (kk.1.same _ _ ha n), kk.2, Reps.kp kk.1 _ _ r⟩)⟩⟩
theorem di_zip {elts : List Expr} {kk : Nat} (hK : P.T.K = X.K) (kR : KpOk P.T R) (hm : X.mg "zip" = none) (h : DA X P [e, e2] wl) (hg : Gl X "zip" := by rfl) (hs : starEach [e, e2] X.env = (false, eval e X.env) :: starEach [e2] X.env := by rfl) (hpl : (backTo pos (starEach [e2] X.env)).any (·.1) = false := by rfl) :
    DI X P R (.Tuple elts kk tpos) (.Call (.Name "zip" p) [e, e2] [] pos) (wRng gZip wl) := by
  refine ⟨pi_imp (pi_zipA hg hm h.pa hs hpl) fun σ H K q => ?_⟩
  obtain ⟨G, W, Q0, R0, S, q, ex, hq⟩ := q
  refine ⟨G, W, _, R0, S, q, ex, fun ds O h1 vs H1 W1 s1 e1 r => ?_⟩
  match ds, h1, r with
  | [.tup xs, .tup ys], h1, r =>
    simp only [Reps, Rep] at r
    obtain ⟨v, _, e2, ⟨a, us, rfl, ha, r⟩, v', _, rfl, ⟨b, us', rfl, hb, r'⟩, rfl⟩ := r
    exact ⟨a, b, us, us', e2, .inr ⟨hK ▸ tupAt ha, hK ▸ tupAt hb, hq _ O h1 _ H1 W1 s1 e1 (wk_zip r.len r'.len (walk_zipT rfl) fun W2 H2 k => have kk := kR _ _ _ _ s1.ok k; ⟨⟨hK ▸ tup_kp kk.1 ha, hK ▸ tup_kp kk.1 hb⟩, kk.2, Reps.kp kk.1 _ _ r, Reps.kp kk.1 _ _ r'⟩)⟩⟩
  | [.lst xs, .lst ys], h1, r =>
    simp only [Reps, Rep] at r
    obtain ⟨v, _, e2, ⟨a, us, rfl, ha, n, r⟩, v', _, rfl, ⟨b, us', rfl, hb, n', r'⟩, rfl⟩ := r
    exact ⟨a, b, us, us', e2, .inl ⟨.of ha, .of hb, hq _ O h1 _ H1 W1 s1 e1 (wk_zip r.len r'.len (walk_zip rfl) fun W2 H2 k => have kk := kR _ _ _ _ s1.ok k; ⟨⟨.of (kk.1.same _ _ ha n), .of (kk.1.same _ _ hb n')⟩, kk.2, Reps.kp kk.1 _ _ r, Reps.kp kk.1 _ _ r'⟩)⟩⟩
end
end N
namespace N
open PySem PySem.Spec PyProof.Rows L2 RZ
open PySem.AutoSeq1 (wpAny_loadPart')
/-! ### extend -/
theorem extend_tupG (l : Addr) (items : Array Value) (n : Nat) (b : Addr) (items2 : Array Value) (n2 : Nat) (dct : Option Addr) (sl : Array (Option Value)) (hs0 : ¬(!items.isEmpty && Builtin.List.listTooLong (items.size + items2.size)) = true) (hs1 : items.size ≤ sizeLine) (hs2 : items.size + items2.size ≤ sizeLine + 1) :
    Meets (Builtin.«list.extend» ⟨[.ref l, .ref b], []⟩) (fun _ R s => s.heap.get? l = some { cls := .type "list", dict := none, data := .seq items n, slots := #[] } ∧ s.heap.get? b = some { cls := .type "tuple", dict := dct, data := .seq items2 n2, slots := sl } ∧
      R (.ok (.ret Value.none)) { s with heap := s.heap.update l (Obj.mapSeq fun x => x ++ items2), toks := s.toks }) :=
  .of_wp fun prog w A R s h => by
    obtain ⟨hp, g, d, tk, os⟩ := s; obtain ⟨hl, hb, h⟩ := h; have f1 := AutoSeq1.idx_int; have f2 := AutoSeq1.sub_tuple_tuple; have f3 := AutoSeq1.sub_list_list; have f4 := AutoSeq1.sub_tuple_list; have f5 := AutoSeq1.sub_list_tuple;
    have hz' : (items ++ items2).size ≤ sizeLine + 1 := by rw [Array.size_append]; exact hs2
    wp_walk using (wpAny_updateSeq hl rfl (hz := hs1) (_hz' := hz')), wpAny_loadPart' hl, wpAny_loadPart' hb; exact ⟨_, rfl, h⟩
def rExtA (K : PySem.W.Frag) : V → List V → Hp → VK → Prop := fun x vs H Q => ∃ l b xs zs, x = .ref l ∧ vs = [.ref b] ∧ H l = some (.lst xs) ∧ (H b = some (.lst zs) ∨ SqT K H b zs) ∧ xs.length + zs.length ≤ sizeLine ∧ Q .non (upd H l (.lst (xs ++ zs)))
theorem mt_extendA {X : Cx} : MtM X "list.extend" (rExtA X.K) := by
  intro pins s σ H x vs v us Q I rx rv h
  obtain ⟨l, b, xs, zs, rfl, rfl, hH, hB, hz, q⟩ := h
  rcases hB with hB | hB
  · exact mt_extend pins s σ H _ _ v us Q I rx rv ⟨l, b, xs, zs, rfl, rfl, hH, hB, hz, q⟩
  cases rx
  obtain ⟨u, rfl, ru⟩ := rv.one
  cases ru
  obtain ⟨z, its, n, r, hl, e⟩ := I.lstM hH
  obtain ⟨its2, r2, ht, hl2⟩ := I.tuple hB
  obtain ⟨⟨oc, od, dt, sl⟩, e2, hc, n2, hd⟩ := ht
  replace hc : oc = .type "tuple" := hc
  replace hd : dt = .seq its2.toArray n2 := hd
  subst hc hd
  have l1 := r.length
  have l2 := r2.length
  have hsz : its.toArray.size + its2.toArray.size ≤ sizeLine := by rw [List.size_toArray, List.size_toArray]; omega
  have hlong : ¬ (!its.toArray.isEmpty && Builtin.List.listTooLong (its.toArray.size + its2.toArray.size)) = true := by
    rw [notLongL hsz, Bool.and_false]
    exact Bool.false_ne_true
  refine call_meets F.slot_list_extend ⟨_, e, rfl⟩ F.entry_list_extend (F.args_list_extend_2 _ _) (extend_tupG l its.toArray n b its2.toArray n2 od sl hlong (by rw [List.size_toArray]; omega) (by omega)) ⟨e, e2, ?_⟩
  refine ⟨.non, _, I.lset (its' := its ++ its2) hH e (by simp) (r.append r2) ?_, rfl, q⟩
  rw [List.length_append]
  omega
section
variable {X : Cx} {P : Pm} {e : Expr} {w : WE}
def wExt (i : Nat) (w : WE) : WS := fun G Om Po => match getSl G i with
  | .own (.lst xs) => w G Om (fun d O => match d with
    | .lst ys => xs.length + ys.length ≤ 16777216 ∧ Po.nx (G.set i (.own (.lst (xs ++ ys)))) O
    | .tup ys => xs.length + ys.length ≤ 16777216 ∧ Po.nx (G.set i (.own (.lst (xs ++ ys)))) O
    | _ => False) fun x O => Po.ex x G O
  | _ => False
theorem ds_ext (hK : P.T.K = X.K) (i : Nat) {x : Str} {p1 p2 p3 p4 : Pos} (h : DE X P e w) (hN : X.N[i]? = some x := by rfl) (hv : Vis X.env.scope x := by first | exact Or.inl rfl | exact Or.inr (Or.inl rfl) | exact Or.inr (Or.inr rfl)) (hd : (x == ("__debug__" : Str)) = false := by decide)
    (hcd : (x == ("__classdict__" : Str)) = false := by decide)
    (hbase : attributeBase (.Name x p1) "extend" X.env (eval (.Name x p1) X.env) = eval (.Name x p1) X.env := by rfl)
    (hfew : ((backTo p3 (starEach [e] X.env)).all (fun x => !x.1) && (backToKw p3 (keywordEach [] X.env)).all (fun x => x.1.isSome) && decide ([e].length + ([] : List Keyword).length + (if ([] : List Keyword).isEmpty then 0 else 1) < 30)) = true := by rfl)
    (hline : (p2.endLine == p3.line) = true := by rfl) (hs1 : starEach [e] X.env = (false, eval e X.env) :: starEach [] X.env := by rfl) (hplain : (backTo p3 (starEach [] X.env)).any (·.1) = false := by rfl)
    (hs : swapsWith (.Call (.Attribute (.Name x p1) "extend" p2) [e] [] p3) none p4.line X.env = pure false := by rfl) :
    DS X P (.Expr (.Call (.Attribute (.Name x p1) "extend" p2) [e] [] p3) p4) (wExt i w) := by
  refine ⟨ps_imp (ps_expr (pe_bm PySem.F.plainAttrs_list PySem.F.slot_list_extend PySem.F.type_list_extend mt_extendA (pe_var hN hv hd hcd) (pa_cons h.pe pa_nil hs1) hbase hfew hline hs1 hplain) hs) fun D σ H ⟨G, W, Po, S, q, h⟩ => ?_⟩
  unfold wExt at q
  split at q
  · rename_i xs ed
    have gg := getSl_get G i (by rw [ed]; intro z; cases z)
    rw [ed] at gg
    obtain ⟨a, e1, oa⟩ := S.sl i _ gg
    obtain ⟨vs, hl, rl⟩ := oa.r
    refine ⟨.ref a, e1, .inl ⟨rfl, vs, .of hl⟩, G, W, _, _, S, q, h.exE S, fun d O q' v H' W' s' e r => ?_⟩
    have S' := S.step s'
    obtain ⟨a2, e2, oa'⟩ := S'.sl i _ gg
    rw [e1] at e2; cases e2
    obtain ⟨ws, hl', rl'⟩ := oa'.r
    have fin : ∀ b ys zs, v = .ref b → (H' b = some (.lst zs) ∨ SqT X.K H' b zs) → Reps P.T W'.F H' ys zs → xs.length + ys.length ≤ 16777216 → Po.nx (G.set i (.own (.lst (xs ++ ys)))) O → rExtA X.K (.ref a) [v] H' (fun _ H2 => D.nx σ H2) := fun b ys zs ev hb ry hz hn => by
      obtain ⟨S2, k2⟩ := S'.mut (o := .lst (ws ++ zs)) (m' := .lst (xs ++ ys)) gg e1 ⟨ws ++ zs, upd_same, Reps.kp (Kp.mut oa'.f) _ _ (rl'.app ry)⟩
      exact ⟨a, b, ws, zs, rfl, by rw [ev], hl', hb, sz16 (by rw [rl'.len, ry.len]; exact hz), h.nx _ O hn _ _ W' ((s'.kp S.ok).trans k2) S2 e⟩
    cases d <;> try exact q'.elim
    · simp only [Rep] at r
      obtain ⟨b, zs, rfl, hb, ry⟩ := r
      exact fin b _ zs rfl (.inr (hK ▸ tupAt hb)) ry q'.1 q'.2
    · simp only [Rep] at r
      obtain ⟨b, zs, rfl, hb, _, ry⟩ := r
      exact fin b _ zs rfl (.inl hb) ry q'.1 q'.2
  · exact q.elim
end
/-! ### errors of own classes -/
structure ClX (K : PySem.W.Frag) (mg : Str → Option Value) (T : Th) (c : Nat) (x : Str) : Prop where
  g : mg x = some (.ref (T.cm c))
  q : PySem.W.excIn K (T.cm c) He.veBase "ValueError.__new__" = true
  k : PySem.W.keepIn K (.ref (T.cm c)) = true
  s : PySem.W.subIn K (.ref (T.cm c)) (.type "BaseException") = some true
  t : PySem.W.typeIn K (.ref (T.cm c)) = some (.type "type")
section
variable {X : Cx} {P : Pm} {x : Str} {p pos pos' np : Pos} {c : Nat}
theorem pmk_own0 {C : Addr} {bmB : List Value} {B newId initId : String} (F : ExcBaseFacts B newId initId bmB) (q : PySem.W.excIn X.K C bmB newId = true) (gC : X.mg x = some (.ref C)) (kC : PySem.W.keepIn X.K (.ref C) = true) (r : Raises X (.ref C)) (hg : Gl X x)
    (hdb : (x == ("__debug__" : Str)) = false := by decide) : PMk X (.Call (.Name x p) [] [] pos) (fun _ H Q => Q (.ref C) none H) := by
  intro pins s σ H Q I h
  refine wpAny_Call_Name_kw (ld_glob I hg gC (PySem.W.callWith_K0 (first := []) I.kIn kC ?_) hdb)
  show wpAny _ _ (call (.ref C) []) _ _ _
  obtain ⟨bm, N, nm, qn, bs, hdct, sn, sub, ab, col, dd, k0, k1, k2, k3, k5, mN, hC, hN, hni, T⟩ := exc_obj I.kIn q
  refine wpAny_call_exc_subT F T hC hN hni (fun h' e hm => ?_) (Nat.zero_le _)
  exact mk_of I hm r h (I.hok.gone hm.new)
def wRaise (c : Nat) : WS := fun G Om Po => Po.ex ⟨c, [], []⟩ G Om
theorem ds_raise (cl : ClX X.K X.mg P.T c x) (tk : Takes X P.W) (hc : X.calm = true := by rfl) (hg : Gl X x := by rfl) (hdb : (x == ("__debug__" : Str)) = false := by decide) : DS X P (.Raise (some (.Call (.Name x p) [] [] pos)) none pos') (wRaise c) :=
  ⟨ps_imp (ps_raise hc tk (pmk_own0 PySem.F.excBase_ValueError cl.q cl.g cl.k (raises_own cl.s cl.t) hg hdb)) fun D σ H ⟨G, W, Po, S, q, h⟩ => h.ex _ G _ q _ _ σ H W Kp.refl S rfl ⟨rfl, .inl ⟨rfl, rfl⟩⟩⟩
/-- try: body / except X: suite; tab: which classes are X's -/
def wTry (tab : List (Nat × Bool)) (u v : WS) : WS := fun G Om Po => u G Om { Po with ex := fun x G' O => match tab.lookup x.c with
  | some true => v G' O { Po with ex := fun _ _ _ => False }
  | some false => Po.ex x G' O
  | none => False }
theorem Sta.chW {P : Pm} {W1 : WX} {G : Gam} {W : Wd} {σ : L2.St} {H : Hp} (S : Sta P G W σ H) : Sta { P with W := W1 } G W σ H :=
  ⟨S.st, S.len, fun i x e => by
    have q := S.sl i x e
    cases x with
    | no => trivial
    | val d => exact q
    | own m => obtain ⟨a, e, o⟩ := q; exact ⟨a, e, ⟨o.f, o.o, o.p, o.n, o.r⟩⟩, S.ap⟩
theorem Sta.unW {P : Pm} {W1 : WX} {G : Gam} {W : Wd} {σ : L2.St} {H : Hp} (S : Sta { P with W := W1 } G W σ H) : Sta P G W σ H := Sta.chW (P := { P with W := W1 }) (W1 := P.W) S
theorem ds_try {tab : List (Nat × Bool)} {body suite : List Stmt} {b₀ : Stmt} {u v : WS} (hx : ∀ j b, tab.lookup j = some b → PySem.W.exmOne X.K (.ref (P.T.cm j)) (.ref (P.T.cm c)) = some b) (gX : X.mg x = some (.ref (P.T.cm c))) (tk : Takes X P.W)
    (hb : ∀ (W : WX) (pn : List (Addr × Obj)) (xe : Value → Shared → Prop), Takes (X.tr pn xe) W → PassesOwn (model X.prog X.w) X.A X.env xe → DSs (X.tr pn xe) { P with W := W } body u)
    (hsu : ∀ (a : Addr) (oe : Obj) (pn : List (Addr × Obj)), DSs (X.suite a ((a, oe) :: pn)) P.noW (b₀ :: suite) v)
    (hg : Gl X x := by rfl) (hdb : (x == ("__debug__" : Str)) = false := by decide) (hs : X.stack = X.env :: X.outer := by rfl) (hf : X.env.frame = some X.env.locals := by rfl) : DS X P (.Try body [.ExceptHandler (some (.Name x np)) none (b₀ :: suite) pos'] [] [] pos) (wTry tab u v) := by
  refine ⟨ps_imp (ps_try_only (c := .ref (P.T.cm c)) (Wout := P.W) (tb := fun W => tS { P with W := W } u) (ts := fun _ _ _ => tS P.noW v) hs hf ⟨hg, hdb, .inl gX⟩ tk (fun W pn xe tk' po => (hb W pn xe tk' po).ps) (fun a oe cls d pn _ _ => (hsu a oe pn).ps)) fun D σ H ⟨G, W, Po, S, q, h⟩ => ?_⟩
  refine ⟨G, W, _, S.chW, q, ⟨fun G' O q' σ' H' W' k S' e => h.nx G' O q' σ' H' W' k S'.unW e, h.rt, fun G' O q' σ' H' W' k S' e => h.bk G' O q' σ' H' W' k S'.unW e, fun G' O q' σ' H' W' k S' e => h.ct G' O q' σ' H' W' k S'.unW e, fun z G' O q' cls dd σ' H' W' k S' e r => ?_⟩⟩
  have q' : (match tab.lookup z.c with | some true => v G' O { Po with ex := fun _ _ _ => False } | some false => Po.ex z G' O | none => False) := q'
  have ec : cls = .ref (P.T.cm z.c) := r.1
  cases et : tab.lookup z.c with
  | none => rw [et] at q'; exact q'.elim
  | some b =>
    rw [et] at q'
    refine ⟨b, by rw [ec]; exact hx _ _ et, fun hbt a _ => ?_, fun hbf => ?_⟩
    · subst hbt
      subst e
      have h' := h.kp k
      exact ⟨G', W', _, Sta.chW (P := P) S'.unW, q', ⟨fun G2 O2 q2 σ2 H2 W2 k2 S2 e2 => h'.nx G2 O2 q2 σ2 H2 W2 k2 S2.unW e2, h'.rt, fun G2 O2 q2 σ2 H2 W2 k2 S2 e2 => h'.bk G2 O2 q2 σ2 H2 W2 k2 S2.unW e2, fun G2 O2 q2 σ2 H2 W2 k2 S2 e2 => h'.ct G2 O2 q2 σ2 H2 W2 k2 S2.unW e2, fun _ _ _ z => z.elim⟩⟩
    · subst hbf
      exact h.ex z G' O q' cls dd σ' H' W' k S'.unW e r
end
end N
namespace N
open PySem PySem.Spec PyProof.Rows L2
/-! ### an own thing is frozen; defaults -/
section
variable {X : Cx} {P : Pm} {e : Expr} {es : List Expr} {w : WE} {wl : WA} {x : Str} {p pos : Pos} {k n : Nat} {S : DSp}
theorem Sta.frz {G : Gam} {W : Wd} {σ : L2.St} {H : Hp} {i : Nat} {m : MO} (S : Sta P G W σ H) (ok0 : WOk P.T P.W0 P.H0) (nd : noDct m) (g : G[i]? = some (.own m)) : ∃ W', W'.Om = W.Om ∧ Kp W.F H W'.F H ∧ Sta P (G.set i (.val m.see)) W' σ H := by
  obtain ⟨a, e, o⟩ := S.sl i _ g
  have kp : Kp W.F H (W.del a).F H := Kp.less fun b h => h.1
  refine ⟨W.del a, rfl, kp, S.st.del ok0 o.n o.p, by simp [S.len], fun j s es => ?_, fun j k m1 m2 b e1 e2 h1 h2 => ?_⟩
  · by_cases q : i = j
    · subst q
      rw [List.getElem?_set, if_pos rfl] at es
      split at es
      · cases es
        exact ⟨.ref a, e, rep_see (fun z => z.2 rfl) nd (noFp (fp := fun _ => False) kp rfl o.r)⟩
      · cases es
    · rw [List.getElem?_set_ne q] at es
      have z := S.sl j s es
      cases s with
      | no => trivial
      | val d =>
        obtain ⟨v, e1, r⟩ := z
        exact ⟨v, e1, Rep.kp kp d v r⟩
      | own m' =>
        obtain ⟨b, e1, ob⟩ := z
        have hne : b ≠ a := fun z => q (S.ap i j m m' a g es e (z ▸ e1))
        exact ⟨b, e1, ⟨⟨ob.f, hne⟩, ob.o, ob.p, ob.n, noFp (fp := fun _ => False) kp rfl ob.r⟩⟩
  · have back : ∀ (j : Nat) mm, (G.set i (.val m.see))[j]? = some (.own mm) → G[j]? = some (.own mm) := fun j mm e => by
      by_cases q : i = j
      · subst q
        rw [List.getElem?_set, if_pos rfl] at e
        split at e <;> cases e
      · rwa [List.getElem?_set_ne q] at e
    exact S.ap j k m1 m2 b (back j m1 e1) (back k m2 e2) h1 h2
def wFz (i : Nat) (w : WS) : WS := fun G Om Po => match getSl G i with
  | .own (.dct _ _) => False
  | .own m => w (G.set i (.val m.see)) Om Po
  | _ => w G Om Po
theorem dss_fz (i : Nat) {ss : List Stmt} {u : WS} (ok0 : WOk P.T P.W0 P.H0) (h : DSs X P ss u) : DSs X P ss (wFz i u) := by
  refine ⟨pss_imp h.ps fun D σ H ⟨G, W, Po, S, q, hp⟩ => ?_⟩
  unfold wFz at q
  split at q
  · exact q.elim
  · rename_i m hm ed
    have nd : noDct m := by cases m <;> first | trivial | exact (hm _ _ rfl).elim
    have gg := getSl_get G i (by rw [ed]; intro z; cases z)
    rw [ed] at gg
    obtain ⟨W', eO, k, S'⟩ := S.frz ok0 nd gg
    exact ⟨_, W', Po, S', by rw [eO]; exact q, hp.kp k⟩
  · exact ⟨G, W, Po, S, q, hp⟩
/-- a def with defaults that fill up -/
structure ClD (PR : Program) (w : World) (K : PySem.W.Frag) (mg : Str → Option Value) (base : Heap) (T : Th) (k : Nat) (x : Str) (n : Nat) (S : DSp) (dds : List D) : Prop where
  ex : ∃ f fd ps dvs dvl, FnOk PR w K mg base (L2.CX PR w) k f fd ps (toSp T n S) ∧ mg x = some (.ref f) ∧ PySem.W.keepIn K (.ref f) = true ∧ Binds K fd ps dvl ∧ Vals dvs dvl ∧ ∀ T F H, Reps T F H dds dvs
theorem de_clD {dds : List D} (c : ClD X.prog X.w X.K X.mg X.base P.T k x n S dds) (hr : Room k X.A) (tk : Takes X P.W) (ha : DA X P (e :: es) wl)
    (hg : Gl X x := by rfl) (hdb : (x == ("__debug__" : Str)) = false := by decide) (he : starEach (e :: es) X.env = (false, eval e X.env) :: starEach es X.env := by rfl) (hpl : (backTo pos (starEach es X.env)).any (·.1) = false := by rfl) :
    DE X P (.Call (.Name x p) (e :: es) [] pos) (wCallU n S dds wl) :=
  let ⟨_, _, _, _, _, F, hm, hk, hb, hd, hdd⟩ := c.ex
  de_callD dds F hr hm hk hb hd hdd tk ha hg hdb he hpl
/-- x.bit_length() -/
def wBits (w : WE) : WE := fun G Om Q R => w G Om (fun d O => match d with | .int i => Q (.int (Builtin.Int.intBits i : Nat)) O | _ => False) R
theorem de_bits {o : Expr} {apos : Pos} (ho : DE X P o w) (hbase : attributeBase o "bit_length" X.env (eval o X.env) = eval o X.env := by rfl) (hline : (apos.endLine == pos.line) = true := by rfl) : DE X P (.Call (.Attribute o "bit_length" apos) [] [] pos) (wBits w) := by
  refine ⟨pe_imp (pe_bits ho.pe hbase hline) fun σ H Q q => ?_⟩
  obtain ⟨G, W, Q0, R0, S, q, ex, hq⟩ := q
  refine ⟨G, W, _, R0, S, q, ex, fun d O h1 v H1 W1 s1 e1 r => ?_⟩
  cases d <;> try exact h1.elim
  exact ⟨_, by simpa only [Rep] using r, hq _ O h1 _ H1 W1 s1 e1 (by simp [Rep])⟩
/-- tables of classes -/
theorem tab_nil {K : PySem.W.Frag} {T : Th} {c : Nat} : ∀ j b, ([] : List (Nat × Bool)).lookup j = some b → PySem.W.exmOne K (.ref (T.cm j)) (.ref (T.cm c)) = some b := fun _ _ h => by cases h
theorem tab_cons {K : PySem.W.Frag} {T : Th} {c j0 : Nat} {b0 : Bool} {tab : List (Nat × Bool)} (h : PySem.W.exmOne K (.ref (T.cm j0)) (.ref (T.cm c)) = some b0) (r : ∀ j b, tab.lookup j = some b → PySem.W.exmOne K (.ref (T.cm j)) (.ref (T.cm c)) = some b) :
    ∀ j b, ((j0, b0) :: tab).lookup j = some b → PySem.W.exmOne K (.ref (T.cm j)) (.ref (T.cm c)) = some b := fun j b e => by
  rw [List.lookup_cons] at e
  cases q : (j == j0) with
  | true =>
    rw [q] at e
    have e := Option.some.inj e
    rw [beq_iff_eq.mp q, ← e]
    exact h
  | false =>
    rw [q] at e
    exact r j b e
end
def clsAt (s : Stmt) (j : Nat) : Stmt := match s with
  | .ClassDef (body := b) .. => b.getD j (.Pass ⟨0, 0, 0, 0⟩)
  | s => s
end N

set_option Elab.async false
set_option linter.all false
set_option maxRecDepth 100000
set_option maxHeartbeats 0
/-! NX: a law's end -/
namespace N
open PySem PySem.Spec PyProof.Rows L2
abbrev FnP (K : PySem.W.Frag) (x qual : Str) (st : Stmt) (kws : List (Str × V)) (f : Addr) (fd : FuncData) : Prop := FunD K x qual (defArgs st) (defBody st) (defScope st) [] kws f fd
abbrev defD (x : Str) (st : Stmt) : He.DefD := ⟨(x, none), x, x, defArgs st, defBody st, defScope st, [], []⟩
abbrev defK (x : Str) (st : Stmt) (kwd : List (Str × He.Dv)) : He.DefD := ⟨(x, none), x, x, defArgs st, defBody st, defScope st, [], kwd⟩
abbrev defM (c x qual : Str) (st : Stmt) : He.DefD := ⟨(c, some x), x, qual, defArgs st, defBody st, defScope st, [], []⟩
/-- the classes' places, by their names -/
def cmL (K : PySem.W.Frag) (l : List Str) (c : Nat) : Addr := He.ga K (l.getD c "")
theorem clM_mk {PR : Program} {w : World} {K : PySem.W.Frag} {mg : Str → Option Value} {base : Heap} {T : Th} {k c : Nat} {m : Str} {n : Nat} {S S' : DSp} {f : Addr} {fd : FuncData} {ps : List Str} (F : FnOk PR w K mg base (L2.CX PR w) k f fd ps (toSp T n S')) (h : ∀ ds Om Q R, ds.length = n → S ds Om Q R → S' ds Om Q R)
    (cl : Cls K (T.cm c)) (hm : Meth K (T.cm c) m f) (b : Binds K fd ps []) : ClM PR w K mg base T k c m n S := ⟨_, _, _, F.imp (toSp_imp h), cl, hm, b⟩
theorem clI_mk {PR : Program} {w : World} {K : PySem.W.Frag} {mg : Str → Option Value} {base : Heap} {T : Th} {k c : Nat} {x : Str} {n : Nat} {S S' : DSp} {f : Addr} {fd : FuncData} {ps : List Str} (F : FnOk PR w K mg base (L2.CX PR w) k f fd ps (toSp T n S')) (h : ∀ ds Om Q R, ds.length = n → S ds Om Q R → S' ds Om Q R)
    (g : mg x = some (.ref (T.cm c))) (hm : Mk K (T.cm c) f) (b : Binds K fd ps []) : ClI PR w K mg base T k c x n S := ⟨_, _, _, F.imp (toSp_imp h), g, hm, b⟩
theorem clX_mk {K : PySem.W.Frag} {h : Heap} {mg : Str → Option Value} {T : Th} {c : Nat} {x : Str} (e : T.cm c = He.ga K x) (X : K.In h) (G : h.Ns mainGlobals mg) (f1 : (He.Fa.glo x).ok K = true) (f2 : (He.Fa.exc x).ok K = true) : ClX K mg T c x :=
  have q := He.exc_ok f2
  ⟨by rw [e]; exact He.glo_ok X G f1, by rw [e]; exact q.1, by rw [e]; exact q.2.1, by rw [e]; exact q.2.2.1, by rw [e]; exact q.2.2.2⟩
theorem clD_mk {PR : Program} {w : World} {K : PySem.W.Frag} {mg : Str → Option Value} {base : Heap} {T : Th} {k : Nat} {x : Str} {n : Nat} {S S' : DSp} {dds : List D} {f : Addr} {fd : FuncData} {ps : List Str} {dvs : List V} (F : FnOk PR w K mg base (L2.CX PR w) k f fd ps (toSp T n S')) (h : ∀ ds Om Q R, ds.length = n → S ds Om Q R → S' ds Om Q R)
    (g : mg x = some (.ref f)) (kp : PySem.W.keepIn K (.ref f) = true) (b : ∃ ds, Vals dvs ds ∧ Binds K fd ps ds) (hd : ∀ T F H, Reps T F H dds dvs) : ClD PR w K mg base T k x n S dds := let ⟨_, hv, hb⟩ := b; ⟨_, _, _, _, _, F.imp (toSp_imp h), g, kp, hb, hv, hd⟩
theorem kb_of {K : PySem.W.Frag} {x qual : Str} {params : Arguments} {body : List Stmt} {scope : Scope} {kws : List (Str × V)} {f : Addr} {fd : FuncData} {ps : List Str} {n : Nat} {ks : List Str} (F : FunD K x qual params body scope [] kws f fd)
    (h : ∀ (kV doc pm : Value) (an : Option Addr) (cdv ct : Value) (us ws : List Value), us.length = n → ws.length = ks.length → bindArgs (PySem.W.fnOf x qual params body scope .none kV doc pm an cdv ct) ⟨us, ks.zip ws⟩ = pure (ps.zip (us ++ ws))) : KB K fd ps n ks := by
  obtain ⟨oc, od, dV, kV, doc, pm, an, cdv, ct, osl, rfl, lk, hcd, hD, hK⟩ := F.ex
  rcases hD with ⟨_, rfl⟩ | ⟨e, _⟩
  · exact .of (h kV doc pm an cdv ct)
  · exact absurd rfl e
/-- a callable of a lower level whose promise asks the impossible -/
theorem cl_mk {PR : Program} {w : World} {K : PySem.W.Frag} {mg : Str → Option Value} {base : Heap} {T : Th} {k : Nat} {x : Str} {n : Nat} {S S' : DSp} {f : Addr} {fd : FuncData} {ps : List Str} (F : FnOk PR w K mg base (L2.CX PR w) k f fd ps (toSp T n S')) (h : ∀ ds Om Q R, ds.length = n → S ds Om Q R → S' ds Om Q R)
    (g : mg x = some (.ref f)) (kp : PySem.W.keepIn K (.ref f) = true) (b : Binds K fd ps []) : Cl PR w K mg base T k x n S := ⟨_, _, _, F.imp (toSp_imp h), g, kp, b⟩
theorem clK_mk {PR : Program} {w : World} {K : PySem.W.Frag} {mg : Str → Option Value} {base : Heap} {T : Th} {k : Nat} {x : Str} {n m : Nat} {ks : List Str} {S S' : DSp} {f : Addr} {fd : FuncData} {ps : List Str} (F : FnOk PR w K mg base (L2.CX PR w) k f fd ps (toSp T n S')) (h : ∀ ds Om Q R, ds.length = n → S ds Om Q R → S' ds Om Q R)
    (g : mg x = some (.ref f)) (kp : PySem.W.keepIn K (.ref f) = true) (b : KB K fd ps m ks) (e : n = m + ks.length) : ClK PR w K mg base T k x n m ks S := ⟨_, _, _, F.imp (toSp_imp h), g, kp, b, e⟩
/-- a callable of which nothing is asked -/
theorem cl_no {PR : Program} {w : World} {K : PySem.W.Frag} {mg : Str → Option Value} {base : Heap} {T : Th} {k : Nat} {x : Str} {n : Nat} {f : Addr} {fd : FuncData} {ps : List Str}
    (g : mg x = some (.ref f)) (kp : PySem.W.keepIn K (.ref f) = true) (b : Binds K fd ps []) : Cl PR w K mg base T k x n (fun _ _ _ _ => False) :=
  have no : ∀ vs H Q E, toSp T n (fun _ _ _ _ => False) vs H Q E → False := fun _ _ _ _ ⟨_, _, _, _, _, _, _, z, _⟩ => z
  ⟨_, _, _, ⟨fun _ _ _ _ h => (no _ _ _ _ h).elim, fun _ _ _ _ _ _ _ _ _ _ _ _ _ h => (no _ _ _ _ h).elim⟩, g, kp, b⟩
/-- the law's own promise -/
theorem sp_start {T : Th} {S : DSp} {H : Hp} {a : Addr} {ns : List Int} (h : SqL T.K H a (ns.map V.int)) (hs : S [.scr ns] (fun _ => none) (fun d _ => d = .bl true) (fun _ _ => False)) : toSp T 1 S [.ref a] H (fun v _ => v = .bl true) fun _ _ _ => False := by
  refine ⟨[.scr ns], ⟨fun _ => none, fun _ _ => False, fun _ => False⟩, _, _, rfl, .cons ?_ .nil, ⟨fun _ _ e => (by cases e), fun b ⟨_, z, _⟩ => (z rfl).elim, fun _ _ _ z => (z rfl).elim, fun _ z => z.elim, fun _ _ z => z.elim⟩, hs, fun d O q v H' W' s e r => ?_, fun x O z => z.elim⟩
  · simp only [Rep]
    refine ⟨a, rfl, ?_⟩
    rcases h with h | h
    · exact .inl ⟨h, fun z => z⟩
    · exact .inr (.inr h)
  · subst q
    simpa [Rep] using r
theorem walk_of {l : PySem.W.OpenLaw} {n k : Nat} {q : Program} {loose : List Str} {XP : (Str → Option Value) → Heap → Prop} {YP : World → Heap → Prop} {d : DefRec} {x : Str}
    (hn : l.most = some n) (hn2 : n ≤ sizeLine) (hdf : d.params.defaults = []) (hr : Room k callerA)
    (F : ∀ (w : World) (mg : Str → Option Value) (fa : Addr) (h : Heap), YP w h → h.Ns mainGlobals mg → mg d.name = some (.ref fa) →
      ∃ (T : Th) (fd : FuncData) (S : DSp), T.K.In h ∧ (∀ (s : Shared) (u : Value), BindsTo s fd ⟨[u], []⟩ [(x, u)]) ∧
        (∀ ns : List Int, ns.length ≤ n → (∀ z ∈ ns, Builtin.Int.intBits z ≤ 1048576) → S [.scr ns] (fun _ => none) (fun d _ => d = .bl true) (fun _ _ => False)) ∧
        ∀ base : Heap, T.K.In base → base.Ns mainGlobals mg → FnOk l.prog w T.K mg base (L2.CX l.prog w) k fa fd [x] (toSp T 1 S)) :
    PySem.W.WalkO q loose XP YP l.row.toRowW d [] (fun f vs => PySem.call f vs) := by
  refine Att.attach_callB hn hdf fun w s₀ s₁ mg mb fa o pm cd doc a vs ns G Y ho hd hcd hmg hobj hints hlen hbits hg => ?_
  obtain ⟨T, fd, S, KX, hb, hsp, hF⟩ := F w mg fa _ Y G.T.g hmg
  refine law_call (CX := L2.CX l.prog w) KX G.T.g G.T.b G.T.builtins G.T.nolimit hg hobj hints (Nat.le_trans hlen hn2) hr hF hb (fun H hO hS => sp_start hS (hsp ns hlen hbits)) fun H e s' h => ?_
  obtain ⟨_, _, h⟩ := h
  simp at h
end N

set_option Elab.async false
set_option linter.all false
set_option maxRecDepth 100000
/-! LT: digests, trees, ways: plain -/
namespace N
open PySem PySem.Spec PyProof.Rows L2
def Oct (os : List Int) : Prop := ∀ o ∈ os, 0 ≤ o ∧ o < 256
abbrev iD (os : List Int) : List D := os.map D.int
abbrev oD (os : List Int) : D := .tup (iD os)
def octs (n : Int) (k : Nat) : List Int := (List.range k).map fun (i : Nat) => n / 2 ^ (8 * (k - 1 - i)) % 256
def tot (m : Int) (os : List Int) : Int := os.foldl (fun t o => (t * 31 + o + 1) % m) 1
def dig (n : Nat) (os : List Int) : List Int := octs (tot (2 ^ (8 * n)) os) n
theorem octs_len (n : Int) (k : Nat) : (octs n k).length = k := by simp [octs]
theorem octs_oct (n : Int) (k : Nat) : Oct (octs n k) := fun o h => by
  obtain ⟨i, _, rfl⟩ := List.mem_map.mp h
  exact ⟨Int.emod_nonneg _ (by decide), Int.emod_lt_of_pos _ (by decide)⟩
theorem dig_len (n : Nat) (os : List Int) : (dig n os).length = n := octs_len _ _
theorem dig_oct (n : Nat) (os : List Int) : Oct (dig n os) := octs_oct _ _
theorem tot_fold (m : Int) (hm : 1 < m) : ∀ (os : List Int) (t : Int), 0 ≤ t → t < m → 0 ≤ os.foldl (fun t o => (t * 31 + o + 1) % m) t ∧ os.foldl (fun t o => (t * 31 + o + 1) % m) t < m
  | [], t, h0, h1 => ⟨h0, h1⟩
  | o :: os, t, h0, h1 => tot_fold m hm os _ (Int.emod_nonneg _ (by omega)) (Int.emod_lt_of_pos _ (by omega))
theorem tot_rng (m : Int) (hm : 1 < m) (os : List Int) : 0 ≤ tot m os ∧ tot m os < m := tot_fold m hm os 1 (by omega) hm
/-! ### trees -/
def halve (f : List Int → List Int) : List (List Int) → List (List Int)
  | a :: b :: r => f (1 :: (a ++ b)) :: halve f r
  | _ => []
theorem halve_len (f : List Int → List Int) : ∀ row : List (List Int), (halve f row).length = row.length / 2
  | [] => rfl
  | [_] => by simp [halve]
  | a :: b :: r => by
    rw [halve, List.length_cons, halve_len f r]
    simp only [List.length_cons]
    omega
theorem halve_get (f : List Int → List Int) : ∀ (row : List (List Int)) (k : Nat) (a b : List Int), row[2 * k]? = some a → row[2 * k + 1]? = some b → (halve f row)[k]? = some (f (1 :: (a ++ b)))
  | [], k, a, b, h, _ => by simp at h
  | [x], k, a, b, _, h => by simp at h
  | x :: y :: r, 0, a, b, h, h2 => by simp at h h2; subst h h2; rfl
  | x :: y :: r, k + 1, a, b, h, h2 => by
    rw [halve, List.getElem?_cons_succ]
    exact halve_get f r k a b (by rw [← h, show 2 * (k + 1) = 2 * k + 1 + 1 by omega]; rfl) (by rw [← h2, show 2 * (k + 1) + 1 = 2 * k + 1 + 1 + 1 by omega]; rfl)
def lev (f : List Int → List Int) : Nat → List (List Int) → List (List (List Int))
  | 0, row => [row]
  | d + 1, row => row :: lev f d (halve f row)
theorem lev_len (f : List Int → List Int) : ∀ (d : Nat) (row : List (List Int)), (lev f d row).length = d + 1
  | 0, _ => rfl
  | d + 1, row => by rw [lev, List.length_cons, lev_len f d]
def dep (c : Nat) : Nat := if c ≤ 1 then 0 else Nat.log2 (c - 1) + 1
theorem dep_le (c : Nat) : c ≤ 2 ^ dep c := by
  unfold dep
  by_cases h : c ≤ 1
  · rw [if_pos h]; simpa using h
  · rw [if_neg h]
    have := Nat.lt_log2_self (n := c - 1)
    omega
theorem dep_lt (c d : Nat) (h : d < dep c) : 2 ^ d < c := by
  unfold dep at h
  by_cases hc : c ≤ 1
  · rw [if_pos hc] at h; omega
  · rw [if_neg hc] at h
    have h1 := Nat.log2_self_le (n := c - 1) (by omega)
    have h2 : 2 ^ d ≤ 2 ^ Nat.log2 (c - 1) := Nat.pow_le_pow_right (by omega) (by omega)
    omega
def row0 (f : List Int → List Int) (ps : List (List Int)) : List (List Int) := ps.map (fun p => f (0 :: p)) ++ List.replicate (2 ^ dep ps.length - ps.length) (f [2])
theorem row0_len (f : List Int → List Int) (ps : List (List Int)) : (row0 f ps).length = 2 ^ dep ps.length := by
  have := dep_le ps.length
  simp [row0]
  omega
def rows (f : List Int → List Int) (ps : List (List Int)) : List (List (List Int)) := lev f (dep ps.length) (row0 f ps)
def topR (rs : List (List (List Int))) : List Int := (rs.getLastD []).headD []
def sib (j : Nat) : Nat := j + 1 - 2 * (j % 2)
def prf (rs : List (List (List Int))) (i : Nat) : List (List Int) := (List.range (rs.length - 1)).map fun h => (rs.getD h []).getD (sib (i / 2 ^ h)) []
def nod (f : List Int → List Int) (i h : Nat) (t o : List Int) : List Int := if i / 2 ^ h % 2 = 1 then 1 :: (o ++ f t) else 1 :: (f t ++ o)
def wayG (f : List Int → List Int) (i : Nat) : Nat → List Int → List (List Int) → List (List Int)
  | _, t, [] => [t]
  | h, t, o :: r => t :: wayG f i (h + 1) (nod f i h t o) r
def way (f : List Int → List Int) (i : Nat) (p : List Int) (pr : List (List Int)) : List (List Int) := wayG f i 0 (0 :: p) pr
theorem wayG_len (f : List Int → List Int) (i : Nat) : ∀ (h : Nat) (t : List Int) (pr : List (List Int)), (wayG f i h t pr).length = pr.length + 1
  | _, _, [] => rfl
  | h, t, o :: r => by rw [wayG, List.length_cons, wayG_len f i, List.length_cons]
theorem way_len (f : List Int → List Int) (i : Nat) (p : List Int) (pr : List (List Int)) : (way f i p pr).length = pr.length + 1 := wayG_len f i 0 _ pr
def fold (f : List Int → List Int) (i : Nat) (p : List Int) (pr : List (List Int)) : List Int := f ((way f i p pr).getLastD [])
/-- the first pair of different texts with one digest -/
def part (f : List Int → List Int) : List (List Int) → List (List Int) → Option (List Int × List Int)
  | a :: r, b :: r' => if a ≠ b ∧ f a = f b then some (a, b) else part f r r'
  | _, _ => none
/-! ### forms -/
mutual
def plD : D → Bool
  | .non => true
  | .bl _ => true
  | .int _ => true
  | .str _ => true
  | .tup xs => plL xs
  | .lst xs => plL xs
  | _ => false
def plL : List D → Bool
  | [] => true
  | d :: ds => plD d && plL ds
end
theorem plL_mem : ∀ {xs : List D}, plL xs = true → ∀ d ∈ xs, plD d = true
  | [], _, d, h => by cases h
  | x :: xs, h, d, hd => by
    simp only [plL, Bool.and_eq_true] at h
    cases hd with
    | head => exact h.1
    | tail _ hd => exact plL_mem h.2 d hd
theorem plL_of : ∀ {xs : List D}, (∀ d ∈ xs, plD d = true) → plL xs = true
  | [], _ => by simp [plL]
  | x :: xs, h => by
    simp only [plL, Bool.and_eq_true]
    exact ⟨h x List.mem_cons_self, plL_of fun d hd => h d (List.mem_cons_of_mem _ hd)⟩
theorem plL_ints (os : List Int) : plL (iD os) = true := plL_of fun d hd => by
  obtain ⟨o, _, rfl⟩ := List.mem_map.mp hd
  simp [plD]
theorem plD_o (os : List Int) : plD (oD os) = true := by
  show plD (.tup (iD os)) = true
  simp only [plD, plL_ints]
theorem plL_os (ps : List (List Int)) : plL (ps.map oD) = true := plL_of fun d hd => by
  obtain ⟨o, _, rfl⟩ := List.mem_map.mp hd
  exact plD_o o
def intB : D → Bool
  | .int _ => true
  | _ => false
def isOct : D → Bool
  | .int i => decide (0 ≤ i) && decide (i ≤ 255)
  | _ => false
def isOcts (sz : Option Nat) : D → Bool
  | .tup xs => (match sz with | none => true | some n => decide (xs.length = n)) && xs.all isOct
  | _ => false
def szD : Option Nat → D
  | none => .non
  | some n => .int n
def octB (os : List Int) : Bool := os.all fun o => decide (0 ≤ o) && decide (o ≤ 255)
theorem octB_of {os : List Int} (h : Oct os) : octB os = true := List.all_eq_true.mpr fun o ho => by
  have := h o ho
  simp
  omega
theorem isOcts_o (sz : Option Nat) (os : List Int) : isOcts sz (oD os) = ((match sz with | none => true | some n => decide (os.length = n)) && octB os) := by
  unfold isOcts octB
  cases sz <;> simp [List.all_map, Function.comp_def, isOct]
def isPrf (n c : Nat) : D → Bool
  | .tup xs => decide (xs.length = dep c) && xs.all (isOcts (some n))
  | _ => false
abbrev hN : List Str := ["kind", "size", "start", "rounds"]
abbrev kindD (n : Nat) : D := .tup [.str "sum", .int (n : Int)]
abbrev hV (n : Nat) : List D := [kindD n, .int (n : Int), .tup [], .tup []]
abbrev hashD (c n : Nat) : D := .ins c hN (hV n)
abbrev rowsD (rs : List (List (List Int))) : D := .lst (rs.map fun r => .lst (r.map oD))
abbrev osD (ps : List (List Int)) : D := .tup (ps.map oD)
def seqD (d : D) (ps : List (List Int)) : Prop := d = .tup (ps.map oD) ∨ d = .lst (ps.map oD)
end N
namespace N
open PySem PySem.Spec PyProof.Rows L2
theorem lk_kind {n : Nat} : lk hN (hV n) "kind" = some (kindD n) := rfl
theorem lk_size {n : Nat} : lk hN (hV n) "size" = some (.int (n : Int)) := rfl
theorem lk_digest {n : Nat} : lk hN (hV n) "digest" = none := rfl
theorem lk_is_digest {n : Nat} : lk hN (hV n) "is_digest" = none := rfl
section
variable {Q : List D → Prop} {xs ys : List D}
theorem gEnum_t : gEnum [.tup xs] Q = Q (enumF 0 xs) := rfl
theorem gEnum_l : gEnum [.lst xs] Q = Q (enumF 0 xs) := rfl
theorem gZip_t : gZip [.tup xs, .tup ys] Q = Q (zipF xs ys) := rfl
theorem gZip_l : gZip [.lst xs, .lst ys] Q = Q (zipF xs ys) := rfl
end
theorem mem1 {c : Nat} : (c ∈ [c]) = True := by simp
end N

set_option Elab.async false
set_option linter.all false
set_option maxRecDepth 100000
/-! CS: promises of defs that many laws share -/
namespace N
open PySem PySem.Spec PyProof.Rows L2
abbrev HC : Nat := 4
abbrev hsh (n : Nat) : D := hashD HC n
def Szs (ps : List (List Int)) : Prop := ps.length ≤ 5000 ∧ ∀ p ∈ ps, p.length ≤ 100000
def sp_is_integer : DSp := fun ds Om Q _ => ∃ d, ds = [d] ∧ plD d = true ∧ Q (.bl (intB d)) Om
def sp_is_octet : DSp := fun ds Om Q _ => ∃ d, ds = [d] ∧ plD d = true ∧ Q (.bl (isOct d)) Om
def sp_is_octets : DSp := fun ds Om Q _ => ∃ d sz, ds = [d, szD sz] ∧ plD d = true ∧ (∀ xs, d = .tup xs → xs.length ≤ 16777216) ∧ Q (.bl (isOcts sz d)) Om
def sp_as_octets : DSp := fun ds Om Q _ => ∃ (n : Int) (k : Nat), ds = [.int n, .int k] ∧ 0 ≤ n ∧ n < 2 ^ (8 * k) ∧ k ≤ 1000 ∧ Q (oD (octs n k)) Om
def sp_depth : DSp := fun ds Om Q _ => ∃ c : Nat, ds = [.int c] ∧ c ≤ 1048576 ∧ Q (.int (dep c)) Om
def sp_leaf_text : DSp := fun ds Om Q _ => ∃ os, ds = [oD os] ∧ os.length ≤ 1000000 ∧ Q (oD (0 :: os)) Om
def sp_node_text : DSp := fun ds Om Q _ => ∃ a b, ds = [oD a, oD b] ∧ a.length ≤ 1000000 ∧ b.length ≤ 1000000 ∧ Q (oD (1 :: (a ++ b))) Om
def sp_is_kind : DSp := fun ds Om Q _ => ∃ n : Nat, ds = [kindD n] ∧ 1 ≤ n ∧ n ≤ 8 ∧ Q (.bl true) Om
def sp_check_kind : DSp := fun ds Om Q _ => ∃ n : Nat, ds = [kindD n] ∧ 1 ≤ n ∧ n ≤ 8 ∧ Q .non Om
def sp_plain_sum : DSp := fun ds Om Q _ => ∃ (os : List Int) (n : Nat), ds = [oD os, .int n] ∧ 1 ≤ n ∧ n ≤ 8 ∧ Q (oD (dig n os)) Om
def sp_Hasher___init__ : DSp := fun ds Om Q _ => ∃ (a : Addr) (n : Nat), ds = [.ref a, kindD n] ∧ Om a = some (.ins HC [] []) ∧ 1 ≤ n ∧ n ≤ 8 ∧ Q .non (putO Om a (.ins HC hN (hV n)))
def sp_Hasher_digest : DSp := fun ds Om Q _ => ∃ (os : List Int) (n : Nat), ds = [hsh n, oD os] ∧ 1 ≤ n ∧ n ≤ 8 ∧ Q (oD (dig n os)) Om
def sp_Hasher_is_digest : DSp := fun ds Om Q _ => ∃ (d : D) (n : Nat), ds = [hsh n, d] ∧ plD d = true ∧ (∀ xs, d = .tup xs → xs.length ≤ 16777216) ∧ Q (.bl (isOcts (some n) d)) Om
def sp_levels : DSp := fun ds Om Q _ => ∃ (d : D) (ps : List (List Int)) (n : Nat), ds = [hsh n, d] ∧ seqD d ps ∧ Szs ps ∧ 1 ≤ n ∧ n ≤ 8 ∧ Q (rowsD (rows (dig n) ps)) Om
def sp_root : DSp := fun ds Om Q _ => ∃ (d : D) (ps : List (List Int)) (n : Nat), ds = [hsh n, d] ∧ seqD d ps ∧ Szs ps ∧ 1 ≤ n ∧ n ≤ 8 ∧ Q (oD (topR (rows (dig n) ps))) Om
def sp_proofs : DSp := fun ds Om Q _ => ∃ (d : D) (ps : List (List Int)) (n : Nat), ds = [hsh n, d] ∧ seqD d ps ∧ Szs ps ∧ 1 ≤ n ∧ n ≤ 8 ∧ Q (.tup ((List.range ps.length).map fun i => osD (prf (rows (dig n) ps) i))) Om
def sp_path : DSp := fun ds Om Q _ => ∃ (i : Nat) (p : List Int) (pr : List (List Int)) (n : Nat), ds = [hsh n, .int i, oD p, osD pr] ∧ p.length ≤ 100000 ∧ (∀ o ∈ pr, o.length ≤ 100000) ∧ pr.length ≤ 100 ∧ 1 ≤ n ∧ n ≤ 8 ∧ Q (.lst ((way (dig n) i p pr).map oD)) Om
def sp_fold : DSp := fun ds Om Q _ => ∃ (i : Nat) (p : List Int) (pr : List (List Int)) (n : Nat), ds = [hsh n, .int i, oD p, osD pr] ∧ p.length ≤ 100000 ∧ (∀ o ∈ pr, o.length ≤ 100000) ∧ pr.length ≤ 100 ∧ 1 ≤ n ∧ n ≤ 8 ∧ Q (oD (fold (dig n) i p pr)) Om
def sp_is_proof : DSp := fun ds Om Q _ => ∃ (c : Nat) (d : D) (n : Nat), ds = [hsh n, .int c, d] ∧ c ≤ 1048576 ∧ plD d = true ∧ (∀ xs, d = .tup xs → xs.length ≤ 16777216 ∧ ∀ x ∈ xs, ∀ ys, x = .tup ys → ys.length ≤ 16777216) ∧ Q (.bl (isPrf n c d)) Om
def sp_fits : DSp := fun ds Om Q _ => ∃ (n : Nat) (top : List Int) (c i : Nat) (p : List Int) (pr : List (List Int)), ds = [hsh n, oD top, .int c, .int i, oD p, osD pr] ∧ i < c ∧ c ≤ 1048576 ∧ Oct p ∧ p.length ≤ 100000 ∧ pr.length = dep c ∧ (∀ o ∈ pr, Oct o ∧ o.length = n) ∧ 1 ≤ n ∧ n ≤ 8 ∧ Q (.bl (decide (fold (dig n) i p pr = top))) Om
def prtD : Option (List Int × List Int) → D
  | some (a, b) => .tup [oD a, oD b]
  | none => .non
def sp_parted : DSp := fun ds Om Q R => ∃ (n : Nat) (ps : List (List Int)) (i : Nat) (p : List Int) (pr : List (List Int)), ds = [hsh n, osD ps, .int i, oD p, osD pr] ∧ i < ps.length ∧ Szs ps ∧ (∀ p ∈ ps, Oct p) ∧ Oct p ∧ p.length ≤ 100000 ∧ pr.length = dep ps.length ∧ (∀ o ∈ pr, Oct o ∧ o.length = n) ∧ 1 ≤ n ∧ n ≤ 8 ∧
  (fold (dig n) i p pr ≠ topR (rows (dig n) ps) → R ⟨3, [], []⟩ Om) ∧ (fold (dig n) i p pr = topR (rows (dig n) ps) → Q (prtD (part (dig n) (way (dig n) i (ps.getD i []) (prf (rows (dig n) ps) i)) (way (dig n) i p pr))) Om)
def sp__law_cell : DSp := fun ds Om Q _ => ∃ (ns : List Int) (k : Nat), ds = [.scr ns, .int k] ∧ ∀ c : Int, Q (.int c) Om
def sp__law_rich : DSp := fun ds Om Q _ => ∃ (c : Int) (k : Nat), ds = [.int c, .int k] ∧ k ≤ 1000 ∧ ∀ r : Int, 0 ≤ r → Q (.int r) Om
end N

set_option Elab.async false
set_option linter.all false
set_option maxRecDepth 100000
namespace N
open PySem PySem.Spec PyProof.Rows L2
def w_is_integer : WS := (wRet (wAnd (wCall gIsi (waCons (wVarB 0) (waCons (wC (.ty "int")) waNil))) (wNot (wCall gIsi (waCons (wVarB 0) (waCons (wC (.ty "bool")) waNil))))))
def w_is_octet : WS := (wRet (wAnd (wCallU 1 sp_is_integer [] (waCons (wVar 0) waNil)) (wAnd (wBin (gLe) (wC (.int 0)) (wVarB 0)) (wBin (gLe) (wVarB 0) (wC (.int 255))))))
def w_is_octets : WS := (wSeq (wIfS (wtOr (wtNot (wTst (wCall gIsi (waCons (wVarB 0) (waCons (wC (.ty "tuple")) waNil))))) (wtAnd (wTst (wBin (gIsNot) (wVarB 1) (wC .non))) (wTst (wBin (gNe) (wCall gLen (waCons (wVarB 0) waNil)) (wVarB 1))))) (wRet (wC (.bl false))) wNext)
  (wRet (wCall gAll (waCons (wFrz (wComp (wIt (wVarB 0)) (fName 2) wtYes (wCallU 1 sp_is_octet [] (waCons (wVar 2) waNil)) [2])) waNil))))
def w_as_octets : WS := (wSeq (wIfS (wtOr (wTst (wBin (gLt) (wVarB 0) (wC (.int 0)))) (wTst (wBin (gNe) (wBin (gShr) (wVarB 0) (wBin (gMul) (wC (.int 8)) (wVarB 1))) (wC (.int 0))))) (wRaise 1) wNext)
  (wRet (wCall gTuple (waCons (wFrz (wComp (wRng gRng3 (waCons (wBin (gSub) (wVarB 1) (wC (.int 1))) (waCons (wUn gNeg (wC (.int 1))) (waCons (wUn gNeg (wC (.int 1))) waNil)))) (fName 2) wtYes (wBin (gAnd) (wBin (gShr) (wVarB 0) (wBin (gMul) (wC (.int 8)) (wVarB 2))) (wC (.int 255))) [2])) waNil))))
abbrev w_depth_b1 : WS := (wAug 1 (gI0 fun i j => i + j) (wC (.int 1)))
def w_depth : WS := (wSeq (wSet 1 (wC (.int 0)))
  (wSeq (wWh (wTst (wBin (gLt) (wBin (gShl) (wC (.int 1)) (wVarB 1)) (wVarB 0))) (w_depth_b1))
  (wRet (wVar 1))))
def w_leaf_text : WS := (wRet (wBin (gAdd) (wTup (waCons (wC (.int 0)) waNil)) (wVarB 0)))
def w_node_text : WS := (wRet (wBin (gAdd) (wBin (gAdd) (wTup (waCons (wC (.int 1)) waNil)) (wVarB 0)) (wVarB 1)))
abbrev w_plain_sum_b1 : WS := (wSet 3 (wBin (gMod) (wBin (gAdd) (wBin (gAdd) (wBin (gMul) (wVarB 3) (wC (.int 31))) (wVarB 4)) (wC (.int 1))) (wVarB 2)))
def w_plain_sum : WS := (wSeq (wSet 2 (wBin (gShl) (wC (.int 1)) (wBin (gMul) (wC (.int 8)) (wVarB 1))))
  (wSeq (wSet 3 (wC (.int 1)))
  (wSeq (wFor (wIt (wVar 0)) (fName 4) (w_plain_sum_b1))
  (wRet (wCallK 1 2 sp_as_octets (waCons (wVar 3) waNil) (waCons (wVar 1) waNil))))))
def w_Hasher_digest : WS := (wSeq (wIfS (wTst (wBin (gEq) (wBin gIx (wFld [4] "kind" (wVarB 0)) (wC (.int 0))) (wC (.str "sum")))) (wRet (wCallU 2 sp_plain_sum [] (waCons (wVar 1) (waCons (wFld [4] "size" (wVarB 0)) waNil)))) wNext)
  wNev)
abbrev w_levels_b1 : WS := (wSeq (wSetO 2 (wComp (wRng gRng3 (waCons (wC (.int 0)) (waCons (wCall gLen (waCons (wVarB 2) waNil)) (waCons (wC (.int 2)) waNil)))) (fName 7) wtYes (wMeth 4 "digest" 2 sp_Hasher_digest (wVar 0) (waCons (wCallU 2 sp_node_text [] (waCons (wBin gIx (wVarB 2) (wVarB 7)) (waCons (wBin gIx (wVarB 2) (wBin (gAdd) (wVarB 7) (wC (.int 1)))) waNil))) waNil)) [7]))
  (wFz 2 (wApp 4 (wVar 2))))
def w_levels : WS := (wSeq (wSetO 2 (wComp (wIt (wVarB 1)) (fName 5) wtYes (wMeth 4 "digest" 2 sp_Hasher_digest (wVar 0) (waCons (wCallU 1 sp_leaf_text [] (waCons (wVar 5) waNil)) waNil)) [5]))
  (wSeq (wSet 3 (wMeth 4 "digest" 2 sp_Hasher_digest (wVar 0) (waCons (wTup (waCons (wC (.int 2)) waNil)) waNil)))
  (wSeq (wExt 2 (wFrz (wComp (wRng gRng1 (waCons (wBin (gSub) (wBin (gShl) (wC (.int 1)) (wCallU 1 sp_depth [] (waCons (wCall gLen (waCons (wVarB 1) waNil)) waNil))) (wCall gLen (waCons (wVarB 1) waNil))) waNil)) (fName 6) wtYes (wVar 3) [6])))
  (wFz 2 (wSeq (wSetO 4 (wLst (waCons (wVar 2) waNil)))
  (wSeq (wWh (wTst (wBin (gGt) (wCall gLen (waCons (wVarB 2) waNil)) (wC (.int 1)))) (w_levels_b1))
  (wRetO 4)))))))
def w_root : WS := (wRet (wBin gIx (wBin gIx (wCallU 2 sp_levels [] (waCons (wVar 0) (waCons (wVar 1) waNil))) (wUn gNeg (wC (.int 1)))) (wC (.int 0))))
abbrev w_proofs_b1 : WS := (wApp 3 (wCall gTuple (waCons (wFrz (wComp (wRng gEnum (waCons (wSl (wVarB 2) woNone (woSome (wUn gNeg (wC (.int 1))))) waNil)) (fTup 2 (fCons (fName 5) (fCons (fName 6) fNil))) wtYes (wBin gIx (wVarB 6) (wBin (gXor) (wBin (gShr) (wVarB 4) (wVarB 5)) (wC (.int 1)))) [5, 6])) waNil)))
def w_proofs : WS := (wSeq (wSet 2 (wCallU 2 sp_levels [] (waCons (wVar 0) (waCons (wVar 1) waNil))))
  (wSeq (wSetO 3 (wLst waNil))
  (wSeq (wFor (wRng gRng1 (waCons (wCall gLen (waCons (wVarB 1) waNil)) waNil)) (fName 4) (w_proofs_b1))
  (wRet (wCall gTuple (waCons (wVarB 3) waNil))))))
abbrev w_path_b1 : WS := (wSeq (wSet 7 (wMeth 4 "digest" 2 sp_Hasher_digest (wVar 0) (waCons (wBin gIx (wVarB 4) (wUn gNeg (wC (.int 1)))) waNil)))
  (wApp 4 (wIf (wTst (wBin (gEq) (wBin (gAnd) (wBin (gShr) (wVarB 1) (wVarB 5)) (wC (.int 1))) (wC (.int 1)))) (wCallU 2 sp_node_text [] (waCons (wVar 6) (waCons (wVar 7) waNil))) (wCallU 2 sp_node_text [] (waCons (wVar 7) (waCons (wVar 6) waNil))))))
def w_path : WS := (wSeq (wSetO 4 (wLst (waCons (wCallU 1 sp_leaf_text [] (waCons (wVar 2) waNil)) waNil)))
  (wSeq (wFor (wRng gEnum (waCons (wVar 3) waNil)) (fTup 2 (fCons (fName 5) (fCons (fName 6) fNil))) (w_path_b1))
  (wRetO 4)))
def w_fold : WS := (wRet (wMeth 4 "digest" 2 sp_Hasher_digest (wVar 0) (waCons (wBin gIx (wCallU 4 sp_path [] (waCons (wVar 0) (waCons (wVar 1) (waCons (wVar 2) (waCons (wVar 3) waNil))))) (wUn gNeg (wC (.int 1)))) waNil)))
def w_Hasher_is_digest : WS := (wRet (wCallK 1 2 sp_is_octets (waCons (wVar 1) waNil) (waCons (wFld [4] "size" (wVarB 0)) waNil)))
def w_is_proof : WS := (wSeq (wIfS (wtOr (wtNot (wTst (wCall gIsi (waCons (wVarB 2) (waCons (wC (.ty "tuple")) waNil))))) (wTst (wBin (gNe) (wCall gLen (waCons (wVarB 2) waNil)) (wCallU 1 sp_depth [] (waCons (wVar 1) waNil))))) (wRet (wC (.bl false))) wNext)
  (wRet (wCall gAll (waCons (wFrz (wComp (wIt (wVarB 2)) (fName 3) wtYes (wMeth 4 "is_digest" 2 sp_Hasher_is_digest (wVar 0) (waCons (wVar 3) waNil)) [3])) waNil))))
def w_fits : WS := (wSeq (wIfS (wtOr (wtNot (wTst (wCallU 1 sp_is_integer [] (waCons (wVar 3) waNil)))) (wtOr (wTst (wBin (gLt) (wVarB 3) (wC (.int 0)))) (wTst (wBin (gGe) (wVarB 3) (wVarB 2))))) (wRet (wC (.bl false))) wNext)
  (wSeq (wIfS (wtOr (wtNot (wTst (wCallU 2 sp_is_octets [.non] (waCons (wVar 4) waNil)))) (wtNot (wTst (wCallU 3 sp_is_proof [] (waCons (wVar 0) (waCons (wVar 2) (waCons (wVar 5) waNil))))))) (wRet (wC (.bl false))) wNext)
  (wRet (wBin (gEq) (wCallU 4 sp_fold [] (waCons (wVar 0) (waCons (wVar 3) (waCons (wVar 4) (waCons (wVar 5) waNil))))) (wVarB 1)))))
abbrev w_parted_b1 : WS := (wIfS (wtAnd (wTst (wBin (gNe) (wVarB 6) (wVarB 7))) (wTst (wBin (gEq) (wMeth 4 "digest" 2 sp_Hasher_digest (wVar 0) (waCons (wVar 6) waNil)) (wMeth 4 "digest" 2 sp_Hasher_digest (wVar 0) (waCons (wVar 7) waNil))))) (wRet (wTup (waCons (wVar 6) (waCons (wVar 7) waNil)))) wNext)
def w_parted : WS := (wSeq (wIfS (wtNot (wTst (wCallU 6 sp_fits [] (waCons (wVar 0) (waCons (wCallU 2 sp_root [] (waCons (wVar 0) (waCons (wVar 1) waNil))) (waCons (wCall gLen (waCons (wVarB 1) waNil)) (waCons (wVar 2) (waCons (wVar 3) (waCons (wVar 4) waNil))))))))) (wRaise 3) wNext)
  (wSeq (wSet 5 (wCallU 4 sp_path [] (waCons (wVar 0) (waCons (wVar 2) (waCons (wBin gIx (wVarB 1) (wVarB 2)) (waCons (wBin gIx (wCallU 2 sp_proofs [] (waCons (wVar 0) (waCons (wVar 1) waNil))) (wVarB 2)) waNil))))))
  (wSeq (wFor (wRng gZip (waCons (wVar 5) (waCons (wCallU 4 sp_path [] (waCons (wVar 0) (waCons (wVar 2) (waCons (wVar 3) (waCons (wVar 4) waNil))))) waNil))) (fTup 2 (fCons (fName 6) (fCons (fName 7) fNil))) (w_parted_b1))
  (wRet (wC .non)))))
def w_is_kind : WS := (wSeq (wIfS (wtOr (wtNot (wTst (wCall gIsi (waCons (wVarB 0) (waCons (wC (.ty "tuple")) waNil))))) (wtOr (wTst (wBin (gNe) (wCall gLen (waCons (wVarB 0) waNil)) (wC (.int 2)))) (wtOr (wtNot (wTst (wCall gIsi (waCons (wBin gIx (wVarB 0) (wC (.int 0))) (waCons (wC (.ty "str")) waNil))))) (wtNot (wTst (wCallU 1 sp_is_integer [] (waCons (wBin gIx (wVarB 0) (wC (.int 1))) waNil))))))) (wRet (wC (.bl false))) wNext)
  (wSeq (wIfS (wTst (wBin (gEq) (wBin gIx (wVarB 0) (wC (.int 0))) (wC (.str "sha")))) (wRet (wBin (gEq) (wBin gIx (wVarB 0) (wC (.int 1))) (wC (.int 24)))) wNext)
  (wRet (wAnd (wBin (gEq) (wBin gIx (wVarB 0) (wC (.int 0))) (wC (.str "sum"))) (wAnd (wBin (gLe) (wC (.int 1)) (wBin gIx (wVarB 0) (wC (.int 1)))) (wBin (gLe) (wBin gIx (wVarB 0) (wC (.int 1))) (wC (.int 8))))))))
def w_check_kind : WS := (wIfS (wtNot (wTst (wCallU 1 sp_is_kind [] (waCons (wVar 0) waNil)))) (wRaise 2) wNext)
def w_Hasher___init__ : WS := (wSeq (wDrop (wCallU 1 sp_check_kind [] (waCons (wVar 1) waNil)))
  (wSeq (wSetF [4] "kind" (wVar 1) (wVar 0))
  (wSeq (wSetF [4] "size" (wBin gIx (wVarB 1) (wC (.int 1))) (wVar 0))
  (wSeq (wSetF [4] "start" (wTup waNil) (wVar 0))
  (wSeq (wSetF [4] "rounds" (wTup waNil) (wVar 0))
  (wIfS (wTst (wBin (gEq) (wBin gIx (wVarB 1) (wC (.int 0))) (wC (.str "sha")))) (wSeq wNev
  wNev) wNext))))))
def w__law_cell : WS := (wSeq (wIfS (wTst (wBin (gLt) (wVarB 1) (wCall gLen (waCons (wVarB 0) waNil)))) (wRet (wCall gInt (waCons (wBin gIx (wVarB 0) (wVarB 1)) waNil))) wNext)
  (wRet (wC (.int 0))))
def w__law_rich : WS := (wSeq (wIfS (wTst (wBin (gGe) (wVarB 0) (wBin (gPow) (wC (.int 10)) (wC (.int 18))))) (wRet (wCall gInt (waCons (wVarB 0) waNil))) wNext)
  (wSeq (wSet 2 (wBin (gMod) (wCall gInt (waCons (wBin (gAdd) (wBin (gAdd) (wBin (gMul) (wVarB 0) (wC (.int 48271))) (wBin (gMul) (wVarB 1) (wC (.int 69621)))) (wC (.int 11))) waNil)) (wC (.int 2147483647))))
  (wRet (wBin (gAdd) (wBin (gMul) (wVarB 2) (wC (.int 2147483629))) (wBin (gMod) (wCall gInt (waCons (wBin (gAdd) (wBin (gMul) (wVarB 2) (wC (.int 16807))) (wVarB 0)) waNil)) (wC (.int 2147483629)))))))
end N

set_option Elab.async false
set_option linter.all false
set_option maxRecDepth 100000
set_option maxHeartbeats 0
namespace N
open PySem PySem.Spec PyProof.Rows L2
local macro_rules | `(tactic| tm_at "nw") => `(tactic| try simp only [wFn, startG_c, startG_n, startG_z, wSeq, wSet, wC, wFor, wIt, wVar, wVarB, getSl_z, getSl_s, List.set_cons_zero, List.set_cons_succ, wRet, wBin, gI_i, gI0_i, gB0_i, gAdd_i, gAdd_t, gAdd_l, gAdd_s, gMul_i, gMul_t, gMul_l, gEq_, gNe_, gIs_n, gIs_b, gIsNot_n, gIsNot_b, isNon_n, isNon_i, isNon_b, isNon_t, isNon_l, isNon_s, wIfS, wtOr, wtAnd, wtNot, wTst, wNext, wNev, wCall, wCallF, wFrz, wLst, wTup, waNil, waCons, wComp, wRng, gRng1_i, gRng2_i, gRng3_i, wUn, gNeg_i, gTuple_t, gTuple_l, gList_t, gList_l, gList_s, gLen_t, gLen_l, gLen_s, gLen_d, gInt_i, gInt_b, gAbs_i, gMax_i, gMin_i, wipeG, MO.see, fName, wCallU, wCallK, List.append_nil, List.length_cons, List.length_nil, wSl, woNone, woSome, gSl_t, gSl_l, gIt_t, gIt_l, gIt_s, gIsi_i, gIsi_b, gIsi_t, gIsi_l, gIsi_s, gIsi_n, gIsi_d, wFld, wMeth, wMake, wMakeF, wSetF, wExt, wFz, wRev, wRaise, wTry, wBits, insOf_ins, lk_kind, lk_size, lk_digest, lk_is_digest, gEnum_t, gEnum_l, gZip_t, gZip_l, mem1, reduceCtorEq, eq_self, wAsg, fTup, fCons, fNil, wAnd, wOr, wNot, wIf, wPar, wAug, wApp, wSetO, wRetO, br_t, br_f, shp_int, shp_bl, shp_non, deq_int, gAll_b, gAny_b, gSum_i, wDrop, wRetN, true_and, and_true, decide_true, decide_false, Bool.not_true, Bool.not_false, isi_NoneType_bool, isi_NoneType_int, isi_NoneType_str, isi_NoneType_tuple, isi_NoneType_list, isi_NoneType_dict, isi_bool_bool, isi_bool_int, isi_bool_str, isi_bool_tuple, isi_bool_list, isi_bool_dict, isi_int_bool, isi_int_int, isi_int_str, isi_int_tuple, isi_int_list, isi_int_dict, isi_str_bool, isi_str_int, isi_str_str, isi_str_tuple, isi_str_list, isi_str_dict, isi_tuple_bool, isi_tuple_int, isi_tuple_str, isi_tuple_tuple, isi_tuple_list, isi_tuple_dict, isi_list_bool, isi_list_int, isi_list_str, isi_list_tuple, isi_list_list, isi_list_dict, isi_dict_bool, isi_dict_int, isi_dict_str, isi_dict_tuple, isi_dict_list, isi_dict_dict, okTy_bool, okTy_int, okTy_str, okTy_tuple, okTy_list, okTy_dict])
local macro_rules | `(tactic| tm_at "nc") => `(tactic| first | exact True.intro | omega | exact mulL (by omega) (by omega) | exact mulR (by omega) (by omega) | exact divOk (by omega) (by omega) | (simp only [List.length_append, List.length_map, List.length_cons, List.length_nil, List.length_replicate, List.length_flatten, List.map_replicate, List.sum_replicate_nat, List.length_range, rngL_len, rngC_len, List.cons_append, List.nil_append]; first | done | omega))
local macro_rules | `(tactic| tm_at "ns") => `(tactic| repeat (with_reducible refine And.intro (by first | tm_at "nc" | exact ⟨by tm_at "nc", by tm_at "nc"⟩ | exact ⟨by tm_at "nc", by tm_at "nc", by tm_at "nc"⟩ | exact ⟨by tm_at "nc", by tm_at "nc", by tm_at "nc", by tm_at "nc"⟩) ?_))
theorem m_is_integer (ds : List D) (Om : N.Om) (Q : D → N.Om → Prop) (R : RX) (hl : ds.length = 1) (h : sp_is_integer ds Om Q R) : wFn 1 w_is_integer ds Om Q R := by
  obtain ⟨d, rfl, hd, q⟩ := h
  unfold w_is_integer
  cases d <;> simp only [plD] at hd <;> try cases hd
  all_goals (tm_at "nw"; simpa [intB] using q)
theorem m_is_octet (ds : List D) (Om : N.Om) (Q : D → N.Om → Prop) (R : RX) (hl : ds.length = 1) (h : sp_is_octet ds Om Q R) : wFn 1 w_is_octet ds Om Q R := by
  obtain ⟨d, rfl, hd, q⟩ := h
  unfold w_is_octet
  tm_at "nw"
  refine ⟨d, rfl, hd, ?_⟩
  cases d <;> simp only [intB]
  case int i =>
    tm_at "nw"
    by_cases h : 0 ≤ i
    · simp only [decide_eq_true h]
      tm_at "nw"
      simpa [isOct, h] using q
    · simp only [decide_eq_false h]
      tm_at "nw"
      simpa [isOct, h] using q
  all_goals (tm_at "nw"; simpa [isOct] using q)
theorem oct_turns (xs : List D) (hx : plL xs = true) (h16 : xs.length ≤ 16777216) (Om : N.Om) (G : Gam) (hG : G.length = 3) (Q : D → N.Om → Prop) (q : Q (.bl (xs.all isOct)) Om) :
    wTurns (fName 2) wtYes (wCallU 1 sp_is_octet [] (waCons (wVar 2) waNil)) G xs [] Om fun ds O => gAll [.lst ds] fun z => Q z O := by
  match G, hG with
  | [a, b, c], _ =>
    refine turns_map (fun d => .bl (isOct d)) xs [] (by simpa using h16) (fun d hd K hK => ?_) ?_
    · tm_at "nw"
      exact ⟨d, rfl, plL_mem hx d hd, hK⟩
    · rw [List.nil_append, show (xs.map fun d => D.bl (isOct d)) = (xs.map isOct).map D.bl by rw [List.map_map]; rfl]
      tm_at "nw"
      simpa [List.all_map, Function.comp_def] using q
theorem m_is_octets (ds : List D) (Om : N.Om) (Q : D → N.Om → Prop) (R : RX) (hl : ds.length = 2) (h : sp_is_octets ds Om Q R) : wFn 3 w_is_octets ds Om Q R := by
  obtain ⟨d, sz, rfl, hd, h16, q⟩ := h
  unfold w_is_octets
  cases d <;> simp only [plD] at hd <;> try cases hd
  case tup xs =>
    have h16 := h16 xs rfl
    cases sz with
    | none =>
      simp only [szD]
      tm_at "nw"
      exact oct_turns xs hd h16 _ _ rfl _ (by simpa [isOcts] using q)
    | some n =>
      simp only [szD]
      tm_at "nw"
      by_cases e : (xs.length : Int) = n
      · simp only [decide_eq_true e]
        tm_at "nw"
        exact oct_turns xs hd h16 _ _ rfl _ (by
          have e' : xs.length = n := by omega
          simpa [isOcts, e'] using q)
      · simp only [decide_eq_false e]
        tm_at "nw"
        have e' : ¬ xs.length = n := by omega
        simpa [isOcts, e'] using q
  all_goals (cases sz <;> simp only [szD] <;> tm_at "nw" <;> simpa [isOcts] using q)
end N

set_option Elab.async false
set_option linter.all false
set_option maxRecDepth 100000
set_option maxHeartbeats 0
namespace N
open PySem PySem.Spec PyProof.Rows L2
local macro_rules | `(tactic| tm_at "nw") => `(tactic| try simp only [wFn, startG_c, startG_n, startG_z, wSeq, wSet, wC, wFor, wIt, wVar, wVarB, getSl_z, getSl_s, List.set_cons_zero, List.set_cons_succ, wRet, wBin, gI_i, gI0_i, gB0_i, gAdd_i, gAdd_t, gAdd_l, gAdd_s, gMul_i, gMul_t, gMul_l, gEq_, gNe_, gIs_n, gIs_b, gIsNot_n, gIsNot_b, isNon_n, isNon_i, isNon_b, isNon_t, isNon_l, isNon_s, wIfS, wtOr, wtAnd, wtNot, wTst, wNext, wNev, wCall, wCallF, wFrz, wLst, wTup, waNil, waCons, wComp, wRng, gRng1_i, gRng2_i, gRng3_i, wUn, gNeg_i, gTuple_t, gTuple_l, gList_t, gList_l, gList_s, gLen_t, gLen_l, gLen_s, gLen_d, gInt_i, gInt_b, gAbs_i, gMax_i, gMin_i, wipeG, MO.see, fName, wCallU, wCallK, List.append_nil, List.length_cons, List.length_nil, wSl, woNone, woSome, gSl_t, gSl_l, gIt_t, gIt_l, gIt_s, gIsi_i, gIsi_b, gIsi_t, gIsi_l, gIsi_s, gIsi_n, gIsi_d, wFld, wMeth, wMake, wMakeF, wSetF, wExt, wFz, wRev, wRaise, wTry, wBits, insOf_ins, lk_kind, lk_size, lk_digest, lk_is_digest, gEnum_t, gEnum_l, gZip_t, gZip_l, mem1, reduceCtorEq, eq_self, wAsg, fTup, fCons, fNil, wAnd, wOr, wNot, wIf, wPar, wAug, wApp, wSetO, wRetO, br_t, br_f, shp_int, shp_bl, shp_non, deq_int, gAll_b, gAny_b, gSum_i, wDrop, wRetN, true_and, and_true, decide_true, decide_false, Bool.not_true, Bool.not_false, isi_NoneType_bool, isi_NoneType_int, isi_NoneType_str, isi_NoneType_tuple, isi_NoneType_list, isi_NoneType_dict, isi_bool_bool, isi_bool_int, isi_bool_str, isi_bool_tuple, isi_bool_list, isi_bool_dict, isi_int_bool, isi_int_int, isi_int_str, isi_int_tuple, isi_int_list, isi_int_dict, isi_str_bool, isi_str_int, isi_str_str, isi_str_tuple, isi_str_list, isi_str_dict, isi_tuple_bool, isi_tuple_int, isi_tuple_str, isi_tuple_tuple, isi_tuple_list, isi_tuple_dict, isi_list_bool, isi_list_int, isi_list_str, isi_list_tuple, isi_list_list, isi_list_dict, isi_dict_bool, isi_dict_int, isi_dict_str, isi_dict_tuple, isi_dict_list, isi_dict_dict, okTy_bool, okTy_int, okTy_str, okTy_tuple, okTy_list, okTy_dict])
local macro_rules | `(tactic| tm_at "nc") => `(tactic| first | exact True.intro | omega | exact mulL (by omega) (by omega) | exact mulR (by omega) (by omega) | exact divOk (by omega) (by omega) | (simp only [List.length_append, List.length_map, List.length_cons, List.length_nil, List.length_replicate, List.length_flatten, List.map_replicate, List.sum_replicate_nat, List.length_range, rngL_len, rngC_len, List.cons_append, List.nil_append]; first | done | omega))
local macro_rules | `(tactic| tm_at "ns") => `(tactic| repeat (with_reducible refine And.intro (by first | tm_at "nc" | exact ⟨by tm_at "nc", by tm_at "nc"⟩ | exact ⟨by tm_at "nc", by tm_at "nc", by tm_at "nc"⟩ | exact ⟨by tm_at "nc", by tm_at "nc", by tm_at "nc", by tm_at "nc"⟩) ?_))
theorem m_as_octets (ds : List D) (Om : N.Om) (Q : D → N.Om → Prop) (R : RX) (hl : ds.length = 2) (h : sp_as_octets ds Om Q R) : wFn 3 w_as_octets ds Om Q R := by
  obtain ⟨n, k, rfl, h0, h1, hk, q⟩ := h
  unfold w_as_octets
  tm_at "nw"
  have e8 : (8 * (k : Int)).toNat = 8 * k := by omega
  have ez : n / 2 ^ (8 * (k : Int)).toNat = 0 := by rw [e8]; exact Int.ediv_eq_zero_of_lt h0 h1
  rw [ez]
  refine br_df (by omega) ⟨mulL (by decide) (by decide), by omega, k, ?_, ?_⟩
  · have := RgC.neg (i := (k : Int) - 1) (j := -1) (by omega) (by omega) (by decide) (by decide)
    rw [show ((k : Int) - 1 - -1).toNat = k by omega] at this
    exact this
  · refine turns_map (fun d => match d with | .int p => .int (n / 2 ^ (8 * p).toNat % 256) | _ => .non) _ _ (by simp [rngC]; omega) (fun d hd K hK => ?_) ?_
    · obtain ⟨i, hi, rfl⟩ := List.mem_map.mp hd
      have hi' := List.mem_range.mp hi
      tm_at "nw"
      refine ⟨mulL (by decide) (by decide), by omega, ?_⟩
      have := Bits.bitAnd_mask (x := n / 2 ^ (8 * ((k : Int) - 1 + (i : Int) * -1)).toNat) 8 (Int.ediv_nonneg h0 (by exact Int.le_of_lt (Int.pow_pos (by decide))))
      rw [show (2 : Int) ^ 8 - 1 = 255 by decide, show (2 : Int) ^ 8 = 256 by decide] at this
      rw [this]
      exact hK
    · have e : (rngC ((k : Int) - 1) (-1) k).map (fun d => match d with | .int p => D.int (n / 2 ^ (8 * p).toNat % 256) | _ => .non) = iD (octs n k) := by
        simp only [rngC, octs, iD, List.map_map]
        refine List.map_congr_left fun i hi => ?_
        have hi' := List.mem_range.mp hi
        show D.int (n / 2 ^ (8 * ((k : Int) - 1 + (i : Int) * -1)).toNat % 256) = D.int (n / 2 ^ (8 * (k - 1 - i)) % 256)
        rw [show (8 * ((k : Int) - 1 + (i : Int) * -1)).toNat = 8 * (k - 1 - i) by omega]
      rw [List.nil_append, e]
      exact q
theorem ipow_le {a b : Nat} (h : a ≤ b) : (2 : Int) ^ a ≤ 2 ^ b := by
  have := Nat.pow_le_pow_right (n := 2) (by decide) h
  exact_mod_cast this
theorem dep_iff (c j : Nat) : (2 ^ j < c) ↔ j < dep c := by
  constructor
  · intro h
    by_cases q : j < dep c
    · exact q
    · exfalso
      have h1 := dep_le c
      have h2 : 2 ^ dep c ≤ 2 ^ j := Nat.pow_le_pow_right (by omega) (by omega)
      omega
  · exact dep_lt c j
theorem dep_20 {c : Nat} (h : c ≤ 1048576) : dep c ≤ 20 := by
  by_cases q : dep c ≤ 20
  · exact q
  · have := dep_lt c 20 (by omega)
    omega
theorem loop_depth (c : Nat) (hc : c ≤ 1048576) (Po : Post) (Om : N.Om) (h : Po.nx [.val (.int (c : Int)), .val (.int (dep c : Int))] Om) : ∀ (m j : Nat), j + m = dep c →
    wWhN (wTst (wBin gLt (wBin gShl (wC (.int 1)) (wVarB 1)) (wVarB 0))) w_depth_b1 (m + 1) [.val (.int (c : Int)), .val (.int (j : Int))] Om Po
  | m, j, hj => by
    have h20 := dep_20 hc
    have e1 : (1 : Int) * 2 ^ (j : Int).toNat = ((2 ^ j : Nat) : Int) := by simp
    unfold wWhN
    tm_at "nw"
    refine ⟨shlI (n := 1) (by decide) (by decide) (by omega) (by omega), ?_⟩
    rw [e1]
    cases m with
    | zero =>
      have hj : j = dep c := by omega
      subst hj
      refine br_df (fun z => ?_) h
      have := (dep_iff c (dep c)).mp (by omega)
      omega
    | succ m =>
      have hlt : 2 ^ j < c := dep_lt c j (by omega)
      refine br_dt (by omega) ?_
      have := loop_depth c hc Po Om h m (j + 1) (by omega)
      simpa using this
theorem m_depth (ds : List D) (Om : N.Om) (Q : D → N.Om → Prop) (R : RX) (hl : ds.length = 1) (h : sp_depth ds Om Q R) : wFn 2 w_depth ds Om Q R := by
  obtain ⟨c, rfl, hc, q⟩ := h
  unfold w_depth
  tm_at "nw"
  refine ⟨dep c + 1, loop_depth c hc _ _ q (dep c) 0 (by omega)⟩
theorem m_leaf_text (ds : List D) (Om : N.Om) (Q : D → N.Om → Prop) (R : RX) (hl : ds.length = 1) (h : sp_leaf_text ds Om Q R) : wFn 1 w_leaf_text ds Om Q R := by
  obtain ⟨os, rfl, hn, q⟩ := h
  unfold w_leaf_text
  tm_at "nw"
  exact ⟨by decide, by tm_at "nc", q⟩
theorem m_node_text (ds : List D) (Om : N.Om) (Q : D → N.Om → Prop) (R : RX) (hl : ds.length = 2) (h : sp_node_text ds Om Q R) : wFn 2 w_node_text ds Om Q R := by
  obtain ⟨a, b, rfl, ha, hb, q⟩ := h
  unfold w_node_text
  tm_at "nw"
  refine ⟨by decide, by tm_at "nc", by tm_at "nc", ?_⟩
  rw [oD, show iD (1 :: (a ++ b)) = [D.int 1] ++ iD a ++ iD b by simp [iD]] at q
  exact q
theorem loop_sum (m : Int) (hm : 1 < m) (hm2 : m ≤ 2 ^ 64) (x0 x1 : Sl) (Po : Post) (Om : N.Om) : ∀ (os : List Int) (t : Int) (y : Sl), 0 ≤ t → t < m → (∀ y', Po.nx [x0, x1, .val (.int m), .val (.int (os.foldl (fun t o => (t * 31 + o + 1) % m) t)), y'] Om) →
    wForL (fName 4) w_plain_sum_b1 (iD os) [x0, x1, .val (.int m), .val (.int t), y] Om Po
  | [], t, y, _, _, h => h y
  | o :: r, t, y, h0, h1, h => by
    simp only [List.map_cons, wForL]
    tm_at "nw"
    refine ⟨mulL (by omega) (by omega), by omega, ?_⟩
    exact loop_sum m hm hm2 x0 x1 Po Om r _ _ (Int.emod_nonneg _ (by omega)) (Int.emod_lt_of_pos _ (by omega)) h
theorem m_plain_sum (ds : List D) (Om : N.Om) (Q : D → N.Om → Prop) (R : RX) (hl : ds.length = 2) (h : sp_plain_sum ds Om Q R) : wFn 5 w_plain_sum ds Om Q R := by
  obtain ⟨os, n, rfl, h1, h8, q⟩ := h
  unfold w_plain_sum
  tm_at "nw"
  have e8 : (8 * (n : Int)).toNat = 8 * n := by omega
  have e : (1 : Int) * 2 ^ (8 * (n : Int)).toNat = 2 ^ (8 * n) := by rw [e8, Int.one_mul]
  have hp : (1 : Int) < 2 ^ (8 * n) := by
    have : (2 : Int) ^ 1 ≤ 2 ^ (8 * n) := ipow_le (by omega)
    omega
  have hp2 : (2 : Int) ^ (8 * n) ≤ 2 ^ 64 := ipow_le (by omega)
  refine ⟨mulL (by decide) (by decide), shlI (n := 1) (by decide) (by decide) (by omega) (by omega), ?_⟩
  rw [e]
  refine loop_sum _ hp hp2 _ _ _ _ os 1 _ (by decide) hp fun y' => ?_
  tm_at "nw"
  obtain ⟨t0, t1⟩ := tot_rng (2 ^ (8 * n)) hp os
  exact ⟨rfl, _, n, rfl, t0, t1, by omega, q⟩
end N

set_option Elab.async false
set_option linter.all false
set_option maxRecDepth 100000
set_option maxHeartbeats 0
namespace N
open PySem PySem.Spec PyProof.Rows L2
local macro_rules | `(tactic| tm_at "nw") => `(tactic| try simp only [wFn, startG_c, startG_n, startG_z, wSeq, wSet, wC, wFor, wIt, wVar, wVarB, getSl_z, getSl_s, List.set_cons_zero, List.set_cons_succ, wRet, wBin, gI_i, gI0_i, gB0_i, gAdd_i, gAdd_t, gAdd_l, gAdd_s, gMul_i, gMul_t, gMul_l, gEq_, gNe_, gIs_n, gIs_b, gIsNot_n, gIsNot_b, isNon_n, isNon_i, isNon_b, isNon_t, isNon_l, isNon_s, wIfS, wtOr, wtAnd, wtNot, wTst, wNext, wNev, wCall, wCallF, wFrz, wLst, wTup, waNil, waCons, wComp, wRng, gRng1_i, gRng2_i, gRng3_i, wUn, gNeg_i, gTuple_t, gTuple_l, gList_t, gList_l, gList_s, gLen_t, gLen_l, gLen_s, gLen_d, gInt_i, gInt_b, gAbs_i, gMax_i, gMin_i, wipeG, MO.see, fName, wCallU, wCallK, List.append_nil, List.length_cons, List.length_nil, wSl, woNone, woSome, gSl_t, gSl_l, gIt_t, gIt_l, gIt_s, gIsi_i, gIsi_b, gIsi_t, gIsi_l, gIsi_s, gIsi_n, gIsi_d, wFld, wMeth, wMake, wMakeF, wSetF, wExt, wFz, wRev, wRaise, wTry, wBits, insOf_ins, lk_kind, lk_size, lk_digest, lk_is_digest, gEnum_t, gEnum_l, gZip_t, gZip_l, mem1, reduceCtorEq, eq_self, wAsg, fTup, fCons, fNil, wAnd, wOr, wNot, wIf, wPar, wAug, wApp, wSetO, wRetO, br_t, br_f, shp_int, shp_bl, shp_non, deq_int, gAll_b, gAny_b, gSum_i, wDrop, wRetN, true_and, and_true, decide_true, decide_false, Bool.not_true, Bool.not_false, isi_NoneType_bool, isi_NoneType_int, isi_NoneType_str, isi_NoneType_tuple, isi_NoneType_list, isi_NoneType_dict, isi_bool_bool, isi_bool_int, isi_bool_str, isi_bool_tuple, isi_bool_list, isi_bool_dict, isi_int_bool, isi_int_int, isi_int_str, isi_int_tuple, isi_int_list, isi_int_dict, isi_str_bool, isi_str_int, isi_str_str, isi_str_tuple, isi_str_list, isi_str_dict, isi_tuple_bool, isi_tuple_int, isi_tuple_str, isi_tuple_tuple, isi_tuple_list, isi_tuple_dict, isi_list_bool, isi_list_int, isi_list_str, isi_list_tuple, isi_list_list, isi_list_dict, isi_dict_bool, isi_dict_int, isi_dict_str, isi_dict_tuple, isi_dict_list, isi_dict_dict, okTy_bool, okTy_int, okTy_str, okTy_tuple, okTy_list, okTy_dict])
local macro_rules | `(tactic| tm_at "nc") => `(tactic| first | exact True.intro | omega | exact mulL (by omega) (by omega) | exact mulR (by omega) (by omega) | exact divOk (by omega) (by omega) | (simp only [List.length_append, List.length_map, List.length_cons, List.length_nil, List.length_replicate, List.length_flatten, List.map_replicate, List.sum_replicate_nat, List.length_range, rngL_len, rngC_len, List.cons_append, List.nil_append]; first | done | omega))
local macro_rules | `(tactic| tm_at "ns") => `(tactic| repeat (with_reducible refine And.intro (by first | tm_at "nc" | exact ⟨by tm_at "nc", by tm_at "nc"⟩ | exact ⟨by tm_at "nc", by tm_at "nc", by tm_at "nc"⟩ | exact ⟨by tm_at "nc", by tm_at "nc", by tm_at "nc", by tm_at "nc"⟩) ?_))
theorem gIx_t0 {d : D} {r : List D} {Q : D → Prop} (q : Q d) : gIx (.tup (d :: r)) (.int 0) Q := gIx_tup (j := 0) rfl rfl q
theorem gIx_t1 {d e : D} {r : List D} {Q : D → Prop} (q : Q e) : gIx (.tup (d :: e :: r)) (.int 1) Q := gIx_tup (j := 1) rfl rfl q
theorem shp_sum : shp (.str "sum") = true := by decide +kernel
theorem shp_sha : shp (.str "sha") = true := by decide +kernel
theorem deq_str (x y : Str) : deq (.str x) (.str y) = decide (x = y) := by
  show (x == y) = _
  exact Bool.beq_eq_decide_eq _ _
theorem str_ss : deq (.str "sum") (.str "sum") = true := by rw [deq_str]; decide
theorem str_sh : deq (.str "sum") (.str "sha") = false := by rw [deq_str]; decide
theorem m_is_kind (ds : List D) (Om : N.Om) (Q : D → N.Om → Prop) (R : RX) (hl : ds.length = 1) (h : sp_is_kind ds Om Q R) : wFn 1 w_is_kind ds Om Q R := by
  obtain ⟨n, rfl, h1, h8, q⟩ := h
  unfold w_is_kind
  tm_at "nw"
  rw [show decide (((0 + 1 + 1 : Nat) : Int) = 2) = true from rfl, Bool.not_true, br_f]
  refine gIx_t0 ?_
  tm_at "nw"
  refine gIx_t1 ⟨_, rfl, rfl, ?_⟩
  simp only [intB, Bool.not_true, br_f]
  refine gIx_t0 ⟨shp_sum, shp_sha, ?_⟩
  rw [str_sh, br_f]
  refine gIx_t0 ⟨shp_sum, shp_sum, ?_⟩
  rw [str_ss, br_t]
  refine gIx_t1 ?_
  tm_at "nw"
  refine br_dt (by omega) (gIx_t1 ?_)
  tm_at "nw"
  rw [decide_eq_true (by omega)]
  exact q
theorem m_check_kind (ds : List D) (Om : N.Om) (Q : D → N.Om → Prop) (R : RX) (hl : ds.length = 1) (h : sp_check_kind ds Om Q R) : wFn 1 w_check_kind ds Om Q R := by
  obtain ⟨n, rfl, h1, h8, q⟩ := h
  unfold w_check_kind
  tm_at "nw"
  exact ⟨n, rfl, h1, h8, q⟩
theorem m_Hasher___init__ (ds : List D) (Om : N.Om) (Q : D → N.Om → Prop) (R : RX) (hl : ds.length = 2) (h : sp_Hasher___init__ ds Om Q R) : wFn 2 w_Hasher___init__ ds Om Q R := by
  obtain ⟨a, n, rfl, ha, h1, h8, q⟩ := h
  unfold w_Hasher___init__
  tm_at "nw"
  refine ⟨n, rfl, h1, h8, ?_⟩
  simp only [ha]
  refine ⟨List.mem_singleton.mpr rfl, by decide, gIx_t1 ?_⟩
  rw [putO_same]
  refine ⟨List.mem_singleton.mpr rfl, by decide, by decide, ?_⟩
  rw [putO_same]
  refine ⟨List.mem_singleton.mpr rfl, by decide, by decide, ?_⟩
  rw [putO_same]
  refine ⟨List.mem_singleton.mpr rfl, by decide, gIx_t0 ⟨shp_sum, shp_sha, ?_⟩⟩
  rw [str_sh, br_f, putO_put, putO_put, putO_put]
  exact q
theorem m_Hasher_digest (ds : List D) (Om : N.Om) (Q : D → N.Om → Prop) (R : RX) (hl : ds.length = 2) (h : sp_Hasher_digest ds Om Q R) : wFn 2 w_Hasher_digest ds Om Q R := by
  obtain ⟨os, n, rfl, h1, h8, q⟩ := h
  unfold w_Hasher_digest
  tm_at "nw"
  refine gIx_t0 ⟨shp_sum, shp_sum, ?_⟩
  rw [str_ss, br_t]
  exact ⟨os, n, rfl, h1, h8, q⟩
theorem m_Hasher_is_digest (ds : List D) (Om : N.Om) (Q : D → N.Om → Prop) (R : RX) (hl : ds.length = 2) (h : sp_Hasher_is_digest ds Om Q R) : wFn 2 w_Hasher_is_digest ds Om Q R := by
  obtain ⟨d, n, rfl, hd, h16, q⟩ := h
  unfold w_Hasher_is_digest
  tm_at "nw"
  exact ⟨rfl, d, some n, rfl, hd, h16, q⟩
/-! ### trees -/
theorem len_os (ps : List (List Int)) : ((ps.map oD).length : Int) = (ps.length : Int) := by simp
/-- one row: pairs folded -/
theorem halve_range (f : List Int → List Int) (row : List (List Int)) (h2 : row.length % 2 = 0) : halve f row = (List.range (row.length / 2)).map fun k => f (1 :: (row.getD (2 * k) [] ++ row.getD (2 * k + 1) [])) := by
  refine List.ext_getElem? fun k => ?_
  rw [List.getElem?_map]
  by_cases hk : k < row.length / 2
  · rw [List.getElem?_range hk]
    have a1 : 2 * k < row.length := by omega
    have a2 : 2 * k + 1 < row.length := by omega
    rw [halve_get f row k _ _ (List.getElem?_eq_getElem a1) (List.getElem?_eq_getElem a2)]
    simp [List.getD_eq_getElem?_getD, List.getElem?_eq_getElem a1, List.getElem?_eq_getElem a2]
  · rw [List.getElem?_eq_none (by rw [halve_len]; omega), List.getElem?_eq_none (by simp; omega)]
    rfl
end N

set_option Elab.async false
set_option linter.all false
set_option maxRecDepth 100000
set_option maxHeartbeats 0
namespace N
open PySem PySem.Spec PyProof.Rows L2
local macro_rules | `(tactic| tm_at "nw") => `(tactic| try simp only [wFn, startG_c, startG_n, startG_z, wSeq, wSet, wC, wFor, wIt, wVar, wVarB, getSl_z, getSl_s, List.set_cons_zero, List.set_cons_succ, wRet, wBin, gI_i, gI0_i, gB0_i, gAdd_i, gAdd_t, gAdd_l, gAdd_s, gMul_i, gMul_t, gMul_l, gEq_, gNe_, gIs_n, gIs_b, gIsNot_n, gIsNot_b, isNon_n, isNon_i, isNon_b, isNon_t, isNon_l, isNon_s, wIfS, wtOr, wtAnd, wtNot, wTst, wNext, wNev, wCall, wCallF, wFrz, wLst, wTup, waNil, waCons, wComp, wRng, gRng1_i, gRng2_i, gRng3_i, wUn, gNeg_i, gTuple_t, gTuple_l, gList_t, gList_l, gList_s, gLen_t, gLen_l, gLen_s, gLen_d, gInt_i, gInt_b, gAbs_i, gMax_i, gMin_i, wipeG, MO.see, fName, wCallU, wCallK, List.append_nil, List.length_cons, List.length_nil, wSl, woNone, woSome, gSl_t, gSl_l, gIt_t, gIt_l, gIt_s, gIsi_i, gIsi_b, gIsi_t, gIsi_l, gIsi_s, gIsi_n, gIsi_d, wFld, wMeth, wMake, wMakeF, wSetF, wExt, wFz, wRev, wRaise, wTry, wBits, insOf_ins, lk_kind, lk_size, lk_digest, lk_is_digest, gEnum_t, gEnum_l, gZip_t, gZip_l, mem1, reduceCtorEq, eq_self, wAsg, fTup, fCons, fNil, wAnd, wOr, wNot, wIf, wPar, wAug, wApp, wSetO, wRetO, br_t, br_f, shp_int, shp_bl, shp_non, deq_int, gAll_b, gAny_b, gSum_i, wDrop, wRetN, true_and, and_true, decide_true, decide_false, Bool.not_true, Bool.not_false, isi_NoneType_bool, isi_NoneType_int, isi_NoneType_str, isi_NoneType_tuple, isi_NoneType_list, isi_NoneType_dict, isi_bool_bool, isi_bool_int, isi_bool_str, isi_bool_tuple, isi_bool_list, isi_bool_dict, isi_int_bool, isi_int_int, isi_int_str, isi_int_tuple, isi_int_list, isi_int_dict, isi_str_bool, isi_str_int, isi_str_str, isi_str_tuple, isi_str_list, isi_str_dict, isi_tuple_bool, isi_tuple_int, isi_tuple_str, isi_tuple_tuple, isi_tuple_list, isi_tuple_dict, isi_list_bool, isi_list_int, isi_list_str, isi_list_tuple, isi_list_list, isi_list_dict, isi_dict_bool, isi_dict_int, isi_dict_str, isi_dict_tuple, isi_dict_list, isi_dict_dict, okTy_bool, okTy_int, okTy_str, okTy_tuple, okTy_list, okTy_dict])
local macro_rules | `(tactic| tm_at "nc") => `(tactic| first | exact True.intro | omega | exact mulL (by omega) (by omega) | exact mulR (by omega) (by omega) | exact divOk (by omega) (by omega) | (simp only [List.length_append, List.length_map, List.length_cons, List.length_nil, List.length_replicate, List.length_flatten, List.map_replicate, List.sum_replicate_nat, List.length_range, rngL_len, rngC_len, List.cons_append, List.nil_append]; first | done | omega))
local macro_rules | `(tactic| tm_at "ns") => `(tactic| repeat (with_reducible refine And.intro (by first | tm_at "nc" | exact ⟨by tm_at "nc", by tm_at "nc"⟩ | exact ⟨by tm_at "nc", by tm_at "nc", by tm_at "nc"⟩ | exact ⟨by tm_at "nc", by tm_at "nc", by tm_at "nc", by tm_at "nc"⟩) ?_))
section
variable {α : Type} {f : WG} {we : WE} {G : Gam} {O : Om} {Q : List D → Om → Prop}
theorem turns_mapA (h g : α → D) : ∀ (as : List α) (acc : List D), acc.length + as.length ≤ 16777216 → (∀ a ∈ as, ∀ K : D → Om → Prop, K (g a) O → f (h a) G fun G2 => we G2 O K noR) → Q (acc ++ as.map g) O → wTurns f wtYes we G (as.map h) acc O Q
  | [], acc, _, _, q => by simpa [wTurns] using q
  | a :: r, acc, l, hh, q => by
    rw [List.length_cons] at l
    refine ⟨by omega, hh a List.mem_cons_self _ (turns_mapA h g r (acc ++ [g a]) (by rw [List.length_append, List.length_singleton]; omega) (fun a' h' => hh a' (List.mem_cons_of_mem _ h')) (by simpa using q))⟩
end
abbrev lsD (r : List (List Int)) : D := .lst (r.map oD)
theorem even_pow (d : Nat) : (2 ^ (d + 1)) % 2 = 0 := by rw [Nat.pow_succ]; omega
theorem halve_mem {f : List Int → List Int} {row : List (List Int)} {r : List Int} (h : r ∈ halve f row) : ∃ t, r = f t := by
  obtain ⟨k, hk, rfl⟩ := List.getElem_of_mem h
  rw [halve_len] at hk
  have a1 : 2 * k < row.length := by omega
  have a2 : 2 * k + 1 < row.length := by omega
  have := halve_get f row k _ _ (List.getElem?_eq_getElem a1) (List.getElem?_eq_getElem a2)
  rw [List.getElem?_eq_getElem (by rw [halve_len]; omega)] at this
  exact ⟨_, Option.some.inj this⟩
theorem rgc_two {j : Nat} (hj : j ≤ 1048576) (he : j % 2 = 0) : RgC 0 (j : Int) 2 (j / 2) := by
  have e : Builtin.Range.rangeSize 0 (j : Int) 2 = ((j / 2 : Nat) : Int) := by
    rw [PyProof.Rows.rangeSize_pos (by decide) (by omega)]
    omega
  refine ⟨by decide, by decide, ?_, e⟩
  have fit : ∀ i : Int, 0 ≤ i → i ≤ 2097152 → Builtin.Range.rangeFitsLong i = true := fun i h0 h1 => by
    unfold Builtin.Range.rangeFitsLong
    rw [Bool.and_eq_true, decide_eq_true_eq, decide_eq_true_eq]
    omega
  unfold Builtin.Range.small
  rw [e, fit 0 (by decide) (by decide), fit j (by omega) (by omega), fit 2 (by decide) (by decide), fit _ (by omega) (by omega), if_pos (by decide), fit _ (by omega) (by omega)]
  simp
theorem loop_levels (n : Nat) (h1 : 1 ≤ n) (h8 : n ≤ 8) (e pd : Sl) (Po : Post) (Om : N.Om) : ∀ (d : Nat) (row : List (List Int)) (acc : List D), row.length = 2 ^ d → d ≤ 20 → (∀ r ∈ row, r.length ≤ 100) → acc.length + d ≤ 1000 →
    (∀ x, Po.nx [.val (hsh n), pd, x, e, .own (.lst (acc ++ ((lev (dig n) d row).tail.map lsD))), .no, .no, .no] Om) →
    wWhN (wTst (wBin gGt (wCall gLen (waCons (wVarB 2) waNil)) (wC (.int 1)))) w_levels_b1 (d + 1) [.val (hsh n), pd, .val (lsD row), e, .own (.lst acc), .no, .no, .no] Om Po
  | 0, row, acc, hr, _, _, _, h => by
    unfold wWhN
    tm_at "nw"
    refine br_df (by simp [hr]) ?_
    simpa [lev] using h (.val (lsD row))
  | d + 1, row, acc, hr, hd, hs, ha, h => by
    have hp : 2 ≤ row.length := by rw [hr, Nat.pow_succ]; have := Nat.pow_pos (n := d) (show 0 < 2 by decide); omega
    have he : row.length % 2 = 0 := by rw [hr]; exact even_pow d
    have hl : row.length ≤ 2 ^ 20 := by rw [hr]; exact Nat.pow_le_pow_right (by decide) (by omega)
    unfold wWhN
    tm_at "nw"
    refine br_dt (by simp; omega) ?_
    refine ⟨row.length / 2, by rw [List.length_map]; exact rgc_two (by omega) he, ?_⟩
    refine turns_mapA (fun (k : Nat) => D.int (0 + (k : Int) * 2)) (fun k => oD (dig n (1 :: (row.getD (2 * k) [] ++ row.getD (2 * k + 1) [])))) (List.range (row.length / 2)) [] (by simp; omega) (fun k hk K hK => ?_) ?_
    · have hk := List.mem_range.mp hk
      have a1 : 2 * k < row.length := by omega
      have a2 : 2 * k + 1 < row.length := by omega
      have g1 : (row.map oD)[2 * k]? = some (oD (row.getD (2 * k) [])) := by simp [List.getElem?_eq_getElem a1]
      have g2 : (row.map oD)[2 * k + 1]? = some (oD (row.getD (2 * k + 1) [])) := by simp [List.getElem?_eq_getElem a2]
      have m1 : (row.getD (2 * k) []).length ≤ 100 := by simp [List.getElem?_eq_getElem a1]; exact hs _ (List.getElem_mem a1)
      have m2 : (row.getD (2 * k + 1) []).length ≤ 100 := by simp [List.getElem?_eq_getElem a2]; exact hs _ (List.getElem_mem a2)
      tm_at "nw"
      refine gIx_list (j := 2 * k) (by omega) g1 (gIx_list (j := 2 * k + 1) (by omega) g2 ?_)
      exact ⟨_, _, rfl, by omega, by omega, _, n, rfl, h1, h8, hK⟩
    · rw [List.nil_append, show ((List.range (row.length / 2)).map fun k => oD (dig n (1 :: (row.getD (2 * k) [] ++ row.getD (2 * k + 1) [])))) = (halve (dig n) row).map oD by rw [halve_range _ _ he, List.map_map]; rfl]
      tm_at "nw"
      refine ⟨by omega, ?_⟩
      refine loop_levels n h1 h8 e pd Po Om d (halve (dig n) row) (acc ++ [lsD (halve (dig n) row)]) (by rw [halve_len, hr, Nat.pow_succ]; omega) (by omega) (fun r hr => ?_) (by simp; omega) fun x => ?_
      · obtain ⟨t, rfl⟩ := halve_mem hr
        rw [dig_len]
        omega
      · have := h x
        cases d <;> simpa [lev, List.append_assoc] using this
end N

set_option Elab.async false
set_option linter.all false
set_option maxRecDepth 100000
set_option maxHeartbeats 0
namespace N
open PySem PySem.Spec PyProof.Rows L2
local macro_rules | `(tactic| tm_at "nw") => `(tactic| try simp only [wFn, startG_c, startG_n, startG_z, wSeq, wSet, wC, wFor, wIt, wVar, wVarB, getSl_z, getSl_s, List.set_cons_zero, List.set_cons_succ, wRet, wBin, gI_i, gI0_i, gB0_i, gAdd_i, gAdd_t, gAdd_l, gAdd_s, gMul_i, gMul_t, gMul_l, gEq_, gNe_, gIs_n, gIs_b, gIsNot_n, gIsNot_b, isNon_n, isNon_i, isNon_b, isNon_t, isNon_l, isNon_s, wIfS, wtOr, wtAnd, wtNot, wTst, wNext, wNev, wCall, wCallF, wFrz, wLst, wTup, waNil, waCons, wComp, wRng, gRng1_i, gRng2_i, gRng3_i, wUn, gNeg_i, gTuple_t, gTuple_l, gList_t, gList_l, gList_s, gLen_t, gLen_l, gLen_s, gLen_d, gInt_i, gInt_b, gAbs_i, gMax_i, gMin_i, wipeG, MO.see, fName, wCallU, wCallK, List.append_nil, List.length_cons, List.length_nil, wSl, woNone, woSome, gSl_t, gSl_l, gIt_t, gIt_l, gIt_s, gIsi_i, gIsi_b, gIsi_t, gIsi_l, gIsi_s, gIsi_n, gIsi_d, wFld, wMeth, wMake, wMakeF, wSetF, wExt, wFz, wRev, wRaise, wTry, wBits, insOf_ins, lk_kind, lk_size, lk_digest, lk_is_digest, gEnum_t, gEnum_l, gZip_t, gZip_l, mem1, reduceCtorEq, eq_self, wAsg, fTup, fCons, fNil, wAnd, wOr, wNot, wIf, wPar, wAug, wApp, wSetO, wRetO, br_t, br_f, shp_int, shp_bl, shp_non, deq_int, gAll_b, gAny_b, gSum_i, wDrop, wRetN, true_and, and_true, decide_true, decide_false, Bool.not_true, Bool.not_false, isi_NoneType_bool, isi_NoneType_int, isi_NoneType_str, isi_NoneType_tuple, isi_NoneType_list, isi_NoneType_dict, isi_bool_bool, isi_bool_int, isi_bool_str, isi_bool_tuple, isi_bool_list, isi_bool_dict, isi_int_bool, isi_int_int, isi_int_str, isi_int_tuple, isi_int_list, isi_int_dict, isi_str_bool, isi_str_int, isi_str_str, isi_str_tuple, isi_str_list, isi_str_dict, isi_tuple_bool, isi_tuple_int, isi_tuple_str, isi_tuple_tuple, isi_tuple_list, isi_tuple_dict, isi_list_bool, isi_list_int, isi_list_str, isi_list_tuple, isi_list_list, isi_list_dict, isi_dict_bool, isi_dict_int, isi_dict_str, isi_dict_tuple, isi_dict_list, isi_dict_dict, okTy_bool, okTy_int, okTy_str, okTy_tuple, okTy_list, okTy_dict])
local macro_rules | `(tactic| tm_at "nc") => `(tactic| first | exact True.intro | omega | exact mulL (by omega) (by omega) | exact mulR (by omega) (by omega) | exact divOk (by omega) (by omega) | (simp only [List.length_append, List.length_map, List.length_cons, List.length_nil, List.length_replicate, List.length_flatten, List.map_replicate, List.sum_replicate_nat, List.length_range, rngL_len, rngC_len, List.cons_append, List.nil_append]; first | done | omega))
local macro_rules | `(tactic| tm_at "ns") => `(tactic| repeat (with_reducible refine And.intro (by first | tm_at "nc" | exact ⟨by tm_at "nc", by tm_at "nc"⟩ | exact ⟨by tm_at "nc", by tm_at "nc", by tm_at "nc"⟩ | exact ⟨by tm_at "nc", by tm_at "nc", by tm_at "nc", by tm_at "nc"⟩) ?_))
theorem rep_range {m : Nat} (x : D) : (rngL 0 m).map (fun _ => x) = List.replicate m x := by
  simp [rngL, List.map_map, Function.comp_def, List.map_const']
theorem m_levels (ds : List D) (Om : N.Om) (Q : D → N.Om → Prop) (R : RX) (hl : ds.length = 2) (h : sp_levels ds Om Q R) : wFn 8 w_levels ds Om Q R := by
  obtain ⟨d, ps, n, rfl, hd, hs, h1, h8, q⟩ := h
  unfold w_levels
  tm_at "nw"
  have hdl : ∀ K : List D → Prop, K (ps.map oD) → gIt d K := fun K k => by rcases hd with rfl | rfl <;> exact k
  have hlen : ∀ K : D → Prop, K (.int (ps.length : Int)) → gLen [d] K := fun K k => by
    rcases hd with rfl | rfl
    · rw [gLen_t, List.length_map]; exact k
    · rw [gLen_l, List.length_map]; exact k
  refine hdl _ (turns_mapA oD (fun p => oD (dig n (0 :: p))) ps [] (by simp; have := hs.1; omega) (fun p hp K hK => ?_) ?_)
  · tm_at "nw"
    have := hs.2 p hp
    exact ⟨p, rfl, by omega, _, n, rfl, h1, h8, hK⟩
  · tm_at "nw"
    refine ⟨by decide, [2], n, rfl, h1, h8, ?_⟩
    refine hlen _ ⟨ps.length, rfl, by have := hs.1; omega, ?_⟩
    have h20 : dep ps.length ≤ 20 := dep_20 (by have := hs.1; omega)
    refine ⟨shlI (n := 1) (by decide) (by decide) (by omega) (by omega), hlen _ ?_⟩
    have hge := dep_le ps.length
    have hp2 : 2 ^ dep ps.length ≤ 1048576 := Nat.pow_le_pow_right (n := 2) (by decide) h20
    have e1 : (1 : Int) * 2 ^ ((dep ps.length : Nat) : Int).toNat = ((2 ^ dep ps.length : Nat) : Int) := by simp
    tm_at "nw"
    rw [e1]
    refine ⟨by omega, ?_⟩
    have e2 : (((2 ^ dep ps.length : Nat) : Int) - (ps.length : Int)).toNat = 2 ^ dep ps.length - ps.length := by omega
    rw [e2]
    refine turns_map (fun _ => oD (dig n [2])) _ [] (by rw [rngL_len, List.length_nil]; omega) (fun x hx K hK => ?_) ?_
    · tm_at "nw"
      exact hK
    · rw [rep_range]
      have e3 : [] ++ ps.map (fun p => oD (dig n (0 :: p))) ++ ([] ++ List.replicate (2 ^ dep ps.length - ps.length) (oD (dig n [2]))) = (row0 (dig n) ps).map oD := by
        simp [row0, List.map_map, Function.comp_def]
      have hr0 := row0_len (dig n) ps
      simp only [e3]
      refine ⟨by simp; omega, by decide, dep ps.length + 1, ?_⟩
      refine loop_levels n h1 h8 _ _ _ _ (dep ps.length) (row0 (dig n) ps) _ hr0 h20 (fun r hr => ?_) (by simp; omega) fun x => ?_
      · unfold row0 at hr
        rcases List.mem_append.mp hr with hr | hr
        · obtain ⟨p, _, rfl⟩ := List.mem_map.mp hr
          rw [dig_len]; omega
        · rw [(List.mem_replicate.mp hr).2, dig_len]; omega
      · tm_at "nw"
        have e4 : [lsD (row0 (dig n) ps)] ++ (lev (dig n) (dep ps.length) (row0 (dig n) ps)).tail.map lsD = (rows (dig n) ps).map lsD := by
          unfold rows
          cases dep ps.length <;> simp [lev]
        simp only [e4]
        exact q
theorem gIx_m1 {xs : List D} {d : D} {Q : D → Prop} (h : xs.getLast? = some d) (q : Q d) : gIx (.lst xs) (.int (-1)) Q := by
  have hne : xs ≠ [] := fun z => by rw [z] at h; cases h
  have e : xs = xs.dropLast ++ [d] := by
    rw [List.getLast?_eq_some_getLast hne] at h
    have := List.dropLast_concat_getLast hne
    rw [Option.some.inj h] at this
    exact this.symm
  have : atI xs (-1) = some d := by rw [e]; exact atI_last _ _
  simp only [gIx, this]
  exact q
theorem gIx_l0 {d : D} {r : List D} {Q : D → Prop} (q : Q d) : gIx (.lst (d :: r)) (.int 0) Q := gIx_list (j := 0) rfl rfl q
theorem lev_last (f : List Int → List Int) : ∀ (d : Nat) (row : List (List Int)), row.length = 2 ^ d → ∃ a, (lev f d row).getLast? = some [a]
  | 0, row, h => by
    match row, h with
    | [a], _ => exact ⟨a, rfl⟩
  | d + 1, row, h => by
    obtain ⟨a, e⟩ := lev_last f d (halve f row) (by rw [halve_len, h, Nat.pow_succ]; omega)
    refine ⟨a, ?_⟩
    rw [lev, List.getLast?_cons, e]
    rfl
theorem rows_last (f : List Int → List Int) (ps : List (List Int)) : (rows f ps).getLast? = some [topR (rows f ps)] := by
  obtain ⟨a, e⟩ := lev_last f (dep ps.length) (row0 f ps) (row0_len f ps)
  have : topR (rows f ps) = a := by
    unfold topR
    rw [List.getLastD_eq_getLast?, show (rows f ps).getLast? = some [a] from e]
    rfl
  rw [this]
  exact e
theorem m_root (ds : List D) (Om : N.Om) (Q : D → N.Om → Prop) (R : RX) (hl : ds.length = 2) (h : sp_root ds Om Q R) : wFn 2 w_root ds Om Q R := by
  obtain ⟨d, ps, n, rfl, hd, hs, h1, h8, q⟩ := h
  unfold w_root
  tm_at "nw"
  refine ⟨d, ps, n, rfl, hd, hs, h1, h8, ?_⟩
  exact gIx_m1 (d := lsD [topR (rows (dig n) ps)]) (by rw [List.getLast?_map, rows_last]; rfl) (gIx_l0 q)
theorem nodI (f : List Int → List Int) (i h : Nat) (t o : List Int) : nod f i h t o = if ((i : Int) / 2 ^ h % 2 = 1) then 1 :: (o ++ f t) else 1 :: (f t ++ o) := by
  unfold nod
  have : ((i : Int) / 2 ^ h % 2 = 1) ↔ (i / 2 ^ h % 2 = 1) := by
    have e : (i : Int) / 2 ^ h % 2 = ((i / 2 ^ h % 2 : Nat) : Int) := by simp
    rw [e]; omega
  simp only [this]
theorem bit1 {x : Int} (h : 0 ≤ x) : Builtin.bitAnd x 1 = x % 2 := by
  have := Bits.bitAnd_mask (x := x) 1 h
  simpa using this
theorem loop_path (n : Nat) (h1 : 1 ≤ n) (h8 : n ≤ 8) (i : Nat) (x2 x3 : Sl) (Po : Post) (Om : N.Om) : ∀ (pr : List (List Int)) (h : Nat) (t : List Int) (acc : List D) (y5 y6 y7 : Sl), t.length ≤ 1000000 → (∀ o ∈ pr, o.length ≤ 100000) → h + pr.length ≤ 1000 → acc.length + pr.length ≤ 10000 →
    (∀ y5 y6 y7, Po.nx [.val (hsh n), .val (.int (i : Int)), x2, x3, .own (.lst (acc ++ (wayG (dig n) i h t pr).map oD)), y5, y6, y7] Om) →
    wForL (fTup 2 (fCons (fName 5) (fCons (fName 6) fNil))) w_path_b1 (enumF h (pr.map oD)) [.val (hsh n), .val (.int (i : Int)), x2, x3, .own (.lst (acc ++ [oD t])), y5, y6, y7] Om Po
  | [], h, t, acc, y5, y6, y7, _, _, _, _, hq => by
    simp only [List.map_nil, enumF, wForL]
    simpa [wayG] using hq y5 y6 y7
  | o :: r, h, t, acc, y5, y6, y7, ht, ho, hh, ha, hq => by
    rw [List.length_cons] at hh ha
    have ho1 := ho o List.mem_cons_self
    have hd := dig_len n t
    simp only [List.map_cons, enumF, wForL]
    tm_at "nw"
    refine gIx_m1 (d := oD t) (by simp) ?_
    refine ⟨t, n, rfl, h1, h8, by omega, ?_⟩
    have eb : Builtin.bitAnd ((i : Int) / 2 ^ (h : Int).toNat) 1 = (i : Int) / 2 ^ h % 2 := by
      rw [show (h : Int).toNat = h by omega]
      exact bit1 (Int.ediv_nonneg (by omega) (by exact Int.le_of_lt (Int.pow_pos (by decide))))
    rw [eb]
    have step : ∀ t', nod (dig n) i h t o = t' → wForL (fTup 2 (fCons (fName 5) (fCons (fName 6) fNil))) w_path_b1 (enumF (h + 1) (r.map oD)) [.val (hsh n), .val (.int (i : Int)), x2, x3, .own (.lst (acc ++ [oD t] ++ [oD t'])), .val (.int (h : Int)), .val (oD o), .val (oD (dig n t))] Om Po := fun t' e => by
      refine loop_path n h1 h8 i x2 x3 Po Om r (h + 1) t' (acc ++ [oD t]) _ _ _ ?_ (fun o' h' => ho o' (List.mem_cons_of_mem _ h')) (by omega) (by simp; omega) fun y5 y6 y7 => ?_
      · rw [← e]
        unfold nod
        split <;> simp <;> omega
      · have := hq y5 y6 y7
        rw [wayG, e] at this
        simpa [List.append_assoc] using this
    refine br_d (fun e => ?_) (fun e => ?_)
    · exact ⟨o, dig n t, rfl, by omega, by omega, by simp; omega, step _ (by rw [nodI, if_pos e])⟩
    · exact ⟨dig n t, o, rfl, by omega, by omega, by simp; omega, step _ (by rw [nodI, if_neg e])⟩
theorem m_path (ds : List D) (Om : N.Om) (Q : D → N.Om → Prop) (R : RX) (hl : ds.length = 4) (h : sp_path ds Om Q R) : wFn 8 w_path ds Om Q R := by
  obtain ⟨i, p, pr, n, rfl, hp, ho, hl2, h1, h8, q⟩ := h
  unfold w_path
  tm_at "nw"
  refine ⟨p, rfl, by omega, by decide, ?_⟩
  refine loop_path n h1 h8 i _ _ _ _ pr 0 (0 :: p) [] _ _ _ (by simp; omega) ho (by omega) (by simp; omega) fun y5 y6 y7 => ?_
  tm_at "nw"
  simpa [way] using q
theorem wayG_ne (f : List Int → List Int) (i h : Nat) (t : List Int) (pr : List (List Int)) : wayG f i h t pr ≠ [] := fun z => by
  have := wayG_len f i h t pr
  rw [z] at this
  simp at this
theorem way_last (f : List Int → List Int) (i : Nat) (p : List Int) (pr : List (List Int)) : (way f i p pr).getLast? = some ((way f i p pr).getLastD []) := by
  rw [List.getLastD_eq_getLast?]
  cases h : (way f i p pr).getLast? with
  | none => exact (wayG_ne _ _ _ _ _ (List.getLast?_eq_none_iff.mp h)).elim
  | some x => rfl
theorem m_fold (ds : List D) (Om : N.Om) (Q : D → N.Om → Prop) (R : RX) (hl : ds.length = 4) (h : sp_fold ds Om Q R) : wFn 4 w_fold ds Om Q R := by
  obtain ⟨i, p, pr, n, rfl, hp, ho, hl2, h1, h8, q⟩ := h
  unfold w_fold
  tm_at "nw"
  refine ⟨i, p, pr, n, rfl, hp, ho, hl2, h1, h8, ?_⟩
  refine gIx_m1 (d := oD ((way (dig n) i p pr).getLastD [])) (by rw [List.getLast?_map, way_last]; rfl) ?_
  exact ⟨_, n, rfl, h1, h8, q⟩
theorem m_is_proof (ds : List D) (Om : N.Om) (Q : D → N.Om → Prop) (R : RX) (hl : ds.length = 3) (h : sp_is_proof ds Om Q R) : wFn 4 w_is_proof ds Om Q R := by
  obtain ⟨c, d, n, rfl, hc, hd, h16, q⟩ := h
  unfold w_is_proof
  cases d <;> simp only [plD] at hd <;> try cases hd
  case tup xs =>
    tm_at "nw"
    refine ⟨c, rfl, hc, ?_⟩
    obtain ⟨hx, hy⟩ := h16 xs rfl
    refine ⟨shp_int _, ?_⟩
    rw [deq_int]
    refine br_if (fun e => ?_) (fun e => ?_)
    · have e : ¬ xs.length = dep c := fun z => by rw [z] at e; simp at e
      simpa [isPrf, e] using q
    · have e : xs.length = dep c := by simp at e; omega
      refine turns_map (fun d => .bl (isOcts (some n) d)) xs [] (by simpa using hx) (fun d hd' K hK => ?_) ?_
      · tm_at "nw"
        exact ⟨d, n, rfl, plL_mem hd d hd', hy d hd', hK⟩
      · rw [List.nil_append, show (xs.map fun d => D.bl (isOcts (some n) d)) = (xs.map (isOcts (some n))).map D.bl by rw [List.map_map]; rfl]
        tm_at "nw"
        simpa [isPrf, e, List.all_map, Function.comp_def] using q
  all_goals (tm_at "nw"; simpa [isPrf] using q)
theorem isPrf_os {n c : Nat} {pr : List (List Int)} (hl : pr.length = dep c) (h : ∀ o ∈ pr, Oct o ∧ o.length = n) : isPrf n c (osD pr) = true := by
  unfold isPrf
  rw [Bool.and_eq_true]
  refine ⟨by simpa using hl, List.all_eq_true.mpr fun d hd => ?_⟩
  obtain ⟨o, ho, rfl⟩ := List.mem_map.mp hd
  rw [isOcts_o]
  simp [(h o ho).2, octB_of (h o ho).1]
theorem m_fits (ds : List D) (Om : N.Om) (Q : D → N.Om → Prop) (R : RX) (hl : ds.length = 6) (h : sp_fits ds Om Q R) : wFn 6 w_fits ds Om Q R := by
  obtain ⟨n, top, c, i, p, pr, rfl, hi, hc, hp, hp2, hpl, hpr, h1, h8, q⟩ := h
  unfold w_fits
  tm_at "nw"
  have h20 := dep_20 hc
  refine ⟨_, rfl, rfl, ?_⟩
  simp only [intB, Bool.not_true, br_f]
  refine br_df (by omega) (br_df (by omega) ?_)
  refine ⟨rfl, _, none, rfl, plD_o p, fun xs e => ?_, ?_⟩
  · cases e; simp; omega
  rw [isOcts_o]
  simp only [octB_of hp, Bool.and_true, Bool.not_true, br_f]
  refine ⟨c, _, n, rfl, hc, plL_os pr, fun xs e => ?_, ?_⟩
  · cases e
    refine ⟨by simp; omega, fun x hx ys e => ?_⟩
    obtain ⟨o, ho, rfl⟩ := List.mem_map.mp hx
    cases e
    have := (hpr o ho).2
    simp; omega
  rw [isPrf_os hpl hpr]
  tm_at "nw"
  refine ⟨i, p, pr, n, rfl, hp2, fun o ho => by have := (hpr o ho).2; omega, by omega, h1, h8, ?_⟩
  exact ⟨shp_tints _, shp_tints _, by rw [deq_tints]; exact q⟩
end N

set_option Elab.async false
set_option linter.all false
set_option maxRecDepth 100000
set_option maxHeartbeats 0
namespace N
open PySem PySem.Spec PyProof.Rows L2
local macro_rules | `(tactic| tm_at "nw") => `(tactic| try simp only [wFn, startG_c, startG_n, startG_z, wSeq, wSet, wC, wFor, wIt, wVar, wVarB, getSl_z, getSl_s, List.set_cons_zero, List.set_cons_succ, wRet, wBin, gI_i, gI0_i, gB0_i, gAdd_i, gAdd_t, gAdd_l, gAdd_s, gMul_i, gMul_t, gMul_l, gEq_, gNe_, gIs_n, gIs_b, gIsNot_n, gIsNot_b, isNon_n, isNon_i, isNon_b, isNon_t, isNon_l, isNon_s, wIfS, wtOr, wtAnd, wtNot, wTst, wNext, wNev, wCall, wCallF, wFrz, wLst, wTup, waNil, waCons, wComp, wRng, gRng1_i, gRng2_i, gRng3_i, wUn, gNeg_i, gTuple_t, gTuple_l, gList_t, gList_l, gList_s, gLen_t, gLen_l, gLen_s, gLen_d, gInt_i, gInt_b, gAbs_i, gMax_i, gMin_i, wipeG, MO.see, fName, wCallU, wCallK, List.append_nil, List.length_cons, List.length_nil, wSl, woNone, woSome, gSl_t, gSl_l, gIt_t, gIt_l, gIt_s, gIsi_i, gIsi_b, gIsi_t, gIsi_l, gIsi_s, gIsi_n, gIsi_d, wFld, wMeth, wMake, wMakeF, wSetF, wExt, wFz, wRev, wRaise, wTry, wBits, insOf_ins, lk_kind, lk_size, lk_digest, lk_is_digest, gEnum_t, gEnum_l, gZip_t, gZip_l, mem1, reduceCtorEq, eq_self, wAsg, fTup, fCons, fNil, wAnd, wOr, wNot, wIf, wPar, wAug, wApp, wSetO, wRetO, br_t, br_f, shp_int, shp_bl, shp_non, deq_int, gAll_b, gAny_b, gSum_i, wDrop, wRetN, true_and, and_true, decide_true, decide_false, Bool.not_true, Bool.not_false, isi_NoneType_bool, isi_NoneType_int, isi_NoneType_str, isi_NoneType_tuple, isi_NoneType_list, isi_NoneType_dict, isi_bool_bool, isi_bool_int, isi_bool_str, isi_bool_tuple, isi_bool_list, isi_bool_dict, isi_int_bool, isi_int_int, isi_int_str, isi_int_tuple, isi_int_list, isi_int_dict, isi_str_bool, isi_str_int, isi_str_str, isi_str_tuple, isi_str_list, isi_str_dict, isi_tuple_bool, isi_tuple_int, isi_tuple_str, isi_tuple_tuple, isi_tuple_list, isi_tuple_dict, isi_list_bool, isi_list_int, isi_list_str, isi_list_tuple, isi_list_list, isi_list_dict, isi_dict_bool, isi_dict_int, isi_dict_str, isi_dict_tuple, isi_dict_list, isi_dict_dict, okTy_bool, okTy_int, okTy_str, okTy_tuple, okTy_list, okTy_dict])
local macro_rules | `(tactic| tm_at "nc") => `(tactic| first | exact True.intro | omega | exact mulL (by omega) (by omega) | exact mulR (by omega) (by omega) | exact divOk (by omega) (by omega) | (simp only [List.length_append, List.length_map, List.length_cons, List.length_nil, List.length_replicate, List.length_flatten, List.map_replicate, List.sum_replicate_nat, List.length_range, rngL_len, rngC_len, List.cons_append, List.nil_append]; first | done | omega))
local macro_rules | `(tactic| tm_at "ns") => `(tactic| repeat (with_reducible refine And.intro (by first | tm_at "nc" | exact ⟨by tm_at "nc", by tm_at "nc"⟩ | exact ⟨by tm_at "nc", by tm_at "nc", by tm_at "nc"⟩ | exact ⟨by tm_at "nc", by tm_at "nc", by tm_at "nc", by tm_at "nc"⟩) ?_))
theorem lev_get (f : List Int → List Int) : ∀ (d : Nat) (row : List (List Int)) (h : Nat) (r : List (List Int)), row.length = 2 ^ d → (lev f d row)[h]? = some r → h ≤ d ∧ r.length = 2 ^ (d - h)
  | 0, row, h, r, hr, e => by
    cases h with
    | zero => simp [lev] at e; subst e; exact ⟨by omega, hr⟩
    | succ h => simp [lev] at e
  | d + 1, row, 0, r, hr, e => by simp [lev] at e; subst e; exact ⟨by omega, hr⟩
  | d + 1, row, h + 1, r, hr, e => by
    rw [lev, List.getElem?_cons_succ] at e
    obtain ⟨a, b⟩ := lev_get f d (halve f row) h r (by rw [halve_len, hr, Nat.pow_succ]; omega) e
    exact ⟨by omega, by rw [b]; congr 1; omega⟩
theorem sib_lt {j d : Nat} (h : j < 2 ^ d) (hd : 1 ≤ d) : sib j < 2 ^ d := by
  obtain ⟨e, rfl⟩ : ∃ e, d = e + 1 := ⟨d - 1, by omega⟩
  unfold sib
  rw [Nat.pow_succ] at h ⊢
  omega
theorem div_lt_pow {i d h : Nat} (hi : i < 2 ^ d) (hh : h ≤ d) : i / 2 ^ h < 2 ^ (d - h) := by
  rw [Nat.div_lt_iff_lt_mul (Nat.pow_pos (by decide)), ← Nat.pow_add]
  rwa [Nat.sub_add_cancel hh]
theorem xor1 (i : Nat) : Builtin.bitXor (i : Int) 1 = ((sib i : Nat) : Int) := by
  rw [PyProof.Rows.bitXor_and, bit1 (by omega)]
  unfold sib
  omega
theorem rows_len (f : List Int → List Int) (ps : List (List Int)) : (rows f ps).length = dep ps.length + 1 := lev_len _ _ _
theorem rows_get {f : List Int → List Int} {ps : List (List Int)} {h : Nat} {r : List (List Int)} (e : (rows f ps)[h]? = some r) : h ≤ dep ps.length ∧ r.length = 2 ^ (dep ps.length - h) := lev_get f _ _ h r (row0_len f ps) e
theorem prf_in {f : List Int → List Int} {ps : List (List Int)} {i h : Nat} (hi : i < ps.length) (hh : h < dep ps.length) : ∃ r o, (rows f ps)[h]? = some r ∧ r[sib (i / 2 ^ h)]? = some o ∧ ((rows f ps).getD h []).getD (sib (i / 2 ^ h)) [] = o := by
  have hl : h < (rows f ps).length := by rw [rows_len]; omega
  have e := List.getElem?_eq_getElem hl
  obtain ⟨a, b⟩ := rows_get e
  have hi2 : i < 2 ^ dep ps.length := Nat.lt_of_lt_of_le hi (dep_le _)
  have hs : sib (i / 2 ^ h) < ((rows f ps)[h]).length := by rw [b]; exact sib_lt (div_lt_pow hi2 a) (by omega)
  refine ⟨_, _, e, List.getElem?_eq_getElem hs, ?_⟩
  simp [List.getD_eq_getElem?_getD, e, List.getElem?_eq_getElem hs]
theorem enumF_dropLast {α : Type} (h : α → D) (xs : List α) : (xs.map h).length = xs.length := by simp
theorem cut_m1 {α : Type} (xs : List α) (hx : xs ≠ []) : cutD xs none (some (-1)) = xs.dropLast := by
  unfold cutD
  rw [HT.sIx_none, List.drop_zero, Nat.sub_zero]
  have hp : 0 < xs.length := List.length_pos_iff.mpr hx
  have : HT.sIx xs.length xs.length (some (-1)) = xs.length - 1 := by
    show (if (-1 : Int) < 0 then ((-1 : Int) + (xs.length : Int)).toNat else min (-1 : Int).toNat xs.length) = _
    rw [if_pos (by decide)]
    omega
  rw [this, List.dropLast_eq_take]
theorem enumF_eq (xs : List D) : ∀ k : Nat, enumF k xs = (List.range xs.length).map fun i => .tup [.int ((k + i : Nat) : Int), xs.getD i .non] := fun k => by
  refine List.ext_getElem? fun i => ?_
  rw [enumF_get, List.getElem?_map]
  by_cases hi : i < xs.length
  · rw [List.getElem?_range hi, List.getElem?_eq_getElem hi]
    simp [List.getElem?_eq_getElem hi]
  · rw [List.getElem?_eq_none (by omega), List.getElem?_eq_none (by simp; omega)]
    rfl
theorem loop_proofs (n : Nat) (d : Sl) (ps : List (List Int)) (hp : ps.length ≤ 5000) (x0 : Sl) (Po : Post) (Om : N.Om) : ∀ (m k : Nat) (y4 : Sl), k + m = ps.length →
    (∀ y4, Po.nx [x0, d, .val (rowsD (rows (dig n) ps)), .own (.lst ((List.range ps.length).map fun i => osD (prf (rows (dig n) ps) i))), y4, .no, .no] Om) →
    wForL (fName 4) w_proofs_b1 ((List.range' k m).map fun (i : Nat) => .int (i : Int)) [x0, d, .val (rowsD (rows (dig n) ps)), .own (.lst ((List.range k).map fun i => osD (prf (rows (dig n) ps) i))), y4, .no, .no] Om Po
  | 0, k, y4, hk, h => by
    have : k = ps.length := by omega
    subst this
    exact h y4
  | m + 1, k, y4, hk, h => by
    rw [List.range'_succ, List.map_cons]
    simp only [wForL]
    tm_at "nw"
    have h20 : dep ps.length ≤ 20 := dep_20 (by omega)
    have hne : ((rows (dig n) ps).map fun r => lsD r) ≠ [] := fun z => by
      have := congrArg List.length z
      rw [List.length_map, rows_len] at this
      simp at this
    rw [cut_m1 _ hne, enumF_eq]
    have hlen : ((rows (dig n) ps).map fun r => lsD r).dropLast.length = dep ps.length := by rw [List.length_dropLast, List.length_map, rows_len]; omega
    rw [hlen]
    refine turns_mapA (fun (i : Nat) => D.tup [.int ((0 + i : Nat) : Int), ((rows (dig n) ps).map fun r => lsD r).dropLast.getD i .non]) (fun i => oD (((rows (dig n) ps).getD i []).getD (sib (k / 2 ^ i)) [])) (List.range (dep ps.length)) [] (by simp; omega) (fun i hi K hK => ?_) ?_
    · have hi := List.mem_range.mp hi
      obtain ⟨r, o, e1, e2, e3⟩ := prf_in (f := dig n) (ps := ps) (i := k) (by omega) hi
      rw [e3] at hK
      have e4 : ((rows (dig n) ps).map fun r => lsD r).dropLast.getD i .non = lsD r := by
        rw [List.getD_eq_getElem?_getD, List.getElem?_dropLast, if_pos (by rw [List.length_map, rows_len]; omega), List.getElem?_map, e1]
        rfl
      rw [e4]
      tm_at "nw"
      refine ⟨by omega, ?_⟩
      have e5 : Builtin.bitXor ((k : Int) / 2 ^ ((0 + i : Nat) : Int).toNat) 1 = ((sib (k / 2 ^ i) : Nat) : Int) := by
        rw [show ((0 + i : Nat) : Int).toNat = i by omega, show (k : Int) / 2 ^ i = ((k / 2 ^ i : Nat) : Int) by simp, xor1]
      rw [e5]
      exact gIx_list (j := sib (k / 2 ^ i)) rfl (by rw [List.getElem?_map, e2]; rfl) hK
    · tm_at "nw"
      refine ⟨by simp; omega, ?_⟩
      have e6 : (List.range k).map (fun i => osD (prf (rows (dig n) ps) i)) ++ [D.tup ([] ++ (List.range (dep ps.length)).map fun i => oD (((rows (dig n) ps).getD i []).getD (sib (k / 2 ^ i)) []))] = (List.range (k + 1)).map fun i => osD (prf (rows (dig n) ps) i) := by
        rw [List.range_succ, List.map_append, List.nil_append]
        simp [prf, rows_len, List.map_map, Function.comp_def]
      rw [e6]
      exact loop_proofs n d ps hp x0 Po Om m (k + 1) _ (by omega) h
theorem rngL_nat (n : Nat) : rngL 0 n = (List.range' 0 n).map fun (i : Nat) => D.int (i : Int) := by
  rw [rngL, List.range_eq_range']
  exact List.map_congr_left fun i _ => by rw [Int.zero_add]
theorem m_proofs (ds : List D) (Om : N.Om) (Q : D → N.Om → Prop) (R : RX) (hl : ds.length = 2) (h : sp_proofs ds Om Q R) : wFn 7 w_proofs ds Om Q R := by
  obtain ⟨d, ps, n, rfl, hd, hs, h1, h8, q⟩ := h
  unfold w_proofs
  tm_at "nw"
  refine ⟨d, ps, n, rfl, hd, hs, h1, h8, by decide, ?_⟩
  have hlen : ∀ K : D → Prop, K (.int (ps.length : Int)) → gLen [d] K := fun K k => by
    rcases hd with rfl | rfl
    · rw [gLen_t, List.length_map]; exact k
    · rw [gLen_l, List.length_map]; exact k
  refine hlen _ ?_
  tm_at "nw"
  have := hs.1
  refine ⟨by omega, ?_⟩
  rw [show ((ps.length : Nat) : Int).toNat = ps.length by omega, rngL_nat]
  refine loop_proofs n _ ps this _ _ _ ps.length 0 _ (by omega) fun y4 => ?_
  tm_at "nw"
  exact q
end N

set_option Elab.async false
set_option linter.all false
set_option maxRecDepth 100000
set_option maxHeartbeats 0
namespace N
open PySem PySem.Spec PyProof.Rows L2
local macro_rules | `(tactic| tm_at "nw") => `(tactic| try simp only [wFn, startG_c, startG_n, startG_z, wSeq, wSet, wC, wFor, wIt, wVar, wVarB, getSl_z, getSl_s, List.set_cons_zero, List.set_cons_succ, wRet, wBin, gI_i, gI0_i, gB0_i, gAdd_i, gAdd_t, gAdd_l, gAdd_s, gMul_i, gMul_t, gMul_l, gEq_, gNe_, gIs_n, gIs_b, gIsNot_n, gIsNot_b, isNon_n, isNon_i, isNon_b, isNon_t, isNon_l, isNon_s, wIfS, wtOr, wtAnd, wtNot, wTst, wNext, wNev, wCall, wCallF, wFrz, wLst, wTup, waNil, waCons, wComp, wRng, gRng1_i, gRng2_i, gRng3_i, wUn, gNeg_i, gTuple_t, gTuple_l, gList_t, gList_l, gList_s, gLen_t, gLen_l, gLen_s, gLen_d, gInt_i, gInt_b, gAbs_i, gMax_i, gMin_i, wipeG, MO.see, fName, wCallU, wCallK, List.append_nil, List.length_cons, List.length_nil, wSl, woNone, woSome, gSl_t, gSl_l, gIt_t, gIt_l, gIt_s, gIsi_i, gIsi_b, gIsi_t, gIsi_l, gIsi_s, gIsi_n, gIsi_d, wFld, wMeth, wMake, wMakeF, wSetF, wExt, wFz, wRev, wRaise, wTry, wBits, insOf_ins, lk_kind, lk_size, lk_digest, lk_is_digest, gEnum_t, gEnum_l, gZip_t, gZip_l, mem1, reduceCtorEq, eq_self, wAsg, fTup, fCons, fNil, wAnd, wOr, wNot, wIf, wPar, wAug, wApp, wSetO, wRetO, br_t, br_f, shp_int, shp_bl, shp_non, deq_int, gAll_b, gAny_b, gSum_i, wDrop, wRetN, true_and, and_true, decide_true, decide_false, Bool.not_true, Bool.not_false, isi_NoneType_bool, isi_NoneType_int, isi_NoneType_str, isi_NoneType_tuple, isi_NoneType_list, isi_NoneType_dict, isi_bool_bool, isi_bool_int, isi_bool_str, isi_bool_tuple, isi_bool_list, isi_bool_dict, isi_int_bool, isi_int_int, isi_int_str, isi_int_tuple, isi_int_list, isi_int_dict, isi_str_bool, isi_str_int, isi_str_str, isi_str_tuple, isi_str_list, isi_str_dict, isi_tuple_bool, isi_tuple_int, isi_tuple_str, isi_tuple_tuple, isi_tuple_list, isi_tuple_dict, isi_list_bool, isi_list_int, isi_list_str, isi_list_tuple, isi_list_list, isi_list_dict, isi_dict_bool, isi_dict_int, isi_dict_str, isi_dict_tuple, isi_dict_list, isi_dict_dict, okTy_bool, okTy_int, okTy_str, okTy_tuple, okTy_list, okTy_dict])
local macro_rules | `(tactic| tm_at "nc") => `(tactic| first | exact True.intro | omega | exact mulL (by omega) (by omega) | exact mulR (by omega) (by omega) | exact divOk (by omega) (by omega) | (simp only [List.length_append, List.length_map, List.length_cons, List.length_nil, List.length_replicate, List.length_flatten, List.map_replicate, List.sum_replicate_nat, List.length_range, rngL_len, rngC_len, List.cons_append, List.nil_append]; first | done | omega))
local macro_rules | `(tactic| tm_at "ns") => `(tactic| repeat (with_reducible refine And.intro (by first | tm_at "nc" | exact ⟨by tm_at "nc", by tm_at "nc"⟩ | exact ⟨by tm_at "nc", by tm_at "nc", by tm_at "nc"⟩ | exact ⟨by tm_at "nc", by tm_at "nc", by tm_at "nc", by tm_at "nc"⟩) ?_))
theorem zipF_os : ∀ as bs : List (List Int), zipF (as.map oD) (bs.map oD) = (as.zip bs).map fun ab => .tup [oD ab.1, oD ab.2]
  | [], bs => by simp [zipF]
  | a :: as, [] => by simp [zipF]
  | a :: as, b :: bs => by simp only [List.map_cons, zipF, List.zip_cons_cons, zipF_os as bs]
def partZ (f : List Int → List Int) : List (List Int × List Int) → Option (List Int × List Int)
  | [] => none
  | (a, b) :: r => if a ≠ b ∧ f a = f b then some (a, b) else partZ f r
theorem part_zip (f : List Int → List Int) : ∀ as bs, part f as bs = partZ f (as.zip bs)
  | [], bs => by simp [part, partZ]
  | a :: as, [] => by simp [part, partZ]
  | a :: as, b :: bs => by rw [part, List.zip_cons_cons, partZ, part_zip f as bs]
theorem loop_parted (n : Nat) (h1 : 1 ≤ n) (h8 : n ≤ 8) (x1 x2 x3 x4 x5 : Sl) (Po : Post) (Om : N.Om) : ∀ (zs : List (List Int × List Int)) (y6 y7 : Sl), (∀ r, partZ (dig n) zs = some r → Po.rt (.tup [oD r.1, oD r.2]) Om) → (partZ (dig n) zs = none → ∀ y6 y7, Po.nx [.val (hsh n), x1, x2, x3, x4, x5, y6, y7] Om) →
    wForL (fTup 2 (fCons (fName 6) (fCons (fName 7) fNil))) w_parted_b1 (zs.map fun ab => .tup [oD ab.1, oD ab.2]) [.val (hsh n), x1, x2, x3, x4, x5, y6, y7] Om Po
  | [], y6, y7, _, h => h rfl y6 y7
  | (a, b) :: r, y6, y7, hs, hn => by
    simp only [List.map_cons, wForL]
    tm_at "nw"
    refine ⟨shp_tints _, shp_tints _, ?_⟩
    rw [deq_tints]
    have next : (¬ (a ≠ b ∧ dig n a = dig n b)) → wForL (fTup 2 (fCons (fName 6) (fCons (fName 7) fNil))) w_parted_b1 (r.map fun ab => .tup [oD ab.1, oD ab.2]) [.val (hsh n), x1, x2, x3, x4, x5, .val (oD a), .val (oD b)] Om Po := fun z => by
      refine loop_parted n h1 h8 x1 x2 x3 x4 x5 Po Om r _ _ (fun t ht => hs t ?_) fun ht => hn ?_
      · rw [partZ, if_neg z]; exact ht
      · rw [partZ, if_neg z]; exact ht
    by_cases e : a = b
    · rw [decide_eq_true e]
      tm_at "nw"
      exact next fun z => z.1 e
    · rw [decide_eq_false e]
      tm_at "nw"
      refine ⟨a, n, rfl, h1, h8, b, n, rfl, h1, h8, shp_tints _, shp_tints _, ?_⟩
      rw [deq_tints]
      refine br_d (fun e2 => ?_) fun e2 => next fun z => e2 z.2
      exact ⟨by decide, hs (a, b) (by rw [partZ, if_pos ⟨e, e2⟩])⟩
theorem prf_len {f : List Int → List Int} {ps : List (List Int)} {i : Nat} : (prf (rows f ps) i).length = dep ps.length := by
  unfold prf
  rw [List.length_map, List.length_range, rows_len]
  omega
theorem lev_in (f : List Int → List Int) : ∀ (d : Nat) (row : List (List Int)), (∀ o ∈ row, ∃ t, o = f t) → ∀ r ∈ lev f d row, ∀ o ∈ r, ∃ t, o = f t
  | 0, row, h, r, hr, o, ho => by
    rw [lev, List.mem_singleton] at hr
    subst hr
    exact h o ho
  | d + 1, row, h, r, hr, o, ho => by
    rw [lev, List.mem_cons] at hr
    rcases hr with rfl | hr
    · exact h o ho
    · exact lev_in f d (halve f row) (fun o ho => halve_mem ho) r hr o ho
theorem rows_in {f : List Int → List Int} {ps : List (List Int)} : ∀ r ∈ rows f ps, ∀ o ∈ r, ∃ t, o = f t := by
  refine lev_in f _ _ fun o ho => ?_
  unfold row0 at ho
  rcases List.mem_append.mp ho with h | h
  · obtain ⟨p, _, rfl⟩ := List.mem_map.mp h
    exact ⟨_, rfl⟩
  · exact ⟨_, (List.mem_replicate.mp h).2⟩
theorem prf_mem {f : List Int → List Int} {ps : List (List Int)} {i : Nat} (hi : i < ps.length) : ∀ o ∈ prf (rows f ps) i, ∃ t, o = f t := fun o ho => by
  unfold prf at ho
  obtain ⟨h, hh, rfl⟩ := List.mem_map.mp ho
  have hh := List.mem_range.mp hh
  rw [rows_len] at hh
  obtain ⟨r, o, e1, e2, e3⟩ := prf_in (f := f) (ps := ps) (i := i) (h := h) hi (by omega)
  rw [e3]
  exact rows_in r (List.mem_of_getElem? e1) o (List.mem_of_getElem? e2)
theorem m_parted (ds : List D) (Om : N.Om) (Q : D → N.Om → Prop) (R : RX) (hl : ds.length = 5) (h : sp_parted ds Om Q R) : wFn 8 w_parted ds Om Q R := by
  obtain ⟨n, ps, i, p, pr, rfl, hi, hs, hps, hp, hp2, hpl, hpr, h1, h8, qr, q⟩ := h
  unfold w_parted
  tm_at "nw"
  have hs1 := hs.1
  refine ⟨_, ps, n, rfl, .inl rfl, hs, h1, h8, ?_⟩
  tm_at "nw"
  refine ⟨n, _, ps.length, i, p, pr, by rw [List.length_map], hi, by omega, hp, hp2, hpl, hpr, h1, h8, ?_⟩
  tm_at "nw"
  by_cases e : fold (dig n) i p pr = topR (rows (dig n) ps)
  · simp only [decide_eq_true e, Bool.not_true, br_f]
    have ei : ps[i]? = some ps[i] := List.getElem?_eq_getElem hi
    have egd : ps.getD i [] = ps[i] := by simp [List.getD_eq_getElem?_getD, ei]
    have h20 : dep ps.length ≤ 20 := dep_20 (by omega)
    refine gIx_tup (j := i) rfl (by rw [List.getElem?_map, ei]; rfl) ?_
    refine ⟨_, ps, n, rfl, .inl rfl, hs, h1, h8, ?_⟩
    refine gIx_tup (j := i) rfl (by rw [List.getElem?_map, List.getElem?_range hi]; rfl) ?_
    refine ⟨i, ps[i], prf (rows (dig n) ps) i, n, rfl, hs.2 _ (List.getElem_mem hi), fun o ho => ?_, by rw [prf_len]; omega, h1, h8, ?_⟩
    · obtain ⟨t, rfl⟩ := prf_mem hi o ho
      rw [dig_len]; omega
    refine ⟨i, p, pr, n, rfl, hp2, fun o ho => by have := (hpr o ho).2; omega, by omega, h1, h8, ?_⟩
    tm_at "nw"
    rw [zipF_os]
    have q := q e
    rw [egd, part_zip] at q
    refine loop_parted n h1 h8 _ _ _ _ _ _ _ _ _ _ (fun r hr => ?_) fun hn y6 y7 => ?_
    · rw [hr] at q
      exact q
    · rw [hn] at q
      exact q
  · simp only [decide_eq_false e, Bool.not_false, br_t]
    exact qr e
theorem m__law_cell (ds : List D) (Om : N.Om) (Q : D → N.Om → Prop) (R : RX) (hl : ds.length = 2) (h : sp__law_cell ds Om Q R) : wFn 2 w__law_cell ds Om Q R := by
  obtain ⟨ns, k, rfl, q⟩ := h
  unfold w__law_cell
  tm_at "nw"
  refine br_d (fun e => ?_) (fun e => q _)
  have hk : k < ns.length := by omega
  exact gIx_scr (j := k) rfl (List.getElem?_eq_getElem hk) (q _)
theorem m__law_rich (ds : List D) (Om : N.Om) (Q : D → N.Om → Prop) (R : RX) (hl : ds.length = 2) (h : sp__law_rich ds Om Q R) : wFn 3 w__law_rich ds Om Q R := by
  obtain ⟨c, k, rfl, hk, q⟩ := h
  unfold w__law_rich
  tm_at "nw"
  refine ⟨⟨by decide, by decide, by decide⟩, br_d (fun e => ?_) (fun e => ?_)⟩
  · refine q _ ?_
    have : (10 : Int) ^ (18 : Int).toNat = 1000000000000000000 := by decide
    omega
  · have e0 := Int.emod_nonneg (c * 48271 + (k : Int) * 69621 + 11) (show (2147483647 : Int) ≠ 0 by decide)
    have e1 := Int.emod_lt_of_pos (c * 48271 + (k : Int) * 69621 + 11) (show (0 : Int) < 2147483647 by decide)
    tm_at "ns"
    have e2 := Int.emod_nonneg ((c * 48271 + (k : Int) * 69621 + 11) % 2147483647 * 16807 + c) (show (2147483629 : Int) ≠ 0 by decide)
    exact q _ (by omega)
end N

set_option Elab.async false
set_option linter.all false
set_option maxRecDepth 100000
set_option maxHeartbeats 0
namespace N
open PySem PySem.Spec PyProof.Rows L2
local macro_rules | `(tactic| tm_at "nw") => `(tactic| try simp only [wFn, startG_c, startG_n, startG_z, wSeq, wSet, wC, wFor, wIt, wVar, wVarB, getSl_z, getSl_s, List.set_cons_zero, List.set_cons_succ, wRet, wBin, gI_i, gI0_i, gB0_i, gAdd_i, gAdd_t, gAdd_l, gAdd_s, gMul_i, gMul_t, gMul_l, gEq_, gNe_, gIs_n, gIs_b, gIsNot_n, gIsNot_b, isNon_n, isNon_i, isNon_b, isNon_t, isNon_l, isNon_s, wIfS, wtOr, wtAnd, wtNot, wTst, wNext, wNev, wCall, wCallF, wFrz, wLst, wTup, waNil, waCons, wComp, wRng, gRng1_i, gRng2_i, gRng3_i, wUn, gNeg_i, gTuple_t, gTuple_l, gList_t, gList_l, gList_s, gLen_t, gLen_l, gLen_s, gLen_d, gInt_i, gInt_b, gAbs_i, gMax_i, gMin_i, wipeG, MO.see, fName, wCallU, wCallK, List.append_nil, List.length_cons, List.length_nil, wSl, woNone, woSome, gSl_t, gSl_l, gIt_t, gIt_l, gIt_s, gIsi_i, gIsi_b, gIsi_t, gIsi_l, gIsi_s, gIsi_n, gIsi_d, wFld, wMeth, wMake, wMakeF, wSetF, wExt, wFz, wRev, wRaise, wTry, wBits, insOf_ins, lk_kind, lk_size, lk_digest, lk_is_digest, gEnum_t, gEnum_l, gZip_t, gZip_l, mem1, reduceCtorEq, eq_self, wAsg, fTup, fCons, fNil, wAnd, wOr, wNot, wIf, wPar, wAug, wApp, wSetO, wRetO, br_t, br_f, shp_int, shp_bl, shp_non, deq_int, gAll_b, gAny_b, gSum_i, wDrop, wRetN, true_and, and_true, decide_true, decide_false, Bool.not_true, Bool.not_false, isi_NoneType_bool, isi_NoneType_int, isi_NoneType_str, isi_NoneType_tuple, isi_NoneType_list, isi_NoneType_dict, isi_bool_bool, isi_bool_int, isi_bool_str, isi_bool_tuple, isi_bool_list, isi_bool_dict, isi_int_bool, isi_int_int, isi_int_str, isi_int_tuple, isi_int_list, isi_int_dict, isi_str_bool, isi_str_int, isi_str_str, isi_str_tuple, isi_str_list, isi_str_dict, isi_tuple_bool, isi_tuple_int, isi_tuple_str, isi_tuple_tuple, isi_tuple_list, isi_tuple_dict, isi_list_bool, isi_list_int, isi_list_str, isi_list_tuple, isi_list_list, isi_list_dict, isi_dict_bool, isi_dict_int, isi_dict_str, isi_dict_tuple, isi_dict_list, isi_dict_dict, okTy_bool, okTy_int, okTy_str, okTy_tuple, okTy_list, okTy_dict])
local macro_rules | `(tactic| tm_at "nc") => `(tactic| first | exact True.intro | omega | exact mulL (by omega) (by omega) | exact mulR (by omega) (by omega) | exact divOk (by omega) (by omega) | (simp only [List.length_append, List.length_map, List.length_cons, List.length_nil, List.length_replicate, List.length_flatten, List.map_replicate, List.sum_replicate_nat, List.length_range, rngL_len, rngC_len, List.cons_append, List.nil_append]; first | done | omega))
local macro_rules | `(tactic| tm_at "ns") => `(tactic| repeat (with_reducible refine And.intro (by first | tm_at "nc" | exact ⟨by tm_at "nc", by tm_at "nc"⟩ | exact ⟨by tm_at "nc", by tm_at "nc", by tm_at "nc"⟩ | exact ⟨by tm_at "nc", by tm_at "nc", by tm_at "nc", by tm_at "nc"⟩) ?_))
theorem lay_os (ps : List (List Int)) : PyData.canLayAll0 (toPys (ps.map oD)) = true := by
  induction ps with
  | nil => rfl
  | cons p r ih => simp only [List.map_cons, toPys, toPy, PyData.canLayAll0, PyData.canLay0, ih, lay_ints, Bool.and_self]
theorem depth_os (ps : List (List Int)) : PyData.depthAll (toPys (ps.map oD)) ≤ 1 := by
  induction ps with
  | nil => simp [toPys, PyData.depthAll]
  | cons p r ih => simp only [List.map_cons, toPys, toPy, PyData.depthAll, PyData.depth, depth_ints]; omega
theorem shp_osD (ps : List (List Int)) : shp (osD ps) = true := by
  have := depth_os ps
  simp [shp, SeqAt.shaped, toPy, PyData.canLay0, PyData.depth, lay_os]
  omega
theorem shp_lsD (ps : List (List Int)) : shp (lsD ps) = true := by
  have := depth_os ps
  simp [shp, SeqAt.shaped, toPy, PyData.canLay0, PyData.depth, lay_os]
  omega
theorem shp_oo (a b : List Int) : shp (.tup [oD a, oD b]) = true := shp_osD [a, b]
theorem eqv_os (ps qs : List (List Int)) : PyData.eqvAll (toPys (ps.map oD)) (toPys (qs.map oD)) = decide (ps = qs) := by
  induction ps generalizing qs with
  | nil => cases qs <;> simp [toPys, PyData.eqvAll]
  | cons p r ih =>
    cases qs with
    | nil => simp [toPys, PyData.eqvAll]
    | cons q s =>
      simp only [List.map_cons, toPys, PyData.eqvAll, ih, toPy, PyData.eqv, eqv_ints]
      by_cases h : p = q <;> by_cases h2 : r = s <;> simp [h, h2]
theorem deq_osD (ps qs : List (List Int)) : deq (osD ps) (osD qs) = decide (ps = qs) := by
  simp only [deq, toPy, PyData.eqv, eqv_os]
theorem deq_lsD (ps qs : List (List Int)) : deq (lsD ps) (lsD qs) = decide (ps = qs) := by
  simp only [deq, toPy, PyData.eqv, eqv_os]
theorem deq_bl (a b : Bool) : deq (.bl a) (.bl b) = (a == b) := by cases a <;> cases b <;> rfl
theorem gIsi2 {x : D} {a t1 t2 : String} {Q : D → Prop} (h : tyS x = some a) (h1 : okTy t1 = true) (h2 : okTy t2 = true) (q : Q (.bl (isiS a t1 || isiS a t2))) : gIsi [x, .tup [.ty t1, .ty t2]] Q := by
  simp only [gIsi, h, tyL, h1, h2, if_true, Option.map_some]
  simpa using q
end N

set_option Elab.async false
set_option linter.all false
set_option maxRecDepth 100000
set_option maxHeartbeats 0
/-! NL: shared lists; the law's tape -/
namespace N
open PySem PySem.Spec PyProof.Rows L2
section
variable {X : Cx} {P : Pm} {a b e o i : Expr} {w wa wb wo wi : WE} {pos p apos : Pos}
theorem shl_at {T : Th} {W : Wd} {H : Hp} {q : Addr} {xs : List D} (ok : WOk T W H) (e : W.Om q = some (.lst xs)) : ∃ vs, H q = some (.lst vs) ∧ Reps T W.F H xs vs ∧ W.F q :=
  let ⟨⟨vs, h, r⟩, f⟩ := ok.at_ q _ e
  ⟨vs, h, r, ok.sub q ⟨q, by rw [e]; simp, f⟩⟩
theorem shl_set {T : Th} {W : Wd} {H : Hp} {q : Addr} {xs ys : List D} {ws : List V} (ok : WOk T W H) (e : W.Om q = some (.lst xs)) (r : Reps T W.F H ys ws) : Step T W H (W.setO q (.lst ys)) (upd H q (.lst ws)) := by
  obtain ⟨_, _, _, f⟩ := shl_at ok e
  exact Step.mutS ok e ⟨ws, upd_same, Reps.kp (Kp.mut f) _ _ r⟩
/-- x[i], x shared -/
def wIxS (wa wb : WE) : WE := fun G Om Q R => wa G Om (fun d O => wb G O (fun z O' => match d, z with
  | .ref q, .int k => (match O' q with
    | some (.lst xs) => (match atI xs k with | some y => Q y O' | none => False)
    | _ => False)
  | _, _ => False) R) R
theorem de_ixS (ha : DE X P a wa) (hb : DE X P b wb) (hs : PlainIx b := by first | exact fun _ _ => rfl | (intro _ _; rfl)) : DE X P (.Subscript a b pos) (wIxS wa wb) := by
  refine ⟨pe_imp (pe_ix ix_list ha.pe hb.pe hs) fun σ H Q q => ?_⟩
  obtain ⟨G, W, Q0, R0, S, q, ex, hq⟩ := q
  refine ⟨G, W, _, R0, S, q, ex, fun d O h1 v H1 W1 s1 e1 r1 => ?_⟩
  subst e1
  refine ⟨G, W1, _, R0, S.step s1, h1, ex.step s1, fun z O' h2 u H2 W2 s2 e2 r2 => ?_⟩
  subst e2
  cases d <;> try exact h2.elim
  cases z <;> try exact h2.elim
  rename_i q k
  simp only [Rep] at r1 r2
  have h2 : (match W2.Om q with | some (.lst xs) => (match atI xs k with | some y => Q0 y W2.Om | none => False) | _ => False) := h2
  split at h2
  · rename_i xs ex2
    split at h2
    · rename_i y ey
      obtain ⟨vs, hv, rv, _⟩ := shl_at s2.ok ex2
      obtain ⟨t, et, rt⟩ := atI_rep rv ey
      exact ⟨q, vs, k, t, r1, r2, .of hv, et, hq _ _ h2 _ H2 W2 (s1.trans s2) rfl rt⟩
    · exact h2.elim
  · exact h2.elim
/-- len(x), x shared -/
def wLenS (w : WE) : WE := fun G Om Q R => w G Om (fun d O => match d with
  | .ref q => (match O q with
    | some (.lst xs) => Q (.int xs.length) O
    | _ => False)
  | _ => False) R
theorem de_lenS (hm : X.mg "len" = none) (ha : DE X P e w) (hv : bootBuiltins "len" = some (.builtin "len") := by decide +kernel) (hg : Gl X "len" := by rfl) (hn : ("len" : Str) ≠ "__name__" := by decide) (hdb : (("len" : Str) == ("__debug__" : Str)) = false := by decide)
    (he : starEach [e] X.env = (false, eval e X.env) :: starEach [] X.env := by rfl) (hpl : (backTo pos (starEach [] X.env)).any (·.1) = false := by rfl) : DE X P (.Call (.Name "len" p) [e] [] pos) (wLenS w) := by
  refine ⟨pe_imp (pe_callB call_len_seq hg hm hv (pa_cons ha.pe pa_nil he) hn hdb he hpl) fun σ H Q q => ?_⟩
  obtain ⟨G, W, Q0, R0, S, q, ex, hq⟩ := q
  refine ⟨G, W, _, R0, S, q, ex, fun d O h1 v H1 W1 s1 e1 r1 => ?_⟩
  subst e1
  cases d <;> try exact h1.elim
  rename_i q
  simp only [Rep] at r1
  have h1 : (match W1.Om q with | some (.lst xs) => Q0 (.int xs.length) W1.Om | _ => False) := h1
  split at h1
  · rename_i xs ex2
    obtain ⟨vs, hv, rv, _⟩ := shl_at s1.ok ex2
    exact ⟨q, vs, by rw [r1], .inl (.of hv), hq _ _ h1 _ H1 W1 s1 rfl (by simp [Rep, rv.len])⟩
  · exact h1.elim
/-- x[i] = e, x shared -/
def wSetIxS (wv wo wi : WE) : WS := fun G Om Po => wv G Om (fun d O => wo G O (fun z O1 => wi G O1 (fun y O2 => match z, y with
  | .ref q, .int k => (match O2 q with
    | some (.lst xs) => (match ixN xs.length k with | some j => Po.nx G (putO O2 q (.lst (xs.set j d))) | none => False)
    | _ => False)
  | _, _ => False) fun x O => Po.ex x G O) fun x O => Po.ex x G O) fun x O => Po.ex x G O
theorem ds_setIxS {wv : WE} {value : Expr} {tpos : Pos} (hv : DE X P value wv) (ho : DE X P o wo) (hi : DE X P i wi)
    (hs : swapsWithSole [.Subscript o i tpos] value pos.line X.env = pure false := by rfl) (hw : swappedStores [.Subscript o i tpos] value X.env = pure none := by rfl) (h1 : (assignEach [.Subscript o i tpos] X.env).map (·.2) = [assign (.Subscript o i tpos) X.env] := by rfl)
    (ha : ∀ v, assign (.Subscript o i tpos) X.env v = (do
      let ov ← holding [v] (eval o X.env)
      let iv ← holding [v, ov] (eval i X.env)
      standAt tpos
      holding [v, ov, iv] (setItem ov iv v)
      release [v, ov, iv] []) := by intro _; rfl) :
    DS X P (.Assign [.Subscript o i tpos] value pos) (wSetIxS wv wo wi) := by
  refine ⟨ps_imp (ps_asg hv.pe (pg_sub ho.pe hi.pe set_list ha) hs hw h1) fun D σ H ⟨G, W, Po, S, q, h⟩ => ⟨G, W, _, _, S, q, h.exE S, fun d O q1 v H1 W1 s1 e1 r1 => ?_⟩⟩
  subst e1
  have p1 := h.kp (s1.kp S.ok)
  refine ⟨G, W1, _, _, S.step s1, q1, p1.exE (S.step s1), fun z O1 q2 v2 H2 W2 s2 e2 r2 => ?_⟩
  subst e2
  have p2 := p1.kp (s2.kp s1.ok)
  refine ⟨G, W2, _, _, (S.step s1).step s2, q2, p2.exE ((S.step s1).step s2), fun y O2 q3 v3 H3 W3 s3 e3 r3 => ?_⟩
  subst e3
  cases z <;> try exact q3.elim
  cases y <;> try exact q3.elim
  rename_i q k
  simp only [Rep] at r2 r3
  have q3 : (match W3.Om q with | some (.lst xs) => (match ixN xs.length k with | some j => Po.nx G (putO W3.Om q (.lst (xs.set j d))) | none => False) | _ => False) := q3
  split at q3
  · rename_i xs ex2
    split at q3
    · rename_i j ej
      obtain ⟨vs, hv2, rv, _⟩ := shl_at s3.ok ex2
      have rd := Rep.kp (s3.kp s2.ok) _ _ (Rep.kp (s2.kp s1.ok) _ _ r1)
      have sm := shl_set s3.ok ex2 (rv.set rd j)
      refine ⟨q, vs, k, j, r2, r3, hv2, by rw [rv.len]; exact ej, ?_⟩
      exact p2.nx _ _ q3 _ _ _ ((s3.trans sm).kp s2.ok) (((S.step s1).step s2).step (s3.trans sm)) rfl
    · exact q3.elim
  · exact q3.elim
/-- x.pop(i), x shared -/
def wPopS (wo wi : WE) : WE := fun G Om Q R => wo G Om (fun d O => match d with
  | .ref q => (match O q with
    | some (.lst _) => wi G O (fun z O' => match z with
      | .int k => (match O' q with
        | some (.lst ys) => (-(2 ^ 63) ≤ k ∧ k < 2 ^ 63) ∧ (match seqIndex? k ys.length with
          | some j => (match ys[j]? with | some y => Q y (putO O' q (.lst (ys.eraseIdx j))) | none => False)
          | none => False)
        | _ => False)
      | _ => False) R
    | _ => False)
  | _ => False) R
theorem Reps.erase {T : Th} {F : Addr → Prop} {H : Hp} : ∀ {ds : List D} {vs : List V} (j : Nat), Reps T F H ds vs → Reps T F H (ds.eraseIdx j) (vs.eraseIdx j)
  | [], vs, j, h => by simp only [Reps] at h; subst h; simp [Reps]
  | d :: ds, vs, 0, h => by
    simp only [Reps] at h
    obtain ⟨v, r, e, h1, h2⟩ := h
    subst e
    exact h2
  | d :: ds, vs, j + 1, h => by
    simp only [Reps] at h
    obtain ⟨v, r, e, h1, h2⟩ := h
    subst e
    exact .cons h1 (Reps.erase j h2)
theorem de_popS {cpos : Pos} (ho : DE X P o wo) (hi : DE X P i wi)
    (hbase : attributeBase o "pop" X.env (eval o X.env) = eval o X.env := by rfl)
    (hfew : ((backTo cpos (starEach [i] X.env)).all (fun x => !x.1) && (backToKw cpos (keywordEach [] X.env)).all (fun x => x.1.isSome) && decide ([i].length + ([] : List Keyword).length + (if ([] : List Keyword).isEmpty then 0 else 1) < 30)) = true := by rfl)
    (hline : (apos.endLine == cpos.line) = true := by rfl) (hs1 : starEach [i] X.env = (false, eval i X.env) :: starEach [] X.env := by rfl) (hplain : (backTo cpos (starEach [] X.env)).any (·.1) = false := by rfl) :
    DE X P (.Call (.Attribute o "pop" apos) [i] [] cpos) (wPopS wo wi) := by
  refine ⟨pe_imp (pe_bm PySem.F.plainAttrs_list PySem.F.slot_list_pop PySem.F.type_list_pop mt_popAt ho.pe (pa_cons hi.pe pa_nil hs1) hbase hfew hline hs1 hplain) fun σ H Q q => ?_⟩
  obtain ⟨G, W, Q0, R0, S, q, ex, hq⟩ := q
  refine ⟨G, W, _, R0, S, q, ex, fun d O h1 v H1 W1 s1 e1 r1 => ?_⟩
  subst e1
  cases d <;> try exact h1.elim
  rename_i q
  simp only [Rep] at r1
  have h1 : (match W1.Om q with | some (.lst _) => _ | _ => False) := h1
  split at h1
  · rename_i xs0 ex0
    obtain ⟨vs0, hv0, _, _⟩ := shl_at s1.ok ex0
    refine ⟨by subst r1; exact .inl ⟨rfl, vs0, .of hv0⟩, G, W1, _, R0, S.step s1, h1, ex.step s1, fun z O' h2 u H2 W2 s2 e2 r2 => ?_⟩
    subst e2
    cases z <;> try exact h2.elim
    rename_i k
    simp only [Rep] at r2
    change (match W2.Om q with | some (.lst ys) => _ | _ => False) at h2
    split at h2
    · rename_i ys ey
      obtain ⟨hk, h2⟩ := h2
      obtain ⟨vs, hv, rv, Fq⟩ := shl_at s2.ok ey
      split at h2
      · rename_i j ej
        split at h2
        · rename_i y eyj
          obtain ⟨t, et, rt⟩ := rv.get eyj
          have sm := shl_set s2.ok ey (rv.erase j)
          show rPopAt v [u] H2 Q
          refine ⟨q, vs, k, j, t, r1, by rw [r2], hv, hk.1, hk.2, by rw [rv.len]; exact ej, et, ?_⟩
          exact hq _ _ h2 _ _ _ ((s1.trans s2).trans sm) rfl (Rep.kp (sm.kp s2.ok) _ _ rt)
        · exact h2.elim
      · exact h2.elim
    · exact h2.elim
  · exact h1.elim
/-! ### the tape -/
def tpO (O : Om) (a c : Addr) (cs : List Int) (s : Int) : Om := putO (putO O a (.lst [.ref c, .int s])) c (.lst (cs.map .int))
theorem tpO_a {O : Om} {a c : Addr} {cs : List Int} {s : Int} (h : a ≠ c) : tpO O a c cs s a = some (.lst [.ref c, .int s]) := by unfold tpO; rw [putO_ne h, putO_same]
theorem tpO_c {O : Om} {a c : Addr} {cs : List Int} {s : Int} : tpO O a c cs s c = some (.lst (cs.map .int)) := putO_same
theorem tpO_ne {O : Om} {a c b : Addr} {cs : List Int} {s : Int} (h : b ≠ a) (h2 : b ≠ c) : tpO O a c cs s b = O b := by unfold tpO; rw [putO_ne h2, putO_ne h]
/-- draws from the tape: any number below many -/
def sp_draw : DSp := fun ds Om Q _ => ∃ (a : Addr) (many : Int), ds = [.ref a, .int many] ∧ Om a = some (.abs 0) ∧ 0 < many ∧ many < 1073741824 ∧ ∀ r : Int, 0 ≤ r → r < many → Q (.int r) Om
/-- .. with the tape laid open -/
def TpOk (cs : List Int) (s : Int) : Prop := (∀ n ∈ cs, 0 ≤ n) ∧ cs.length ≤ 63 ∧ 0 ≤ s
def sp_drawO : DSp := fun ds Om Q _ => ∃ (a c : Addr) (cs : List Int) (s many : Int), ds = [.ref a, .int many] ∧ a ≠ c ∧ Om a = some (.lst [.ref c, .int s]) ∧ Om c = some (.lst (cs.map .int)) ∧ TpOk cs s ∧ 0 < many ∧ many < 1073741824 ∧
  ∀ (r : Int) (cs' : List Int) (s' : Int), 0 ≤ r → r < many → TpOk cs' s' → Q (.int r) (tpO Om a c cs' s')
theorem draw_open {T : Th} : ∀ vs H Q E, toSp T 2 sp_draw vs H Q E → toSp T 2 sp_drawO vs H Q E := by
  rintro vs H Q E ⟨ds, W, Q0, R0, l, r, ok, ⟨a, many, rfl, ea, m0, m1, hr⟩, hq, he⟩
  obtain ⟨⟨c, cs, s, nac, hfp, ha, hc, hcs, hl, h0⟩, fa⟩ := ok.at_ a _ ea
  have ea' : W.Om a ≠ none := by rw [ea]; simp
  have fc : W.fp a c := (hfp c).mpr (.inr rfl)
  have ec : W.Om c = none := by
    cases q : W.Om c with
    | none => rfl
    | some m => exact absurd (ok.dis c a c (by rw [q]; simp) ea' (ok.at_ c m q).2 fc).symm nac
  have nfp : ∀ x b, W.Om x ≠ none → x ≠ a → W.fp x b → b ≠ a ∧ b ≠ c := fun x b hx hxa hf => ⟨fun z => hxa (ok.dis x a a hx ea' (z ▸ hf) fa), fun z => hxa (ok.dis x a c hx ea' (z ▸ hf) fc)⟩
  have xc : ∀ x, W.Om x ≠ none → x ≠ c := fun x hx z => hx (z ▸ ec)
  let W1 : Wd := ⟨tpO W.Om a c cs s, fun x b => if x = a then b = a else if x = c then b = c else W.fp x b, W.F⟩
  have fp1a : ∀ b, W1.fp a b ↔ b = a := fun b => by show (if a = a then b = a else if a = c then b = c else W.fp a b) ↔ b = a; rw [if_pos rfl]
  have fp1c : ∀ b, W1.fp c b ↔ b = c := fun b => by show (if c = a then b = a else if c = c then b = c else W.fp c b) ↔ b = c; rw [if_neg nac.symm, if_pos rfl]
  have fp1 : ∀ x, x ≠ a → x ≠ c → W1.fp x = W.fp x := fun x h h2 => funext fun b => by show (if x = a then b = a else if x = c then b = c else W.fp x b) = W.fp x b; rw [if_neg h, if_neg h2]
  have om1 : ∀ x, x ≠ a → x ≠ c → W1.Om x = W.Om x := fun x h h2 => tpO_ne h h2
  have Fa : W.F a := ok.sub a ⟨a, ea', fa⟩
  have Fc : W.F c := ok.sub c ⟨a, ea', fc⟩
  have ok1 : WOk T W1 H := by
    refine ⟨fun x m e => ?_, fun b ⟨x, hx, hf⟩ => ?_, fun x y b hx hy fx fy => ?_, ok.trk, ok.code⟩
    · by_cases h : x = a
      · subst h
        rw [show W1.Om x = _ from tpO_a nac] at e
        cases e
        exact ⟨⟨_, ha, .cons (by simp [Rep]) (.cons (by simp [Rep]) .nil)⟩, (fp1a x).mpr rfl⟩
      · by_cases h2 : x = c
        · subst h2
          rw [show W1.Om x = _ from tpO_c] at e
          cases e
          exact ⟨⟨_, hc, Reps.ints cs⟩, (fp1c x).mpr rfl⟩
        · rw [om1 x h h2] at e
          rw [fp1 x h h2]
          exact ok.at_ x m e
    · by_cases h : x = a
      · subst h; rw [(fp1a b).mp hf]; exact Fa
      · by_cases h2 : x = c
        · subst h2; rw [(fp1c b).mp hf]; exact Fc
        · rw [om1 x h h2] at hx
          rw [fp1 x h h2] at hf
          exact ok.sub b ⟨x, hx, hf⟩
    · have key : ∀ x b, W1.Om x ≠ none → W1.fp x b → (b = a → x = a) ∧ (b = c → x = c) := fun x b hx hf => by
        by_cases h : x = a
        · subst h; rw [(fp1a b).mp hf]; exact ⟨fun _ => rfl, fun z => z⟩
        · by_cases h2 : x = c
          · subst h2; rw [(fp1c b).mp hf]; exact ⟨fun z => z, fun _ => rfl⟩
          · rw [om1 x h h2] at hx
            rw [fp1 x h h2] at hf
            have := nfp x b hx h hf
            exact ⟨fun z => (this.1 z).elim, fun z => (this.2 z).elim⟩
      by_cases h : b = a
      · rw [(key x b hx fx).1 h, (key y b hy fy).1 h]
      · by_cases h2 : b = c
        · rw [(key x b hx fx).2 h2, (key y b hy fy).2 h2]
        · have xa : x ≠ a := fun z => h ((fp1a b).mp (z ▸ fx))
          have xc : x ≠ c := fun z => h2 ((fp1c b).mp (z ▸ fx))
          have ya : y ≠ a := fun z => h ((fp1a b).mp (z ▸ fy))
          have yc : y ≠ c := fun z => h2 ((fp1c b).mp (z ▸ fy))
          rw [om1 x xa xc] at hx; rw [om1 y ya yc] at hy; rw [fp1 x xa xc] at fx; rw [fp1 y ya yc] at fy
          exact ok.dis x y b hx hy fx fy
  refine ⟨_, W1, fun d O' => ∃ (r : Int) (cs' : List Int) (s' : Int), d = .int r ∧ 0 ≤ r ∧ r < many ∧ TpOk cs' s' ∧ O' = tpO W1.Om a c cs' s', fun _ _ => False, l, r, ok1, ⟨a, c, cs, s, many, rfl, nac, tpO_a nac, tpO_c, ⟨hcs, hl, h0⟩, m0, m1, fun r cs' s' a1 a2 a3 => ⟨r, cs', s', rfl, a1, a2, a3, rfl⟩⟩, fun d O' ⟨r, cs', s', ed, r0, r1, tk, eO⟩ v H' W' st eW rep => ?_, fun _ _ z => z.elim⟩
  subst ed
  have eW : W'.Om = tpO W1.Om a c cs' s' := eW.trans eO
  have ea2 : W'.Om a = some (.lst [.ref c, .int s']) := by rw [eW]; exact tpO_a nac
  have ec2 : W'.Om c = some (.lst (cs'.map .int)) := by rw [eW]; exact tpO_c
  have eo2 : ∀ x, x ≠ a → x ≠ c → W'.Om x = W.Om x := fun x h h2 => by rw [eW, tpO_ne h h2]; exact om1 x h h2
  have f2a : W'.fp a = W1.fp a := (st.om a (by rw [show W1.Om a = _ from tpO_a nac]; simp)).2
  have f2c : W'.fp c = W1.fp c := (st.om c (by rw [show W1.Om c = _ from tpO_c]; simp)).2
  have f2 : ∀ x, W.Om x ≠ none → x ≠ a → W'.fp x = W.fp x := fun x hx h => by
    rw [(st.om x (by rw [om1 x h (xc x hx)]; exact hx)).2, fp1 x h (xc x hx)]
  obtain ⟨⟨va, hva, rva⟩, _⟩ := st.ok.at_ a _ ea2
  obtain ⟨⟨vc, hvc, rvc⟩, _⟩ := st.ok.at_ c _ ec2
  simp only [Reps, Rep] at rva
  obtain ⟨_, _, rfl, rfl, _, _, rfl, rfl, rfl⟩ := rva
  have := rvc.ofInts
  subst this
  let W2 : Wd := ⟨W.Om, fun x b => if x = a then (b = a ∨ b = c) else W'.fp x b, W'.F⟩
  have fp2a : ∀ b, W2.fp a b ↔ (b = a ∨ b = c) := fun b => by show (if a = a then (b = a ∨ b = c) else W'.fp a b) ↔ _; rw [if_pos rfl]
  have fp2 : ∀ x, x ≠ a → W2.fp x = W'.fp x := fun x h => funext fun b => by show (if x = a then (b = a ∨ b = c) else W'.fp x b) = _; rw [if_neg h]
  have ok2 : WOk T W2 H' := by
    refine ⟨fun x m e => ?_, fun b ⟨x, hx, hf⟩ => ?_, fun x y b hx hy fx fy => ?_, st.ok.trk, st.ok.code⟩
    · by_cases h : x = a
      · subst h
        have e : W.Om x = some m := e
        rw [ea] at e
        cases e
        exact ⟨⟨c, cs', s', nac, fp2a, hva, hvc, tk.1, tk.2.1, tk.2.2⟩, (fp2a x).mpr (.inl rfl)⟩
      · have e : W.Om x = some m := e
        have h2 : x ≠ c := xc x (by rw [e]; simp)
        rw [fp2 x h]
        exact st.ok.at_ x m (by rw [eo2 x h h2]; exact e)
    · by_cases h : x = a
      · subst h
        rcases (fp2a b).mp hf with z | z
        · rw [z]; exact st.sub _ Fa
        · rw [z]; exact st.sub _ Fc
      · have h2 : x ≠ c := xc x hx
        rw [fp2 x h] at hf
        exact st.ok.sub b ⟨x, by rw [eo2 x h h2]; exact hx, hf⟩
    · have old : ∀ x b, W.Om x ≠ none → x ≠ a → W2.fp x b → W.fp x b := fun x b hx h hf => by rw [fp2 x h, f2 x hx h] at hf; exact hf
      by_cases h : x = a <;> by_cases h' : y = a
      · rw [h, h']
      · subst h
        have := nfp y b hy h' (old y b hy h' fy)
        rcases (fp2a b).mp fx with z | z
        · exact (this.1 z).elim
        · exact (this.2 z).elim
      · subst h'
        have := nfp x b hx h (old x b hx h fx)
        rcases (fp2a b).mp fy with z | z
        · exact (this.1 z).elim
        · exact (this.2 z).elim
      · exact ok.dis x y b hx hy (old x b hx h fx) (old y b hy h' fy)
  have pm1 : ∀ b, W1.pm b → W.pm b := fun b ⟨x, hx, hf⟩ => by
    by_cases h : x = a
    · subst h; rw [(fp1a b).mp hf]; exact ⟨x, ea', fa⟩
    · by_cases h2 : x = c
      · subst h2; rw [(fp1c b).mp hf]; exact ⟨a, ea', fc⟩
      · rw [om1 x h h2] at hx
        rw [fp1 x h h2] at hf
        exact ⟨x, hx, hf⟩
  refine hq _ _ (hr r r0 r1) v H' W2 ⟨ok2, fun b o e t n => st.keep' b o e t fun z => n (pm1 b z), st.trk, st.sub, st.fnew, fun x hx => ⟨hx, ?_⟩, fun x b h h' => absurd h h'⟩ rfl rep
  by_cases h : x = a
  · subst h
    exact funext fun b => propext ((fp2a b).trans (hfp b).symm)
  · rw [fp2 x h, f2 x hx h]
end
end N
namespace N
open PySem PySem.Spec PyProof.Rows L2
def Wd.addT (W : Wd) (q p : Addr) : Wd := ⟨putO W.Om q (.abs 0), fun x b => if x = q then (b = q ∨ b = p) else W.fp x b, fun b => W.F b ∨ b = q⟩
theorem Step.tape {T : Th} {W W2 : Wd} {H H2 : Hp} {p q : Addr} {cs : List Int} {s : Int} (st : Step T W H W2 H2) (hp : H p = none) (hl : H2 p = some (.lst (cs.map V.int))) (Fp : W2.F p) (np : ¬ W2.pm p) (hq : H2 q = none) (tk : TpOk cs s) :
    Step T W H (W2.addT q p) (upd H2 q (.lst [.ref p, .int s])) := by
  have npq : q ≠ p := fun z => by rw [z, hl] at hq; cases hq
  have noq := om_none st.ok hq
  have nFq : ¬ W2.F q := fun z => st.ok.trk q z hq
  have fpq : ∀ b, (W2.addT q p).fp q b ↔ (b = q ∨ b = p) := fun b => by show (if q = q then (b = q ∨ b = p) else W2.fp q b) ↔ _; rw [if_pos rfl]
  have fp : ∀ x, x ≠ q → (W2.addT q p).fp x = W2.fp x := fun x h => funext fun b => by show (if x = q then (b = q ∨ b = p) else W2.fp x b) = _; rw [if_neg h]
  have om : ∀ x, x ≠ q → (W2.addT q p).Om x = W2.Om x := fun x h => putO_ne h
  have hl' : (upd H2 q (.lst [.ref p, .int s])) p = some (.lst (cs.map V.int)) := by rw [upd_ne npq.symm]; exact hl
  have kp : Kp W2.F H2 (W2.addT q p).F (upd H2 q (.lst [.ref p, .int s])) := ⟨fun b u e _ _ => ext_upd hq b u e, fun b z => z.imp _root_.id fun e => by rw [e]; exact hq, trk_upd⟩
  have nfp : ∀ x b, W2.Om x ≠ none → W2.fp x b → b ≠ q ∧ b ≠ p := fun x b hx hf => ⟨fun z => nFq (st.ok.sub q ⟨x, hx, z ▸ hf⟩), fun z => np ⟨x, hx, z ▸ hf⟩⟩
  refine ⟨⟨fun x m e => ?_, fun b ⟨x, hx, hf⟩ => ?_, fun x y b hx hy fx fy => ?_, fun b z => ?_, fun b y z => ?_⟩, fun b u e t n => ext_upd hq b u (st.keep' b u e t n), fun b z => ?_, fun b z => .inl (st.sub b z), fun b z => ?_, fun x hx => ?_, fun x b hx hx' hf => ?_⟩
  · by_cases h : x = q
    · subst h
      rw [show (W2.addT x p).Om x = some (.abs 0) from putO_same] at e
      cases e
      exact ⟨⟨p, cs, s, npq, fpq, upd_same, hl', tk.1, tk.2.1, tk.2.2⟩, (fpq x).mpr (.inl rfl)⟩
    · rw [om x h] at e
      rw [fp x h]
      obtain ⟨r, f⟩ := st.ok.at_ x m e
      exact ⟨MRep.kp kp (fun b hb => upd_ne (nfp x b (by rw [e]; simp) hb).1) f r, f⟩
  · by_cases h : x = q
    · subst h
      rcases (fpq b).mp hf with z | z
      · exact .inr z
      · rw [z]; exact .inl Fp
    · rw [om x h] at hx
      rw [fp x h] at hf
      exact .inl (st.ok.sub b ⟨x, hx, hf⟩)
  · by_cases h : x = q <;> by_cases h' : y = q
    · rw [h, h']
    · subst h
      rw [om y h'] at hy
      rw [fp y h'] at fy
      have := nfp y b hy fy
      rcases (fpq b).mp fx with z | z
      · exact (this.1 z).elim
      · exact (this.2 z).elim
    · subst h'
      rw [om x h] at hx
      rw [fp x h] at fx
      have := nfp x b hx fx
      rcases (fpq b).mp fy with z | z
      · exact (this.1 z).elim
      · exact (this.2 z).elim
    · rw [om x h] at hx; rw [om y h'] at hy; rw [fp x h] at fx; rw [fp y h'] at fy
      exact st.ok.dis x y b hx hy fx fy
  · by_cases h : b = q
    · rw [h, upd_same]; simp
    · rw [upd_ne h]; exact st.ok.trk b (z.resolve_right h)
  · by_cases h : b = q
    · rw [h, upd_same]
      intro z
      cases z
    · rw [upd_ne h]; exact st.ok.code b y (z.resolve_right h)
  · by_cases h : b = q
    · rw [h, upd_same]; simp
    · rw [upd_ne h]; exact st.trk b z
  · rcases z with z | z
    · exact st.fnew b z
    · rw [z]; exact .inr (st.back hq)
  · have h : x ≠ q := fun z => (st.om x hx).1 (z ▸ noq)
    rw [om x h, fp x h]
    exact st.om x hx
  · by_cases h : x = q
    · subst h
      rcases (fpq b).mp hf with z | z
      · rw [z]; exact st.back hq
      · rw [z]; exact hp
    · rw [om x h] at hx'
      rw [fp x h] at hf
      exact st.new x b hx hx' hf
section
variable {X : Cx} {P : Pm} {e1 e2 : Expr} {pos lpos : Pos} {w1 : WF} {w2 : WE}
/-- return [a new list of ints, an int]: a tape -/
def wRetTape (w1 : WF) (w2 : WE) : WS := fun G Om Po => w1 G Om (fun m O => w2 G O (fun d O' => match m, d with
  | .lst xs, .int s => ∃ cs : List Int, xs = cs.map .int ∧ TpOk cs s ∧ ∀ a, O' a = none → Po.rt (.ref a) (putO O' a (.abs 0))
  | _, _ => False) fun x O => Po.ex x G O) fun x O => Po.ex x G O
theorem ds_retTape (h1 : DF X P e1 w1) (h2 : DE X P e2 w2) (hs1 : starEach [e1, e2] X.env = (false, eval e1 X.env) :: starEach [e2] X.env := by rfl) (hs2 : starEach [e2] X.env = (false, eval e2 X.env) :: starEach [] X.env := by rfl) :
    DS X P (.Return (some (.List [e1, e2] lpos)) pos) (wRetTape w1 w2) := by
  refine ⟨ps_imp (ps_ret (pe_lst (pa_cons h1.pe (pa_cons h2.pe pa_nil hs2) hs1))) fun D σ H ⟨G, W, Po, S, q, h⟩ => ?_⟩
  refine ⟨G, W, _, _, S, q, h.exE S, fun m O q1 p H1 W1 s1 e1 n1 F1 npm o1 r1 => ?_⟩
  subst e1
  have hk := h.kp (s1.kp S.ok)
  refine ⟨G, W1, _, _, S.step s1, q1, hk.exE (S.step s1), fun d O2 q2 v H2 W2 s2 e2 r2 => ?_⟩
  subst e2
  cases m <;> try exact q2.elim
  cases d <;> try exact q2.elim
  rename_i xs s
  obtain ⟨cs, rfl, tk, q3⟩ := q2
  obtain ⟨vs, hv, rv⟩ := r1
  have := rv.ofInts
  subst this
  simp only [Rep] at r2
  subst r2
  refine ⟨sz16 (by simp), fun a ha => ?_⟩
  have hv2 : H2 p = some (.lst (cs.map V.int)) := s2.keep p _ hv npm
  have st := Step.tape (s1.trans s2) n1 hv2 (s2.sub p F1) (s2.pm hv npm) ha tk
  exact h.rt _ _ (q3 a (om_none s2.ok ha)) _ _ _ (S.st.trans st) rfl (by simp [Rep])
end
end N

set_option Elab.async false
set_option linter.all false
set_option maxRecDepth 100000
/-! CS2: promises of the tape's defs -/
namespace N
open PySem PySem.Spec PyProof.Rows L2
def Tp (Om : Om) (a : Addr) : Prop := Om a = some (.abs 0)
def sp__law_tape : DSp := fun ds Om Q _ => ∃ ns : List Int, ds = [.scr ns] ∧ ns.length ≤ 63 ∧ ∀ a, Om a = none → Q (.ref a) (putO Om a (.abs 0))
abbrev sp__law_draw : DSp := sp_draw
def seqV : D → Option (List D)
  | .lst xs => some xs
  | .tup xs => some xs
  | _ => none
def sp__law_pick : DSp := fun ds Om Q _ => ∃ (a : Addr) (d : D) (xs : List D), ds = [.ref a, d] ∧ seqV d = some xs ∧ Tp Om a ∧ 0 < xs.length ∧ xs.length < 1000000 ∧ ∀ x ∈ xs, Q x Om
def sp__law_octets : DSp := fun ds Om Q _ => ∃ (a : Addr) (n : Nat), ds = [.ref a, .int n] ∧ Tp Om a ∧ n ≤ 1000000 ∧ ∀ os, os.length = n → Oct os → Q (oD os) Om
end N

set_option Elab.async false
set_option linter.all false
set_option maxRecDepth 100000
namespace N
open PySem PySem.Spec PyProof.Rows L2
abbrev w__law_tape_b1 : WS := (wSet 1 (wBin (gMod) (wCall gInt (waCons (wBin (gAdd) (wBin (gMul) (wVarB 1) (wC (.int 31))) (wVarB 2)) waNil)) (wC (.int 1000003))))
def w__law_tape : WS := (wSeq (wSet 1 (wC (.int 7)))
  (wSeq (wFor (wIt (wVar 0)) (fName 2) (w__law_tape_b1))
  (wRetTape (wComp (wIt (wVarB 0)) (fName 2) wtYes (wCall gAbs (waCons (wCall gInt (waCons (wVarB 2) waNil)) waNil)) [2]) (wBin (gAdd) (wVarB 1) (wC (.int 1))))))
abbrev w__law_draw_b1 : WS := (wDrop (wPopS (wVar 2) (wC (.int 0))))
def w__law_draw : WS := (wSeq (wSet 2 (wIxS (wVar 0) (wC (.int 0))))
  (wSeq (wWh (wtAnd (wTst (wBin (gGt) (wLenS (wVar 2)) (wC (.int 0)))) (wTst (wBin (gEq) (wIxS (wVar 2) (wC (.int 0))) (wC (.int 0))))) (w__law_draw_b1))
  (wSeq (wIfS (wTst (wBin (gGt) (wLenS (wVar 2)) (wC (.int 0)))) (wSeq (wSet 3 (wIxS (wVar 2) (wC (.int 0))))
  (wSeq (wSetIxS (wBin (gDiv) (wVarB 3) (wVarB 1)) (wVar 2) (wC (.int 0)))
  (wRet (wBin (gMod) (wCall gInt (waCons (wVarB 3) waNil)) (wVarB 1))))) wNext)
  (wSeq (wSetIxS (wBin (gMod) (wCall gInt (waCons (wBin (gAdd) (wBin (gMul) (wIxS (wVar 0) (wC (.int 1))) (wC (.int 48271))) (wC (.int 12345))) waNil)) (wC (.int 2147483647))) (wVar 0) (wC (.int 1)))
  (wRet (wBin (gMod) (wCall gInt (waCons (wBin (gDiv) (wIxS (wVar 0) (wC (.int 1))) (wC (.int 64))) waNil)) (wVarB 1)))))))
def w__law_pick : WS := (wRet (wBin gIx (wVarB 1) (wCallU 2 sp__law_draw [] (waCons (wVar 0) (waCons (wCall gLen (waCons (wVarB 1) waNil)) waNil)))))
def w__law_octets : WS := (wSeq (wSet 2 (wCallU 2 sp__law_pick [] (waCons (wVar 0) (waCons (wFrz (wLst (waCons (wC (.int 2)) (waCons (wC (.int 256)) waNil)))) waNil))))
  (wRet (wCall gTuple (waCons (wFrz (wComp (wRng gRng1 (waCons (wVar 1) waNil)) (fName 3) wtYes (wCallU 2 sp__law_draw [] (waCons (wVar 0) (waCons (wVar 2) waNil))) [3])) waNil))))
end N

set_option Elab.async false
set_option linter.all false
set_option maxRecDepth 100000
set_option maxHeartbeats 0
namespace N
open PySem PySem.Spec PyProof.Rows L2
local macro_rules | `(tactic| tm_at "nw") => `(tactic| try simp only [wFn, startG_c, startG_n, startG_z, wSeq, wSet, wC, wFor, wIt, wVar, wVarB, getSl_z, getSl_s, List.set_cons_zero, List.set_cons_succ, wRet, wBin, gI_i, gI0_i, gB0_i, gAdd_i, gAdd_t, gAdd_l, gAdd_s, gMul_i, gMul_t, gMul_l, gEq_, gNe_, gIs_n, gIs_b, gIsNot_n, gIsNot_b, isNon_n, isNon_i, isNon_b, isNon_t, isNon_l, isNon_s, wIfS, wtOr, wtAnd, wtNot, wTst, wNext, wNev, wCall, wCallF, wFrz, wLst, wTup, waNil, waCons, wComp, wRng, gRng1_i, gRng2_i, gRng3_i, wUn, gNeg_i, gTuple_t, gTuple_l, gList_t, gList_l, gList_s, gLen_t, gLen_l, gLen_s, gLen_d, gInt_i, gInt_b, gAbs_i, gMax_i, gMin_i, wipeG, MO.see, fName, wCallU, wCallK, List.append_nil, List.length_cons, List.length_nil, wSl, woNone, woSome, gSl_t, gSl_l, gIt_t, gIt_l, gIt_s, gIsi_i, gIsi_b, gIsi_t, gIsi_l, gIsi_s, gIsi_n, gIsi_d, wFld, wMeth, wMake, wMakeF, wSetF, wExt, wFz, wRev, wRaise, wTry, wBits, insOf_ins, lk_kind, lk_size, lk_digest, lk_is_digest, gEnum_t, gEnum_l, gZip_t, gZip_l, mem1, reduceCtorEq, eq_self, wAsg, fTup, fCons, fNil, wAnd, wOr, wNot, wIf, wPar, wAug, wApp, wSetO, wRetO, br_t, br_f, shp_int, shp_bl, shp_non, deq_int, gAll_b, gAny_b, gSum_i, wDrop, wRetN, true_and, and_true, decide_true, decide_false, Bool.not_true, Bool.not_false, isi_NoneType_bool, isi_NoneType_int, isi_NoneType_str, isi_NoneType_tuple, isi_NoneType_list, isi_NoneType_dict, isi_bool_bool, isi_bool_int, isi_bool_str, isi_bool_tuple, isi_bool_list, isi_bool_dict, isi_int_bool, isi_int_int, isi_int_str, isi_int_tuple, isi_int_list, isi_int_dict, isi_str_bool, isi_str_int, isi_str_str, isi_str_tuple, isi_str_list, isi_str_dict, isi_tuple_bool, isi_tuple_int, isi_tuple_str, isi_tuple_tuple, isi_tuple_list, isi_tuple_dict, isi_list_bool, isi_list_int, isi_list_str, isi_list_tuple, isi_list_list, isi_list_dict, isi_dict_bool, isi_dict_int, isi_dict_str, isi_dict_tuple, isi_dict_list, isi_dict_dict, okTy_bool, okTy_int, okTy_str, okTy_tuple, okTy_list, okTy_dict])
local macro_rules | `(tactic| tm_at "nc") => `(tactic| first | exact True.intro | omega | exact mulL (by omega) (by omega) | exact mulR (by omega) (by omega) | exact divOk (by omega) (by omega) | (simp only [List.length_append, List.length_map, List.length_cons, List.length_nil, List.length_replicate, List.length_flatten, List.map_replicate, List.sum_replicate_nat, List.length_range, rngL_len, rngC_len, List.cons_append, List.nil_append]; first | done | omega))
local macro_rules | `(tactic| tm_at "ns") => `(tactic| repeat (with_reducible refine And.intro (by first | tm_at "nc" | exact ⟨by tm_at "nc", by tm_at "nc"⟩ | exact ⟨by tm_at "nc", by tm_at "nc", by tm_at "nc"⟩ | exact ⟨by tm_at "nc", by tm_at "nc", by tm_at "nc", by tm_at "nc"⟩) ?_))
theorem tpO_self {O : Om} {a c : Addr} {cs : List Int} {s : Int} (h : O a = some (.lst [.ref c, .int s])) (h2 : O c = some (.lst (cs.map .int))) : tpO O a c cs s = O := funext fun b => by
  unfold tpO putO
  by_cases e : b = c
  · rw [if_pos e, e, h2]
  · rw [if_neg e]
    by_cases e2 : b = a
    · rw [if_pos e2, e2, h]
    · rw [if_neg e2]
theorem tpO_setC {O : Om} {a c : Addr} {cs cs' : List Int} {s : Int} : putO (tpO O a c cs s) c (.lst (cs'.map .int)) = tpO O a c cs' s := putO_put
theorem tpO_setA {O : Om} {a c : Addr} {cs : List Int} {s s' : Int} (h : a ≠ c) : putO (tpO O a c cs s) a (.lst [.ref c, .int s']) = tpO O a c cs s' := funext fun b => by
  unfold tpO putO
  by_cases e : b = a
  · subst e
    rw [if_pos rfl, if_neg h, if_pos rfl]
  · rw [if_neg e]
    by_cases e2 : b = c
    · rw [if_pos e2, if_pos e2]
    · rw [if_neg e2, if_neg e2, if_neg e, if_neg e]
theorem tpO_tp {O : Om} {a c : Addr} {cs cs2 : List Int} {s s2 : Int} : tpO (tpO O a c cs s) a c cs2 s2 = tpO O a c cs2 s2 := funext fun b => by
  unfold tpO putO
  by_cases e : b = c
  · rw [if_pos e, if_pos e]
  · rw [if_neg e, if_neg e]
    by_cases e2 : b = a
    · rw [if_pos e2, if_pos e2, if_neg e]
    · rw [if_neg e2, if_neg e2, if_neg e, if_neg e2]
theorem atI_0 {x : D} {xs : List D} : atI (x :: xs) 0 = some x := by simp [atI, ixN]
theorem lenS_v {G : Gam} {Om : N.Om} {Q : D → N.Om → Prop} {R : RX} {i : Nat} {q : Addr} {xs : List D} (h : getSl G i = .val (.ref q)) (h2 : Om q = some (.lst xs)) (k : Q (.int xs.length) Om) : wLenS (wVar i) G Om Q R := by
  unfold wLenS wVar
  simp only [h, h2]
  exact k
theorem ixS_v {G : Gam} {Om : N.Om} {Q : D → N.Om → Prop} {R : RX} {i : Nat} {q : Addr} {xs : List D} {n : Int} {y : D} (h : getSl G i = .val (.ref q)) (h2 : Om q = some (.lst xs)) (h3 : atI xs n = some y) (k : Q y Om) : wIxS (wVar i) (wC (.int n)) G Om Q R := by
  unfold wIxS wVar wC
  simp only [h, h2, h3]
  exact k
theorem popS_v {G : Gam} {Om : N.Om} {Q : D → N.Om → Prop} {R : RX} {i : Nat} {q : Addr} {xs : List D} {n : Int} {j : Nat} {y : D} (h : getSl G i = .val (.ref q)) (h2 : Om q = some (.lst xs)) (hb : -(2 ^ 63) ≤ n ∧ n < 2 ^ 63) (h3 : seqIndex? n xs.length = some j) (h4 : xs[j]? = some y)
    (k : Q y (putO Om q (.lst (xs.eraseIdx j)))) : wPopS (wVar i) (wC (.int n)) G Om Q R := by
  unfold wPopS wVar wC
  simp only [h, h2, h3, h4]
  exact ⟨hb, k⟩
theorem loop_tape (O : Om) (a c : Addr) (nac : a ≠ c) (s : Int) (x1 : Sl) (Po : Post) : ∀ cs : List Int, TpOk cs s → (∀ cs', TpOk cs' s → Po.nx [.val (.ref a), x1, .val (.ref c), .no] (tpO O a c cs' s)) →
    wWhN (wtAnd (wTst (wBin gGt (wLenS (wVar 2)) (wC (.int 0)))) (wTst (wBin gEq (wIxS (wVar 2) (wC (.int 0))) (wC (.int 0))))) w__law_draw_b1 (cs.length + 1) [.val (.ref a), x1, .val (.ref c), .no] (tpO O a c cs s) Po
  | [], tk, h => by
    unfold wWhN
    tm_at "nw"
    refine lenS_v rfl tpO_c ?_
    tm_at "nw"
    exact br_df (by simp) (h [] tk)
  | n :: r, tk, h => by
    have tr : TpOk r s := ⟨fun m hm => tk.1 m (List.mem_cons_of_mem _ hm), by have := tk.2.1; rw [List.length_cons] at this; omega, tk.2.2⟩
    unfold wWhN
    tm_at "nw"
    refine lenS_v rfl tpO_c ?_
    tm_at "nw"
    refine br_dt (by simp) ?_
    refine ixS_v rfl tpO_c (y := .int n) atI_0 ?_
    tm_at "nw"
    refine br_d (fun e => ?_) fun e => h _ tk
    subst e
    have e1 : seqIndex? 0 ((0 :: r).map D.int).length = some 0 := by simp [seqIndex?]
    refine popS_v rfl tpO_c (by decide) e1 (y := .int 0) rfl ?_
    rw [show ((0 :: r).map D.int).eraseIdx 0 = r.map D.int from rfl, tpO_setC]
    exact loop_tape O a c nac s x1 Po r tr h
theorem m__law_draw (ds : List D) (Om : N.Om) (Q : D → N.Om → Prop) (R : RX) (hl : ds.length = 2) (h : sp_drawO ds Om Q R) : wFn 4 w__law_draw ds Om Q R := by
  obtain ⟨a, c, cs, s, many, rfl, nac, ea, ec, tk, m0, m1, q⟩ := h
  have q2 : ∀ (r : Int) (cs' : List Int) (s' : Int), 0 ≤ r → r < many → TpOk cs' s' → Q (.int r) (tpO Om a c cs' s') := q
  rw [← tpO_self ea ec]
  have eo : ∀ cs' s', tpO (tpO Om a c cs s) a c cs' s' = tpO Om a c cs' s' := fun _ _ => tpO_tp
  unfold w__law_draw
  tm_at "nw"
  refine ixS_v rfl (tpO_a nac) (y := .ref c) rfl ?_
  tm_at "nw"
  refine ⟨cs.length + 1, ?_⟩
  refine loop_tape Om a c nac s _ _ cs tk fun cs' tk' => ?_
  tm_at "nw"
  refine lenS_v rfl tpO_c ?_
  tm_at "nw"
  refine br_d (fun e => ?_) fun e => ?_
  · cases cs' with
    | nil => simp at e
    | cons n r =>
      refine ixS_v rfl tpO_c (y := .int n) atI_0 ?_
      tm_at "nw"
      unfold wSetIxS
      tm_at "nw"
      refine ⟨divOk m0 m1, ?_⟩
      have e2 : ixN ((n :: r).map D.int).length 0 = some 0 := by simp [ixN]
      have e3 : ((n :: r).map D.int).set 0 (.int (n / many)) = (n / many :: r).map D.int := rfl
      simp only [tpO_c, e2, e3, tpO_setC]
      tm_at "nw"
      have hn := tk'.1 n List.mem_cons_self
      refine ⟨m0, q2 _ _ _ (Int.emod_nonneg _ (by omega)) (Int.emod_lt_of_pos _ m0) ⟨fun m hm => ?_, tk'.2.1, tk'.2.2⟩⟩
      rcases List.mem_cons.mp hm with rfl | hm
      · exact Int.ediv_nonneg hn (by omega)
      · exact tk'.1 m (List.mem_cons_of_mem _ hm)
  · tm_at "nw"
    unfold wSetIxS
    tm_at "nw"
    refine ixS_v rfl (tpO_a nac) (y := .int s) rfl ?_
    tm_at "nw"
    refine ⟨mulR (by decide) (by decide), by decide, ?_⟩
    have e2 : ixN [D.ref c, D.int s].length 1 = some 1 := by simp [ixN]
    have e3 : ∀ x, [D.ref c, D.int s].set 1 (.int x) = [.ref c, .int x] := fun _ => rfl
    simp only [tpO_a nac, e2, e3, tpO_setA nac]
    tm_at "nw"
    refine ixS_v rfl (tpO_a nac) (y := .int ((s * 48271 + 12345) % 2147483647)) rfl ?_
    tm_at "nw"
    have z0 := Int.emod_nonneg (s * 48271 + 12345) (show (2147483647 : Int) ≠ 0 by decide)
    exact ⟨divOk (by decide) (by decide), m0, q2 _ _ _ (Int.emod_nonneg _ (by omega)) (Int.emod_lt_of_pos _ m0) ⟨tk'.1, tk'.2.1, z0⟩⟩
theorem loop_seed (x0 : Sl) (Po : Post) (Om : N.Om) : ∀ (ns : List Int) (s : Int) (y : Sl), 0 ≤ s → s < 1000003 → (∀ s' y, 0 ≤ s' → Po.nx [x0, .val (.int s'), y] Om) → wForL (fName 2) w__law_tape_b1 (ns.map D.int) [x0, .val (.int s), y] Om Po
  | [], s, y, h0, _, h => h s y h0
  | n :: r, s, y, h0, h1, h => by
    simp only [List.map_cons, wForL]
    tm_at "nw"
    refine ⟨mulR (by decide) (by decide), by decide, loop_seed x0 Po Om r _ _ (Int.emod_nonneg _ (by decide)) (Int.emod_lt_of_pos _ (by decide)) h⟩
theorem m__law_tape (ds : List D) (Om : N.Om) (Q : D → N.Om → Prop) (R : RX) (hl : ds.length = 1) (h : sp__law_tape ds Om Q R) : wFn 3 w__law_tape ds Om Q R := by
  obtain ⟨ns, rfl, hn, q⟩ := h
  unfold w__law_tape
  tm_at "nw"
  refine loop_seed _ _ _ ns 7 _ (by decide) (by decide) fun s y h0 => ?_
  unfold wRetTape
  tm_at "nw"
  refine turns_mapA D.int (fun n => D.int (if n < 0 then -n else n)) ns [] (by simp; omega) (fun n _ K hK => ?_) ?_
  · tm_at "nw"
    exact hK
  · refine ⟨ns.map fun n => if n < 0 then -n else n, by rw [List.nil_append, List.map_map]; rfl, ⟨fun m hm => ?_, by simpa using hn, by omega⟩, q⟩
    obtain ⟨n, _, rfl⟩ := List.mem_map.mp hm
    split <;> omega
theorem m__law_pick (ds : List D) (Om : N.Om) (Q : D → N.Om → Prop) (R : RX) (hl : ds.length = 2) (h : sp__law_pick ds Om Q R) : wFn 2 w__law_pick ds Om Q R := by
  obtain ⟨a, d, xs, rfl, hd, tp, h0, h1, q⟩ := h
  unfold w__law_pick
  tm_at "nw"
  have hlen : ∀ K : D → Prop, K (.int (xs.length : Int)) → gLen [d] K := fun K k => by
    cases d <;> simp only [seqV] at hd <;> cases hd
    · rw [gLen_t]; exact k
    · rw [gLen_l]; exact k
  refine hlen _ ⟨a, _, rfl, tp, by omega, by omega, fun r r0 r1 => ?_⟩
  have hr : r.toNat < xs.length := by omega
  cases d <;> simp only [seqV] at hd <;> cases hd
  · exact gIx_tup (j := r.toNat) (by omega) (List.getElem?_eq_getElem hr) (q _ (List.getElem_mem hr))
  · exact gIx_list (j := r.toNat) (by omega) (List.getElem?_eq_getElem hr) (q _ (List.getElem_mem hr))
theorem m__law_octets (ds : List D) (Om : N.Om) (Q : D → N.Om → Prop) (R : RX) (hl : ds.length = 2) (h : sp__law_octets ds Om Q R) : wFn 4 w__law_octets ds Om Q R := by
  obtain ⟨a, n, rfl, tp, hn, q⟩ := h
  unfold w__law_octets
  tm_at "nw"
  refine ⟨by decide, a, _, _, rfl, rfl, tp, by decide, by decide, fun x hx => ?_⟩
  obtain ⟨m, rfl, hm0, hm⟩ : ∃ m : Int, x = .int m ∧ 0 < m ∧ m ≤ 256 := by
    simp only [List.mem_cons, List.not_mem_nil, or_false] at hx
    rcases hx with rfl | rfl
    · exact ⟨2, rfl, by decide, by decide⟩
    · exact ⟨256, rfl, by decide, by decide⟩
  tm_at "nw"
  refine ⟨by omega, ?_⟩
  refine turns_rel (fun _ x => ∃ v : Int, x = .int v ∧ 0 ≤ v ∧ v < 256) _ _ (by simp [rngL]; omega) (fun d hd K hK => ?_) fun es he hp => ?_
  · tm_at "nw"
    exact ⟨a, m, rfl, tp, hm0, by omega, fun r r0 r1 => hK _ ⟨r, rfl, r0, by omega⟩⟩
  · obtain ⟨os, e, ho⟩ := all_ints (ds := es) (p := fun v => 0 ≤ v ∧ v < 256) fun x hx => by
      obtain ⟨i, hi, rfl⟩ := List.getElem_of_mem hx
      exact hp i _ _ (List.getElem?_eq_getElem (by rw [← he]; exact hi)) (List.getElem?_eq_getElem hi)
    subst e
    rw [List.nil_append]
    exact q os (by have := he; rw [List.length_map, rngL_len] at this; omega) ho
end N

set_option Elab.async false
set_option linter.all false
set_option maxRecDepth 100000
set_option maxHeartbeats 0
namespace N
open PySem PySem.Spec PyProof.Rows L2
local macro_rules | `(tactic| tm_at "nw") => `(tactic| try simp only [wFn, startG_c, startG_n, startG_z, wSeq, wSet, wC, wFor, wIt, wVar, wVarB, getSl_z, getSl_s, List.set_cons_zero, List.set_cons_succ, wRet, wBin, gI_i, gI0_i, gB0_i, gAdd_i, gAdd_t, gAdd_l, gAdd_s, gMul_i, gMul_t, gMul_l, gEq_, gNe_, gIs_n, gIs_b, gIsNot_n, gIsNot_b, isNon_n, isNon_i, isNon_b, isNon_t, isNon_l, isNon_s, wIfS, wtOr, wtAnd, wtNot, wTst, wNext, wNev, wCall, wCallF, wFrz, wLst, wTup, waNil, waCons, wComp, wRng, gRng1_i, gRng2_i, gRng3_i, wUn, gNeg_i, gTuple_t, gTuple_l, gList_t, gList_l, gList_s, gLen_t, gLen_l, gLen_s, gLen_d, gInt_i, gInt_b, gAbs_i, gMax_i, gMin_i, wipeG, MO.see, fName, wCallU, wCallK, List.append_nil, List.length_cons, List.length_nil, wSl, woNone, woSome, gSl_t, gSl_l, gIt_t, gIt_l, gIt_s, gIsi_i, gIsi_b, gIsi_t, gIsi_l, gIsi_s, gIsi_n, gIsi_d, wFld, wMeth, wMake, wMakeF, wSetF, wExt, wFz, wRev, wRaise, wTry, wBits, insOf_ins, lk_kind, lk_size, lk_digest, lk_is_digest, gEnum_t, gEnum_l, gZip_t, gZip_l, mem1, reduceCtorEq, eq_self, wAsg, fTup, fCons, fNil, wAnd, wOr, wNot, wIf, wPar, wAug, wApp, wSetO, wRetO, br_t, br_f, shp_int, shp_bl, shp_non, deq_int, gAll_b, gAny_b, gSum_i, wDrop, wRetN, true_and, and_true, decide_true, decide_false, Bool.not_true, Bool.not_false, isi_NoneType_bool, isi_NoneType_int, isi_NoneType_str, isi_NoneType_tuple, isi_NoneType_list, isi_NoneType_dict, isi_bool_bool, isi_bool_int, isi_bool_str, isi_bool_tuple, isi_bool_list, isi_bool_dict, isi_int_bool, isi_int_int, isi_int_str, isi_int_tuple, isi_int_list, isi_int_dict, isi_str_bool, isi_str_int, isi_str_str, isi_str_tuple, isi_str_list, isi_str_dict, isi_tuple_bool, isi_tuple_int, isi_tuple_str, isi_tuple_tuple, isi_tuple_list, isi_tuple_dict, isi_list_bool, isi_list_int, isi_list_str, isi_list_tuple, isi_list_list, isi_list_dict, isi_dict_bool, isi_dict_int, isi_dict_str, isi_dict_tuple, isi_dict_list, isi_dict_dict, okTy_bool, okTy_int, okTy_str, okTy_tuple, okTy_list, okTy_dict])
local macro_rules | `(tactic| tm_at "nc") => `(tactic| first | exact True.intro | omega | exact mulL (by omega) (by omega) | exact mulR (by omega) (by omega) | exact divOk (by omega) (by omega) | (simp only [List.length_append, List.length_map, List.length_cons, List.length_nil, List.length_replicate, List.length_flatten, List.map_replicate, List.sum_replicate_nat, List.length_range, rngL_len, rngC_len, List.cons_append, List.nil_append]; first | done | omega))
local macro_rules | `(tactic| tm_at "ns") => `(tactic| repeat (with_reducible refine And.intro (by first | tm_at "nc" | exact ⟨by tm_at "nc", by tm_at "nc"⟩ | exact ⟨by tm_at "nc", by tm_at "nc", by tm_at "nc"⟩ | exact ⟨by tm_at "nc", by tm_at "nc", by tm_at "nc", by tm_at "nc"⟩) ?_))
def kD : Key → D
  | .inl i => .int i
  | .inr x => .str x
/-- the pairs of keys and values -/
def prsD : List Key → List D → List D
  | k :: ks, d :: ds => .tup [kD k, d] :: prsD ks ds
  | _, _ => []
theorem keyOf_rep {T : Th} {F : Addr → Prop} {H : Hp} {k : Key} {v : V} (h : Rep T F H (kD k) v) : v = kV k := by
  cases k <;> simp only [kD, Rep] at h <;> rw [h] <;> rfl
theorem prs_rep {T : Th} {F : Addr → Prop} {H : Hp} {K : PySem.W.Frag} (hK : T.K = K) : ∀ {ks : List Key} {ds : List D} {vs : List V}, ks.length = ds.length → Reps T F H (prsD ks ds) vs →
    ∃ (ps : List Addr) (ws : List V), vs = ps.map V.ref ∧ Paired (fun p kv => SqT K H p [kV kv.1, kv.2]) ps (ks.zip ws) ∧ Reps T F H ds ws
  | [], [], vs, _, r => by
    simp only [prsD, Reps] at r
    subst r
    exact ⟨[], [], rfl, .nil, rfl⟩
  | [], d :: ds, vs, l, r => by simp at l
  | k :: ks, [], vs, l, r => by simp at l
  | k :: ks, d :: ds, vs, l, r => by
    simp only [prsD, Reps] at r
    obtain ⟨v, w, rfl, h1, h2⟩ := r
    obtain ⟨ps, ws, rfl, pr, r2⟩ := prs_rep hK (by simpa using l) h2
    simp only [Rep] at h1
    obtain ⟨a, us, rfl, ha, v1, w1, rfl, k1, v2, w2, rfl, d1, rfl⟩ := h1
    obtain rfl := keyOf_rep k1
    exact ⟨a :: ps, v2 :: ws, rfl, .cons (hK ▸ tupAt ha) pr, v2, ws, rfl, d1, r2⟩
theorem valV_out {k : Key} : ∀ {kvs : List (Key × V)}, k ∉ kvs.map (·.1) → valV kvs k = none
  | [], _ => rfl
  | p :: r, h => by
    rw [List.map_cons, List.mem_cons, not_or] at h
    rw [valV_neg (fun e => h.1 e.symm)]
    exact valV_out h.2
theorem merge_nodup : ∀ (more acc : List (Key × V)), ((acc ++ more).map (·.1)).Nodup → mergeK acc more = acc ++ more
  | [], acc, _ => by simp [mergeK]
  | (k, v) :: r, acc, h => by
    have hn : k ∉ acc.map (·.1) := by
      rw [List.map_append, List.nodup_append] at h
      exact fun hm => h.2.2 _ hm k (by simp) rfl
    have ih := merge_nodup r (acc ++ [(k, v)]) (by simpa using h)
    unfold mergeK at ih ⊢
    rw [List.foldl_cons, putK_new _ (valV_out hn), ih]
    simp
section
variable {X : Cx} {T : Th} {P : Pm}
/-- dict(d), dict(pairs) of different keys -/
def gDict : GCF
  | [.dct ks vs], Q => Q (.dct ks vs)
  | [.lst ps], Q => ∃ ks vs, ps = prsD ks vs ∧ ks.length = vs.length ∧ ks.Nodup ∧ Q (.dct ks vs)
  | _, _ => False
theorem cf_dict (hK : T.K = X.K) (hcalm : X.calm = true) : CallF X T (.type "dict") gDict := by
  intro pins s σ H xs us Q I r ⟨F, Pm, ds, Qd, hx, hF, hg, hq⟩
  match ds, hg with
  | [.dct ks vs], hg =>
    obtain ⟨v, rfl, h⟩ := reps1 hx
    simp only [RepT] at h
    obtain ⟨a, ws, rfl, ha, n, l, r2⟩ := h
    exact call_dictD pins s σ H _ us Q I r ⟨a, _, rfl, ha, fun p hp => hq (.dct ks vs) hg p (.dK (ks.zip ws)) hp ⟨ws, rfl, l, r2⟩⟩
  | [.lst ps], hg =>
    obtain ⟨ks, vs, rfl, l, nd, hg⟩ := hg
    obtain ⟨v, rfl, h⟩ := reps1 hx
    simp only [RepT] at h
    obtain ⟨a, ws, rfl, ha, n, r2⟩ := h
    obtain ⟨ps, us2, rfl, pr, r3⟩ := prs_rep hK l r2
    refine call_dictP hcalm pins s σ H _ us Q I r ⟨a, ps, _, rfl, .inl (.of ha), pr, fun p hp => ?_⟩
    have e : mergeK [] (ks.zip us2) = ks.zip us2 := by
      rw [merge_nodup, List.nil_append]
      rw [List.nil_append, List.map_fst_zip (by rw [l, r3.len]; exact Nat.le_refl _)]
      exact nd
    rw [e]
    exact hq (.dct ks vs) hg p (.dK (ks.zip us2)) hp ⟨us2, rfl, l, r3⟩
def gGcd : GC
  | [.int a, .int b], Q => Q (.int ((Nat.gcd a.natAbs b.natAbs : Nat) : Int))
  | _, _ => False
theorem cd_gcd : CallD X T (.builtin "math.gcd") gGcd := by
  intro pins s σ H xs us Q I r ⟨F, Pm, ds, Qd, hx, hF, hg, hq⟩
  match ds, hg with
  | [.int a, .int b], hg =>
    obtain ⟨v, v2, rfl, h1, h2⟩ := reps2 hx
    have h1 : v = .int a := h1
    have h2 : v2 = .int b := h2
    subst h1 h2
    exact cr_gcd pins s σ H _ us Q I r ⟨a, b, rfl, hq _ hg _ H (fun _ _ z => z) rfl⟩
/-- a module's name for a built-in function -/
theorem de_callN {g : GC} {id : String} {x : Str} {pos p : Pos} {e : Expr} {es : List Expr} {wl : WA} (hc : CallD X P.T (.builtin id) g) (hm : X.mg x = some (.builtin id)) (ha : DAB X P (e :: es) wl) (hg : Gl X x := by rfl) (hdb : (x == ("__debug__" : Str)) = false := by decide)
    (he : starEach (e :: es) X.env = (false, eval e X.env) :: starEach es X.env := by rfl) (hpl : (backTo pos (starEach es X.env)).any (·.1) = false := by rfl) : DE X P (.Call (.Name x p) (e :: es) [] pos) (wCall g wl) :=
  ⟨pe_imp (pe_callBfun hc hg hm ha.pa hdb he hpl) call_imp⟩
end
end N

set_option Elab.async false
set_option linter.all false
set_option maxRecDepth 100000
set_option maxHeartbeats 0
namespace N
open PySem PySem.Spec PyProof.Rows L2
section
variable {X : Cx} {P : Pm} {tg iter : Expr} {w : WE}
def kyD : Key → D
  | .inl i => .int i
  | .inr x => .str x
def wKeys (w : WE) : WA := fun G Om Q R => w G Om (fun d O => match d with | .dct ks _ => Q (ks.map kyD) O | _ => False) R
theorem rep_kyD {T : Th} {F : Addr → Prop} {H : Hp} (k : Key) : Rep T F H (kyD k) (kV k) := by cases k <;> simp [kyD, kV, Rep]
theorem di_keys (h : DE X P iter w) : DI X P (RF P.T) tg iter (wKeys w) := by
  refine ⟨pi_imp (pi_keys h.pe) fun σ H R q => ?_⟩
  obtain ⟨G, W, Q0, R0, S, q, ex, hq⟩ := q
  refine ⟨G, W, _, R0, S, q, ex, fun d O h1 v H1 W1 s1 e1 r => ?_⟩
  cases d <;> try exact h1.elim
  simp only [Rep] at r
  obtain ⟨a, vs, rfl, ⟨o, ha⟩, n, l, r⟩ := r
  rename_i ks ds
  refine ⟨a, o, rfl, .inl ⟨_, ha, hq _ O h1 _ H1 W1 s1 e1 ?_⟩⟩
  have wk := walk_keys (d := a) (o := o) (kvs := ks.zip vs)
  rw [show (ks.zip vs).length = (ks.map kyD).length from by rw [List.length_zip, r.len, ← l, Nat.min_self, List.length_map]] at wk
  refine ⟨_, _, wk, fun W2 H2 k => ⟨k.1.same _ _ ha n, fun i d e x H3 y => ?_⟩⟩
  · obtain ⟨rfl, k, v, ek, rfl⟩ := y
    refine ⟨fun _ _ z => z, ?_⟩
    rw [List.getElem?_map] at e
    have : ks[i]? = some k := by
      rw [List.getElem?_zip_eq_some] at ek
      exact ek.1
    rw [this] at e
    cases e
    exact rep_kyD k
theorem di_keysB (h : DE X P iter w) : DI X P (RS P.T) tg iter (wKeys w) := by
  refine ⟨pi_imp (pi_keys h.pe) fun σ H R q => ?_⟩
  obtain ⟨G, W, Q0, R0, S, q, ex, hq⟩ := q
  refine ⟨G, W, _, R0, S, q, ex, fun d O h1 v H1 W1 s1 e1 r => ?_⟩
  cases d <;> try exact h1.elim
  simp only [Rep] at r
  obtain ⟨a, vs, rfl, ⟨o, ha⟩, n, l, r⟩ := r
  rename_i ks ds
  refine ⟨a, o, rfl, .inl ⟨_, ha, hq _ O h1 _ H1 W1 s1 e1 ?_⟩⟩
  have wk := walk_keys (d := a) (o := o) (kvs := ks.zip vs)
  rw [show (ks.zip vs).length = (ks.map kyD).length from by rw [List.length_zip, r.len, ← l, Nat.min_self, List.length_map]] at wk
  refine ⟨_, _, wk, fun W2 H2 k => ⟨(Step.kp k s1.ok).same _ _ ha n, fun i d e x H3 y => ?_⟩⟩
  · obtain ⟨rfl, k, v, ek, rfl⟩ := y
    refine ⟨fun _ _ z => z, ?_⟩
    rw [List.getElem?_map] at e
    have : ks[i]? = some k := by
      rw [List.getElem?_zip_eq_some] at ek
      exact ek.1
    rw [this] at e
    cases e
    exact rep_kyD k
end
end N

set_option Elab.async false
set_option linter.all false
set_option maxRecDepth 100000
set_option maxHeartbeats 0
/-! NM: chains of comparisons, own items stored, own dicts, get, displays -/
namespace N
open PySem PySem.Spec PyProof.Rows L2
section
variable {X : Cx} {P : Pm} {a b c e f o i value : Expr} {es : List Expr} {wa wb wc w wo wi wv wf : WE} {pos p tpos apos cpos : Pos}
/-- a op b op' c -/
def wChn (g g' : GD) (wa wb wc : WE) : WE := fun G Om Q R => wa G Om (fun x O1 => wb G O1 (fun y O2 => g x y fun z => match z with
  | .bl k => br k (wc G O2 (fun u O3 => g' y u fun z' => Q z' O3) R) (Q (.bl false) O2)
  | _ => False) R) R
theorem chn_imp {g g' : GD} : ∀ σ H Q, tE P (wChn g g' wa wb wc) σ H Q → tChain (rD P.T g) (rD P.T g') (tB P wa) (tB P wb) (tB P wc) σ H Q := fun σ H Q h => by
  obtain ⟨G, W, Q0, R0, S, h, ex, hq⟩ := h
  refine ⟨G, W, _, R0, S, h, ex, fun dx O1 h1 x H1 W1 s1 e1 rx => ?_⟩
  subst e1
  refine ⟨G, W1, _, R0, S.step s1, h1, ex.step s1, fun dy O2 h2 y H2 W2 s2 e2 ry => ?_⟩
  subst e2
  refine ⟨W2.F, W2.pm, dx, dy, _, rx.step s2 s1.ok, ry, s2.ok.trk, h2, fun z hz v H3 xt r => ?_⟩
  have s3 : Step P.T W2 H2 W2 H3 := Step.ext s2.ok xt
  cases z <;> try exact hz.elim
  rename_i k
  simp only [Rep] at r
  refine ⟨k, r, ?_⟩
  cases k with
  | false =>
    rw [if_neg (by decide)]
    exact hq _ _ hz _ H3 W2 ((s1.trans s2).trans s3) rfl (by simp [Rep])
  | true =>
    rw [if_pos rfl]
    refine ⟨G, W2, _, R0, ((S.step s1).step s2).step s3, hz, ((ex.step s1).step s2).step s3, fun du O3 h3 u H4 W3 s4 e4 ru => ?_⟩
    refine ⟨W3.F, W3.pm, dy, du, _, (ry.step s3 s2.ok).step s4 s3.ok, ru, s4.ok.trk, h3, fun z' hz' v' H5 xt' r' => ?_⟩
    exact hq z' O3 hz' v' H5 W3 ((((s1.trans s2).trans s3).trans s4).trans (Step.ext s4.ok xt')) e4 r'
theorem de_chn {op op' : CmpOp} {g g' : GD} (ho : OpD X P.T (compareOp op) g) (ho' : OpD X P.T (compareOp op') g') (ha : DB X P a wa) (hb : DB X P b wb) (hc : DB X P c wc) (hm : lastMarks [op, op'] [b, c] = false := by with_unfolding_all rfl) :
    DE X P (.Compare a [op, op'] [b, c] pos) (wChn g g' wa wb wc) := ⟨pe_imp (pe_chain ho ho' ha.pe hb.pe hc.pe hm) chn_imp⟩
theorem dt_chn {op op' : CmpOp} {g g' : GD} (ho : OpD X P.T (compareOp op) g) (ho' : OpD X P.T (compareOp op') g') (ha : DB X P a wa) (hb : DB X P b wb) (hc : DB X P c wc) (hm : lastMarks [op, op'] [b, c] = false := by with_unfolding_all rfl) :
    DT X P (.Compare a [op, op'] [b, c] pos) (wTst (wChn g g' wa wb wc)) := ⟨pt_imp (pt_chain ho ho' ha.pe hb.pe hc.pe hm) (tst_imp chn_imp)⟩

/-! ### own items stored -/
/-- x[k] = v, x an own list -/
def wSetIxO (n : Nat) (wv wi : WE) : WS := fun G Om Po => wv G Om (fun d O => match getSl G n with
  | .own (.lst xs) => wi G O (fun y O2 => match y with
    | .int k => (match ixN xs.length k with | some j => Po.nx (G.set n (.own (.lst (xs.set j d)))) O2 | none => False)
    | _ => False) fun x O => Po.ex x G O
  | _ => False) fun x O => Po.ex x G O
theorem ds_setIxO (n : Nat) {x : Str} {xp : Pos} (hv : DE X P value wv) (hi : DE X P i wi) (hN : X.N[n]? = some x := by rfl) (hvis : Vis X.env.scope x := by first | exact Or.inl rfl | exact Or.inr (Or.inl rfl) | exact Or.inr (Or.inr rfl)) (hd : (x == ("__debug__" : Str)) = false := by decide)
    (hcd : (x == ("__classdict__" : Str)) = false := by decide)
    (hs : swapsWithSole [.Subscript (.Name x xp) i tpos] value pos.line X.env = pure false := by rfl) (hw : swappedStores [.Subscript (.Name x xp) i tpos] value X.env = pure none := by rfl) (h1 : (assignEach [.Subscript (.Name x xp) i tpos] X.env).map (·.2) = [assign (.Subscript (.Name x xp) i tpos) X.env] := by rfl)
    (ha : ∀ v, assign (.Subscript (.Name x xp) i tpos) X.env v = (do
      let ov ← holding [v] (eval (.Name x xp) X.env)
      let iv ← holding [v, ov] (eval i X.env)
      standAt tpos
      holding [v, ov, iv] (setItem ov iv v)
      release [v, ov, iv] []) := by intro _; rfl) :
    DS X P (.Assign [.Subscript (.Name x xp) i tpos] value pos) (wSetIxO n wv wi) := by
  refine ⟨ps_imp (ps_asg hv.pe (pg_sub (pe_var hN hvis hd hcd) hi.pe set_list ha) hs hw h1) fun D σ H ⟨G, W, Po, S, q, h⟩ => ⟨G, W, _, _, S, q, h.exE S, fun d O q1 v H1 W1 s1 e1 r1 => ?_⟩⟩
  subst e1
  have p1 := h.kp (s1.kp S.ok)
  have S1 := S.step s1
  have q1 : (match getSl G n with | .own (.lst xs) => _ | _ => False) := q1
  split at q1
  · rename_i xs ed
    have gg := getSl_get G n (by rw [ed]; intro z; cases z)
    rw [ed] at gg
    obtain ⟨a, ea, oa⟩ := S1.sl n _ gg
    refine ⟨.ref a, ea, G, W1, _, _, S1, q1, p1.exE S1, fun y O2 q3 v3 H3 W3 s3 e3 r3 => ?_⟩
    subst e3
    cases y <;> try exact q3.elim
    rename_i k
    simp only [Rep] at r3
    have q3 : (match ixN xs.length k with | some j => Po.nx (G.set n (.own (.lst (xs.set j d)))) W3.Om | none => False) := q3
    split at q3
    · rename_i j ej
      have S3 := S1.step s3
      obtain ⟨a2, e2, oa3⟩ := S3.sl n _ gg
      rw [ea] at e2; cases e2
      obtain ⟨ws, hl, rl⟩ := oa3.r
      have rd := Rep.kp (s3.kp s1.ok) _ _ r1
      obtain ⟨S4, k4⟩ := S3.mut (o := .lst (ws.set j v)) (m' := .lst (xs.set j d)) gg ea ⟨_, upd_same, Reps.kp (Kp.mut oa3.f) _ _ (rl.set rd j)⟩
      exact ⟨a, ws, k, j, rfl, r3, hl, by rw [rl.len]; exact ej, p1.nx _ _ q3 _ _ W3 ((s3.kp s1.ok).trans k4) S4 rfl⟩
    · exact q3.elim
  · exact q1.elim

/-! ### dicts -/
def putKs : List Key → Key → List Key
  | k' :: ks, k => if k' = k then k' :: ks else k' :: putKs ks k
  | [], k => [k]
def putVs : List Key → List D → Key → D → List D
  | k' :: ks, v :: vs, k, d => if k' = k then d :: vs else v :: putVs ks vs k d
  | _, _, _, d => [d]
theorem zip_len {T : Th} {F : Addr → Prop} {H : Hp} {ks : List Key} {ds : List D} {vs : List V} (l : ks.length = ds.length) (r : Reps T F H ds vs) : (ks.zip vs).length = ks.length := by rw [List.length_zip, r.len, l, Nat.min_self]
theorem putK_no {kvs : List (Key × V)} {k : Key} {v : V} (h : k ∉ kvs.map (·.1)) : putK kvs k v = kvs ++ [(k, v)] := by
  unfold putK
  rw [if_neg]
  intro z
  obtain ⟨p, hp, e⟩ := List.any_eq_true.mp z
  exact h (List.mem_map.mpr ⟨p, hp, of_decide_eq_true e⟩)
theorem put_rep {T : Th} {F : Addr → Prop} {H : Hp} {k : Key} {d : D} {v : V} (rd : Rep T F H d v) : ∀ {ks : List Key} {ds : List D} {vs : List V}, ks.Nodup → ks.length = ds.length → Reps T F H ds vs →
    ∃ us, putK (ks.zip vs) k v = (putKs ks k).zip us ∧ (putKs ks k).length = (putVs ks ds k d).length ∧ Reps T F H (putVs ks ds k d) us
  | [], ds, vs, _, l, r => by
    refine ⟨[v], by simp [putK, putKs], by simp [putKs, putVs], ?_⟩
    unfold putVs
    exact .cons rd .nil
  | k' :: ks, [], vs, _, l, r => by cases l
  | k' :: ks, x :: ds, vs, nd, l, r => by
    simp only [Reps] at r
    obtain ⟨u, w, e, r1, r2⟩ := r
    subst e
    have nd' := (List.nodup_cons.mp nd)
    by_cases q : k' = k
    · subst q
      refine ⟨v :: w, ?_, ?_, ?_⟩
      · unfold putK putKs
        rw [List.zip_cons_cons, if_pos (by simp), if_pos rfl, List.map_cons, if_pos rfl, List.zip_cons_cons]
        congr 1
        refine (List.map_congr_left fun p hp => ?_).trans (List.map_id _)
        have : p.1 ∈ ks := (List.of_mem_zip (show (p.1, p.2) ∈ ks.zip w from hp)).1
        rw [if_neg (fun (z : p.1 = k') => nd'.1 (by rw [z] at this; exact this))]
        rfl
      · unfold putKs putVs
        rw [if_pos rfl, if_pos rfl]
        simpa using l
      · unfold putVs
        rw [if_pos rfl]
        exact .cons rd r2
    · obtain ⟨us, h1, h2, h3⟩ := put_rep (k := k) rd (ks := ks) (ds := ds) (vs := w) nd'.2 (by simpa using l) r2
      have e2 : putKs (k' :: ks) k = k' :: putKs ks k := by
        conv => lhs; unfold putKs
        rw [if_neg q]
      refine ⟨u :: us, ?_, ?_, ?_⟩
      · rw [e2, List.zip_cons_cons, List.zip_cons_cons, ← h1]
        unfold putK
        rw [List.any_cons, decide_eq_false q, Bool.false_or]
        by_cases m : ((ks.zip w).any fun kv => decide (kv.1 = k)) = true
        · rw [if_pos m, if_pos m, List.map_cons, if_neg q]
        · rw [if_neg m, if_neg m]; rfl
      · rw [e2, List.length_cons, h2]
        conv => rhs; unfold putVs
        rw [if_neg q]; rfl
      · unfold putVs
        rw [if_neg q]
        exact .cons r1 h3
/-- x[k] = v, x an own dict -/
def wPutO (n : Nat) (wv wi : WE) : WS := fun G Om Po => wv G Om (fun d O => match getSl G n with
  | .own (.dct ks vs) => wi G O (fun y O2 => match keyD y with
    | some k => ks.Nodup ∧ ks.length < 16777216 ∧ Po.nx (G.set n (.own (.dct (putKs ks k) (putVs ks vs k d)))) O2
    | none => False) fun x O => Po.ex x G O
  | _ => False) fun x O => Po.ex x G O
theorem ds_putO (n : Nat) {x : Str} {xp : Pos} (hu : X.A.units + 64 < cLine) (hv : DE X P value wv) (hi : DE X P i wi) (hN : X.N[n]? = some x := by rfl) (hvis : Vis X.env.scope x := by first | exact Or.inl rfl | exact Or.inr (Or.inl rfl) | exact Or.inr (Or.inr rfl)) (hd : (x == ("__debug__" : Str)) = false := by decide)
    (hcd : (x == ("__classdict__" : Str)) = false := by decide) (hs : swapsWith value (some (.Subscript (.Name x xp) i tpos)) pos.line X.env = pure false := by rfl) :
    DS X P (.Assign [.Subscript (.Name x xp) i tpos] value pos) (wPutO n wv wi) := by
  refine ⟨ps_imp (ps_dput (by omega) (pe_var hN hvis hd hcd) hi.pe hv.pe hs) fun D σ H ⟨G, W, Po, S, q, h⟩ => ⟨G, W, _, _, S, q, h.exE S, fun d O q1 v H1 W1 s1 e1 r1 => ?_⟩⟩
  subst e1
  have p1 := h.kp (s1.kp S.ok)
  have S1 := S.step s1
  have q1 : (match getSl G n with | .own (.dct ks vs) => _ | _ => False) := q1
  split at q1
  · rename_i ks ds ed
    have gg := getSl_get G n (by rw [ed]; intro z; cases z)
    rw [ed] at gg
    obtain ⟨a, ea, oa⟩ := S1.sl n _ gg
    refine ⟨.ref a, ea, G, W1, _, _, S1, q1, p1.exE S1, fun y O2 q3 v3 H3 W3 s3 e3 r3 => ?_⟩
    subst e3
    have q3 : (match keyD y with | some k => ks.Nodup ∧ ks.length < 16777216 ∧ Po.nx (G.set n (.own (.dct (putKs ks k) (putVs ks ds k d)))) W3.Om | none => False) := q3
    split at q3
    · rename_i k ek
      obtain ⟨nd, hk, q3⟩ := q3
      have S3 := S1.step s3
      obtain ⟨a2, e2, oa3⟩ := S3.sl n _ gg
      rw [ea] at e2; cases e2
      obtain ⟨ws, hl, l, rl⟩ := oa3.r
      have rd := Rep.kp (s3.kp s1.ok) _ _ r1
      obtain ⟨us, h1, h2, h3⟩ := put_rep (k := k) rd nd l rl
      obtain ⟨S4, k4⟩ := S3.mut (o := .dK (putK (ks.zip ws) k v)) (m' := .dct (putKs ks k) (putVs ks ds k d)) gg ea ⟨us, by rw [upd_same, h1], h2, Reps.kp (Kp.mut oa3.f) _ _ h3⟩
      have ev := keyD_rep (r3.t s3.ok.sub) ek
      subst ev
      exact ⟨a, _, rfl, DPut.k hl (by rw [zip_len l rl]; exact Nat.lt_of_lt_of_le hk (by decide)), p1.nx _ _ q3 _ _ W3 ((s3.kp s1.ok).trans k4) S4 rfl⟩
    · exact q3.elim
  · exact q1.elim
/-- d.get(k), d.get(k, x) -/
def wGet1 (wo wi : WE) : WE := fun G Om Q R => wo G Om (fun d O => match d with
  | .dct ks vs => wi G O (fun y O2 => match keyD y with
    | some k => Q ((getD ks vs k).getD .non) O2
    | none => False) R
  | _ => False) R
def wGet2 (wo wi wf : WE) : WE := fun G Om Q R => wo G Om (fun d O => match d with
  | .dct ks vs => wi G O (fun y O2 => wf G O2 (fun z O3 => match keyD y with
    | some k => Q ((getD ks vs k).getD z) O3
    | none => False) R) R
  | _ => False) R
theorem getD_val {T : Th} {F : Addr → Prop} {H : Hp} {k : Key} {ks : List Key} {ds : List D} {vs : List V} {z : D} {zv : V} (l : ks.length = ds.length) (r : Reps T F H ds vs) (rz : Rep T F H z zv) : Rep T F H ((getD ks ds k).getD z) ((valV (ks.zip vs) k).getD zv) := by
  obtain ⟨h1, h2⟩ := getD_rep (x := k) l r
  cases q : getD ks ds k with
  | none => rw [h2 q]; exact rz
  | some d =>
    obtain ⟨v, ev, rv⟩ := h1 d q
    rw [ev]; exact rv
theorem de_get1 (hu : X.A.units + 64 < cLine) (ho : DB X P o wo) (he : DE X P e wi) (base : attributeBase o "get" X.env (eval o X.env) = eval o X.env := by rfl)
    (few : ((backTo cpos (starEach [e] X.env)).all (fun x => !x.1) && (backToKw cpos (keywordEach [] X.env)).all (fun x => x.1.isSome) && decide (([e] : List Expr).length + ([] : List Keyword).length + (if ([] : List Keyword).isEmpty then 0 else 1) < 30)) = true := by rfl)
    (line : (apos.endLine == cpos.line) = true := by rfl) (trees : backTo cpos (starEach [e] X.env) = [(false, eval e X.env)] := by rfl) : DE X P (.Call (.Attribute o "get" apos) [e] [] cpos) (wGet1 wo wi) := by
  refine ⟨pe_imp (pe_dget1 (by omega) ho.pe he.pe ⟨base, few, line, trees⟩) fun σ H Q q => ?_⟩
  obtain ⟨G, W, Q0, R0, S, q, ex, hq⟩ := q
  refine ⟨G, W, _, R0, S, q, ex, fun d O h1 v H1 W1 s1 e1 r1 => ?_⟩
  subst e1
  cases d <;> try exact h1.elim
  rename_i ks ds
  have r1' := r1
  obtain ⟨a, vs, ev, hrd, npm, l, rs⟩ := r1
  refine ⟨a, ev, .inl ⟨_, hrd⟩, G, W1, _, R0, S.step s1, h1, ex.step s1, fun y O2 h2 yv H2 W2 s2 e2 ry => ?_⟩
  subst e2
  have h2 : (match keyD y with | some k => Q0 ((getD ks ds k).getD .non) W2.Om | none => False) := h2
  split at h2
  · rename_i k ek
    obtain ⟨a2, vs2, ev2, hrd2, _, l2, rs2⟩ := r1'.step s2 s1.ok
    rw [ev] at ev2; cases ev2
    have eky := keyD_rep (ry.t s2.ok.sub) ek
    exact ⟨_, .inl ⟨_, k, hrd2, eky, rfl⟩, hq _ _ h2 _ H2 W2 (s1.trans s2) rfl (getD_val l2 rs2 (by simp [Rep]))⟩
  · exact h2.elim
theorem de_get2 (hu : X.A.units + 64 < cLine) (ho : DB X P o wo) (he : DE X P e wi) (hf : DE X P f wf) (base : attributeBase o "get" X.env (eval o X.env) = eval o X.env := by rfl)
    (few : ((backTo cpos (starEach [e, f] X.env)).all (fun x => !x.1) && (backToKw cpos (keywordEach [] X.env)).all (fun x => x.1.isSome) && decide (([e, f] : List Expr).length + ([] : List Keyword).length + (if ([] : List Keyword).isEmpty then 0 else 1) < 30)) = true := by rfl)
    (line : (apos.endLine == cpos.line) = true := by rfl) (trees : backTo cpos (starEach [e, f] X.env) = [(false, eval e X.env), (false, eval f X.env)] := by rfl) : DE X P (.Call (.Attribute o "get" apos) [e, f] [] cpos) (wGet2 wo wi wf) := by
  refine ⟨pe_imp (pe_dget2 (by omega) ho.pe he.pe hf.pe ⟨base, few, line, trees⟩) fun σ H Q q => ?_⟩
  obtain ⟨G, W, Q0, R0, S, q, ex, hq⟩ := q
  refine ⟨G, W, _, R0, S, q, ex, fun d O h1 v H1 W1 s1 e1 r1 => ?_⟩
  subst e1
  cases d <;> try exact h1.elim
  rename_i ks ds
  have r1' := r1
  obtain ⟨a, vs, ev, hrd, npm, l, rs⟩ := r1
  refine ⟨a, ev, .inl ⟨_, hrd⟩, G, W1, _, R0, S.step s1, h1, ex.step s1, fun y O2 h2 yv H2 W2 s2 e2 ry => ?_⟩
  subst e2
  refine ⟨G, W2, _, R0, (S.step s1).step s2, h2, (ex.step s1).step s2, fun z O3 h3 zv H3 W3 s3 e3 rz => ?_⟩
  subst e3
  have h3 : (match keyD y with | some k => Q0 ((getD ks ds k).getD z) W3.Om | none => False) := h3
  split at h3
  · rename_i k ek
    obtain ⟨a2, vs2, ev2, hrd2, _, l2, rs2⟩ := (r1'.step s2 s1.ok).step s3 s2.ok
    rw [ev] at ev2; cases ev2
    have eky := keyD_rep (ry.t s2.ok.sub) ek
    exact ⟨_, .inl ⟨_, k, hrd2, eky, rfl⟩, hq _ _ h3 _ H3 W3 ((s1.trans s2).trans s3) rfl (getD_val l2 rs2 rz)⟩
  · exact h3.elim
/-- {} -/
def wDnew : WF := fun G Om Q R => Q (.dct [] []) Om
theorem df_dnew : DF X P (.Dict [] [] pos) wDnew := by
  refine ⟨pe_imp pe_dnewK fun σ H Q q => ?_⟩
  obtain ⟨G, W, Q0, R0, S, q, ex, hq⟩ := q
  intro p hp
  obtain ⟨s2, a1, a2, a3, a4⟩ := newOwn_fin (P := P) (o := .dK []) (m := .dct [] []) S.ok hp ⟨[], rfl, rfl, .nil⟩
  exact hq _ _ q p _ (W.add p) s2 rfl hp a1 a2 a3 a4
/-- for k, v in d.items(), for v in d.values(), a dict that stands still -/
def wItems (w : WE) : WA := fun G Om Q R => w G Om (fun d O => match d with | .dct ks ds => Q (List.zipWith (fun k v => .tup [kyD k, v]) ks ds) O | _ => False) R
def wVals (w : WE) : WA := fun G Om Q R => w G Om (fun d O => match d with | .dct ks ds => Q ds O | _ => False) R
end
end N

set_option Elab.async false
set_option linter.all false
set_option maxRecDepth 100000
/-! NP: the readings rewritten without splitting what follows -/
namespace N
open PySem PySem.Spec PyProof.Rows L2
def slV (s : Sl) (Q : D → Prop) : Prop := match s with | .val d => Q d | _ => False
def slB (s : Sl) (Q : D → Prop) : Prop := match s with | .val d => Q d | .own m => Q m.see | .no => False
def slL (s : Sl) (Q : List D → Prop) : Prop := match s with | .own (.lst xs) => Q xs | _ => False
def slD (s : Sl) (Q : List Key → List D → Prop) : Prop := match s with | .own (.dct ks vs) => Q ks vs | _ => False
def asB (d : D) (Q : Bool → Prop) : Prop := match d with | .bl b => Q b | _ => False
def asI (d : D) (Q : Int → Prop) : Prop := match d with | .int b => Q b | _ => False
def asR (d : D) (Q : Addr → Prop) : Prop := match d with | .ref b => Q b | _ => False
def asT (d : D) (Q : List D → Prop) : Prop := match d with | .tup b => Q b | _ => False
def asQ (d : D) (Q : List D → Prop) : Prop := match d with | .lst b => Q b | .tup b => Q b | _ => False
def asD (d : D) (Q : List Key → List D → Prop) : Prop := match d with | .dct ks vs => Q ks vs | _ => False
def asK (d : D) (Q : Key → Prop) : Prop := match keyD d with | some k => Q k | none => False
def asC (ds : List D) (Q : D → List D → Prop) : Prop := match ds with | d :: r => Q d r | [] => False
def as2 (ds : List D) (Q : D → D → Prop) : Prop := match ds with | [d, e] => Q d e | _ => False
def asO {α : Type} (o : Option α) (Q : α → Prop) : Prop := match o with | some a => Q a | none => False
def asIns (o : Option MO) (Q : Nat → List Str → List D → Prop) : Prop := match o with | some (.ins c ns vs) => Q c ns vs | _ => False
def fzK (s : Sl) (K : Gam → Prop) (G : Gam) (i : Nat) : Prop := match s with | .own (.dct _ _) => False | .own m => K (G.set i (.val m.see)) | _ => K G
section
variable {Q : D → Prop} {QL : List D → Prop} {QD : List Key → List D → Prop} {d e : D} {m : MO} {xs : List D} {ks : List Key} {vs : List D}
theorem slV_v : slV (.val d) Q = Q d := rfl
theorem slB_v : slB (.val d) Q = Q d := rfl
theorem slB_l : slB (.own (.lst xs)) Q = Q (.lst xs) := rfl
theorem slB_d : slB (.own (.dct ks xs)) Q = Q (.dct ks xs) := rfl
theorem slB_i {c : Nat} {ns : List Str} : slB (.own (.ins c ns xs)) Q = Q (.ins c ns xs) := rfl
theorem slL_l : slL (.own (.lst xs)) QL = QL xs := rfl
theorem slD_d : slD (.own (.dct ks vs)) QD = QD ks vs := rfl
theorem asB_b {b : Bool} {Q : Bool → Prop} : asB (.bl b) Q = Q b := rfl
theorem asI_i {b : Int} {Q : Int → Prop} : asI (.int b) Q = Q b := rfl
theorem asR_r {b : Addr} {Q : Addr → Prop} : asR (.ref b) Q = Q b := rfl
theorem asT_t : asT (.tup xs) QL = QL xs := rfl
theorem asQ_t : asQ (.tup xs) QL = QL xs := rfl
theorem asQ_l : asQ (.lst xs) QL = QL xs := rfl
theorem asD_d : asD (.dct ks vs) QD = QD ks vs := rfl
theorem asK_i {i : Int} {Q : Key → Prop} : asK (.int i) Q = Q (.inl i) := rfl
theorem asK_s {i : Str} {Q : Key → Prop} : asK (.str i) Q = Q (.inr i) := rfl
theorem asC_c {Q : D → List D → Prop} : asC (d :: xs) Q = Q d xs := rfl
theorem as2_2 {Q : D → D → Prop} : as2 [d, e] Q = Q d e := rfl
theorem asO_s {α : Type} {a : α} {Q : α → Prop} : asO (some a) Q = Q a := rfl
theorem asIns_i {c : Nat} {ns : List Str} {Q : Nat → List Str → List D → Prop} : asIns (some (.ins c ns vs)) Q = Q c ns vs := rfl
theorem fz_l {K : Gam → Prop} {G : Gam} {i : Nat} : fzK (.own (.lst xs)) K G i = K (G.set i (.val (.lst xs))) := rfl
theorem fz_i {K : Gam → Prop} {G : Gam} {i c : Nat} {ns : List Str} : fzK (.own (.ins c ns xs)) K G i = K (G.set i (.val (.ins c ns xs))) := rfl
theorem fz_v {K : Gam → Prop} {G : Gam} {i : Nat} : fzK (.val d) K G i = K G := rfl
theorem fz_n {K : Gam → Prop} {G : Gam} {i : Nat} : fzK .no K G i = K G := rfl
end
section
variable {i j n : Nat} {w wa wb wi wf wv wo : WE} {u v : WS} {G : Gam} {Om : N.Om} {Q : D → N.Om → Prop} {R : RX} {Po : Post} {QT : Bool → N.Om → Prop}
theorem wVar_e : wVar i G Om Q R = slV (getSl G i) fun d => Q d Om := by unfold wVar slV; split <;> simp_all
theorem wVarB_e : wVarB i G Om Q R = slB (getSl G i) fun d => Q d Om := by unfold wVarB slB; cases getSl G i <;> rfl
theorem wTst_e : wTst w G Om QT R = w G Om (fun d O => asB d fun b => QT b O) R := rfl
theorem wAnd_e : wAnd wa wb G Om Q R = wa G Om (fun d O => asB d fun b => br b (wb G O Q R) (Q (.bl false) O)) R := rfl
theorem wOr_e : wOr wa wb G Om Q R = wa G Om (fun d O => asB d fun b => br b (Q (.bl true) O) (wb G O Q R)) R := rfl
theorem wNot_e : wNot wa G Om Q R = wa G Om (fun d O => asB d fun b => Q (.bl (!b)) O) R := rfl
theorem wApp_e : wApp i w G Om Po = slL (getSl G i) fun xs => w G Om (fun d O => xs.length < 16777216 ∧ Po.nx (G.set i (.own (.lst (xs ++ [d])))) O) fun x O => Po.ex x G O := by
  unfold wApp slL; split <;> simp_all
theorem wExt_e : wExt i w G Om Po = slL (getSl G i) fun xs => w G Om (fun d O => asQ d fun ys => xs.length + ys.length ≤ 16777216 ∧ Po.nx (G.set i (.own (.lst (xs ++ ys)))) O) fun x O => Po.ex x G O := by
  unfold wExt slL asQ
  split
  · rename_i xs e
    simp only [e]
    all_goals (congr 1; all_goals (funext d O; cases d <;> rfl))
  · simp_all
theorem wAug_e {g : GD} : wAug i g w G Om Po = slV (getSl G i) fun d => w G Om (fun y O => g d y fun z => Po.nx (G.set i (.val z)) O) fun x O => Po.ex x G O := by
  unfold wAug slV; split <;> simp_all
theorem wRetO_e : wRetO i G Om Po = slB (getSl G i) fun d => Po.rt d Om := by unfold wRetO slB; cases getSl G i <;> rfl
theorem wFz_e {ws : WS} : wFz i ws G Om Po = fzK (getSl G i) (fun G' => ws G' Om Po) G i := by
  unfold wFz fzK
  cases getSl G i with
  | own m => cases m <;> rfl
  | no => rfl
  | val d => rfl
theorem wPar_e {wl : WA} : wPar i j wl G Om Po = wl G Om (fun ds O => as2 ds fun d d' => Po.nx ((G.set i (.val d)).set j (.val d')) O) fun x O => Po.ex x G O := rfl
theorem wFld_e {cs : List Nat} {f : Str} : wFld cs f w G Om Q R = w G Om (fun d O => asO (insOf O d) fun p => p.1 ∈ cs ∧ asO (lk p.2.1 p.2.2 f) fun v => Q v O) R := by
  unfold wFld asO
  congr 1
  funext d O
  cases insOf O d with
  | none => rfl
  | some p => obtain ⟨c, ns, vs⟩ := p; show (_ ∧ _) = (_ ∧ _); cases lk ns vs f <;> rfl
theorem wSetF_e {cs : List Nat} {f : Str} : wSetF cs f w wo G Om Po = w G Om (fun d O => wo G O (fun z O' => asR z fun a => asIns (O' a) fun c ns vs => c ∈ cs ∧ ns.length < 1000 ∧ Po.nx G (putO O' a (.ins c (setN ns f) (setV ns vs f d)))) fun x O' => Po.ex x G O') fun x O => Po.ex x G O := by
  rfl
theorem wMeth_e {c : Nat} {m : Str} {S : DSp} {wl : WA} : wMeth c m n S wo wl G Om Q R = wo G Om (fun d O => asO (insOf O d) (fun p => p.1 = c ∧ lk p.2.1 p.2.2 m = none) ∧ wl G O (fun ds O' => (d :: ds).length = n ∧ S (d :: ds) O' Q R) R) R := by
  unfold wMeth asO
  congr 1
  funext d O
  congr 1
  cases insOf O d with
  | none => rfl
  | some p => rfl
theorem woSome_e {QO : Option Int → N.Om → Prop} : woSome w G Om QO R = w G Om (fun d O => asI d fun i => QO (some i) O) R := rfl
theorem wBits_e : wBits w G Om Q R = w G Om (fun d O => asI d fun i => Q (.int (Builtin.Int.intBits i : Nat)) O) R := rfl
theorem fTup_e {f : List D → Gam → (Gam → Prop) → Prop} {d : D} {K : Gam → Prop} : fTup n f d G K = asT d fun ds => ds.length = n ∧ f ds G K := by cases d <;> rfl
theorem fCons_e {f : WG} {r : List D → Gam → (Gam → Prop) → Prop} {ds : List D} {K : Gam → Prop} : fCons f r ds G K = asC ds fun d ds' => f d G fun G' => r ds' G' K := by cases ds <;> rfl
theorem fNil_e {K : Gam → Prop} : fNil [] G K = K G := rfl
theorem wChn_e {g g' : GD} {wc : WE} : wChn g g' wa wb wc G Om Q R = wa G Om (fun x O1 => wb G O1 (fun y O2 => g x y fun z => asB z fun k => br k (wc G O2 (fun u O3 => g' y u fun z' => Q z' O3) R) (Q (.bl false) O2)) R) R := rfl
theorem wSetIxO_e : wSetIxO n wv wi G Om Po = wv G Om (fun d O => slL (getSl G n) fun xs => wi G O (fun y O2 => asI y fun k => asO (ixN xs.length k) fun j => Po.nx (G.set n (.own (.lst (xs.set j d)))) O2) fun x O => Po.ex x G O) fun x O => Po.ex x G O := by
  unfold wSetIxO slL asI asO
  congr 1
  funext d O
  split
  · rename_i xs e
    simp only [e]
    congr 1
    funext y O2
    cases y <;> try rfl
    rename_i k
    dsimp only
    cases ixN xs.length k <;> rfl
  · simp_all
theorem wPutO_e : wPutO n wv wi G Om Po = wv G Om (fun d O => slD (getSl G n) fun ks vs => wi G O (fun y O2 => asK y fun k => ks.Nodup ∧ ks.length < 16777216 ∧ Po.nx (G.set n (.own (.dct (putKs ks k) (putVs ks vs k d)))) O2) fun x O => Po.ex x G O) fun x O => Po.ex x G O := by
  unfold wPutO
  have : ∀ d O, (match getSl G n with | .own (.dct ks vs) => wi G O (fun y O2 => match keyD y with | some k => ks.Nodup ∧ ks.length < 16777216 ∧ Po.nx (G.set n (.own (.dct (putKs ks k) (putVs ks vs k d)))) O2 | none => False) fun x O => Po.ex x G O | _ => False) = slD (getSl G n) fun ks vs => wi G O (fun y O2 => asK y fun k => ks.Nodup ∧ ks.length < 16777216 ∧ Po.nx (G.set n (.own (.dct (putKs ks k) (putVs ks vs k d)))) O2) fun x O => Po.ex x G O := fun d O => by
    unfold slD asK
    cases getSl G n with
    | own m => cases m <;> rfl
    | no => rfl
    | val d => rfl
  exact congrArg (fun z => wv G Om z fun x O => Po.ex x G O) (funext fun d => funext fun O => this d O)
theorem wGet1_e : wGet1 wo wi G Om Q R = wo G Om (fun d O => asD d fun ks vs => wi G O (fun y O2 => asK y fun k => Q ((getD ks vs k).getD .non) O2) R) R := by
  unfold wGet1 asD asK
  congr 1
theorem wGet2_e : wGet2 wo wi wf G Om Q R = wo G Om (fun d O => asD d fun ks vs => wi G O (fun y O2 => wf G O2 (fun z O3 => asK y fun k => Q ((getD ks vs k).getD z) O3) R) R) R := by
  unfold wGet2 asD asK
  congr 1
theorem wKeys_e {QL : List D → N.Om → Prop} : wKeys w G Om QL R = w G Om (fun d O => asD d fun ks _ => QL (ks.map kyD) O) R := rfl
theorem wItems_e {QL : List D → N.Om → Prop} : wItems w G Om QL R = w G Om (fun d O => asD d fun ks ds => QL (List.zipWith (fun k v => .tup [kyD k, v]) ks ds) O) R := rfl
theorem wVals_e {QL : List D → N.Om → Prop} : wVals w G Om QL R = w G Om (fun d O => asD d fun ks ds => QL ds O) R := rfl
end
end N
namespace N
/-- what follows, not yet looked at -/
def sq (v : WS) : WS := v
theorem sq_i {v : WS} {G : Gam} {Om : N.Om} {Po : Post} (h : v G Om Po) : sq v G Om Po := h
theorem wSeq_e {u v : WS} {G : Gam} {Om : N.Om} {Po : Post} : wSeq u v G Om Po = u G Om { Po with nx := fun G' O => sq v G' O Po } := rfl
end N
namespace N
open PySem PySem.Spec PyProof.Rows L2
theorem see_l {xs : List D} : (MO.lst xs).see = .lst xs := rfl
theorem see_d {ks : List Key} {xs : List D} : (MO.dct ks xs).see = .dct ks xs := rfl
theorem see_i {c : Nat} {ns : List Str} {xs : List D} : (MO.ins c ns xs).see = .ins c ns xs := rfl
end N
namespace N
open PySem PySem.Spec PyProof.Rows L2
theorem wForL_c {f : WG} {u : WS} {d : D} {r : List D} {G : Gam} {Om : N.Om} {Po : Post} (h : f d G fun G' => u G' Om { Po with nx := fun G2 O2 => wForL f u r G2 O2 Po, ct := fun G2 O2 => wForL f u r G2 O2 Po, bk := Po.nx }) : wForL f u (d :: r) G Om Po := h
theorem wForL_n {f : WG} {u : WS} {G : Gam} {Om : N.Om} {Po : Post} (h : Po.nx G Om) : wForL f u [] G Om Po := h
end N

set_option Elab.async false
set_option linter.all false
set_option maxRecDepth 100000
/-! NQ: the readings as equations (printed by gene.py) -/
namespace N
open PySem PySem.Spec PyProof.Rows L2
theorem wFn_e {n : Nat} {w : WS} {ds : List D} {Om : N.Om} {Q : (D → N.Om → Prop)} {R : RX} : wFn n w ds Om Q R = (w (startG n ds) Om ⟨fun _ O => Q .non O, Q, fun _ _ => False, fun _ _ => False, fun x _ O => R x O⟩) := rfl
theorem wSet_e {i : Nat} {w : WE} {G : N.Gam} {Om : N.Om} {Po : Post} : wSet i w G Om Po = (w G Om (fun d O => Po.nx (G.set i (.val d)) O) fun x O => Po.ex x G O) := rfl
theorem wC_e {d : D} {z0 : N.Gam} {Om : N.Om} {Q : (D → N.Om → Prop)} {z3 : RX} : wC d z0 Om Q z3 = (Q d Om) := rfl
theorem wFor_e {wi : WA} {f : WG} {u : WS} {G : N.Gam} {Om : N.Om} {Po : Post} : wFor wi f u G Om Po = (wi G Om (fun items O => wForL f u items G O Po) fun x O => Po.ex x G O) := rfl
theorem wRet_e {w : WE} {G : N.Gam} {Om : N.Om} {Po : Post} : wRet w G Om Po = (w G Om Po.rt fun x O => Po.ex x G O) := rfl
theorem wBin_e {g : GD} {wa wb : WE} {G : N.Gam} {Om : N.Om} {Q : (D → N.Om → Prop)} {R : RX} : wBin g wa wb G Om Q R = (wa G Om (fun x O1 => wb G O1 (fun y O2 => g x y fun z => Q z O2) R) R) := rfl
theorem wIfS_e {c : WT} {u v : WS} {G : N.Gam} {Om : N.Om} {Po : Post} : wIfS c u v G Om Po = (c G Om (fun b O => br b (u G O Po) (v G O Po)) fun x O => Po.ex x G O) := rfl
theorem wtOr_e {t u : WT} {G : N.Gam} {Om : N.Om} {Q : (Bool → N.Om → Prop)} {R : RX} : wtOr t u G Om Q R = (t G Om (fun b O => br b (Q true O) (u G O Q R)) R) := rfl
theorem wtAnd_e {t u : WT} {G : N.Gam} {Om : N.Om} {Q : (Bool → N.Om → Prop)} {R : RX} : wtAnd t u G Om Q R = (t G Om (fun b O => br b (u G O Q R) (Q false O)) R) := rfl
theorem wtNot_e {t : WT} {G : N.Gam} {Om : N.Om} {Q : (Bool → N.Om → Prop)} {R : RX} : wtNot t G Om Q R = (t G Om (fun b O => Q (!b) O) R) := rfl
theorem wNext_e {G : N.Gam} {Om : N.Om} {Po : Post} : wNext  G Om Po = (Po.nx G Om) := rfl
theorem wNev_e {z0 : N.Gam} {z1 : N.Om} {z2 : Post} : wNev  z0 z1 z2 = (False) := rfl
theorem wCall_e {g : GC} {wa : WA} {G : N.Gam} {Om : N.Om} {Q : (D → N.Om → Prop)} {R : RX} : wCall g wa G Om Q R = (wa G Om (fun ds O => g ds fun z => Q z O) R) := rfl
theorem wCallF_e {g : GCF} {wa : WA} {G : N.Gam} {Om : N.Om} {Q : (MO → N.Om → Prop)} {R : RX} : wCallF g wa G Om Q R = (wa G Om (fun ds O => g ds fun z => Q z O) R) := rfl
theorem wFrz_e {w : WF} {G : N.Gam} {Om : N.Om} {Q : (D → N.Om → Prop)} {R : RX} : wFrz w G Om Q R = (w G Om (fun m O => Q m.see O) R) := rfl
theorem wLst_e {w : WA} {G : N.Gam} {Om : N.Om} {Q : (MO → N.Om → Prop)} {R : RX} : wLst w G Om Q R = (w G Om (fun ds O => ds.length ≤ 16777216 ∧ Q (.lst ds) O) R) := rfl
theorem wTup_e {w : WA} {G : N.Gam} {Om : N.Om} {Q : (D → N.Om → Prop)} {R : RX} : wTup w G Om Q R = (w G Om (fun ds O => ds.length ≤ 16777216 ∧ Q (.tup ds) O) R) := rfl
theorem waNil_e {z0 : N.Gam} {Om : N.Om} {Q : (List D → N.Om → Prop)} {z3 : RX} : waNil  z0 Om Q z3 = (Q [] Om) := rfl
theorem waCons_e {w : WE} {r : WA} {G : N.Gam} {Om : N.Om} {Q : (List D → N.Om → Prop)} {R : RX} : waCons w r G Om Q R = (w G Om (fun d O => r G O (fun ds O' => Q (d :: ds) O') R) R) := rfl
theorem wComp_e {wi : WA} {f : WG} {wt : WT} {we : WE} {vs : List Nat} {G : N.Gam} {Om : N.Om} {Q : (MO → N.Om → Prop)} {R : RX} : wComp wi f wt we vs G Om Q R = (wi G Om (fun items O1 => wTurns f wt we (wipeG G vs) items [] O1 fun ds O2 => Q (.lst ds) O2) R) := rfl
theorem wCallU_e {n : Nat} {S : DSp} {dds : List D} {wa : WA} {G : N.Gam} {Om : N.Om} {Q : (D → N.Om → Prop)} {R : RX} : wCallU n S dds wa G Om Q R = (wa G Om (fun ds O => (ds ++ dds).length = n ∧ S (ds ++ dds) O Q R) R) := rfl
theorem wCallK_e {m n : Nat} {S : DSp} {wa wk : WA} {G : N.Gam} {Om : N.Om} {Q : (D → N.Om → Prop)} {R : RX} : wCallK m n S wa wk G Om Q R = (wa G Om (fun ds O => ds.length = m ∧ wk G O (fun es O' => (ds ++ es).length = n ∧ S (ds ++ es) O' Q R) R) R) := rfl
theorem wSl_e {w : WE} {lo hi : WO} {G : N.Gam} {Om : N.Om} {Q : (D → N.Om → Prop)} {R : RX} : wSl w lo hi G Om Q R = (w G Om (fun x O => lo G O (fun l O1 => hi G O1 (fun h O2 => gSl x l h fun z => Q z O2) R) R) R) := rfl
theorem woNone_e {z0 : N.Gam} {Om : N.Om} {Q : (Option Int → N.Om → Prop)} {z3 : RX} : woNone  z0 Om Q z3 = (Q none Om) := rfl
theorem wMake_e {c n : Nat} {S : DSp} {wa : WA} {G : N.Gam} {Om : N.Om} {Q : (D → N.Om → Prop)} {R : RX} : wMake c n S wa G Om Q R = (wa G Om (fun ds O => ds.length + 1 = n ∧ ∀ a, O a = none → S (.ref a :: ds) (putO O a (.ins c [] [])) (fun d O' => d = .non ∧ Q (.ref a) O') R) R) := rfl
theorem wMakeF_e {c n : Nat} {S : DSp} {wa : WA} {G : N.Gam} {Om : N.Om} {Q : (D → N.Om → Prop)} {R : RX} : wMakeF c n S wa G Om Q R = (wa G Om (fun ds O => ds.length + 1 = n ∧ ∀ a, O a = none → S (.ref a :: ds) (putO O a (.ins c [] [])) (fun d O' => d = .non ∧ ∃ ns vs, O' = putO O a (.ins c ns vs) ∧ Q (.ins c ns vs) O) R) R) := rfl
theorem wRaise_e {c : Nat} {G : N.Gam} {Om : N.Om} {Po : Post} : wRaise c G Om Po = (Po.ex ⟨c, [], []⟩ G Om) := rfl
theorem wAsg_e {w : WE} {f : WG} {G : N.Gam} {Om : N.Om} {Po : Post} : wAsg w f G Om Po = (w G Om (fun d O => f d G fun G' => Po.nx G' O) fun x O => Po.ex x G O) := rfl
theorem wIf_e {t : WT} {u v : WE} {G : N.Gam} {Om : N.Om} {Q : (D → N.Om → Prop)} {R : RX} : wIf t u v G Om Q R = (t G Om (fun b O => br b (u G O Q R) (v G O Q R)) R) := rfl
theorem wSetO_e {i : Nat} {w : WF} {G : N.Gam} {Om : N.Om} {Po : Post} : wSetO i w G Om Po = (w G Om (fun m O => Po.nx (G.set i (.own m)) O) fun x O => Po.ex x G O) := rfl
theorem wDrop_e {w : WE} {G : N.Gam} {Om : N.Om} {Po : Post} : wDrop w G Om Po = (w G Om (fun _ O => Po.nx G O) fun x O => Po.ex x G O) := rfl
theorem wRetN_e {z0 : N.Gam} {Om : N.Om} {Po : Post} : wRetN  z0 Om Po = (Po.rt .non Om) := rfl
theorem fName_e {i : Nat} {d : D} {G : N.Gam} {Q : (N.Gam → Prop)} : fName i d G Q = (Q (G.set i (.val d))) := rfl
theorem wIt_e {w : WE} {G : N.Gam} {Om : N.Om} {Q : (List D → N.Om → Prop)} {R : RX} : wIt w G Om Q R = (w G Om (fun d O => gIt d fun xs => Q xs O) R) := rfl
theorem wDnew_e {G : N.Gam} {Om : N.Om} {Q : (MO → N.Om → Prop)} {R : RX} : wDnew  G Om Q R = (Q (.dct [] []) Om) := rfl
theorem wtYes_e {z0 : N.Gam} {Om : N.Om} {Q : (Bool → N.Om → Prop)} {z3 : RX} : wtYes  z0 Om Q z3 = (Q true Om) := rfl
theorem wRng_e {g : List D → (List D → Prop) → Prop} {w : WA} {G : N.Gam} {Om : N.Om} {Q : List D → N.Om → Prop} {R : RX} : wRng g w G Om Q R = w G Om (fun ds O => g ds fun xs => Q xs O) R := rfl
theorem wUn_e {g : D → (D → Prop) → Prop} {wa : WE} {G : N.Gam} {Om : N.Om} {Q : D → N.Om → Prop} {R : RX} : wUn g wa G Om Q R = wa G Om (fun x O => g x fun z => Q z O) R := rfl
def asRev (d : D) (Q : D → Prop) : Prop := match d with | .lst xs => Q (.lst xs.reverse) | .tup xs => Q (.tup xs.reverse) | _ => False
theorem asRev_l {xs : List D} {Q : D → Prop} : asRev (.lst xs) Q = Q (.lst xs.reverse) := rfl
theorem asRev_t {xs : List D} {Q : D → Prop} : asRev (.tup xs) Q = Q (.tup xs.reverse) := rfl
theorem wRev_e {w : WE} {G : N.Gam} {Om : N.Om} {Q : D → N.Om → Prop} {R : RX} : wRev w G Om Q R = w G Om (fun d O => asRev d fun z => Q z O) R := rfl
def exL (tab : List (Nat × Bool)) (c : Nat) (A B : Prop) : Prop := match tab.lookup c with | some true => A | some false => B | none => False
theorem wTry_e {tab : List (Nat × Bool)} {u v : WS} {G : N.Gam} {Om : N.Om} {Po : Post} : wTry tab u v G Om Po = u G Om { Po with ex := fun x G' O => exL tab x.c (sq v G' O { Po with ex := fun _ _ _ => False }) (Po.ex x G' O) } := rfl
theorem exL_hit {c : Nat} {b : Bool} {r : List (Nat × Bool)} {A B : Prop} : exL ((c, b) :: r) c A B = br b A B := by unfold exL; simp [List.lookup_cons]; cases b <;> rfl
theorem exL_miss {c c2 : Nat} {b : Bool} {r : List (Nat × Bool)} {A B : Prop} (h : (c == c2) = false) : exL ((c2, b) :: r) c A B = exL r c A B := by unfold exL; simp [List.lookup_cons, h]
end N

set_option Elab.async false
set_option linter.all false
set_option maxRecDepth 100000
set_option maxHeartbeats 0
namespace N
open PySem PySem.Spec PyProof.Rows L2
local macro_rules | `(tactic| tm_at "nv") => `(tactic| try simp -implicitDefEqProofs only [Int.cast_ofNat_Int, Int.reduceEq, Int.reduceLT, Int.reduceLE, List.length_map, List.length_append, see_l, see_d, see_i, Nat.reduceAdd, Nat.reduceLeDiff, Nat.zero_le, wFn_e, startG_c, startG_n, startG_z, wSeq_e, wSet_e, wC_e, wFor_e, wIt_e, wVar_e, wVarB_e, getSl_z, getSl_s, List.set_cons_zero, List.set_cons_succ, wRet_e, wBin_e, gI_i, gI0_i, gB0_i, gAdd_i, gAdd_t, gAdd_l, gAdd_s, gMul_i, gMul_t, gMul_l, gEq_, gNe_, gIs_n, gIs_b, gIsNot_n, gIsNot_b, isNon_n, isNon_i, isNon_b, isNon_t, isNon_l, isNon_s, wIfS_e, wtOr_e, wtAnd_e, wtNot_e, wTst_e, wNext_e, wNev_e, wCall_e, wCallF_e, wFrz_e, wLst_e, wTup_e, waNil_e, waCons_e, wComp_e, wRng_e, gRng1_i, gRng2_i, gRng3_i, wUn_e, gNeg_i, gTuple_t, gTuple_l, gList_t, gList_l, gList_s, gLen_t, gLen_l, gLen_s, gLen_d, gInt_i, gInt_b, gAbs_i, gMax_i, gMin_i, wipeG, fName_e, wCallU_e, wCallK_e, List.append_nil, List.length_cons, List.length_nil, wSl_e, woNone_e, woSome_e, gSl_t, gSl_l, gIt_t, gIt_l, gIt_s, gIsi_i, gIsi_b, gIsi_t, gIsi_l, gIsi_s, gIsi_n, gIsi_d, wFld_e, wMeth_e, wMake_e, wMakeF_e, wSetF_e, wExt_e, wFz_e, wRev_e, wRaise_e, wTry_e, wBits_e, insOf_ins, lk_kind, lk_size, lk_digest, lk_is_digest, gEnum_t, gEnum_l, gZip_t, gZip_l, mem1, reduceCtorEq, eq_self, wAsg_e, fTup_e, fCons_e, fNil_e, wAnd_e, wOr_e, wNot_e, wIf_e, wPar_e, wAug_e, wApp_e, wSetO_e, wRetO_e, br_t, br_f, shp_int, shp_bl, shp_non, deq_int, gAll_b, gAny_b, gSum_i, wDrop_e, wRetN_e, true_and, and_true, decide_true, decide_false, Bool.not_true, Bool.not_false, isi_NoneType_bool, isi_NoneType_int, isi_NoneType_str, isi_NoneType_tuple, isi_NoneType_list, isi_NoneType_dict, isi_bool_bool, isi_bool_int, isi_bool_str, isi_bool_tuple, isi_bool_list, isi_bool_dict, isi_int_bool, isi_int_int, isi_int_str, isi_int_tuple, isi_int_list, isi_int_dict, isi_str_bool, isi_str_int, isi_str_str, isi_str_tuple, isi_str_list, isi_str_dict, isi_tuple_bool, isi_tuple_int, isi_tuple_str, isi_tuple_tuple, isi_tuple_list, isi_tuple_dict, isi_list_bool, isi_list_int, isi_list_str, isi_list_tuple, isi_list_list, isi_list_dict, isi_dict_bool, isi_dict_int, isi_dict_str, isi_dict_tuple, isi_dict_list, isi_dict_dict, okTy_bool, okTy_int, okTy_str, okTy_tuple, okTy_list, okTy_dict, List.cons_append, List.nil_append, wChn_e, wSetIxO_e, wGet1_e, wGet2_e, wPutO_e, wDnew_e, slV_v, slB_v, slB_l, slB_d, slB_i, slL_l, slD_d, asB_b, asI_i, asR_r, asT_t, asQ_t, asQ_l, asD_d, asK_i, asK_s, asC_c, as2_2, asO_s, asIns_i, fz_l, fz_i, fz_v, fz_n, wKeys_e, wItems_e, wVals_e, exL_hit, asRev_l, asRev_t, wtYes_e])
local macro_rules | `(tactic| tm_at "nw") => `(tactic| (tm_at "nv"; repeat (with_reducible refine sq_i ?_; tm_at "nv")))
local macro_rules | `(tactic| tm_at "nc") => `(tactic| first | exact True.intro | omega | exact mulL (by omega) (by omega) | exact mulR (by omega) (by omega) | exact divOk (by omega) (by omega) | exact shlI (n := 1) (by decide) (by decide) (by omega) (by omega) | (simp only [List.length_append, List.length_map, List.length_cons, List.length_nil, List.length_replicate, List.length_flatten, List.map_replicate, List.sum_replicate_nat, List.length_range, rngL_len, rngC_len, List.cons_append, List.nil_append]; first | done | omega))
local macro_rules | `(tactic| tm_at "ns") => `(tactic| repeat (with_reducible refine And.intro (by first | tm_at "nc" | exact ⟨by tm_at "nc", by tm_at "nc"⟩ | exact ⟨by tm_at "nc", by tm_at "nc", by tm_at "nc"⟩ | exact ⟨by tm_at "nc", by tm_at "nc", by tm_at "nc", by tm_at "nc"⟩) ?_))
local macro_rules | `(tactic| tm_at "go") => `(tactic| (tm_at "nw"; repeat (first | (with_reducible refine And.intro (by first | tm_at "nc" | exact ⟨by tm_at "nc", by tm_at "nc"⟩ | exact ⟨by tm_at "nc", by tm_at "nc", by tm_at "nc"⟩) ?_) | (with_reducible refine sq_i ?_)); tm_at "nw"))
section
variable {f : WG} {we : WE} {wt : WT} {G : Gam} {O : Om} {Q : List D → Om → Prop} {α β : Type}
/-- a comprehension whose elements are told by a relation -/
theorem turns_relA (h : α → D) (P : α → β → Prop) (g : α → β → D) : ∀ (as : List α) (acc : List D), acc.length + as.length ≤ 16777216 → (∀ a ∈ as, ∀ K : D → Om → Prop, (∀ b, P a b → K (g a b) O) → f (h a) G fun G2 => we G2 O K noR) →
    (∀ bs : List β, bs.length = as.length → (∀ p ∈ as.zip bs, P p.1 p.2) → Q (acc ++ (as.zip bs).map fun p => g p.1 p.2) O) → wTurns f wtYes we G (as.map h) acc O Q
  | [], acc, _, _, q => by simpa [wTurns] using q [] rfl (by simp)
  | a :: r, acc, l, h1, q => by
    rw [List.length_cons] at l
    refine ⟨by omega, h1 a List.mem_cons_self _ fun b hb => turns_relA h P g r (acc ++ [g a b]) (by rw [List.length_append, List.length_singleton]; omega) (fun a' h' => h1 a' (List.mem_cons_of_mem _ h')) fun bs hl hp => ?_⟩
    have := q (b :: bs) (by simp [hl]) fun p hp' => by
      rw [List.zip_cons_cons] at hp'
      rcases List.mem_cons.mp hp' with rfl | hp'
      · exact hb
      · exact hp p hp'
    simpa using this
/-- .. some of which are taken -/
theorem turns_subA (h g : α → D) : ∀ (as : List α) (acc : List D), acc.length + as.length ≤ 16777216 →
    (∀ a ∈ as, ∀ (K1 : D → Om → Prop) (K2 : Om → Prop), K1 (g a) O → K2 O → f (h a) G fun G2 => wt G2 O (fun b O2 => br b (we G2 O2 K1 noR) (K2 O2)) noR) →
    (∀ bs : List α, bs.Sublist as → Q (acc ++ bs.map g) O) → wTurns f wt we G (as.map h) acc O Q
  | [], acc, _, _, q => by simpa [wTurns] using q [] (List.Sublist.refl _)
  | a :: r, acc, l, h1, q => by
    rw [List.length_cons] at l
    refine ⟨by omega, h1 a List.mem_cons_self _ _ (turns_subA h g r (acc ++ [g a]) (by rw [List.length_append, List.length_singleton]; omega) (fun a' h' => h1 a' (List.mem_cons_of_mem _ h')) fun bs hs => ?_) (turns_subA h g r acc (by omega) (fun a' h' => h1 a' (List.mem_cons_of_mem _ h')) fun bs hs => q bs (hs.cons _))⟩
    have := q (a :: bs) (hs.cons₂ _)
    simpa using this
/-- .. with a test -/
theorem turns_filA (h g : α → D) (t : α → Bool) : ∀ (as : List α) (acc : List D), acc.length + as.length ≤ 16777216 →
    (∀ a ∈ as, ∀ (K1 : D → Om → Prop) (K2 : Om → Prop), (t a = true → K1 (g a) O) → (t a = false → K2 O) → f (h a) G fun G2 => wt G2 O (fun b O2 => br b (we G2 O2 K1 noR) (K2 O2)) noR) →
    Q (acc ++ (as.filter t).map g) O → wTurns f wt we G (as.map h) acc O Q
  | [], acc, _, _, q => by simpa [wTurns] using q
  | a :: r, acc, l, h1, q => by
    rw [List.length_cons] at l
    refine ⟨by omega, h1 a List.mem_cons_self _ _ (fun e => turns_filA h g t r (acc ++ [g a]) (by rw [List.length_append, List.length_singleton]; omega) (fun a' h' => h1 a' (List.mem_cons_of_mem _ h')) ?_) (fun e => turns_filA h g t r acc (by omega) (fun a' h' => h1 a' (List.mem_cons_of_mem _ h')) ?_)⟩
    · rw [List.filter_cons, if_pos e] at q
      simpa using q
    · rw [List.filter_cons, if_neg (by rw [e]; decide)] at q
      exact q
end
theorem rng_from (t k : Nat) : ((List.range' t (k + 1)).map fun (i : Nat) => D.int (i : Int)) = D.int (t : Int) :: (List.range' (t + 1) k).map fun (i : Nat) => D.int (i : Int) := by simp [List.range'_succ]
theorem rng_nat (n : Nat) : rngL 0 n = (List.range' 0 n).map fun (i : Nat) => D.int (i : Int) := rngL_nat n
theorem rng_r (n : Nat) : rngL 0 n = (List.range n).map fun (i : Nat) => D.int (i : Int) := by rw [rng_nat, List.range_eq_range']
theorem deq_refl {d : D} (h : shp d = true) : deq d d = true := SeqAt.eqv_refl _ (shp_lay h)
theorem draw_i {a : Addr} {m : Int} {Om : N.Om} {Q : D → N.Om → Prop} {R : RX} (tp : Tp Om a) (h0 : 0 < m) (h1 : m < 1073741824) (q : ∀ r : Int, 0 ≤ r → r < m → Q (.int r) Om) : sp__law_draw [.ref a, .int m] Om Q R := ⟨a, m, rfl, tp, h0, h1, q⟩
theorem pick_i {a : Addr} {xs : List D} {Om : N.Om} {Q : D → N.Om → Prop} {R : RX} (tp : Tp Om a) (h0 : 0 < xs.length) (h1 : xs.length < 1000000) (q : ∀ x ∈ xs, Q x Om) : sp__law_pick [.ref a, .lst xs] Om Q R := ⟨a, _, xs, rfl, rfl, tp, h0, h1, q⟩
theorem octets_i {a : Addr} {n : Int} {m : Nat} {Om : N.Om} {Q : D → N.Om → Prop} {R : RX} (tp : Tp Om a) (e : n = (m : Int)) (h : m ≤ 1000000) (q : ∀ os, os.length = m → Oct os → Q (oD os) Om) : sp__law_octets [.ref a, .int n] Om Q R := ⟨a, m, by rw [e], tp, h, q⟩
theorem flat_z : ∀ n : Nat, (List.replicate n [D.int 0]).flatten = iD (List.replicate n 0)
  | 0 => rfl
  | n + 1 => by rw [List.replicate_succ, List.replicate_succ, List.flatten_cons, flat_z n]; rfl
end N

set_option Elab.async false
set_option linter.all false
set_option maxRecDepth 100000
set_option maxHeartbeats 0
namespace N
open PySem PySem.Spec PyProof.Rows L2
local macro_rules | `(tactic| tm_at "nv") => `(tactic| try simp -implicitDefEqProofs only [see_l, see_d, see_i, Nat.reduceAdd, Nat.reduceLeDiff, Nat.zero_le, wFn_e, startG_c, startG_n, startG_z, wSeq_e, wSet_e, wC_e, wFor_e, wIt_e, wVar_e, wVarB_e, getSl_z, getSl_s, List.set_cons_zero, List.set_cons_succ, wRet_e, wBin_e, gI_i, gI0_i, gB0_i, gAdd_i, gAdd_t, gAdd_l, gAdd_s, gMul_i, gMul_t, gMul_l, gEq_, gNe_, gIs_n, gIs_b, gIsNot_n, gIsNot_b, isNon_n, isNon_i, isNon_b, isNon_t, isNon_l, isNon_s, wIfS_e, wtOr_e, wtAnd_e, wtNot_e, wTst_e, wNext_e, wNev_e, wCall_e, wCallF_e, wFrz_e, wLst_e, wTup_e, waNil_e, waCons_e, wComp_e, wRng_e, gRng1_i, gRng2_i, gRng3_i, wUn_e, gNeg_i, gTuple_t, gTuple_l, gList_t, gList_l, gList_s, gLen_t, gLen_l, gLen_s, gLen_d, gInt_i, gInt_b, gAbs_i, gMax_i, gMin_i, wipeG, fName_e, wCallU_e, wCallK_e, List.append_nil, List.length_cons, List.length_nil, wSl_e, woNone_e, woSome_e, gSl_t, gSl_l, gIt_t, gIt_l, gIt_s, gIsi_i, gIsi_b, gIsi_t, gIsi_l, gIsi_s, gIsi_n, gIsi_d, wFld_e, wMeth_e, wMake_e, wMakeF_e, wSetF_e, wExt_e, wFz_e, wRev_e, wRaise_e, wTry_e, wBits_e, insOf_ins, lk_kind, lk_size, lk_digest, lk_is_digest, gEnum_t, gEnum_l, gZip_t, gZip_l, mem1, reduceCtorEq, eq_self, wAsg_e, fTup_e, fCons_e, fNil_e, wAnd_e, wOr_e, wNot_e, wIf_e, wPar_e, wAug_e, wApp_e, wSetO_e, wRetO_e, br_t, br_f, shp_int, shp_bl, shp_non, deq_int, gAll_b, gAny_b, gSum_i, wDrop_e, wRetN_e, true_and, and_true, decide_true, decide_false, Bool.not_true, Bool.not_false, isi_NoneType_bool, isi_NoneType_int, isi_NoneType_str, isi_NoneType_tuple, isi_NoneType_list, isi_NoneType_dict, isi_bool_bool, isi_bool_int, isi_bool_str, isi_bool_tuple, isi_bool_list, isi_bool_dict, isi_int_bool, isi_int_int, isi_int_str, isi_int_tuple, isi_int_list, isi_int_dict, isi_str_bool, isi_str_int, isi_str_str, isi_str_tuple, isi_str_list, isi_str_dict, isi_tuple_bool, isi_tuple_int, isi_tuple_str, isi_tuple_tuple, isi_tuple_list, isi_tuple_dict, isi_list_bool, isi_list_int, isi_list_str, isi_list_tuple, isi_list_list, isi_list_dict, isi_dict_bool, isi_dict_int, isi_dict_str, isi_dict_tuple, isi_dict_list, isi_dict_dict, okTy_bool, okTy_int, okTy_str, okTy_tuple, okTy_list, okTy_dict, List.cons_append, List.nil_append, wChn_e, wSetIxO_e, wGet1_e, wGet2_e, wPutO_e, wDnew_e, slV_v, slB_v, slB_l, slB_d, slB_i, slL_l, slD_d, asB_b, asI_i, asR_r, asT_t, asQ_t, asQ_l, asD_d, asK_i, asK_s, asC_c, as2_2, asO_s, asIns_i, fz_l, fz_i, fz_v, fz_n, wKeys_e, wItems_e, wVals_e, exL_hit, asRev_l, asRev_t, wtYes_e])
local macro_rules | `(tactic| tm_at "nw") => `(tactic| (tm_at "nv"; repeat (with_reducible refine sq_i ?_; tm_at "nv")))
local macro_rules | `(tactic| tm_at "nc") => `(tactic| first | exact True.intro | omega | exact mulL (by omega) (by omega) | exact mulR (by omega) (by omega) | exact divOk (by omega) (by omega) | exact shlI (n := 1) (by decide) (by decide) (by omega) (by omega) | (simp only [List.length_append, List.length_map, List.length_cons, List.length_nil, List.length_replicate, List.length_flatten, List.map_replicate, List.sum_replicate_nat, List.length_range, rngL_len, rngC_len, List.cons_append, List.nil_append]; first | done | omega))
local macro_rules | `(tactic| tm_at "ns") => `(tactic| repeat (with_reducible refine And.intro (by first | tm_at "nc" | exact ⟨by tm_at "nc", by tm_at "nc"⟩ | exact ⟨by tm_at "nc", by tm_at "nc", by tm_at "nc"⟩ | exact ⟨by tm_at "nc", by tm_at "nc", by tm_at "nc", by tm_at "nc"⟩) ?_))
local macro_rules | `(tactic| tm_at "go") => `(tactic| (tm_at "nw"; repeat (first | (with_reducible refine And.intro (by first | tm_at "nc" | exact ⟨by tm_at "nc", by tm_at "nc"⟩ | exact ⟨by tm_at "nc", by tm_at "nc", by tm_at "nc"⟩) ?_) | (with_reducible refine sq_i ?_)); tm_at "nw"))
/-! ### a true proof leads to the root -/
theorem lev_ne (f : List Int → List Int) (d : Nat) (row : List (List Int)) : lev f d row ≠ [] := fun z => by
  have := lev_len f d row
  rw [z] at this
  cases this
theorem topR_cons {r : List (List Int)} {rs : List (List (List Int))} (h : rs ≠ []) : topR (r :: rs) = topR rs := by
  unfold topR
  cases rs with
  | nil => exact absurd rfl h
  | cons a b => simp [List.getLastD]
theorem wayG_last (f : List Int → List Int) (i h : Nat) (t o : List Int) (pr : List (List Int)) : (wayG f i h t (o :: pr)).getLastD [] = (wayG f i (h + 1) (nod f i h t o) pr).getLastD [] := by
  have := wayG_ne f i (h + 1) (nod f i h t o) pr
  show (t :: wayG f i (h + 1) (nod f i h t o) pr).getLastD [] = _
  cases e : wayG f i (h + 1) (nod f i h t o) pr with
  | nil => exact absurd e this
  | cons a b => simp [List.getLastD]
theorem lev_fold (f : List Int → List Int) (i : Nat) : ∀ (d : Nat) (row : List (List Int)) (h : Nat) (t : List Int), row.length = 2 ^ d → row[i / 2 ^ h]? = some (f t) →
    f ((wayG f i h t ((List.range d).map fun k => ((lev f d row).getD k []).getD (sib (i / 2 ^ (h + k))) [])).getLastD []) = topR (lev f d row)
  | 0, row, h, t, hl, ht => by
    have hl : row.length = 1 := hl
    have hi : i / 2 ^ h < row.length := (List.getElem?_eq_some_iff.mp ht).1
    have h0 : i / 2 ^ h = 0 := by rw [hl] at hi; exact Nat.lt_one_iff.mp hi
    rw [h0] at ht
    cases row with
    | nil => cases ht
    | cons a r =>
      simp at ht
      subst ht
      simp [lev, topR, wayG, List.getLastD]
  | d + 1, row, h, t, hl, ht => by
    have hj : i / 2 ^ h < 2 ^ (d + 1) := by rw [← hl]; exact (List.getElem?_eq_some_iff.mp ht).1
    have hs : sib (i / 2 ^ h) < row.length := by rw [hl]; exact sib_lt hj (by omega)
    have go : row[sib (i / 2 ^ h)]? = some (row.getD (sib (i / 2 ^ h)) []) := by rw [List.getD_eq_getElem?_getD, List.getElem?_eq_getElem hs]; rfl
    have e2 : i / 2 ^ (h + 1) = i / 2 ^ h / 2 := by rw [Nat.pow_succ, Nat.div_div_eq_div_mul]
    have ih := lev_fold f i d (halve f row) (h + 1) (nod f i h t (row.getD (sib (i / 2 ^ h)) [])) (by rw [halve_len, hl, Nat.pow_succ]; omega) (by
      rw [e2]
      unfold nod
      generalize i / 2 ^ h = j at *
      by_cases c : j % 2 = 1
      · rw [if_pos c]
        refine halve_get f row (j / 2) _ _ ?_ ?_
        · rw [← go]; congr 1; unfold sib; omega
        · rw [← ht]; congr 1; omega
      · rw [if_neg c]
        refine halve_get f row (j / 2) _ _ ?_ ?_
        · rw [← ht]; congr 1; omega
        · rw [← go]; congr 1; unfold sib; omega)
    have e3 : (List.range (d + 1)).map (fun k => ((lev f (d + 1) row).getD k []).getD (sib (i / 2 ^ (h + k))) []) = row.getD (sib (i / 2 ^ h)) [] :: (List.range d).map fun k => ((lev f d (halve f row)).getD k []).getD (sib (i / 2 ^ (h + 1 + k))) [] := by
      rw [List.range_succ_eq_map, List.map_cons, List.map_map]
      congr 1
      refine List.map_congr_left fun k _ => ?_
      show ((lev f (d + 1) row).getD (k + 1) []).getD (sib (i / 2 ^ (h + (k + 1)))) [] = _
      rw [show h + (k + 1) = h + 1 + k by omega]
      rfl
    rw [e3, wayG_last, ih]
    exact (topR_cons (lev_ne f d (halve f row))).symm
theorem fold_prf (f : List Int → List Int) (ps : List (List Int)) (i : Nat) (p : List Int) (h : ps[i]? = some p) : fold f i p (prf (rows f ps) i) = topR (rows f ps) := by
  have hi := (List.getElem?_eq_some_iff.mp h).1
  have := lev_fold f i (dep ps.length) (row0 f ps) 0 (0 :: p) (row0_len f ps) (by
    unfold row0
    rw [Nat.pow_zero, Nat.div_one, List.getElem?_append_left (by simpa using hi), List.getElem?_map, h]
    rfl)
  unfold fold way prf
  rw [rows_len]
  simpa [rows] using this
/-! ### seals -/
def p2 (p : Nat) : List Int := [(p : Int) / 256 % 256, (p : Int) % 256]
theorem p2_octs (p : Nat) : octs p 2 = p2 p := by
  simp [octs, p2, List.range_succ]
def mark (p : Nat) (os : List Int) : List Int := 5 :: (p2 p ++ os)
def fig2 (os : List Int) : List Int := os.flatMap fun o => [o / 16, o % 16]
def rst (fs : List Int) : Int := (fs.map fun f => 15 - f).sum
def figs (n p : Nat) (os : List Int) : List Int := fig2 (dig n (mark p os)) ++ [rst (fig2 (dig n (mark p os))) / 256, rst (fig2 (dig n (mark p os))) / 16 % 16, rst (fig2 (dig n (mark p os))) % 16]
def stepT (p c h : Nat) (v : List Int) : List Int := 3 :: (p2 p ++ [(c : Int), (h : Int)] ++ v)
/-- k steps up a chain, from the height h on -/
def ldk (n p c : Nat) : Nat → Nat → List Int → List Int
  | 0, _, v => v
  | k + 1, h, v => ldk n p c k (h + 1) (dig n (stepT p c h v))
theorem ldk_len (n p c : Nat) : ∀ (k h : Nat) (v : List Int), v.length = n → (ldk n p c k h v).length = n
  | 0, _, v, h => h
  | k + 1, h, v, _ => ldk_len n p c k (h + 1) _ (dig_len _ _)
theorem ldk_oct (n p c : Nat) : ∀ (k h : Nat) (v : List Int), Oct v → Oct (ldk n p c k h v)
  | 0, _, v, h => h
  | k + 1, h, v, _ => ldk_oct n p c k (h + 1) _ (dig_oct _ _)
theorem ldk_add (n p c : Nat) : ∀ (k j h : Nat) (v : List Int), ldk n p c j (h + k) (ldk n p c k h v) = ldk n p c (k + j) h v
  | 0, j, h, v => by simp [ldk]
  | k + 1, j, h, v => by
    have := ldk_add n p c k j (h + 1) (dig n (stepT p c h v))
    rw [show k + 1 + j = (k + j) + 1 by omega]
    show ldk n p c j (h + (k + 1)) (ldk n p c k (h + 1) _) = ldk n p c (k + j) (h + 1) _
    rw [← this]
    congr 1
    omega
def secr (n : Nat) (seed : List Int) (p c : Nat) : List Int := dig n (4 :: (seed ++ p2 p ++ [(c : Int)]))
def valK (n : Nat) (seed : List Int) (p c h : Nat) : List Int := ldk n p c h 0 (secr n seed p c)
theorem valK_len (n : Nat) (seed : List Int) (p c h : Nat) : (valK n seed p c h).length = n := ldk_len _ _ _ _ _ _ (dig_len _ _)
theorem valK_oct (n : Nat) (seed : List Int) (p c h : Nat) : Oct (valK n seed p c h) := ldk_oct _ _ _ _ _ _ (dig_oct _ _)
def endsK (n : Nat) (seed : List Int) (p : Nat) : List Int := (List.range (2 * n + 3)).flatMap fun c => valK n seed p c 15
/-- the ends to which values lead -/
def endsV (n p : Nat) (hs : List Int) (vs : List (List Int)) : List Int := ((List.range hs.length).zip hs).flatMap fun ch => ldk n p ch.1 (15 - ch.2.toNat) ch.2.toNat (vs.getD ch.1 [])
theorem fig2_len (os : List Int) : (fig2 os).length = 2 * os.length := by
  induction os with
  | nil => rfl
  | cons o r ih => simp only [fig2, List.flatMap_cons, List.length_append, List.length_cons, List.length_nil] at ih ⊢; omega
theorem figs_len (n p : Nat) (os : List Int) : (figs n p os).length = 2 * n + 3 := by
  unfold figs
  rw [List.length_append, fig2_len, dig_len]
  rfl
def Fig (f : Int) : Prop := 0 ≤ f ∧ f ≤ 15
theorem fig2_fig {os : List Int} (h : Oct os) : ∀ f ∈ fig2 os, Fig f := fun f hf => by
  unfold fig2 at hf
  obtain ⟨o, ho, hf⟩ := List.mem_flatMap.mp hf
  have := h o ho
  simp only [List.mem_cons, List.not_mem_nil, or_false] at hf
  rcases hf with rfl | rfl <;> unfold Fig <;> omega
theorem rst_rng : ∀ {fs : List Int}, (∀ f ∈ fs, Fig f) → 0 ≤ rst fs ∧ rst fs ≤ 15 * fs.length
  | [], _ => by simp [rst]
  | f :: r, h => by
    have ih := rst_rng (fs := r) fun g hg => h g (List.mem_cons_of_mem _ hg)
    have hf := h f List.mem_cons_self
    unfold Fig at hf
    simp only [rst, List.map_cons, List.sum_cons, List.length_cons] at ih ⊢
    omega
theorem figs_fig {n p : Nat} {os : List Int} (h8 : n ≤ 8) : ∀ f ∈ figs n p os, Fig f := fun f hf => by
  unfold figs at hf
  have h2 := fig2_fig (dig_oct n (mark p os))
  have hr := rst_rng h2
  rw [fig2_len, dig_len] at hr
  rcases List.mem_append.mp hf with hf | hf
  · exact h2 f hf
  · simp only [List.mem_cons, List.not_mem_nil, or_false] at hf
    rcases hf with rfl | rfl | rfl <;> unfold Fig <;> omega
theorem flatMap_cong {α β : Type} {f g : α → List β} : ∀ {l : List α}, (∀ a ∈ l, f a = g a) → l.flatMap f = l.flatMap g
  | [], _ => rfl
  | a :: r, h => by rw [List.flatMap_cons, List.flatMap_cons, h a List.mem_cons_self, flatMap_cong fun b hb => h b (List.mem_cons_of_mem _ hb)]
/-- the owner's values lead to the ends -/
theorem ends_own {n p : Nat} {seed : List Int} {hs : List Int} (hl : hs.length = 2 * n + 3) (hf : ∀ f ∈ hs, Fig f) :
    endsV n p hs (((List.range hs.length).zip hs).map fun ch => valK n seed p ch.1 ch.2.toNat) = endsK n seed p := by
  unfold endsV endsK
  rw [← hl]
  have e : ∀ ch ∈ (List.range hs.length).zip hs, ldk n p ch.1 (15 - ch.2.toNat) ch.2.toNat ((((List.range hs.length).zip hs).map fun ch => valK n seed p ch.1 ch.2.toNat).getD ch.1 []) = valK n seed p ch.1 15 := fun ch hch => by
    obtain ⟨k, hk⟩ := List.getElem?_of_mem hch
    obtain ⟨h1, h2⟩ := List.getElem?_zip_eq_some.mp hk
    have hk2 : k < hs.length := (List.getElem?_eq_some_iff.mp h2).1
    rw [List.getElem?_range hk2] at h1
    have e1 : ch.1 = k := by injection h1 with h1; exact h1.symm
    have ef := hf ch.2 (List.mem_of_getElem? h2)
    unfold Fig at ef
    rw [e1, List.getD_eq_getElem?_getD, List.getElem?_map, hk]
    show ldk n p k (15 - ch.2.toNat) ch.2.toNat (valK n seed p ch.1 ch.2.toNat) = _
    unfold valK
    rw [e1]
    have := ldk_add n p k ch.2.toNat (15 - ch.2.toNat) 0 (secr n seed p k)
    rw [Nat.zero_add, show ch.2.toNat + (15 - ch.2.toNat) = 15 by omega] at this
    exact this
  have e2 : ((List.range hs.length).zip hs).flatMap (fun ch => ldk n p ch.1 (15 - ch.2.toNat) ch.2.toNat ((((List.range hs.length).zip hs).map fun ch => valK n seed p ch.1 ch.2.toNat).getD ch.1 [])) = ((List.range hs.length).zip hs).flatMap fun ch => valK n seed p ch.1 15 := by
    exact flatMap_cong e
  rw [e2]
  have e3 : (List.range hs.length) = ((List.range hs.length).zip hs).map (·.1) := by rw [List.map_fst_zip (by simp)]
  conv => rhs; rw [e3]
  rw [List.flatMap_map]
end N

set_option Elab.async false
set_option linter.all false
set_option maxRecDepth 100000
set_option maxHeartbeats 0
namespace N
open PySem PySem.Spec PyProof.Rows L2
local macro_rules | `(tactic| tm_at "nv") => `(tactic| try simp -implicitDefEqProofs only [List.length_map, List.length_append, see_l, see_d, see_i, Nat.reduceAdd, Nat.reduceLeDiff, Nat.zero_le, wFn_e, startG_c, startG_n, startG_z, wSeq_e, wSet_e, wC_e, wFor_e, wIt_e, wVar_e, wVarB_e, getSl_z, getSl_s, List.set_cons_zero, List.set_cons_succ, wRet_e, wBin_e, gI_i, gI0_i, gB0_i, gAdd_i, gAdd_t, gAdd_l, gAdd_s, gMul_i, gMul_t, gMul_l, gEq_, gNe_, gIs_n, gIs_b, gIsNot_n, gIsNot_b, isNon_n, isNon_i, isNon_b, isNon_t, isNon_l, isNon_s, wIfS_e, wtOr_e, wtAnd_e, wtNot_e, wTst_e, wNext_e, wNev_e, wCall_e, wCallF_e, wFrz_e, wLst_e, wTup_e, waNil_e, waCons_e, wComp_e, wRng_e, gRng1_i, gRng2_i, gRng3_i, wUn_e, gNeg_i, gTuple_t, gTuple_l, gList_t, gList_l, gList_s, gLen_t, gLen_l, gLen_s, gLen_d, gInt_i, gInt_b, gAbs_i, gMax_i, gMin_i, wipeG, fName_e, wCallU_e, wCallK_e, List.append_nil, List.length_cons, List.length_nil, wSl_e, woNone_e, woSome_e, gSl_t, gSl_l, gIt_t, gIt_l, gIt_s, gIsi_i, gIsi_b, gIsi_t, gIsi_l, gIsi_s, gIsi_n, gIsi_d, wFld_e, wMeth_e, wMake_e, wMakeF_e, wSetF_e, wExt_e, wFz_e, wRev_e, wRaise_e, wTry_e, wBits_e, insOf_ins, lk_kind, lk_size, lk_digest, lk_is_digest, gEnum_t, gEnum_l, gZip_t, gZip_l, mem1, reduceCtorEq, eq_self, wAsg_e, fTup_e, fCons_e, fNil_e, wAnd_e, wOr_e, wNot_e, wIf_e, wPar_e, wAug_e, wApp_e, wSetO_e, wRetO_e, br_t, br_f, shp_int, shp_bl, shp_non, deq_int, gAll_b, gAny_b, gSum_i, wDrop_e, wRetN_e, true_and, and_true, decide_true, decide_false, Bool.not_true, Bool.not_false, isi_NoneType_bool, isi_NoneType_int, isi_NoneType_str, isi_NoneType_tuple, isi_NoneType_list, isi_NoneType_dict, isi_bool_bool, isi_bool_int, isi_bool_str, isi_bool_tuple, isi_bool_list, isi_bool_dict, isi_int_bool, isi_int_int, isi_int_str, isi_int_tuple, isi_int_list, isi_int_dict, isi_str_bool, isi_str_int, isi_str_str, isi_str_tuple, isi_str_list, isi_str_dict, isi_tuple_bool, isi_tuple_int, isi_tuple_str, isi_tuple_tuple, isi_tuple_list, isi_tuple_dict, isi_list_bool, isi_list_int, isi_list_str, isi_list_tuple, isi_list_list, isi_list_dict, isi_dict_bool, isi_dict_int, isi_dict_str, isi_dict_tuple, isi_dict_list, isi_dict_dict, okTy_bool, okTy_int, okTy_str, okTy_tuple, okTy_list, okTy_dict, List.cons_append, List.nil_append, wChn_e, wSetIxO_e, wGet1_e, wGet2_e, wPutO_e, wDnew_e, slV_v, slB_v, slB_l, slB_d, slB_i, slL_l, slD_d, asB_b, asI_i, asR_r, asT_t, asQ_t, asQ_l, asD_d, asK_i, asK_s, asC_c, as2_2, asO_s, asIns_i, fz_l, fz_i, fz_v, fz_n, wKeys_e, wItems_e, wVals_e, exL_hit, asRev_l, asRev_t, wtYes_e])
local macro_rules | `(tactic| tm_at "nw") => `(tactic| (tm_at "nv"; repeat (with_reducible refine sq_i ?_; tm_at "nv")))
local macro_rules | `(tactic| tm_at "nc") => `(tactic| first | exact True.intro | omega | exact mulL (by omega) (by omega) | exact mulR (by omega) (by omega) | exact divOk (by omega) (by omega) | exact shlI (n := 1) (by decide) (by decide) (by omega) (by omega) | (simp only [List.length_append, List.length_map, List.length_cons, List.length_nil, List.length_replicate, List.length_flatten, List.map_replicate, List.sum_replicate_nat, List.length_range, rngL_len, rngC_len, List.cons_append, List.nil_append]; first | done | omega))
local macro_rules | `(tactic| tm_at "ns") => `(tactic| repeat (with_reducible refine And.intro (by first | tm_at "nc" | exact ⟨by tm_at "nc", by tm_at "nc"⟩ | exact ⟨by tm_at "nc", by tm_at "nc", by tm_at "nc"⟩ | exact ⟨by tm_at "nc", by tm_at "nc", by tm_at "nc", by tm_at "nc"⟩) ?_))
local macro_rules | `(tactic| tm_at "go") => `(tactic| (tm_at "nw"; repeat (first | (with_reducible refine And.intro (by first | tm_at "nc" | exact ⟨by tm_at "nc", by tm_at "nc"⟩ | exact ⟨by tm_at "nc", by tm_at "nc", by tm_at "nc"⟩) ?_) | (with_reducible refine sq_i ?_)); tm_at "nw"))
/-! promises of the seals' defs -/
mutual
def okD : D → Bool
  | .non => true
  | .bl _ => true
  | .int _ => true
  | .str s => PyData.strOk s
  | .tup xs => decide (xs.length ≤ 100000) && okL xs
  | .lst xs => decide (xs.length ≤ 100000) && okL xs
  | _ => false
def okL : List D → Bool
  | [] => true
  | d :: ds => okD d && okL ds
end
theorem okL_mem : ∀ {xs : List D}, okL xs = true → ∀ d ∈ xs, okD d = true
  | [], _, d, h => by cases h
  | x :: xs, h, d, hd => by
    simp only [okL, Bool.and_eq_true] at h
    cases hd with
    | head => exact h.1
    | tail _ hd => exact okL_mem h.2 d hd
theorem okL_of : ∀ {xs : List D}, (∀ d ∈ xs, okD d = true) → okL xs = true
  | [], _ => rfl
  | x :: xs, h => by simp only [okL, Bool.and_eq_true]; exact ⟨h x List.mem_cons_self, okL_of fun d hd => h d (List.mem_cons_of_mem _ hd)⟩
mutual
theorem okD_pl : ∀ {d : D}, okD d = true → plD d = true
  | .non, _ => rfl
  | .bl _, _ => rfl
  | .int _, _ => rfl
  | .str _, _ => rfl
  | .tup xs, h => by simp only [okD, Bool.and_eq_true] at h; simp only [plD]; exact okL_pl h.2
  | .lst xs, h => by simp only [okD, Bool.and_eq_true] at h; simp only [plD]; exact okL_pl h.2
theorem okL_pl : ∀ {xs : List D}, okL xs = true → plL xs = true
  | [], _ => rfl
  | x :: xs, h => by simp only [okL, Bool.and_eq_true] at h; simp only [plL, Bool.and_eq_true]; exact ⟨okD_pl h.1, okL_pl h.2⟩
end
theorem okD_t {xs : List D} (h : okD (.tup xs) = true) : xs.length ≤ 100000 ∧ ∀ d ∈ xs, okD d = true := by
  simp only [okD, Bool.and_eq_true, decide_eq_true_eq] at h
  exact ⟨h.1, okL_mem h.2⟩
theorem okD_l {xs : List D} (h : okD (.lst xs) = true) : xs.length ≤ 100000 ∧ ∀ d ∈ xs, okD d = true := by
  simp only [okD, Bool.and_eq_true, decide_eq_true_eq] at h
  exact ⟨h.1, okL_mem h.2⟩
theorem okD_o {os : List Int} (h : os.length ≤ 100000) : okD (oD os) = true := by
  simp only [okD, Bool.and_eq_true, decide_eq_true_eq]
  exact ⟨by simpa using h, okL_of fun d hd => by obtain ⟨_, _, rfl⟩ := List.mem_map.mp hd; rfl⟩
def intOf : D → Int
  | .int i => i
  | _ => 0
def ocOf : D → List Int
  | .tup xs => xs.map intOf
  | _ => []
def osOf : D → List (List Int)
  | .tup xs => xs.map ocOf
  | _ => []
theorem ocOf_o (os : List Int) : ocOf (oD os) = os := by simp [ocOf, Function.comp_def, intOf]
theorem osOf_o (ps : List (List Int)) : osOf (osD ps) = ps := by simp [osOf, Function.comp_def, ocOf_o]
theorem isOcts_oc {sz : Option Nat} {d : D} (h : isOcts sz d = true) : d = oD (ocOf d) ∧ Oct (ocOf d) ∧ ∀ n, sz = some n → (ocOf d).length = n := by
  cases d <;> simp only [isOcts] at h <;> try cases h
  rename_i xs
  simp only [Bool.and_eq_true] at h
  have e : ∀ x ∈ xs, x = .int (intOf x) ∧ 0 ≤ intOf x ∧ intOf x < 256 := fun x hx => by
    have := List.all_eq_true.mp h.2 x hx
    cases x <;> simp [isOct] at this
    exact ⟨rfl, this.1, by show _ < (256 : Int); simp only [intOf]; omega⟩
  refine ⟨?_, fun o ho => ?_, fun n hn => ?_⟩
  · show D.tup xs = D.tup ((xs.map intOf).map D.int)
    congr 1
    rw [List.map_map]
    conv => lhs; rw [← List.map_id xs]
    exact List.map_congr_left fun x hx => (e x hx).1
  · obtain ⟨x, hx, rfl⟩ := List.mem_map.mp ho
    exact (e x hx).2
  · subst hn
    simpa [ocOf] using h.1
def fitB (n : Nat) (top : List Int) (c i : Nat) (p : List Int) (d : D) : Bool := isPrf n c d && decide (fold (dig n) i p (osOf d) = top)
/-- the parts of what looks like a seal -/
def seal4 : D → D → D → D → Option (Str × Int × List D × D)
  | .str s, .int p, .tup vs, pr => some (s, p, vs, pr)
  | _, _, _, _ => none
def sealL : List D → Option (Str × Int × List D × D)
  | [a, b, c, e] => seal4 a b c e
  | _ => none
def sealP : D → Option (Str × Int × List D × D)
  | .tup xs => sealL xs
  | _ => none
def formB (n dp : Nat) (d : D) : Bool := match sealP d with
  | some (s, p, vs, _) => decide (s = "seal") && decide (0 ≤ p) && decide (p < 2 ^ dp) && decide (vs.length = 2 * n + 3) && vs.all (isOcts (some n))
  | none => false
def holdsB (n dp : Nat) (top : List Int) (d : D) (os : List Int) : Bool := formB n dp d && (match sealP d with
  | some (_, p, vs, pr) => fitB n top (2 ^ dp) p.toNat (endsV n p.toNat (figs n p.toNat os) (vs.map ocOf)) pr
  | none => false)
abbrev KC : Nat := 7
abbrev keyN : List Str := ["hasher", "kind", "seed", "depth", "rows", "root", "proofs"]
def keyR (n : Nat) (seed : List Int) (dp : Nat) : List (List Int) := (List.range (2 ^ dp)).map fun p => endsK n seed p
abbrev keyV (n : Nat) (seed : List Int) (dp : Nat) : List D := [hsh n, kindD n, oD seed, .int (dp : Int), .lst ((keyR n seed dp).map oD), oD (topR (rows (dig n) (keyR n seed dp))), .tup ((List.range (keyR n seed dp).length).map fun i => osD (prf (rows (dig n) (keyR n seed dp)) i))]
abbrev keyI (n : Nat) (seed : List Int) (dp : Nat) : D := .ins KC keyN (keyV n seed dp)
def KeyAt (Om : Om) (d : D) (n : Nat) (seed : List Int) : Prop := ∃ ns vs, insOf Om d = some (KC, ns, vs) ∧ lk ns vs "hasher" = some (hsh n) ∧ lk ns vs "seed" = some (oD seed) ∧ lk ns vs "value" = none ∧ lk ns vs "ends" = none
def sp_chain_count : DSp := fun ds Om Q _ => ∃ n : Nat, ds = [hsh n] ∧ n ≤ 8 ∧ Q (.int (2 * n + 3 : Nat)) Om
def sp_mark_text : DSp := fun ds Om Q _ => ∃ (p : Nat) (os : List Int), ds = [.int p, oD os] ∧ p < 65536 ∧ os.length ≤ 100000 ∧ Q (oD (mark p os)) Om
def sp_figures : DSp := fun ds Om Q _ => ∃ (n p : Nat) (os : List Int), ds = [hsh n, .int p, oD os] ∧ 1 ≤ n ∧ n ≤ 8 ∧ p < 65536 ∧ os.length ≤ 100000 ∧ Q (oD (figs n p os)) Om
def sp_step_text : DSp := fun ds Om Q _ => ∃ (p c h : Nat) (v : List Int), ds = [.int p, .int c, .int h, oD v] ∧ p < 65536 ∧ v.length ≤ 100000 ∧ Q (oD (stepT p c h v)) Om
def sp_led : DSp := fun ds Om Q _ => ∃ (n p c h k : Nat) (v : List Int), ds = [hsh n, .int p, .int c, .int h, oD v, .int (h + k : Nat)] ∧ 1 ≤ n ∧ n ≤ 8 ∧ p < 65536 ∧ h + k ≤ 1000 ∧ v.length ≤ 1000 ∧ Q (oD (ldk n p c k h v)) Om
def sp_Key_value : DSp := fun ds Om Q _ => ∃ (d : D) (n p c h : Nat) (seed : List Int), ds = [d, .int p, .int c, .int h] ∧ KeyAt Om d n seed ∧ 1 ≤ n ∧ n ≤ 8 ∧ p < 65536 ∧ h ≤ 100 ∧ seed.length ≤ 1000 ∧ Q (oD (valK n seed p c h)) Om
def sp_Key_ends : DSp := fun ds Om Q _ => ∃ (d : D) (n p : Nat) (seed : List Int), ds = [d, .int p] ∧ KeyAt Om d n seed ∧ 1 ≤ n ∧ n ≤ 8 ∧ p < 65536 ∧ seed.length ≤ 1000 ∧ Q (oD (endsK n seed p)) Om
def sp_Key___init__ : DSp := fun ds Om Q _ => ∃ (a : Addr) (n dp : Nat) (seed : List Int), ds = [.ref a, kindD n, oD seed, .int dp] ∧ Om a = some (.ins KC [] []) ∧ (∀ b, Om b = none → True) ∧ 1 ≤ n ∧ n ≤ 8 ∧ dp ≤ 10 ∧ Oct seed ∧ seed.length ≤ 1000 ∧ Q .non (putO Om a (.ins KC keyN (keyV n seed dp)))
def sp_has_form : DSp := fun ds Om Q _ => ∃ (n dp : Nat) (d : D), ds = [hsh n, .int dp, d] ∧ 1 ≤ n ∧ n ≤ 8 ∧ dp ≤ 10 ∧ okD d = true ∧ Q (.bl (formB n dp d)) Om
def sp_ends_of : DSp := fun ds Om Q _ => ∃ (n p : Nat) (vs : List (List Int)) (pr : D) (os : List Int), ds = [hsh n, .tup [.str "seal", .int p, osD vs, pr], oD os] ∧ 1 ≤ n ∧ n ≤ 8 ∧ p < 65536 ∧ vs.length = 2 * n + 3 ∧ (∀ v ∈ vs, v.length = n) ∧ os.length ≤ 100000 ∧ Q (oD (endsV n p (figs n p os) vs)) Om
def sp_fitsA : DSp := fun ds Om Q _ => ∃ (n : Nat) (top : List Int) (c i : Nat) (p : List Int) (d : D), ds = [hsh n, oD top, .int c, .int i, oD p, d] ∧ i < c ∧ c ≤ 1048576 ∧ Oct p ∧ p.length ≤ 100000 ∧ okD d = true ∧ 1 ≤ n ∧ n ≤ 8 ∧ Q (.bl (fitB n top c i p d)) Om
def sp_holds : DSp := fun ds Om Q _ => ∃ (n dp : Nat) (top : List Int) (d o : D), ds = [kindD n, oD top, .int dp, d, o] ∧ 1 ≤ n ∧ n ≤ 8 ∧ dp ≤ 10 ∧ okD d = true ∧ okD o = true ∧ Q (.bl (isOcts none o && holdsB n dp top d (ocOf o))) Om
/-! the law's own -/
def sp__law_digest : DSp := fun ds Om Q _ => ∃ (n : Nat) (os : List Int), ds = [.int n, oD os] ∧ 1 ≤ n ∧ n ≤ 8 ∧ Q (oD (dig n os)) Om
def sp__law_levels : DSp := fun ds Om Q _ => ∃ (n : Nat) (ps : List (List Int)), ds = [.int n, .lst (ps.map oD)] ∧ 1 ≤ n ∧ n ≤ 8 ∧ Szs ps ∧ Q (rowsD (rows (dig n) ps)) Om
def Deep (rs : List (List (List Int))) (i : Nat) : Prop := 1 ≤ rs.length ∧ rs.length ≤ 100 ∧ ∀ h r, rs[h]? = some r → h + 1 < rs.length → sib (i / 2 ^ h) < r.length
def sp__law_proof : DSp := fun ds Om Q _ => ∃ (rs : List (List (List Int))) (i : Nat), ds = [rowsD rs, .int i] ∧ Deep rs i ∧ Q (osD (prf rs i)) Om
def sp__law_path : DSp := fun ds Om Q _ => ∃ (n i : Nat) (p : List Int) (pr : List (List Int)), ds = [.int n, .int i, oD p, osD pr] ∧ 1 ≤ n ∧ n ≤ 8 ∧ p.length ≤ 100000 ∧ pr.length ≤ 100 ∧ (∀ o ∈ pr, o.length ≤ 100000) ∧ Q (.lst ((way (dig n) i p pr).map oD)) Om
def sp__law_fits : DSp := fun ds Om Q _ => ∃ (n c i : Nat) (rs : List (List (List Int))) (p : List Int) (pr : List (List Int)), ds = [.int n, rowsD rs, .int c, .int i, oD p, osD pr] ∧ 1 ≤ n ∧ n ≤ 8 ∧ i < c ∧ p.length ≤ 100000 ∧ (∀ o ∈ pr, o.length ≤ 100000) ∧ rs.length ≤ 100 ∧ rs.getLast? = some [topR rs] ∧ Q (.bl (decide (pr.length + 1 = rs.length) && decide (fold (dig n) i p pr = topR rs))) Om
def sp__law_figures : DSp := fun ds Om Q _ => ∃ (n p : Nat) (os : List Int), ds = [.int n, .int p, oD os] ∧ 1 ≤ n ∧ n ≤ 8 ∧ p < 65536 ∧ os.length ≤ 100000 ∧ Q (.lst (iD (figs n p os))) Om
def sp__law_led : DSp := fun ds Om Q _ => ∃ (n p c h k : Nat) (v : List Int), ds = [.int n, .int p, .int c, .int h, oD v, .int (h + k : Nat)] ∧ 1 ≤ n ∧ n ≤ 8 ∧ p < 65536 ∧ h + k ≤ 1000 ∧ v.length ≤ 1000 ∧ Q (oD (ldk n p c k h v)) Om
def sp__law_value : DSp := fun ds Om Q _ => ∃ (n p c h : Nat) (seed : List Int), ds = [.int n, oD seed, .int p, .int c, .int h] ∧ 1 ≤ n ∧ n ≤ 8 ∧ p < 65536 ∧ h ≤ 100 ∧ seed.length ≤ 1000 ∧ Q (oD (valK n seed p c h)) Om
def sp__law_ends : DSp := fun ds Om Q _ => ∃ (n dp : Nat) (seed : List Int), ds = [.int n, oD seed, .int dp] ∧ 1 ≤ n ∧ n ≤ 8 ∧ dp ≤ 10 ∧ seed.length ≤ 1000 ∧ Q (.lst ((keyR n seed dp).map oD)) Om
/-- the seal of the owner -/
def valsK (n : Nat) (seed : List Int) (p : Nat) (os : List Int) : List (List Int) := ((List.range (figs n p os).length).zip (figs n p os)).map fun ch => valK n seed p ch.1 ch.2.toNat
abbrev sealD (n : Nat) (seed : List Int) (dp p : Nat) (os : List Int) : D := .tup [.str "seal", .int (p : Int), osD (valsK n seed p os), osD (prf (rows (dig n) (keyR n seed dp)) p)]
def sp__law_seal : DSp := fun ds Om Q _ => ∃ (n dp p : Nat) (seed os : List Int), ds = [.int n, oD seed, rowsD (rows (dig n) (keyR n seed dp)), .int p, oD os] ∧ 1 ≤ n ∧ n ≤ 8 ∧ dp ≤ 10 ∧ p < 2 ^ dp ∧ seed.length ≤ 1000 ∧ os.length ≤ 100000 ∧ Q (sealD n seed dp p os) Om
def sp__law_led_ends : DSp := fun ds Om Q _ => ∃ (n p : Nat) (vs : List (List Int)) (pr : D) (os : List Int), ds = [.int n, .tup [.str "seal", .int p, osD vs, pr], oD os] ∧ 1 ≤ n ∧ n ≤ 8 ∧ p < 65536 ∧ vs.length = 2 * n + 3 ∧ (∀ v ∈ vs, v.length = n) ∧ os.length ≤ 100000 ∧ Q (oD (endsV n p (figs n p os) vs)) Om
def areB (n : Nat) : D → Bool
  | .tup xs => xs.all (isOcts (some n))
  | _ => false
def sp__law_are : DSp := fun ds Om Q _ => ∃ (n : Nat) (d : D), ds = [d, .int n] ∧ n ≤ 1000000 ∧ okD d = true ∧ Q (.bl (areB n d)) Om
def sp__law_holds : DSp := fun ds Om Q _ => ∃ (n dp : Nat) (seed os : List Int) (d : D), ds = [.int n, rowsD (rows (dig n) (keyR n seed dp)), .int dp, d, oD os] ∧ 1 ≤ n ∧ n ≤ 8 ∧ dp ≤ 10 ∧ okD d = true ∧ os.length ≤ 100000 ∧ Q (.bl (holdsB n dp (topR (rows (dig n) (keyR n seed dp))) d os)) Om
end N

set_option Elab.async false
set_option linter.all false
set_option maxRecDepth 100000
namespace N
open PySem PySem.Spec PyProof.Rows L2
abbrev w__law_digest_b1 : WS := (wSet 2 (wBin (gMod) (wBin (gAdd) (wBin (gAdd) (wBin (gMul) (wVarB 2) (wC (.int 31))) (wVarB 3)) (wC (.int 1))) (wBin (gShl) (wC (.int 1)) (wBin (gMul) (wC (.int 8)) (wVarB 0)))))
def w__law_digest : WS := (wSeq (wSet 2 (wC (.int 1)))
  (wSeq (wFor (wIt (wVar 1)) (fName 3) (w__law_digest_b1))
  (wRet (wCall gTuple (waCons (wFrz (wComp (wRng gRng1 (waCons (wVar 0) waNil)) (fName 4) wtYes (wBin (gAnd) (wBin (gShr) (wVarB 2) (wBin (gMul) (wC (.int 8)) (wBin (gSub) (wBin (gSub) (wVarB 0) (wC (.int 1))) (wVarB 4)))) (wC (.int 255))) [4])) waNil)))))
abbrev w__law_levels_b1 : WS := (wSet 3 (wBin (gMul) (wC (.int 2)) (wVarB 3)))
abbrev w__law_levels_b2 : WS := (wSeq (wSet 2 (wFrz (wComp (wRng gRng1 (waCons (wBin (gDiv) (wCall gLen (waCons (wVarB 2) waNil)) (wC (.int 2))) waNil)) (fName 6) wtYes (wCallU 2 sp__law_digest [] (waCons (wVar 0) (waCons (wBin (gAdd) (wBin (gAdd) (wTup (waCons (wC (.int 1)) waNil)) (wBin gIx (wVarB 2) (wBin (gMul) (wC (.int 2)) (wVarB 6)))) (wBin gIx (wVarB 2) (wBin (gAdd) (wBin (gMul) (wC (.int 2)) (wVarB 6)) (wC (.int 1))))) waNil))) [6])))
  (wApp 4 (wVar 2)))
def w__law_levels : WS := (wSeq (wSet 2 (wFrz (wComp (wIt (wVarB 1)) (fName 5) wtYes (wCallU 2 sp__law_digest [] (waCons (wVar 0) (waCons (wBin (gAdd) (wTup (waCons (wC (.int 0)) waNil)) (wVarB 5)) waNil))) [5])))
  (wSeq (wSet 3 (wC (.int 1)))
  (wSeq (wWh (wTst (wBin (gLt) (wVarB 3) (wCall gLen (waCons (wVarB 2) waNil)))) (w__law_levels_b1))
  (wSeq (wSet 2 (wBin (gAdd) (wVarB 2) (wBin (gMul) (wFrz (wLst (waCons (wCallU 2 sp__law_digest [] (waCons (wVar 0) (waCons (wTup (waCons (wC (.int 2)) waNil)) waNil))) waNil))) (wBin (gSub) (wVarB 3) (wCall gLen (waCons (wVarB 2) waNil))))))
  (wSeq (wSetO 4 (wLst (waCons (wVar 2) waNil)))
  (wSeq (wWh (wTst (wBin (gGt) (wCall gLen (waCons (wVarB 2) waNil)) (wC (.int 1)))) (w__law_levels_b2))
  (wRetO 4)))))))
abbrev w__law_led_b1 : WS := (wSet 4 (wCallU 2 sp__law_digest [] (waCons (wVar 0) (waCons (wBin (gAdd) (wTup (waCons (wC (.int 3)) (waCons (wBin (gShr) (wVarB 1) (wC (.int 8))) (waCons (wBin (gAnd) (wVarB 1) (wC (.int 255))) (waCons (wVar 2) (waCons (wVar 6) waNil)))))) (wVarB 4)) waNil))))
def w__law_led : WS := (wSeq (wFor (wRng gRng2 (waCons (wVar 3) (waCons (wVar 5) waNil))) (fName 6) (w__law_led_b1))
  (wRet (wVar 4)))
def w__law_value : WS := (wRet (wCallU 6 sp__law_led [] (waCons (wVar 0) (waCons (wVar 2) (waCons (wVar 3) (waCons (wC (.int 0)) (waCons (wCallU 2 sp__law_digest [] (waCons (wVar 0) (waCons (wBin (gAdd) (wBin (gAdd) (wTup (waCons (wC (.int 4)) waNil)) (wVarB 1)) (wTup (waCons (wBin (gShr) (wVarB 2) (wC (.int 8))) (waCons (wBin (gAnd) (wVarB 2) (wC (.int 255))) (waCons (wVar 3) waNil))))) waNil))) (waCons (wVar 4) waNil))))))))
abbrev w__law_ends_b1 : WS := (wSet 5 (wBin (gAdd) (wVarB 5) (wCallU 5 sp__law_value [] (waCons (wVar 0) (waCons (wVar 1) (waCons (wVar 4) (waCons (wVar 6) (waCons (wC (.int 15)) waNil))))))))
abbrev w__law_ends_b2 : WS := (wSeq (wSet 5 (wTup waNil))
  (wSeq (wFor (wRng gRng1 (waCons (wBin (gAdd) (wBin (gMul) (wC (.int 2)) (wVarB 0)) (wC (.int 3))) waNil)) (fName 6) (w__law_ends_b1))
  (wApp 3 (wVar 5))))
def w__law_ends : WS := (wSeq (wSetO 3 (wLst waNil))
  (wSeq (wFor (wRng gRng1 (waCons (wBin (gShl) (wC (.int 1)) (wVarB 2)) waNil)) (fName 4) (w__law_ends_b2))
  (wRetO 3)))
abbrev w__law_figures_b1 : WS := (wSet 3 (wBin (gAdd) (wVarB 3) (wFrz (wLst (waCons (wBin (gDiv) (wVarB 4) (wC (.int 16))) (waCons (wBin (gAnd) (wVarB 4) (wC (.int 15))) waNil))))))
def w__law_figures : WS := (wSeq (wSet 3 (wFrz (wLst waNil)))
  (wSeq (wFor (wIt (wCallU 2 sp__law_digest [] (waCons (wVar 0) (waCons (wBin (gAdd) (wTup (waCons (wC (.int 5)) (waCons (wBin (gShr) (wVarB 1) (wC (.int 8))) (waCons (wBin (gAnd) (wVarB 1) (wC (.int 255))) waNil)))) (wVarB 2)) waNil)))) (fName 4) (w__law_figures_b1))
  (wSeq (wSet 5 (wCall gSum (waCons (wFrz (wComp (wIt (wVarB 3)) (fName 6) wtYes (wBin (gSub) (wC (.int 15)) (wVarB 6)) [6])) waNil)))
  (wRet (wBin (gAdd) (wVarB 3) (wFrz (wLst (waCons (wBin (gDiv) (wVarB 5) (wC (.int 256))) (waCons (wBin (gAnd) (wBin (gDiv) (wVarB 5) (wC (.int 16))) (wC (.int 15))) (waCons (wBin (gAnd) (wVarB 5) (wC (.int 15))) waNil))))))))))
def w__law_proof : WS := (wRet (wCall gTuple (waCons (wFrz (wComp (wRng gRng1 (waCons (wBin (gSub) (wCall gLen (waCons (wVarB 0) waNil)) (wC (.int 1))) waNil)) (fName 2) wtYes (wBin gIx (wBin gIx (wVarB 0) (wVarB 2)) (wBin (gXor) (wBin (gShr) (wVarB 1) (wVarB 2)) (wC (.int 1)))) [2])) waNil)))
def w__law_seal : WS := (wSeq (wSet 5 (wCallU 3 sp__law_figures [] (waCons (wVar 0) (waCons (wVar 3) (waCons (wVar 4) waNil)))))
  (wSeq (wSet 6 (wFrz (wComp (wRng gRng1 (waCons (wCall gLen (waCons (wVarB 5) waNil)) waNil)) (fName 7) wtYes (wCallU 5 sp__law_value [] (waCons (wVar 0) (waCons (wVar 1) (waCons (wVar 3) (waCons (wVar 7) (waCons (wBin gIx (wVarB 5) (wVarB 7)) waNil)))))) [7])))
  (wRet (wTup (waCons (wC (.str "seal")) (waCons (wVar 3) (waCons (wCall gTuple (waCons (wVarB 6) waNil)) (waCons (wCallU 2 sp__law_proof [] (waCons (wVar 2) (waCons (wVar 3) waNil))) waNil))))))))
def w_chain_count : WS := (wRet (wBin (gAdd) (wBin (gMul) (wC (.int 2)) (wFld [4] "size" (wVarB 0))) (wC (.int 3))))
def w_has_form : WS := (wSeq (wIfS (wtOr (wtNot (wTst (wCall gIsi (waCons (wVarB 2) (waCons (wC (.ty "tuple")) waNil))))) (wtOr (wTst (wBin (gNe) (wCall gLen (waCons (wVarB 2) waNil)) (wC (.int 4)))) (wtOr (wtNot (wTst (wCall gIsi (waCons (wBin gIx (wVarB 2) (wC (.int 0))) (waCons (wC (.ty "str")) waNil))))) (wTst (wBin (gNe) (wBin gIx (wVarB 2) (wC (.int 0))) (wC (.str "seal"))))))) (wRet (wC (.bl false))) wNext)
  (wSeq (wIfS (wtOr (wtNot (wTst (wCallU 1 sp_is_integer [] (waCons (wBin gIx (wVarB 2) (wC (.int 1))) waNil)))) (wtOr (wTst (wBin (gLt) (wBin gIx (wVarB 2) (wC (.int 1))) (wC (.int 0)))) (wtOr (wTst (wBin (gGe) (wBin gIx (wVarB 2) (wC (.int 1))) (wBin (gShl) (wC (.int 1)) (wVarB 1)))) (wtNot (wTst (wCall gIsi (waCons (wBin gIx (wVarB 2) (wC (.int 2))) (waCons (wC (.ty "tuple")) waNil)))))))) (wRet (wC (.bl false))) wNext)
  (wRet (wAnd (wBin (gEq) (wCall gLen (waCons (wBin gIx (wVarB 2) (wC (.int 2))) waNil)) (wCallU 1 sp_chain_count [] (waCons (wVar 0) waNil))) (wCall gAll (waCons (wFrz (wComp (wIt (wBin gIx (wVarB 2) (wC (.int 2)))) (fName 3) wtYes (wMeth 4 "is_digest" 2 sp_Hasher_is_digest (wVar 0) (waCons (wVar 3) waNil)) [3])) waNil))))))
def w_mark_text : WS := (wRet (wBin (gAdd) (wBin (gAdd) (wTup (waCons (wC (.int 5)) waNil)) (wCallK 1 2 sp_as_octets (waCons (wVar 0) waNil) (waCons (wC (.int 2)) waNil))) (wVarB 1)))
abbrev w_figures_b1 : WS := (wExt 3 (wFrz (wLst (waCons (wBin (gShr) (wVarB 4) (wC (.int 4))) (waCons (wBin (gAnd) (wVarB 4) (wC (.int 15))) waNil)))))
def w_figures : WS := (wSeq (wSetO 3 (wLst waNil))
  (wSeq (wFor (wIt (wMeth 4 "digest" 2 sp_Hasher_digest (wVar 0) (waCons (wCallU 2 sp_mark_text [] (waCons (wVar 1) (waCons (wVar 2) waNil))) waNil))) (fName 4) (w_figures_b1))
  (wSeq (wSet 5 (wCall gSum (waCons (wFrz (wComp (wIt (wVarB 3)) (fName 6) wtYes (wBin (gSub) (wC (.int 15)) (wVarB 6)) [6])) waNil)))
  (wRet (wCall gTuple (waCons (wBin (gAdd) (wVarB 3) (wFrz (wLst (waCons (wBin (gShr) (wVarB 5) (wC (.int 8))) (waCons (wBin (gAnd) (wBin (gShr) (wVarB 5) (wC (.int 4))) (wC (.int 15))) (waCons (wBin (gAnd) (wVarB 5) (wC (.int 15))) waNil)))))) waNil))))))
def w_step_text : WS := (wRet (wBin (gAdd) (wBin (gAdd) (wBin (gAdd) (wTup (waCons (wC (.int 3)) waNil)) (wCallK 1 2 sp_as_octets (waCons (wVar 0) waNil) (waCons (wC (.int 2)) waNil))) (wTup (waCons (wVar 1) (waCons (wVar 2) waNil)))) (wVarB 3)))
abbrev w_led_b1 : WS := (wSet 4 (wMeth 4 "digest" 2 sp_Hasher_digest (wVar 0) (waCons (wCallU 4 sp_step_text [] (waCons (wVar 1) (waCons (wVar 2) (waCons (wVar 6) (waCons (wVar 4) waNil))))) waNil)))
def w_led : WS := (wSeq (wFor (wRng gRng2 (waCons (wVar 3) (waCons (wVar 5) waNil))) (fName 6) (w_led_b1))
  (wRet (wVar 4)))
abbrev w_ends_of_b1 : WS := (wSet 3 (wBin (gAdd) (wVarB 3) (wCallU 6 sp_led [] (waCons (wVar 0) (waCons (wBin gIx (wVarB 1) (wC (.int 1))) (waCons (wVar 4) (waCons (wVar 5) (waCons (wBin gIx (wBin gIx (wVarB 1) (wC (.int 2))) (wVarB 4)) (waCons (wC (.int 15)) waNil)))))))))
def w_ends_of : WS := (wSeq (wSet 3 (wTup waNil))
  (wSeq (wFor (wRng gEnum (waCons (wCallU 3 sp_figures [] (waCons (wVar 0) (waCons (wBin gIx (wVarB 1) (wC (.int 1))) (waCons (wVar 2) waNil)))) waNil)) (fTup 2 (fCons (fName 4) (fCons (fName 5) fNil))) (w_ends_of_b1))
  (wRet (wVar 3))))
def w_holds : WS := (wSeq (wSet 5 (wMakeF 4 2 sp_Hasher___init__ (waCons (wVar 0) waNil)))
  (wSeq (wIfS (wtOr (wtNot (wTst (wCallU 2 sp_is_octets [.non] (waCons (wVar 4) waNil)))) (wtNot (wTst (wCallU 3 sp_has_form [] (waCons (wVar 5) (waCons (wVar 2) (waCons (wVar 3) waNil))))))) (wRet (wC (.bl false))) wNext)
  (wRet (wCallU 6 sp_fitsA [] (waCons (wVar 5) (waCons (wVar 1) (waCons (wBin (gShl) (wC (.int 1)) (wVarB 2)) (waCons (wBin gIx (wVarB 3) (wC (.int 1))) (waCons (wCallU 3 sp_ends_of [] (waCons (wVar 5) (waCons (wVar 3) (waCons (wVar 4) waNil)))) (waCons (wBin gIx (wVarB 3) (wC (.int 3))) waNil))))))))))
def w__law_are : WS := (wSeq (wIfS (wtOr (wtNot (wTst (wCall gIsi (waCons (wVarB 0) (waCons (wC (.ty "tuple")) waNil))))) (wtNot (wTst (wCall gAll (waCons (wFrz (wComp (wIt (wVarB 0)) (fName 2) wtYes (wAnd (wCall gIsi (waCons (wVarB 2) (waCons (wC (.ty "tuple")) waNil))) (wBin (gEq) (wCall gLen (waCons (wVarB 2) waNil)) (wVarB 1))) [2])) waNil))))) (wRet (wC (.bl false))) wNext)
  (wRet (wCall gAll (waCons (wFrz (wComp (wIt (wVarB 0)) (fName 2) wtYes (wCall gAll (waCons (wFrz (wComp (wIt (wVarB 2)) (fName 3) wtYes (wAnd (wCall gIsi (waCons (wVarB 3) (waCons (wC (.ty "int")) waNil))) (wAnd (wNot (wCall gIsi (waCons (wVarB 3) (waCons (wC (.ty "bool")) waNil)))) (wChn (gLe) (gLe) (wC (.int 0)) (wVarB 3) (wC (.int 255))))) [3])) waNil)) [2])) waNil))))
abbrev w__law_path_b1 : WS := (wSeq (wSet 6 (wCallU 2 sp__law_digest [] (waCons (wVar 0) (waCons (wBin gIx (wVarB 4) (wUn gNeg (wC (.int 1)))) waNil))))
  (wApp 4 (wBin (gAdd) (wTup (waCons (wC (.int 1)) waNil)) (wIf (wTst (wBin (gEq) (wBin (gAnd) (wBin (gShr) (wVarB 1) (wVarB 5)) (wC (.int 1))) (wC (.int 1)))) (wBin (gAdd) (wBin gIx (wVarB 3) (wVarB 5)) (wVarB 6)) (wBin (gAdd) (wVarB 6) (wBin gIx (wVarB 3) (wVarB 5)))))))
def w__law_path : WS := (wSeq (wSetO 4 (wLst (waCons (wBin (gAdd) (wTup (waCons (wC (.int 0)) waNil)) (wVarB 2)) waNil)))
  (wSeq (wFor (wRng gRng1 (waCons (wCall gLen (waCons (wVarB 3) waNil)) waNil)) (fName 5) (w__law_path_b1))
  (wRetO 4)))
def w__law_fits : WS := (wSeq (wIfS (wtOr (wTst (wBin (gNe) (wCall gLen (waCons (wVarB 5) waNil)) (wBin (gSub) (wCall gLen (waCons (wVarB 1) waNil)) (wC (.int 1))))) (wtOr (wTst (wBin (gGe) (wVarB 3) (wVarB 2))) (wTst (wBin (gLt) (wVarB 3) (wC (.int 0)))))) (wRet (wC (.bl false))) wNext)
  (wRet (wBin (gEq) (wCallU 2 sp__law_digest [] (waCons (wVar 0) (waCons (wBin gIx (wCallU 4 sp__law_path [] (waCons (wVar 0) (waCons (wVar 3) (waCons (wVar 4) (waCons (wVar 5) waNil))))) (wUn gNeg (wC (.int 1)))) waNil))) (wBin gIx (wBin gIx (wVarB 1) (wUn gNeg (wC (.int 1)))) (wC (.int 0))))))
abbrev w__law_led_ends_b1 : WS := (wSet 3 (wBin (gAdd) (wVarB 3) (wCallU 6 sp__law_led [] (waCons (wVar 0) (waCons (wBin gIx (wVarB 1) (wC (.int 1))) (waCons (wVar 5) (waCons (wBin gIx (wVarB 4) (wVarB 5)) (waCons (wBin gIx (wBin gIx (wVarB 1) (wC (.int 2))) (wVarB 5)) (waCons (wC (.int 15)) waNil)))))))))
def w__law_led_ends : WS := (wSeq (wSet 3 (wTup waNil))
  (wSeq (wSet 4 (wCallU 3 sp__law_figures [] (waCons (wVar 0) (waCons (wBin gIx (wVarB 1) (wC (.int 1))) (waCons (wVar 2) waNil)))))
  (wSeq (wFor (wRng gRng1 (waCons (wCall gLen (waCons (wVarB 4) waNil)) waNil)) (fName 5) (w__law_led_ends_b1))
  (wRet (wVar 3)))))
def w__law_holds : WS := (wSeq (wIfS (wtOr (wtNot (wTst (wCall gIsi (waCons (wVarB 3) (waCons (wC (.ty "tuple")) waNil))))) (wtOr (wTst (wBin (gNe) (wCall gLen (waCons (wVarB 3) waNil)) (wC (.int 4)))) (wtOr (wtNot (wTst (wCall gIsi (waCons (wBin gIx (wVarB 3) (wC (.int 0))) (waCons (wC (.ty "str")) waNil))))) (wTst (wBin (gNe) (wBin gIx (wVarB 3) (wC (.int 0))) (wC (.str "seal"))))))) (wRet (wC (.bl false))) wNext)
  (wSeq (wIfS (wtOr (wtNot (wTst (wCall gIsi (waCons (wBin gIx (wVarB 3) (wC (.int 1))) (waCons (wC (.ty "int")) waNil))))) (wtOr (wTst (wCall gIsi (waCons (wBin gIx (wVarB 3) (wC (.int 1))) (waCons (wC (.ty "bool")) waNil)))) (wtNot (wTst (wChn (gLe) (gLt) (wC (.int 0)) (wBin gIx (wVarB 3) (wC (.int 1))) (wBin (gShl) (wC (.int 1)) (wVarB 2))))))) (wRet (wC (.bl false))) wNext)
  (wSeq (wIfS (wtOr (wtNot (wTst (wCallU 2 sp__law_are [] (waCons (wBin gIx (wVarB 3) (wC (.int 2))) (waCons (wVar 0) waNil))))) (wtOr (wTst (wBin (gNe) (wCall gLen (waCons (wBin gIx (wVarB 3) (wC (.int 2))) waNil)) (wBin (gAdd) (wBin (gMul) (wC (.int 2)) (wVarB 0)) (wC (.int 3))))) (wtNot (wTst (wCallU 2 sp__law_are [] (waCons (wBin gIx (wVarB 3) (wC (.int 3))) (waCons (wVar 0) waNil))))))) (wRet (wC (.bl false))) wNext)
  (wRet (wCallU 6 sp__law_fits [] (waCons (wVar 0) (waCons (wVar 1) (waCons (wBin (gShl) (wC (.int 1)) (wVarB 2)) (waCons (wBin gIx (wVarB 3) (wC (.int 1))) (waCons (wCallU 3 sp__law_led_ends [] (waCons (wVar 0) (waCons (wVar 3) (waCons (wVar 4) waNil)))) (waCons (wBin gIx (wVarB 3) (wC (.int 3))) waNil)))))))))))
def w_Key_value : WS := (wSeq (wSet 4 (wMeth 4 "digest" 2 sp_Hasher_digest (wFld [7] "hasher" (wVarB 0)) (waCons (wBin (gAdd) (wBin (gAdd) (wBin (gAdd) (wTup (waCons (wC (.int 4)) waNil)) (wFld [7] "seed" (wVarB 0))) (wCallK 1 2 sp_as_octets (waCons (wVar 1) waNil) (waCons (wC (.int 2)) waNil))) (wTup (waCons (wVar 2) waNil))) waNil)))
  (wRet (wCallU 6 sp_led [] (waCons (wFld [7] "hasher" (wVarB 0)) (waCons (wVar 1) (waCons (wVar 2) (waCons (wC (.int 0)) (waCons (wVar 4) (waCons (wVar 3) waNil)))))))))
abbrev w_Key_ends_b1 : WS := (wSet 2 (wBin (gAdd) (wVarB 2) (wMeth 7 "value" 4 sp_Key_value (wVar 0) (waCons (wVar 1) (waCons (wVar 3) (waCons (wC (.int 15)) waNil))))))
def w_Key_ends : WS := (wSeq (wSet 2 (wTup waNil))
  (wSeq (wFor (wRng gRng1 (waCons (wCallU 1 sp_chain_count [] (waCons (wFld [7] "hasher" (wVarB 0)) waNil)) waNil)) (fName 3) (w_Key_ends_b1))
  (wRet (wVar 2))))
def w_Key___init__ : WS := (wSeq (wSetF [7] "hasher" (wMakeF 4 2 sp_Hasher___init__ (waCons (wVar 1) waNil)) (wVar 0))
  (wSeq (wIfS (wtOr (wtNot (wTst (wCallU 2 sp_is_octets [.non] (waCons (wVar 2) waNil)))) (wtOr (wtNot (wTst (wCallU 1 sp_is_integer [] (waCons (wVar 3) waNil)))) (wtOr (wTst (wBin (gLt) (wVarB 3) (wC (.int 0)))) (wTst (wBin (gGt) (wVarB 3) (wC (.int 10))))))) (wRaise 6) wNext)
  (wSeq (wSetF [7] "kind" (wVar 1) (wVar 0))
  (wSeq (wSetF [7] "seed" (wVar 2) (wVar 0))
  (wSeq (wSetF [7] "depth" (wVar 3) (wVar 0))
  (wSeq (wSetF [7] "rows" (wFrz (wComp (wRng gRng1 (waCons (wBin (gShl) (wC (.int 1)) (wVarB 3)) waNil)) (fName 4) wtYes (wMeth 7 "ends" 2 sp_Key_ends (wVar 0) (waCons (wVar 4) waNil)) [4])) (wVar 0))
  (wSeq (wSetF [7] "root" (wCallU 2 sp_root [] (waCons (wFld [7] "hasher" (wVarB 0)) (waCons (wFld [7] "rows" (wVarB 0)) waNil))) (wVar 0))
  (wSetF [7] "proofs" (wCallU 2 sp_proofs [] (waCons (wFld [7] "hasher" (wVarB 0)) (waCons (wFld [7] "rows" (wVarB 0)) waNil))) (wVar 0)))))))))
end N

set_option Elab.async false
set_option linter.all false
set_option maxRecDepth 100000
set_option maxHeartbeats 0
namespace N
open PySem PySem.Spec PyProof.Rows L2
local macro_rules | `(tactic| tm_at "nv") => `(tactic| try simp -implicitDefEqProofs only [List.length_map, List.length_append, see_l, see_d, see_i, Nat.reduceAdd, Nat.reduceLeDiff, Nat.zero_le, wFn_e, startG_c, startG_n, startG_z, wSeq_e, wSet_e, wC_e, wFor_e, wIt_e, wVar_e, wVarB_e, getSl_z, getSl_s, List.set_cons_zero, List.set_cons_succ, wRet_e, wBin_e, gI_i, gI0_i, gB0_i, gAdd_i, gAdd_t, gAdd_l, gAdd_s, gMul_i, gMul_t, gMul_l, gEq_, gNe_, gIs_n, gIs_b, gIsNot_n, gIsNot_b, isNon_n, isNon_i, isNon_b, isNon_t, isNon_l, isNon_s, wIfS_e, wtOr_e, wtAnd_e, wtNot_e, wTst_e, wNext_e, wNev_e, wCall_e, wCallF_e, wFrz_e, wLst_e, wTup_e, waNil_e, waCons_e, wComp_e, wRng_e, gRng1_i, gRng2_i, gRng3_i, wUn_e, gNeg_i, gTuple_t, gTuple_l, gList_t, gList_l, gList_s, gLen_t, gLen_l, gLen_s, gLen_d, gInt_i, gInt_b, gAbs_i, gMax_i, gMin_i, wipeG, fName_e, wCallU_e, wCallK_e, List.append_nil, List.length_cons, List.length_nil, wSl_e, woNone_e, woSome_e, gSl_t, gSl_l, gIt_t, gIt_l, gIt_s, gIsi_i, gIsi_b, gIsi_t, gIsi_l, gIsi_s, gIsi_n, gIsi_d, wFld_e, wMeth_e, wMake_e, wMakeF_e, wSetF_e, wExt_e, wFz_e, wRev_e, wRaise_e, wTry_e, wBits_e, insOf_ins, lk_kind, lk_size, lk_digest, lk_is_digest, gEnum_t, gEnum_l, gZip_t, gZip_l, mem1, reduceCtorEq, eq_self, wAsg_e, fTup_e, fCons_e, fNil_e, wAnd_e, wOr_e, wNot_e, wIf_e, wPar_e, wAug_e, wApp_e, wSetO_e, wRetO_e, br_t, br_f, shp_int, shp_bl, shp_non, deq_int, gAll_b, gAny_b, gSum_i, wDrop_e, wRetN_e, true_and, and_true, decide_true, decide_false, Bool.not_true, Bool.not_false, isi_NoneType_bool, isi_NoneType_int, isi_NoneType_str, isi_NoneType_tuple, isi_NoneType_list, isi_NoneType_dict, isi_bool_bool, isi_bool_int, isi_bool_str, isi_bool_tuple, isi_bool_list, isi_bool_dict, isi_int_bool, isi_int_int, isi_int_str, isi_int_tuple, isi_int_list, isi_int_dict, isi_str_bool, isi_str_int, isi_str_str, isi_str_tuple, isi_str_list, isi_str_dict, isi_tuple_bool, isi_tuple_int, isi_tuple_str, isi_tuple_tuple, isi_tuple_list, isi_tuple_dict, isi_list_bool, isi_list_int, isi_list_str, isi_list_tuple, isi_list_list, isi_list_dict, isi_dict_bool, isi_dict_int, isi_dict_str, isi_dict_tuple, isi_dict_list, isi_dict_dict, okTy_bool, okTy_int, okTy_str, okTy_tuple, okTy_list, okTy_dict, List.cons_append, List.nil_append, wChn_e, wSetIxO_e, wGet1_e, wGet2_e, wPutO_e, wDnew_e, slV_v, slB_v, slB_l, slB_d, slB_i, slL_l, slD_d, asB_b, asI_i, asR_r, asT_t, asQ_t, asQ_l, asD_d, asK_i, asK_s, asC_c, as2_2, asO_s, asIns_i, fz_l, fz_i, fz_v, fz_n, wKeys_e, wItems_e, wVals_e, exL_hit, asRev_l, asRev_t, wtYes_e])
local macro_rules | `(tactic| tm_at "nw") => `(tactic| (tm_at "nv"; repeat (with_reducible refine sq_i ?_; tm_at "nv")))
local macro_rules | `(tactic| tm_at "nc") => `(tactic| first | exact True.intro | omega | exact mulL (by omega) (by omega) | exact mulR (by omega) (by omega) | exact divOk (by omega) (by omega) | exact shlI (n := 1) (by decide) (by decide) (by omega) (by omega) | (simp only [List.length_append, List.length_map, List.length_cons, List.length_nil, List.length_replicate, List.length_flatten, List.map_replicate, List.sum_replicate_nat, List.length_range, rngL_len, rngC_len, List.cons_append, List.nil_append]; first | done | omega))
local macro_rules | `(tactic| tm_at "ns") => `(tactic| repeat (with_reducible refine And.intro (by first | tm_at "nc" | exact ⟨by tm_at "nc", by tm_at "nc"⟩ | exact ⟨by tm_at "nc", by tm_at "nc", by tm_at "nc"⟩ | exact ⟨by tm_at "nc", by tm_at "nc", by tm_at "nc", by tm_at "nc"⟩) ?_))
local macro_rules | `(tactic| tm_at "go") => `(tactic| (tm_at "nw"; repeat (first | (with_reducible refine And.intro (by first | tm_at "nc" | exact ⟨by tm_at "nc", by tm_at "nc"⟩ | exact ⟨by tm_at "nc", by tm_at "nc", by tm_at "nc"⟩) ?_) | (with_reducible refine sq_i ?_)); tm_at "nw"))
theorem bit15 {x : Int} (h : 0 ≤ x) : Builtin.bitAnd x 15 = x % 16 := by
  have := Bits.bitAnd_mask (x := x) 4 h
  simpa using this
theorem bit255 {x : Int} (h : 0 ≤ x) : Builtin.bitAnd x 255 = x % 256 := by
  have := Bits.bitAnd_mask (x := x) 8 h
  simpa using this
theorem lk7_hasher {n dp : Nat} {seed : List Int} : lk keyN (keyV n seed dp) "hasher" = some (hsh n) := rfl
theorem lk7_seed {n dp : Nat} {seed : List Int} : lk keyN (keyV n seed dp) "seed" = some (oD seed) := rfl
theorem p2_len (p : Nat) : (p2 p).length = 2 := rfl
theorem iD_app (a b : List Int) : iD (a ++ b) = iD a ++ iD b := List.map_append
theorem m_chain_count (ds : List D) (Om : N.Om) (Q : D → N.Om → Prop) (R : RX) (hl : ds.length = 1) (h : sp_chain_count ds Om Q R) : wFn 1 w_chain_count ds Om Q R := by
  obtain ⟨n, rfl, h8, q⟩ := h
  unfold w_chain_count
  tm_at "go"
  rw [show ((2 : Int) * (n : Int) + 3) = ((2 * n + 3 : Nat) : Int) by omega]
  exact q
theorem m_mark_text (ds : List D) (Om : N.Om) (Q : D → N.Om → Prop) (R : RX) (hl : ds.length = 2) (h : sp_mark_text ds Om Q R) : wFn 2 w_mark_text ds Om Q R := by
  obtain ⟨p, os, rfl, hp, ho, q⟩ := h
  unfold w_mark_text
  tm_at "go"
  refine ⟨p, 2, rfl, by omega, by omega, by decide, ?_⟩
  rw [p2_octs]
  tm_at "go"
  rw [p2_len]
  refine ⟨by omega, by omega, ?_⟩
  rw [show oD (mark p os) = .tup (D.int 5 :: (iD (p2 p) ++ iD os)) by simp [mark]] at q
  exact q
theorem loop_fig (x0 x1 x2 x5 x6 : Sl) (Po : Post) (Om : N.Om) : ∀ (os : List Int) (acc : List Int) (y4 : Sl), Oct os → acc.length + 2 * os.length ≤ 1000 → (∀ y4, Po.nx [x0, x1, x2, .own (.lst (iD (acc ++ fig2 os))), y4, x5, x6] Om) →
    wForL (fName 4) w_figures_b1 (iD os) [x0, x1, x2, .own (.lst (iD acc)), y4, x5, x6] Om Po
  | [], acc, y4, _, _, h => by
    refine wForL_n ?_
    have := h y4
    simpa [fig2] using this
  | o :: r, acc, y4, ho, hl, h => by
    rw [List.length_cons] at hl
    have o1 := ho o List.mem_cons_self
    have := loop_fig x0 x1 x2 x5 x6 Po Om r (acc ++ [o / 16, o % 16]) (.val (.int o)) (fun x hx => ho x (List.mem_cons_of_mem _ hx)) (by simp; omega) (fun y4 => by
      have := h y4
      simpa [fig2, List.append_assoc] using this)
    refine wForL_c ?_
    tm_at "go"
    rw [bit15 o1.1]
    rw [iD_app] at this
    exact this
theorem m_figures (ds : List D) (Om : N.Om) (Q : D → N.Om → Prop) (R : RX) (hl : ds.length = 3) (h : sp_figures ds Om Q R) : wFn 7 w_figures ds Om Q R := by
  obtain ⟨n, p, os, rfl, h1, h8, hp, ho, q⟩ := h
  have ml := dig_len n (mark p os)
  have f2 := fig2_fig (dig_oct n (mark p os))
  have rr := rst_rng f2
  rw [fig2_len, ml] at rr
  unfold w_figures
  tm_at "go"
  refine ⟨p, os, rfl, hp, ho, ?_⟩
  tm_at "go"
  refine ⟨mark p os, n, rfl, h1, h8, ?_⟩
  tm_at "go"
  refine loop_fig _ _ _ _ _ _ _ (dig n (mark p os)) [] _ (dig_oct _ _) (by rw [ml]; simp; omega) fun y4 => ?_
  tm_at "go"
  refine turns_mapA D.int (fun f => .int (15 - f)) (fig2 (dig n (mark p os))) [] (by rw [fig2_len, ml]; simp; omega) (fun f hf K hK => ?_) ?_
  · tm_at "go"
    exact hK
  rw [List.nil_append, show ((fig2 (dig n (mark p os))).map fun f => D.int (15 - f)) = ((fig2 (dig n (mark p os))).map fun f => 15 - f).map D.int by rw [List.map_map]; rfl]
  tm_at "go"
  rw [show (List.map (fun f => 15 - f) (fig2 (dig n (mark p os)))).sum = rst (fig2 (dig n (mark p os))) from rfl, bit15 rr.1, bit15 (by show 0 ≤ rst (fig2 (dig n (mark p os))) / 2 ^ (4 : Int).toNat; exact Int.ediv_nonneg rr.1 (by decide)), fig2_len, ml]
  refine ⟨by omega, ?_⟩
  rw [show oD (figs n p os) = .tup (iD (fig2 (dig n (mark p os))) ++ iD [rst (fig2 (dig n (mark p os))) / 256, rst (fig2 (dig n (mark p os))) / 16 % 16, rst (fig2 (dig n (mark p os))) % 16]) by simp [figs]] at q
  exact q
theorem m_step_text (ds : List D) (Om : N.Om) (Q : D → N.Om → Prop) (R : RX) (hl : ds.length = 4) (h : sp_step_text ds Om Q R) : wFn 4 w_step_text ds Om Q R := by
  obtain ⟨p, c, h, v, rfl, hp, hv, q⟩ := h
  unfold w_step_text
  tm_at "go"
  refine ⟨p, 2, rfl, by omega, by omega, by decide, ?_⟩
  rw [p2_octs]
  tm_at "go"
  rw [p2_len]
  refine ⟨by omega, by omega, by omega, ?_⟩
  rw [show oD (stepT p c h v) = .tup (D.int 3 :: (iD (p2 p) ++ [D.int (c : Int), D.int (h : Int)] ++ iD v)) by simp [stepT]] at q
  exact q
theorem rng_up (h k : Nat) : rngL (h : Int) ((h + k : Nat) - (h : Int) : Int).toNat = (List.range' h k).map fun (i : Nat) => D.int (i : Int) := by
  rw [show (((h + k : Nat) : Int) - (h : Int)).toNat = k by omega, List.range'_eq_map_range, List.map_map]
  refine List.map_congr_left fun i _ => ?_
  simp
theorem loop_led (n p c : Nat) (h1 : 1 ≤ n) (h8 : n ≤ 8) (hp : p < 65536) (x3 x5 : Sl) (Po : Post) (Om : N.Om) : ∀ (k h : Nat) (v : List Int) (y6 : Sl), v.length ≤ 1000 → (∀ y6, Po.nx [.val (hsh n), .val (.int p), .val (.int c), x3, .val (oD (ldk n p c k h v)), x5, y6] Om) →
    wForL (fName 6) w_led_b1 ((List.range' h k).map fun (i : Nat) => D.int (i : Int)) [.val (hsh n), .val (.int p), .val (.int c), x3, .val (oD v), x5, y6] Om Po
  | 0, h, v, y6, _, hq => wForL_n (hq y6)
  | k + 1, h, v, y6, hv, hq => by
    rw [rng_from]
    refine wForL_c ?_
    tm_at "go"
    refine ⟨p, c, h, v, rfl, hp, by omega, ?_⟩
    refine ⟨stepT p c h v, n, rfl, h1, h8, ?_⟩
    exact loop_led n p c h1 h8 hp x3 x5 Po Om k (h + 1) _ _ (by rw [dig_len]; omega) hq
theorem m_led (ds : List D) (Om : N.Om) (Q : D → N.Om → Prop) (R : RX) (hl : ds.length = 6) (h : sp_led ds Om Q R) : wFn 7 w_led ds Om Q R := by
  obtain ⟨n, p, c, h, k, v, rfl, h1, h8, hp, hk, hv, q⟩ := h
  unfold w_led
  tm_at "go"
  rw [rng_up]
  refine loop_led n p c h1 h8 hp _ _ _ _ k h v _ hv fun y6 => ?_
  tm_at "go"
  exact q
theorem m_Key_value (ds : List D) (Om : N.Om) (Q : D → N.Om → Prop) (R : RX) (hl : ds.length = 4) (h : sp_Key_value ds Om Q R) : wFn 5 w_Key_value ds Om Q R := by
  obtain ⟨d, n, p, c, h, seed, rfl, ⟨ns, vs, e0, e1, e2, e3, e4⟩, h1, h8, hp, hh, hs, q⟩ := h
  unfold w_Key_value
  tm_at "go"
  simp only [e0, e1, e2, asO_s]
  tm_at "go"
  refine ⟨p, 2, rfl, by omega, by omega, by decide, ?_⟩
  rw [p2_octs]
  tm_at "go"
  rw [p2_len]
  refine ⟨by omega, by omega, ?_⟩
  refine ⟨4 :: (seed ++ p2 p ++ [(c : Int)]), n, by simp, h1, h8, ?_⟩
  tm_at "go"
  simp only [e0, e1, e2, asO_s]
  tm_at "go"
  refine ⟨n, p, c, 0, h, secr n seed p c, by simp [secr], h1, h8, hp, by omega, by rw [secr, dig_len]; omega, ?_⟩
  exact q
theorem loop_ends (d : D) (n p : Nat) (seed : List Int) (x : Sl) (Po : Post) (Om : N.Om) (ka : KeyAt Om d n seed) (h1 : 1 ≤ n) (h8 : n ≤ 8) (hp : p < 65536) (hs : seed.length ≤ 1000) : ∀ (k c : Nat) (acc : List Int) (y3 : Sl), acc.length + 10 * k ≤ 10000 →
    (∀ y3, Po.nx [.val d, .val (.int p), .val (oD (acc ++ (List.range' c k).flatMap fun c => valK n seed p c 15)), y3] Om) →
    wForL (fName 3) w_Key_ends_b1 ((List.range' c k).map fun (i : Nat) => D.int (i : Int)) [.val d, .val (.int p), .val (oD acc), y3] Om Po
  | 0, c, acc, y3, _, h => by
    refine wForL_n ?_
    have := h y3
    simpa using this
  | k + 1, c, acc, y3, hl, h => by
    have vl := valK_len n seed p c 15
    have ih := loop_ends d n p seed x Po Om ka h1 h8 hp hs k (c + 1) (acc ++ valK n seed p c 15) (.val (.int (c : Int))) (by rw [List.length_append, vl]; omega) (fun y3 => by
      have := h y3
      rw [List.range'_succ, List.flatMap_cons] at this
      rw [List.append_assoc]
      exact this)
    rw [rng_from]
    refine wForL_c ?_
    obtain ⟨ns, vs, e0, e1, e2, e3, e4⟩ := ka
    tm_at "go"
    simp only [e0, asO_s, e3]
    tm_at "go"
    refine ⟨d, n, p, c, 15, seed, rfl, ⟨ns, vs, e0, e1, e2, e3, e4⟩, h1, h8, hp, by decide, hs, ?_⟩
    tm_at "go"
    rw [show oD (acc ++ valK n seed p c 15) = .tup (iD acc ++ iD (valK n seed p c 15)) by simp] at ih
    exact ih
theorem m_Key_ends (ds : List D) (Om : N.Om) (Q : D → N.Om → Prop) (R : RX) (hl : ds.length = 2) (h : sp_Key_ends ds Om Q R) : wFn 4 w_Key_ends ds Om Q R := by
  obtain ⟨d, n, p, seed, rfl, ka, h1, h8, hp, hs, q⟩ := h
  have ka' := ka
  obtain ⟨ns, vs, e0, e1, e2, e3, e4⟩ := ka
  unfold w_Key_ends
  tm_at "go"
  simp only [e0, e1, asO_s]
  tm_at "go"
  refine ⟨n, rfl, h8, ?_⟩
  tm_at "go"
  rw [rng_nat, show (((2 * n + 3 : Nat) : Int)).toNat = 2 * n + 3 by omega]
  refine loop_ends d n p seed .no _ _ ka' h1 h8 hp hs (2 * n + 3) 0 [] _ (by simp; omega) fun y3 => ?_
  tm_at "go"
  rw [endsK, List.range_eq_range'] at q
  exact q
end N

set_option Elab.async false
set_option linter.all false
set_option maxRecDepth 100000
set_option maxHeartbeats 0
namespace N
open PySem PySem.Spec PyProof.Rows L2
local macro_rules | `(tactic| tm_at "nv") => `(tactic| try simp -implicitDefEqProofs only [Int.cast_ofNat_Int, Int.reduceEq, Int.reduceLT, Int.reduceLE, List.length_map, List.length_append, see_l, see_d, see_i, Nat.reduceAdd, Nat.reduceLeDiff, Nat.zero_le, wFn_e, startG_c, startG_n, startG_z, wSeq_e, wSet_e, wC_e, wFor_e, wIt_e, wVar_e, wVarB_e, getSl_z, getSl_s, List.set_cons_zero, List.set_cons_succ, wRet_e, wBin_e, gI_i, gI0_i, gB0_i, gAdd_i, gAdd_t, gAdd_l, gAdd_s, gMul_i, gMul_t, gMul_l, gEq_, gNe_, gIs_n, gIs_b, gIsNot_n, gIsNot_b, isNon_n, isNon_i, isNon_b, isNon_t, isNon_l, isNon_s, wIfS_e, wtOr_e, wtAnd_e, wtNot_e, wTst_e, wNext_e, wNev_e, wCall_e, wCallF_e, wFrz_e, wLst_e, wTup_e, waNil_e, waCons_e, wComp_e, wRng_e, gRng1_i, gRng2_i, gRng3_i, wUn_e, gNeg_i, gTuple_t, gTuple_l, gList_t, gList_l, gList_s, gLen_t, gLen_l, gLen_s, gLen_d, gInt_i, gInt_b, gAbs_i, gMax_i, gMin_i, wipeG, fName_e, wCallU_e, wCallK_e, List.append_nil, List.length_cons, List.length_nil, wSl_e, woNone_e, woSome_e, gSl_t, gSl_l, gIt_t, gIt_l, gIt_s, gIsi_i, gIsi_b, gIsi_t, gIsi_l, gIsi_s, gIsi_n, gIsi_d, wFld_e, wMeth_e, wMake_e, wMakeF_e, wSetF_e, wExt_e, wFz_e, wRev_e, wRaise_e, wTry_e, wBits_e, insOf_ins, lk_kind, lk_size, lk_digest, lk_is_digest, gEnum_t, gEnum_l, gZip_t, gZip_l, mem1, reduceCtorEq, eq_self, wAsg_e, fTup_e, fCons_e, fNil_e, wAnd_e, wOr_e, wNot_e, wIf_e, wPar_e, wAug_e, wApp_e, wSetO_e, wRetO_e, br_t, br_f, shp_int, shp_bl, shp_non, deq_int, gAll_b, gAny_b, gSum_i, wDrop_e, wRetN_e, true_and, and_true, decide_true, decide_false, Bool.not_true, Bool.not_false, isi_NoneType_bool, isi_NoneType_int, isi_NoneType_str, isi_NoneType_tuple, isi_NoneType_list, isi_NoneType_dict, isi_bool_bool, isi_bool_int, isi_bool_str, isi_bool_tuple, isi_bool_list, isi_bool_dict, isi_int_bool, isi_int_int, isi_int_str, isi_int_tuple, isi_int_list, isi_int_dict, isi_str_bool, isi_str_int, isi_str_str, isi_str_tuple, isi_str_list, isi_str_dict, isi_tuple_bool, isi_tuple_int, isi_tuple_str, isi_tuple_tuple, isi_tuple_list, isi_tuple_dict, isi_list_bool, isi_list_int, isi_list_str, isi_list_tuple, isi_list_list, isi_list_dict, isi_dict_bool, isi_dict_int, isi_dict_str, isi_dict_tuple, isi_dict_list, isi_dict_dict, okTy_bool, okTy_int, okTy_str, okTy_tuple, okTy_list, okTy_dict, List.cons_append, List.nil_append, wChn_e, wSetIxO_e, wGet1_e, wGet2_e, wPutO_e, wDnew_e, slV_v, slB_v, slB_l, slB_d, slB_i, slL_l, slD_d, asB_b, asI_i, asR_r, asT_t, asQ_t, asQ_l, asD_d, asK_i, asK_s, asC_c, as2_2, asO_s, asIns_i, fz_l, fz_i, fz_v, fz_n, wKeys_e, wItems_e, wVals_e, exL_hit, asRev_l, asRev_t, wtYes_e])
local macro_rules | `(tactic| tm_at "nw") => `(tactic| (tm_at "nv"; repeat (with_reducible refine sq_i ?_; tm_at "nv")))
local macro_rules | `(tactic| tm_at "nc") => `(tactic| first | exact True.intro | omega | exact mulL (by omega) (by omega) | exact mulR (by omega) (by omega) | exact divOk (by omega) (by omega) | exact shlI (n := 1) (by decide) (by decide) (by omega) (by omega) | (simp only [List.length_append, List.length_map, List.length_cons, List.length_nil, List.length_replicate, List.length_flatten, List.map_replicate, List.sum_replicate_nat, List.length_range, rngL_len, rngC_len, List.cons_append, List.nil_append]; first | done | omega))
local macro_rules | `(tactic| tm_at "ns") => `(tactic| repeat (with_reducible refine And.intro (by first | tm_at "nc" | exact ⟨by tm_at "nc", by tm_at "nc"⟩ | exact ⟨by tm_at "nc", by tm_at "nc", by tm_at "nc"⟩ | exact ⟨by tm_at "nc", by tm_at "nc", by tm_at "nc", by tm_at "nc"⟩) ?_))
local macro_rules | `(tactic| tm_at "go") => `(tactic| (tm_at "nw"; repeat (first | (with_reducible refine And.intro (by first | tm_at "nc" | exact ⟨by tm_at "nc", by tm_at "nc"⟩ | exact ⟨by tm_at "nc", by tm_at "nc", by tm_at "nc"⟩) ?_) | (with_reducible refine sq_i ?_)); tm_at "nw"))
def tyN : D → String
  | .non => "NoneType"
  | .bl _ => "bool"
  | .int _ => "int"
  | .str _ => "str"
  | .tup _ => "tuple"
  | .lst _ => "list"
  | _ => "dict"
theorem gIsi_pl {d : D} {t : String} {Q : D → Prop} (h : plD d = true) (ok : okTy t = true) (q : Q (.bl (isiS (tyN d) t))) : gIsi [d, .ty t] Q := by
  cases d <;> first | exact gIsi_1 ok rfl q | cases h
theorem shp_str {s : Str} (h : PyData.strOk s = true) : shp (.str s) = true := by simp [shp, SeqAt.shaped, toPy, PyData.canLay0, PyData.depth, h]
theorem sealP_len {xs : List D} (h : xs.length ≠ 4) : sealP (.tup xs) = none := by
  match xs, h with
  | [], _ => rfl
  | [_], _ => rfl
  | [_, _], _ => rfl
  | [_, _, _], _ => rfl
  | [_, _, _, _], h => exact absurd rfl h
  | _ :: _ :: _ :: _ :: _ :: _, _ => rfl
theorem four {xs : List D} (h : xs.length = 4) : ∃ a b c e, xs = [a, b, c, e] := by
  match xs, h with
  | [a, b, c, e], _ => exact ⟨a, b, c, e, rfl⟩
theorem gIx_t2 {a b c : D} {r : List D} {Q : D → Prop} (q : Q c) : gIx (.tup (a :: b :: c :: r)) (.int 2) Q := gIx_tup (j := 2) rfl rfl q
theorem gIx_t3 {a b c e : D} {r : List D} {Q : D → Prop} (q : Q e) : gIx (.tup (a :: b :: c :: e :: r)) (.int 3) Q := gIx_tup (j := 3) rfl rfl q
theorem pow_le10 {d : Nat} (h : d ≤ 10) : (2 : Int) ^ d ≤ 1024 ∧ 0 < (2 : Int) ^ d := by
  have h1 : (2 : Int) ^ d ≤ 2 ^ 10 := ipow_le h
  exact ⟨h1, Int.pow_pos (by decide)⟩
theorem m_has_form (ds : List D) (Om : N.Om) (Q : D → N.Om → Prop) (R : RX) (hl : ds.length = 3) (h : sp_has_form ds Om Q R) : wFn 4 w_has_form ds Om Q R := by
  obtain ⟨n, dp, d, rfl, h1, h8, hd, ok, q⟩ := h
  have p10 := pow_le10 hd
  unfold w_has_form
  tm_at "go"
  refine gIsi_pl (okD_pl ok) rfl ?_
  cases d <;> try cases ok
  all_goals try (tm_at "go"; exact q)
  rename_i xs
  obtain ⟨l44, ok4⟩ := okD_t ok
  simp only [tyN]
  tm_at "go"
  by_cases h4 : xs.length = 4
  · obtain ⟨a, b, c, e, rfl⟩ := four h4
    tm_at "go"
    have oka := ok4 a (by simp)
    have okb := ok4 b (by simp)
    have okc := ok4 c (by simp)
    refine gIx_t0 ?_
    refine gIsi_pl (okD_pl oka) rfl ?_
    cases a <;> try cases oka
    all_goals try (simp only [tyN]; tm_at "go"; exact q)
    rename_i s
    simp only [tyN]
    tm_at "go"
    refine gIx_t0 ?_
    have oks : PyData.strOk s = true := by simpa [okD] using oka
    refine ⟨shp_str oks, shp_str (by decide +kernel), ?_⟩
    rw [deq_str]
    have eF : formB n dp (.tup [.str s, b, c, e]) = (match seal4 (.str s) b c e with
      | some (s, p, vs, _) => decide (s = "seal") && decide (0 ≤ p) && decide (p < 2 ^ dp) && decide (vs.length = 2 * n + 3) && vs.all (isOcts (some n))
      | none => false) := rfl
    rw [eF] at q
    refine br_if (fun z => ?_) fun z => ?_
    · have z : ¬ s = "seal" := by simpa using z
      cases b <;> try exact q
      cases c <;> try exact q
      simp only [seal4, decide_eq_false z, Bool.false_and] at q
      exact q
    have z : s = "seal" := by simpa using z
    subst z
    tm_at "go"
    refine gIx_t1 ⟨_, rfl, okD_pl okb, ?_⟩
    tm_at "go"
    cases b <;> try cases okb
    all_goals try (simp only [intB]; tm_at "go"; exact q)
    rename_i p
    simp only [intB]
    tm_at "go"
    refine gIx_t1 ?_
    tm_at "go"
    have e1 : seal4 (.str "seal") (.int p) c e = none → False ∨ True := fun _ => .inr trivial
    refine br_d (fun z => ?_) fun z => ?_
    · cases c <;> try exact q
      simp only [seal4, decide_eq_false (show ¬ 0 ≤ p by omega), Bool.and_false, Bool.false_and] at q
      exact q
    refine gIx_t1 ?_
    tm_at "go"
    rw [show ((dp : Int)).toNat = dp by omega, Int.one_mul]
    refine br_d (fun z2 => ?_) fun z2 => ?_
    · cases c <;> try exact q
      simp only [seal4, decide_eq_false (show ¬ p < 2 ^ dp by omega), Bool.and_false, Bool.false_and] at q
      exact q
    refine gIx_t2 ?_
    refine gIsi_pl (okD_pl okc) rfl ?_
    cases c <;> try cases okc
    all_goals try (simp only [tyN]; tm_at "go"; exact q)
    rename_i vs
    simp only [tyN]
    tm_at "go"
    refine gIx_t2 ?_
    tm_at "go"
    refine ⟨n, rfl, h8, ?_⟩
    tm_at "go"
    simp only [seal4, decide_true, Bool.true_and, decide_eq_true (show 0 ≤ p by omega), decide_eq_true (show p < 2 ^ dp by omega)] at q
    obtain ⟨l5, okv⟩ := okD_t okc
    refine br_d (fun z3 => ?_) fun z3 => ?_
    · have z3 : vs.length = 2 * n + 3 := by omega
      refine gIx_t2 ?_
      tm_at "go"
      have ev : vs = vs.map _root_.id := (List.map_id vs).symm
      have : wTurns (fName 3) wtYes (wMeth 4 "is_digest" 2 sp_Hasher_is_digest (wVar 0) (waCons (wVar 3) waNil)) [Sl.val (hsh n), Sl.val (.int (dp : Int)), Sl.val (.tup [.str "seal", .int p, .tup vs, e]), .no] (vs.map _root_.id) [] Om fun ds O2 => gAll [D.lst ds] fun z => Q z O2 := by
        refine turns_mapA _root_.id (fun v => .bl (isOcts (some n) v)) vs [] (by simp; omega) (fun v hv K hK => ?_) ?_
        · tm_at "go"
          refine ⟨v, n, rfl, okD_pl (okv v hv), fun xs e => ?_, hK⟩
          have := okv v hv
          rw [e] at this
          exact Nat.le_trans (okD_t this).1 (by decide)
        · rw [List.nil_append]
          simp only [gAll, gLB, bsL_map']
          rw [decide_eq_true z3, Bool.true_and] at q
          rw [List.all_map]
          exact q
      rw [List.map_id] at this
      exact this
    · rw [decide_eq_false (fun z => z3 (by omega)), Bool.false_and] at q
      exact q
  · refine br_if (fun _ => ?_) fun z => ?_
    · have : formB n dp (.tup xs) = false := by unfold formB; rw [sealP_len h4]
      rw [this] at q
      exact q
    · exfalso
      simp at z
      omega
theorem enum_i : ∀ (hs : List Int) (k : Nat), enumF k (iD hs) = ((List.range' k hs.length).zip hs).map fun ch => D.tup [.int (ch.1 : Int), .int ch.2]
  | [], k => rfl
  | h :: r, k => by
    rw [List.length_cons, List.range'_succ, List.zip_cons_cons, List.map_cons, ← enum_i r (k + 1)]
    rfl
theorem loop_endsof (n p : Nat) (h1 : 1 ≤ n) (h8 : n ≤ 8) (hp : p < 65536) (vs : List (List Int)) (pr : D) (hv : ∀ v ∈ vs, v.length = n) (x2 : Sl) (Po : Post) (Om : N.Om) : ∀ (zs : List (Nat × Int)) (acc : List Int) (y4 y5 : Sl), (∀ z ∈ zs, z.1 < vs.length ∧ Fig z.2) → acc.length + 10 * zs.length ≤ 10000 →
    (∀ y4 y5, Po.nx [.val (hsh n), .val (.tup [.str "seal", .int p, osD vs, pr]), x2, .val (oD (acc ++ zs.flatMap fun ch => ldk n p ch.1 (15 - ch.2.toNat) ch.2.toNat (vs.getD ch.1 []))), y4, y5] Om) →
    wForL (fTup 2 (fCons (fName 4) (fCons (fName 5) fNil))) w_ends_of_b1 (zs.map fun ch => D.tup [.int (ch.1 : Int), .int ch.2]) [.val (hsh n), .val (.tup [.str "seal", .int p, osD vs, pr]), x2, .val (oD acc), y4, y5] Om Po
  | [], acc, y4, y5, _, _, h => by
    refine wForL_n ?_
    have := h y4 y5
    simpa using this
  | (c, f) :: r, acc, y4, y5, hz, hl, h => by
    rw [List.length_cons] at hl
    obtain ⟨hc, f0, f15⟩ := hz (c, f) List.mem_cons_self
    simp only at hc f0 f15
    obtain ⟨g, rfl⟩ := Int.eq_ofNat_of_zero_le f0
    have hvc : vs[c]? = some (vs.getD c []) := by rw [List.getD_eq_getElem?_getD, List.getElem?_eq_getElem hc]; rfl
    have hvl : (vs.getD c []).length = n := hv _ (List.mem_of_getElem? hvc)
    have ll := ldk_len n p c (15 - g) g _ hvl
    have ih := loop_endsof n p h1 h8 hp vs pr hv x2 Po Om r (acc ++ ldk n p c (15 - g) g (vs.getD c [])) (.val (.int (c : Int))) (.val (.int (g : Int))) (fun z hz' => hz z (List.mem_cons_of_mem _ hz')) (by rw [List.length_append, ll]; omega) (fun y4 y5 => by
      have := h y4 y5
      rw [List.flatMap_cons] at this
      rw [List.append_assoc]
      exact this)
    rw [List.map_cons]
    refine wForL_c ?_
    tm_at "go"
    refine gIx_t1 (gIx_t2 ?_)
    refine gIx_tup (j := c) rfl (by rw [List.getElem?_map, hvc]; rfl) ?_
    refine ⟨n, p, c, g, 15 - g, vs.getD c [], by simp; omega, h1, h8, hp, by omega, by omega, ?_⟩
    tm_at "go"
    rw [show oD (acc ++ ldk n p c (15 - g) g (vs.getD c [])) = .tup (iD acc ++ iD (ldk n p c (15 - g) g (vs.getD c []))) by simp] at ih
    exact ih
theorem m_ends_of (ds : List D) (Om : N.Om) (Q : D → N.Om → Prop) (R : RX) (hl : ds.length = 3) (h : sp_ends_of ds Om Q R) : wFn 6 w_ends_of ds Om Q R := by
  obtain ⟨n, p, vs, pr, os, rfl, h1, h8, hp, hvl, hv, ho, q⟩ := h
  unfold w_ends_of
  tm_at "go"
  refine gIx_t1 ⟨n, p, os, rfl, h1, h8, hp, ho, ?_⟩
  tm_at "go"
  rw [enum_i, figs_len]
  refine loop_endsof n p h1 h8 hp vs pr hv _ _ _ _ [] _ _ (fun z hz => ?_) (by simp [figs_len]; omega) fun y4 y5 => ?_
  · have hm := List.of_mem_zip (show (z.1, z.2) ∈ (List.range' 0 (2 * n + 3)).zip (figs n p os) from hz)
    exact ⟨by have := List.mem_range'_1.mp hm.1; omega, figs_fig h8 _ hm.2⟩
  · tm_at "go"
    rw [endsV, figs_len, List.range_eq_range'] at q
    exact q
end N

set_option Elab.async false
set_option linter.all false
set_option maxRecDepth 100000
set_option maxHeartbeats 0
namespace N
open PySem PySem.Spec PyProof.Rows L2
local macro_rules | `(tactic| tm_at "nv") => `(tactic| try simp -implicitDefEqProofs only [Int.cast_ofNat_Int, Int.reduceEq, Int.reduceLT, Int.reduceLE, List.length_map, List.length_append, see_l, see_d, see_i, Nat.reduceAdd, Nat.reduceLeDiff, Nat.zero_le, wFn_e, startG_c, startG_n, startG_z, wSeq_e, wSet_e, wC_e, wFor_e, wIt_e, wVar_e, wVarB_e, getSl_z, getSl_s, List.set_cons_zero, List.set_cons_succ, wRet_e, wBin_e, gI_i, gI0_i, gB0_i, gAdd_i, gAdd_t, gAdd_l, gAdd_s, gMul_i, gMul_t, gMul_l, gEq_, gNe_, gIs_n, gIs_b, gIsNot_n, gIsNot_b, isNon_n, isNon_i, isNon_b, isNon_t, isNon_l, isNon_s, wIfS_e, wtOr_e, wtAnd_e, wtNot_e, wTst_e, wNext_e, wNev_e, wCall_e, wCallF_e, wFrz_e, wLst_e, wTup_e, waNil_e, waCons_e, wComp_e, wRng_e, gRng1_i, gRng2_i, gRng3_i, wUn_e, gNeg_i, gTuple_t, gTuple_l, gList_t, gList_l, gList_s, gLen_t, gLen_l, gLen_s, gLen_d, gInt_i, gInt_b, gAbs_i, gMax_i, gMin_i, wipeG, fName_e, wCallU_e, wCallK_e, List.append_nil, List.length_cons, List.length_nil, wSl_e, woNone_e, woSome_e, gSl_t, gSl_l, gIt_t, gIt_l, gIt_s, gIsi_i, gIsi_b, gIsi_t, gIsi_l, gIsi_s, gIsi_n, gIsi_d, wFld_e, wMeth_e, wMake_e, wMakeF_e, wSetF_e, wExt_e, wFz_e, wRev_e, wRaise_e, wTry_e, wBits_e, insOf_ins, lk_kind, lk_size, lk_digest, lk_is_digest, gEnum_t, gEnum_l, gZip_t, gZip_l, mem1, reduceCtorEq, eq_self, wAsg_e, fTup_e, fCons_e, fNil_e, wAnd_e, wOr_e, wNot_e, wIf_e, wPar_e, wAug_e, wApp_e, wSetO_e, wRetO_e, br_t, br_f, shp_int, shp_bl, shp_non, deq_int, gAll_b, gAny_b, gSum_i, wDrop_e, wRetN_e, true_and, and_true, decide_true, decide_false, Bool.not_true, Bool.not_false, isi_NoneType_bool, isi_NoneType_int, isi_NoneType_str, isi_NoneType_tuple, isi_NoneType_list, isi_NoneType_dict, isi_bool_bool, isi_bool_int, isi_bool_str, isi_bool_tuple, isi_bool_list, isi_bool_dict, isi_int_bool, isi_int_int, isi_int_str, isi_int_tuple, isi_int_list, isi_int_dict, isi_str_bool, isi_str_int, isi_str_str, isi_str_tuple, isi_str_list, isi_str_dict, isi_tuple_bool, isi_tuple_int, isi_tuple_str, isi_tuple_tuple, isi_tuple_list, isi_tuple_dict, isi_list_bool, isi_list_int, isi_list_str, isi_list_tuple, isi_list_list, isi_list_dict, isi_dict_bool, isi_dict_int, isi_dict_str, isi_dict_tuple, isi_dict_list, isi_dict_dict, okTy_bool, okTy_int, okTy_str, okTy_tuple, okTy_list, okTy_dict, List.cons_append, List.nil_append, wChn_e, wSetIxO_e, wGet1_e, wGet2_e, wPutO_e, wDnew_e, slV_v, slB_v, slB_l, slB_d, slB_i, slL_l, slD_d, asB_b, asI_i, asR_r, asT_t, asQ_t, asQ_l, asD_d, asK_i, asK_s, asC_c, as2_2, asO_s, asIns_i, fz_l, fz_i, fz_v, fz_n, wKeys_e, wItems_e, wVals_e, exL_hit, asRev_l, asRev_t, wtYes_e])
local macro_rules | `(tactic| tm_at "nw") => `(tactic| (tm_at "nv"; repeat (with_reducible refine sq_i ?_; tm_at "nv")))
local macro_rules | `(tactic| tm_at "nc") => `(tactic| first | exact True.intro | omega | exact mulL (by omega) (by omega) | exact mulR (by omega) (by omega) | exact divOk (by omega) (by omega) | exact shlI (n := 1) (by decide) (by decide) (by omega) (by omega) | (simp only [List.length_append, List.length_map, List.length_cons, List.length_nil, List.length_replicate, List.length_flatten, List.map_replicate, List.sum_replicate_nat, List.length_range, rngL_len, rngC_len, List.cons_append, List.nil_append]; first | done | omega))
local macro_rules | `(tactic| tm_at "ns") => `(tactic| repeat (with_reducible refine And.intro (by first | tm_at "nc" | exact ⟨by tm_at "nc", by tm_at "nc"⟩ | exact ⟨by tm_at "nc", by tm_at "nc", by tm_at "nc"⟩ | exact ⟨by tm_at "nc", by tm_at "nc", by tm_at "nc", by tm_at "nc"⟩) ?_))
local macro_rules | `(tactic| tm_at "go") => `(tactic| (tm_at "nw"; repeat (first | (with_reducible refine And.intro (by first | tm_at "nc" | exact ⟨by tm_at "nc", by tm_at "nc"⟩ | exact ⟨by tm_at "nc", by tm_at "nc", by tm_at "nc"⟩) ?_) | (with_reducible refine sq_i ?_)); tm_at "nw"))
theorem isPrf_os2 {n c : Nat} {d : D} (h : isPrf n c d = true) : d = osD (osOf d) ∧ (osOf d).length = dep c ∧ ∀ o ∈ osOf d, Oct o ∧ o.length = n := by
  cases d <;> simp only [isPrf] at h <;> try cases h
  rename_i xs
  simp only [Bool.and_eq_true, decide_eq_true_eq] at h
  have e : ∀ x ∈ xs, x = oD (ocOf x) ∧ Oct (ocOf x) ∧ (ocOf x).length = n := fun x hx => by
    have := isOcts_oc (List.all_eq_true.mp h.2 x hx)
    exact ⟨this.1, this.2.1, this.2.2 n rfl⟩
  refine ⟨?_, by simpa [osOf] using h.1, fun o ho => ?_⟩
  · show D.tup xs = D.tup ((xs.map ocOf).map oD)
    congr 1
    rw [List.map_map]
    conv => lhs; rw [← List.map_id xs]
    exact List.map_congr_left fun x hx => (e x hx).1
  · obtain ⟨x, hx, rfl⟩ := List.mem_map.mp ho
    exact (e x hx).2
theorem okD_t2 {d : D} (ok : okD d = true) : ∀ xs, d = .tup xs → xs.length ≤ 16777216 ∧ ∀ x ∈ xs, ∀ ys, x = .tup ys → ys.length ≤ 16777216 := fun xs e => by
  subst e
  obtain ⟨h1, h2⟩ := okD_t ok
  refine ⟨by omega, fun x hx ys e => ?_⟩
  subst e
  have := (okD_t (h2 _ hx)).1
  omega
theorem m_fitsA (ds : List D) (Om : N.Om) (Q : D → N.Om → Prop) (R : RX) (hl : ds.length = 6) (h : sp_fitsA ds Om Q R) : wFn 6 w_fits ds Om Q R := by
  obtain ⟨n, top, c, i, p, d, rfl, hi, hc, hp, hp2, ok, h1, h8, q⟩ := h
  have h20 := dep_20 hc
  unfold w_fits
  tm_at "go"
  refine ⟨_, rfl, rfl, ?_⟩
  simp only [intB]
  tm_at "go"
  refine br_df (by omega) (br_df (by omega) ?_)
  tm_at "go"
  refine ⟨_, none, rfl, plD_o p, fun xs e => ?_, ?_⟩
  · cases e; simp; omega
  rw [isOcts_o]
  simp only [octB_of hp, Bool.and_true, Bool.not_true, br_f]
  refine ⟨c, d, n, rfl, hc, okD_pl ok, okD_t2 ok, ?_⟩
  unfold fitB at q
  refine br_if (fun z => ?_) fun z => ?_
  · have z : isPrf n c d = false := by simpa using z
    rw [z, Bool.false_and] at q
    exact q
  · have z : isPrf n c d = true := by simpa using z
    obtain ⟨e, e2, e3⟩ := isPrf_os2 z
    rw [z, Bool.true_and] at q
    tm_at "go"
    refine ⟨i, p, osOf d, n, by rw [← e], hp2, fun o ho => by have := (e3 o ho).2; omega, by omega, h1, h8, ?_⟩
    exact ⟨shp_tints _, shp_tints _, by rw [deq_tints]; exact q⟩
theorem form_parts {n dp : Nat} {d : D} (h : formB n dp d = true) : ∃ (p : Nat) (vs : List (List Int)) (pr : D), d = .tup [.str "seal", .int (p : Int), osD vs, pr] ∧ p < 2 ^ dp ∧ vs.length = 2 * n + 3 ∧ (∀ v ∈ vs, Oct v ∧ v.length = n) := by
  unfold formB at h
  cases d <;> try cases h
  rename_i xs
  by_cases h4 : xs.length = 4
  · obtain ⟨a, b, c, e, rfl⟩ := four h4
    simp only [sealP, sealL] at h
    cases a <;> try cases h
    cases b <;> try cases h
    cases c <;> try cases h
    rename_i s p vs
    simp only [seal4, Bool.and_eq_true, decide_eq_true_eq] at h
    obtain ⟨⟨⟨⟨h1, h2⟩, h3⟩, hl⟩, h5⟩ := h
    obtain ⟨g, rfl⟩ := Int.eq_ofNat_of_zero_le h2
    subst h1
    have ee : ∀ x ∈ vs, x = oD (ocOf x) ∧ Oct (ocOf x) ∧ (ocOf x).length = n := fun x hx => by
      have := isOcts_oc (List.all_eq_true.mp h5 x hx)
      exact ⟨this.1, this.2.1, this.2.2 n rfl⟩
    have ev : D.tup vs = osD (vs.map ocOf) := by
      congr 1
      rw [List.map_map]
      conv => lhs; rw [← List.map_id vs]
      exact List.map_congr_left fun x hx => (ee x hx).1
    refine ⟨g, vs.map ocOf, e, by rw [← ev], by exact_mod_cast h3, by simpa using hl, fun o ho => ?_⟩
    obtain ⟨x, hx, rfl⟩ := List.mem_map.mp ho
    exact (ee x hx).2
  · simp only [sealP_len h4] at h
    cases h
theorem flatMap_le {α : Type} {f : α → List Int} {b : Nat} : ∀ {l : List α}, (∀ a ∈ l, (f a).length ≤ b) → (l.flatMap f).length ≤ b * l.length
  | [], _ => by simp
  | a :: r, h => by
    have ih := flatMap_le (l := r) fun c hc => h c (List.mem_cons_of_mem _ hc)
    have h1 := h a List.mem_cons_self
    rw [List.flatMap_cons, List.length_append, List.length_cons, Nat.mul_succ]
    omega
theorem endsV_len {n p : Nat} {hs : List Int} {vs : List (List Int)} (hl : hs.length = 2 * n + 3) (h8 : n ≤ 8) (hv : ∀ v ∈ vs, v.length = n) (hvl : vs.length = hs.length) : (endsV n p hs vs).length ≤ 1000 := by
  have := flatMap_le (b := 8) (f := fun ch : Nat × Int => ldk n p ch.1 (15 - ch.2.toNat) ch.2.toNat (vs.getD ch.1 [])) (l := (List.range hs.length).zip hs) fun ch hch => by
    have hm := (List.of_mem_zip (show (ch.1, ch.2) ∈ (List.range hs.length).zip hs from hch)).1
    have hc : ch.1 < vs.length := by have := List.mem_range.mp hm; omega
    have hvc : vs[ch.1]? = some (vs.getD ch.1 []) := by rw [List.getD_eq_getElem?_getD, List.getElem?_eq_getElem hc]; rfl
    rw [ldk_len n p _ _ _ _ (hv _ (List.mem_of_getElem? hvc))]
    exact h8
  unfold endsV
  rw [List.length_zip, List.length_range, Nat.min_self] at this
  omega
theorem endsV_oct {n p : Nat} {hs : List Int} {vs : List (List Int)} (hv : ∀ v ∈ vs, Oct v) : Oct (endsV n p hs vs) := fun o ho => by
  unfold endsV at ho
  obtain ⟨ch, _, ho⟩ := List.mem_flatMap.mp ho
  refine ldk_oct n p _ _ _ _ ?_ o ho
  by_cases c : ch.1 < vs.length
  · exact hv _ (by rw [List.getD_eq_getElem?_getD, List.getElem?_eq_getElem c]; exact List.getElem_mem c)
  · rw [List.getD_eq_getElem?_getD, List.getElem?_eq_none (by omega)]
    intro z hz
    cases hz
theorem m_holds (ds : List D) (Om : N.Om) (Q : D → N.Om → Prop) (R : RX) (hl : ds.length = 5) (h : sp_holds ds Om Q R) : wFn 6 w_holds ds Om Q R := by
  obtain ⟨n, dp, top, d, o, rfl, h1, h8, hd, okd, oko, q⟩ := h
  have p10 := pow_le10 hd
  unfold w_holds
  tm_at "go"
  refine fun a ha => ⟨a, n, rfl, putO_same, h1, h8, rfl, hN, hV n, putO_put, ?_⟩
  tm_at "go"
  refine ⟨o, none, rfl, okD_pl oko, fun xs e => (okD_t2 oko xs e).1, ?_⟩
  refine br_if (fun z => ?_) fun z => ?_
  · rw [(by simpa using z : isOcts none o = false), Bool.false_and] at q
    exact q
  have z : isOcts none o = true := by simpa using z
  obtain ⟨eo, oo, _⟩ := isOcts_oc z
  rw [z, Bool.true_and] at q
  refine ⟨n, dp, d, rfl, h1, h8, hd, okd, ?_⟩
  refine br_if (fun z2 => ?_) fun z2 => ?_
  · unfold holdsB at q
    rw [(by simpa using z2 : formB n dp d = false), Bool.false_and] at q
    exact q
  have z2 : formB n dp d = true := by simpa using z2
  obtain ⟨p, vs, pr, rfl, hp, hvl, hv⟩ := form_parts z2
  have okpr : okD pr = true := (okD_t okd).2 pr (by simp)
  have hol : (ocOf o).length ≤ 100000 := by
    rw [eo] at oko
    simpa using (okD_t oko).1
  have hp2 : 2 ^ dp ≤ 2 ^ 10 := Nat.pow_le_pow_right (by decide) hd
  have el := endsV_len (p := p) (figs_len n p (ocOf o)) h8 (fun v h => (hv v h).2) (by rw [hvl, figs_len])
  have eh : holdsB n dp top (.tup [.str "seal", .int (p : Int), osD vs, pr]) (ocOf o) = fitB n top (2 ^ dp) p (endsV n p (figs n p (ocOf o)) vs) pr := by
    unfold holdsB
    rw [z2, Bool.true_and]
    show fitB n top (2 ^ dp) (p : Int).toNat (endsV n (p : Int).toNat (figs n (p : Int).toNat (ocOf o)) ((vs.map oD).map ocOf)) pr = _
    rw [show ((p : Int)).toNat = p by omega, List.map_map, show (vs.map (ocOf ∘ oD)) = vs from by
      conv => rhs; rw [← List.map_id vs]
      exact List.map_congr_left fun x _ => ocOf_o x]
  rw [eh] at q
  tm_at "go"
  refine gIx_t1 ?_
  refine ⟨n, p, vs, pr, ocOf o, by rw [← eo], h1, h8, by omega, hvl, fun v h => (hv v h).2, hol, ?_⟩
  refine gIx_t3 ?_
  refine ⟨n, top, 2 ^ dp, p, _, pr, by simp, hp, by omega, endsV_oct fun v h => (hv v h).1, by omega, okpr, h1, h8, q⟩
theorem m_Key___init__ (ds : List D) (Om : N.Om) (Q : D → N.Om → Prop) (R : RX) (hl : ds.length = 4) (h : sp_Key___init__ ds Om Q R) : wFn 5 w_Key___init__ ds Om Q R := by
  obtain ⟨a, n, dp, seed, rfl, ha, _, h1, h8, hd, hs, hsl, q⟩ := h
  have p10 := pow_le10 hd
  unfold w_Key___init__
  tm_at "go"
  refine fun b hb => ⟨b, n, rfl, putO_same, h1, h8, rfl, hN, hV n, putO_put, ?_⟩
  rw [ha]
  tm_at "go"
  refine ⟨_, none, rfl, plD_o seed, fun xs e => ?_, ?_⟩
  · cases e; simp; omega
  rw [isOcts_o, octB_of hs]
  tm_at "go"
  refine ⟨_, rfl, rfl, ?_⟩
  simp only [intB]
  tm_at "go"
  refine br_df (by omega) (br_df (by omega) ?_)
  have s1 : ∀ (x0 : D), setN ([] : List Str) "hasher" = (["hasher"] : List Str) ∧ setV ([] : List Str) [] "hasher" x0 = [x0] := fun _ => ⟨rfl, rfl⟩
  have s2 : ∀ (x0 x1 : D), setN (["hasher"] : List Str) "kind" = (["hasher", "kind"] : List Str) ∧ setV (["hasher"] : List Str) [x0] "kind" x1 = [x0, x1] := fun _ _ => ⟨rfl, rfl⟩
  have s3 : ∀ (x0 x1 x2 : D), setN (["hasher", "kind"] : List Str) "seed" = (["hasher", "kind", "seed"] : List Str) ∧ setV (["hasher", "kind"] : List Str) [x0, x1] "seed" x2 = [x0, x1, x2] := fun _ _ _ => ⟨rfl, rfl⟩
  have s4 : ∀ (x0 x1 x2 x3 : D), setN (["hasher", "kind", "seed"] : List Str) "depth" = (["hasher", "kind", "seed", "depth"] : List Str) ∧ setV (["hasher", "kind", "seed"] : List Str) [x0, x1, x2] "depth" x3 = [x0, x1, x2, x3] := fun _ _ _ _ => ⟨rfl, rfl⟩
  have s5 : ∀ (x0 x1 x2 x3 x4 : D), setN (["hasher", "kind", "seed", "depth"] : List Str) "rows" = (["hasher", "kind", "seed", "depth", "rows"] : List Str) ∧ setV (["hasher", "kind", "seed", "depth"] : List Str) [x0, x1, x2, x3] "rows" x4 = [x0, x1, x2, x3, x4] := fun _ _ _ _ _ => ⟨rfl, rfl⟩
  have s6 : ∀ (x0 x1 x2 x3 x4 x5 : D), setN (["hasher", "kind", "seed", "depth", "rows"] : List Str) "root" = (["hasher", "kind", "seed", "depth", "rows", "root"] : List Str) ∧ setV (["hasher", "kind", "seed", "depth", "rows"] : List Str) [x0, x1, x2, x3, x4] "root" x5 = [x0, x1, x2, x3, x4, x5] := fun _ _ _ _ _ _ => ⟨rfl, rfl⟩
  have s7 : ∀ (x0 x1 x2 x3 x4 x5 x6 : D), setN (["hasher", "kind", "seed", "depth", "rows", "root"] : List Str) "proofs" = (["hasher", "kind", "seed", "depth", "rows", "root", "proofs"] : List Str) ∧ setV (["hasher", "kind", "seed", "depth", "rows", "root"] : List Str) [x0, x1, x2, x3, x4, x5] "proofs" x6 = [x0, x1, x2, x3, x4, x5, x6] := fun _ _ _ _ _ _ _ => ⟨rfl, rfl⟩
  rw [(s1 .non).1, (s1 _).2]
  tm_at "go"
  simp only [putO_same, putO_put, asIns_i]
  tm_at "go"
  rw [(s2 .non .non).1, (s2 _ _).2]
  tm_at "go"
  simp only [putO_same, putO_put, asIns_i]
  tm_at "go"
  rw [(s3 .non .non .non).1, (s3 _ _ _).2]
  tm_at "go"
  simp only [putO_same, putO_put, asIns_i]
  tm_at "go"
  rw [(s4 .non .non .non .non).1, (s4 _ _ _ _).2]
  tm_at "go"
  have e2 : (1 * (2 : Int) ^ ((dp : Int)).toNat).toNat = 2 ^ dp := by
    rw [show ((dp : Int)).toNat = dp by omega, Int.one_mul]
    have : ((2 ^ dp : Nat) : Int) = 2 ^ dp := by simp
    omega
  rw [e2]
  refine ⟨⟨by rw [show ((dp : Int)).toNat = dp by omega]; omega, by rw [show ((dp : Int)).toNat = dp by omega]; omega⟩, ?_⟩
  have hp2 : 2 ^ dp ≤ 2 ^ 10 := Nat.pow_le_pow_right (by decide) hd
  rw [rng_r]
  refine turns_mapA (fun i : Nat => D.int (i : Int)) (fun p => oD (endsK n seed p)) (List.range (2 ^ dp)) [] (by simp; omega) (fun p hp K hK => ?_) ?_
  · have := List.mem_range.mp hp
    tm_at "go"
    rw [insOf_put, asO_s]
    refine ⟨⟨rfl, rfl⟩, .ref a, n, p, seed, rfl, ⟨_, _, insOf_put, rfl, rfl, rfl, rfl⟩, h1, h8, by omega, hsl, hK⟩
  rw [List.nil_append, show ((List.range (2 ^ dp)).map fun p => oD (endsK n seed p)) = (keyR n seed dp).map oD by rw [keyR, List.map_map]; rfl]
  have kl : (keyR n seed dp).length = 2 ^ dp := by simp [keyR]
  have sz : Szs (keyR n seed dp) := ⟨by omega, fun p hp => by
    obtain ⟨i, _, rfl⟩ := List.mem_map.mp hp
    have := flatMap_le (b := 8) (f := fun c => valK n seed i c 15) (l := List.range (2 * n + 3)) fun c _ => by rw [valK_len]; exact h8
    rw [List.length_range] at this
    show (endsK n seed i).length ≤ 100000
    unfold endsK
    omega⟩
  simp only [putO_same, putO_put, asIns_i]
  tm_at "go"
  rw [(s5 .non .non .non .non .non).1, (s5 _ _ _ _ _).2]
  tm_at "go"
  rw [insOf_put, asO_s]
  refine ⟨List.mem_singleton.mpr rfl, ?_⟩
  rw [show ∀ a b c d e : D, lk (["hasher", "kind", "seed", "depth", "rows"] : List Str) [a, b, c, d, e] "hasher" = some a from fun _ _ _ _ _ => rfl, asO_s]
  rw [asO_s]
  refine ⟨List.mem_singleton.mpr rfl, ?_⟩
  rw [show ∀ a b c d e : D, lk (["hasher", "kind", "seed", "depth", "rows"] : List Str) [a, b, c, d, e] "rows" = some e from fun _ _ _ _ _ => rfl, asO_s]
  refine ⟨_, keyR n seed dp, n, rfl, .inr rfl, sz, h1, h8, ?_⟩
  tm_at "go"
  simp only [putO_same, putO_put, asIns_i]
  tm_at "go"
  rw [(s6 .non .non .non .non .non .non).1, (s6 _ _ _ _ _ _).2]
  tm_at "go"
  rw [insOf_put, asO_s]
  refine ⟨List.mem_singleton.mpr rfl, ?_⟩
  rw [show ∀ a b c d e f : D, lk (["hasher", "kind", "seed", "depth", "rows", "root"] : List Str) [a, b, c, d, e, f] "hasher" = some a from fun _ _ _ _ _ _ => rfl, asO_s]
  rw [asO_s]
  refine ⟨List.mem_singleton.mpr rfl, ?_⟩
  rw [show ∀ a b c d e f : D, lk (["hasher", "kind", "seed", "depth", "rows", "root"] : List Str) [a, b, c, d, e, f] "rows" = some e from fun _ _ _ _ _ _ => rfl, asO_s]
  refine ⟨_, keyR n seed dp, n, rfl, .inr rfl, sz, h1, h8, ?_⟩
  tm_at "go"
  simp only [putO_same, putO_put, asIns_i]
  tm_at "go"
  rw [(s7 .non .non .non .non .non .non .non).1, (s7 _ _ _ _ _ _ _).2]
  exact q
end N

set_option Elab.async false
set_option linter.all false
set_option maxRecDepth 100000
set_option maxHeartbeats 0
namespace N
open PySem PySem.Spec PyProof.Rows L2
local macro_rules | `(tactic| tm_at "nv") => `(tactic| try simp -implicitDefEqProofs only [Int.cast_ofNat_Int, Int.reduceEq, Int.reduceLT, Int.reduceLE, List.length_map, List.length_append, see_l, see_d, see_i, Nat.reduceAdd, Nat.reduceLeDiff, Nat.zero_le, wFn_e, startG_c, startG_n, startG_z, wSeq_e, wSet_e, wC_e, wFor_e, wIt_e, wVar_e, wVarB_e, getSl_z, getSl_s, List.set_cons_zero, List.set_cons_succ, wRet_e, wBin_e, gI_i, gI0_i, gB0_i, gAdd_i, gAdd_t, gAdd_l, gAdd_s, gMul_i, gMul_t, gMul_l, gEq_, gNe_, gIs_n, gIs_b, gIsNot_n, gIsNot_b, isNon_n, isNon_i, isNon_b, isNon_t, isNon_l, isNon_s, wIfS_e, wtOr_e, wtAnd_e, wtNot_e, wTst_e, wNext_e, wNev_e, wCall_e, wCallF_e, wFrz_e, wLst_e, wTup_e, waNil_e, waCons_e, wComp_e, wRng_e, gRng1_i, gRng2_i, gRng3_i, wUn_e, gNeg_i, gTuple_t, gTuple_l, gList_t, gList_l, gList_s, gLen_t, gLen_l, gLen_s, gLen_d, gInt_i, gInt_b, gAbs_i, gMax_i, gMin_i, wipeG, fName_e, wCallU_e, wCallK_e, List.append_nil, List.length_cons, List.length_nil, wSl_e, woNone_e, woSome_e, gSl_t, gSl_l, gIt_t, gIt_l, gIt_s, gIsi_i, gIsi_b, gIsi_t, gIsi_l, gIsi_s, gIsi_n, gIsi_d, wFld_e, wMeth_e, wMake_e, wMakeF_e, wSetF_e, wExt_e, wFz_e, wRev_e, wRaise_e, wTry_e, wBits_e, insOf_ins, lk_kind, lk_size, lk_digest, lk_is_digest, gEnum_t, gEnum_l, gZip_t, gZip_l, mem1, reduceCtorEq, eq_self, wAsg_e, fTup_e, fCons_e, fNil_e, wAnd_e, wOr_e, wNot_e, wIf_e, wPar_e, wAug_e, wApp_e, wSetO_e, wRetO_e, br_t, br_f, shp_int, shp_bl, shp_non, deq_int, gAll_b, gAny_b, gSum_i, wDrop_e, wRetN_e, true_and, and_true, decide_true, decide_false, Bool.not_true, Bool.not_false, isi_NoneType_bool, isi_NoneType_int, isi_NoneType_str, isi_NoneType_tuple, isi_NoneType_list, isi_NoneType_dict, isi_bool_bool, isi_bool_int, isi_bool_str, isi_bool_tuple, isi_bool_list, isi_bool_dict, isi_int_bool, isi_int_int, isi_int_str, isi_int_tuple, isi_int_list, isi_int_dict, isi_str_bool, isi_str_int, isi_str_str, isi_str_tuple, isi_str_list, isi_str_dict, isi_tuple_bool, isi_tuple_int, isi_tuple_str, isi_tuple_tuple, isi_tuple_list, isi_tuple_dict, isi_list_bool, isi_list_int, isi_list_str, isi_list_tuple, isi_list_list, isi_list_dict, isi_dict_bool, isi_dict_int, isi_dict_str, isi_dict_tuple, isi_dict_list, isi_dict_dict, okTy_bool, okTy_int, okTy_str, okTy_tuple, okTy_list, okTy_dict, List.cons_append, List.nil_append, wChn_e, wSetIxO_e, wGet1_e, wGet2_e, wPutO_e, wDnew_e, slV_v, slB_v, slB_l, slB_d, slB_i, slL_l, slD_d, asB_b, asI_i, asR_r, asT_t, asQ_t, asQ_l, asD_d, asK_i, asK_s, asC_c, as2_2, asO_s, asIns_i, fz_l, fz_i, fz_v, fz_n, wKeys_e, wItems_e, wVals_e, exL_hit, asRev_l, asRev_t, wtYes_e])
local macro_rules | `(tactic| tm_at "nw") => `(tactic| (tm_at "nv"; repeat (with_reducible refine sq_i ?_; tm_at "nv")))
local macro_rules | `(tactic| tm_at "nc") => `(tactic| first | exact True.intro | omega | exact mulL (by omega) (by omega) | exact mulR (by omega) (by omega) | exact divOk (by omega) (by omega) | exact shlI (n := 1) (by decide) (by decide) (by omega) (by omega) | (simp only [List.length_append, List.length_map, List.length_cons, List.length_nil, List.length_replicate, List.length_flatten, List.map_replicate, List.sum_replicate_nat, List.length_range, rngL_len, rngC_len, List.cons_append, List.nil_append]; first | done | omega))
local macro_rules | `(tactic| tm_at "ns") => `(tactic| repeat (with_reducible refine And.intro (by first | tm_at "nc" | exact ⟨by tm_at "nc", by tm_at "nc"⟩ | exact ⟨by tm_at "nc", by tm_at "nc", by tm_at "nc"⟩ | exact ⟨by tm_at "nc", by tm_at "nc", by tm_at "nc", by tm_at "nc"⟩) ?_))
local macro_rules | `(tactic| tm_at "go") => `(tactic| (tm_at "nw"; repeat (first | (with_reducible refine And.intro (by first | tm_at "nc" | exact ⟨by tm_at "nc", by tm_at "nc"⟩ | exact ⟨by tm_at "nc", by tm_at "nc", by tm_at "nc"⟩) ?_) | (with_reducible refine sq_i ?_)); tm_at "nw"))
theorem loop_lsum (x1 : Sl) (n : Nat) (h1 : 1 ≤ n) (h8 : n ≤ 8) (Po : Post) (Om : N.Om) : ∀ (os : List Int) (t : Int) (y3 y4 : Sl), 0 ≤ t → t < 2 ^ (8 * n) → (∀ y', Po.nx [.val (.int n), x1, .val (.int (os.foldl (fun t o => (t * 31 + o + 1) % 2 ^ (8 * n)) t)), y', y4] Om) →
    wForL (fName 3) w__law_digest_b1 (iD os) [.val (.int n), x1, .val (.int t), y3, y4] Om Po
  | [], t, y3, y4, _, _, h => h y3
  | o :: r, t, y3, y4, h0, h2, h => by
    have e8 : (8 * (n : Int)).toNat = 8 * n := by omega
    have e : (1 : Int) * 2 ^ (8 * (n : Int)).toNat = 2 ^ (8 * n) := by rw [e8, Int.one_mul]
    have hp : (1 : Int) < 2 ^ (8 * n) := by
      have : (2 : Int) ^ 1 ≤ 2 ^ (8 * n) := ipow_le (by omega)
      omega
    have hp2 : (2 : Int) ^ (8 * n) ≤ 2 ^ 64 := ipow_le (by omega)
    simp only [List.map_cons, wForL]
    tm_at "nw"
    refine ⟨mulL (by omega) (by omega), mulL (by decide) (by decide), shlI (n := 1) (by decide) (by decide) (by omega) (by omega), ?_⟩
    rw [e]
    exact ⟨by omega, loop_lsum x1 n h1 h8 Po Om r _ _ _ (Int.emod_nonneg _ (by omega)) (Int.emod_lt_of_pos _ (by omega)) h⟩
theorem m__law_digest (ds : List D) (Om : N.Om) (Q : D → N.Om → Prop) (R : RX) (hl : ds.length = 2) (h : sp__law_digest ds Om Q R) : wFn 5 w__law_digest ds Om Q R := by
  obtain ⟨n, os, rfl, h1, h8, q⟩ := h
  have hp : (1 : Int) < 2 ^ (8 * n) := by
    have : (2 : Int) ^ 1 ≤ 2 ^ (8 * n) := ipow_le (by omega)
    omega
  unfold w__law_digest
  tm_at "nw"
  refine loop_lsum _ n h1 h8 _ _ os 1 _ _ (by decide) hp fun y' => ?_
  tm_at "nw"
  refine ⟨by omega, ?_⟩
  have tr := tot_rng (2 ^ (8 * n)) hp os
  refine turns_map (fun d => match d with | .int p => .int (tot (2 ^ (8 * n)) os / 2 ^ (8 * ((n : Int) - 1 - p)).toNat % 256) | _ => .non) _ _ (by simp [rngL]; omega) (fun d hd K hK => ?_) ?_
  · obtain ⟨i, hi, rfl⟩ := mem_rngL hd
    tm_at "nw"
    refine ⟨mulL (by decide) (by decide), by omega, ?_⟩
    have := Bits.bitAnd_mask (x := tot (2 ^ (8 * n)) os / 2 ^ (8 * ((n : Int) - 1 - (0 + (i : Int)))).toNat) 8 (Int.ediv_nonneg tr.1 (by exact Int.le_of_lt (Int.pow_pos (by decide))))
    rw [show (2 : Int) ^ 8 - 1 = 255 by decide, show (2 : Int) ^ 8 = 256 by decide] at this
    rw [show List.foldl (fun t o => (t * 31 + o + 1) % 2 ^ (8 * n)) 1 os = tot (2 ^ (8 * n)) os from rfl, this]
    exact hK
  · rw [rngL_map _ (fun i => .int (tot (2 ^ (8 * n)) os / 2 ^ (8 * (n - 1 - i)) % 256)) fun i hi => ?_]
    · rw [List.nil_append, show (n : Int).toNat = n by omega]
      have : oD (dig n os) = .tup ((List.range n).map fun i => .int (tot (2 ^ (8 * n)) os / 2 ^ (8 * (n - 1 - i)) % 256)) := by
        simp [dig, octs, Function.comp_def]
      rw [this] at q
      exact q
    · have : (8 * ((n : Int) - 1 - (0 + (i : Int)))).toNat = 8 * (n - 1 - i) := by omega
      simp only [this]
theorem loop_lcnt (c : Nat) (hc : c ≤ 1048576) (x0 x1 : Sl) (row : List D) (hr : row.length = c) (r0 : List Sl) (Po : Post) (Om : N.Om) (h : Po.nx ([x0, x1, .val (.lst row), .val (.int ((2 ^ dep c : Nat) : Int))] ++ r0) Om) : ∀ (m j : Nat), j + m = dep c →
    wWhN (wTst (wBin gLt (wVarB 3) (wCall gLen (waCons (wVarB 2) waNil)))) w__law_levels_b1 (m + 1) ([x0, x1, .val (.lst row), .val (.int ((2 ^ j : Nat) : Int))] ++ r0) Om Po
  | m, j, hj => by
    have h20 := dep_20 hc
    have hp : 2 ^ j ≤ 2 ^ 20 := Nat.pow_le_pow_right (by decide) (by omega)
    unfold wWhN
    tm_at "go"
    rw [hr]
    cases m with
    | zero =>
      have hj : j = dep c := by omega
      subst hj
      refine br_df (fun z => ?_) h
      have := dep_le c
      omega
    | succ m =>
      have hlt : 2 ^ j < c := dep_lt c j (by omega)
      refine br_dt (by omega) ?_
      have := loop_lcnt c hc x0 x1 row hr r0 Po Om h m (j + 1) (by omega)
      have e : (2 : Int) * ((2 ^ j : Nat) : Int) = ((2 ^ (j + 1) : Nat) : Int) := by rw [Nat.pow_succ]; omega
      tm_at "go"
      rw [e]
      exact this
theorem loop_llev (n : Nat) (h1 : 1 ≤ n) (h8 : n ≤ 8) (x1 x3 : Sl) (Po : Post) (Om : N.Om) : ∀ (d : Nat) (row : List (List Int)) (acc : List D), row.length = 2 ^ d → d ≤ 20 → (∀ r ∈ row, r.length ≤ 100) → acc.length + d ≤ 1000 →
    (∀ x, Po.nx [.val (.int n), x1, x, x3, .own (.lst (acc ++ ((lev (dig n) d row).tail.map lsD))), .no, .no] Om) →
    wWhN (wTst (wBin gGt (wCall gLen (waCons (wVarB 2) waNil)) (wC (.int 1)))) w__law_levels_b2 (d + 1) [.val (.int n), x1, .val (lsD row), x3, .own (.lst acc), .no, .no] Om Po
  | 0, row, acc, hr, _, _, _, h => by
    unfold wWhN
    tm_at "go"
    refine br_df (by simp [hr]) ?_
    simpa [lev] using h (.val (lsD row))
  | d + 1, row, acc, hr, hd, hs, ha, h => by
    have hp : 2 ≤ row.length := by rw [hr, Nat.pow_succ]; have := Nat.pow_pos (n := d) (show 0 < 2 by decide); omega
    have he : row.length % 2 = 0 := by rw [hr]; exact even_pow d
    have hl : row.length ≤ 2 ^ 20 := by rw [hr]; exact Nat.pow_le_pow_right (by decide) (by omega)
    unfold wWhN
    tm_at "go"
    refine br_dt (by omega) ?_
    tm_at "go"
    rw [show ((row.length : Int) / 2).toNat = row.length / 2 by omega, rng_r]
    refine turns_mapA (fun (k : Nat) => D.int (k : Int)) (fun k => oD (dig n (1 :: (row.getD (2 * k) [] ++ row.getD (2 * k + 1) [])))) (List.range (row.length / 2)) [] (by simp; omega) (fun k hk K hK => ?_) ?_
    · have hk := List.mem_range.mp hk
      have a1 : 2 * k < row.length := by omega
      have a2 : 2 * k + 1 < row.length := by omega
      have g1 : (row.map oD)[2 * k]? = some (oD (row.getD (2 * k) [])) := by simp [List.getElem?_eq_getElem a1]
      have g2 : (row.map oD)[2 * k + 1]? = some (oD (row.getD (2 * k + 1) [])) := by simp [List.getElem?_eq_getElem a2]
      have m1 : (row.getD (2 * k) []).length ≤ 100 := by simp [List.getElem?_eq_getElem a1]; exact hs _ (List.getElem_mem a1)
      have m2 : (row.getD (2 * k + 1) []).length ≤ 100 := by simp [List.getElem?_eq_getElem a2]; exact hs _ (List.getElem_mem a2)
      tm_at "go"
      refine gIx_list (j := 2 * k) (by omega) g1 ?_
      tm_at "go"
      refine gIx_list (j := 2 * k + 1) (by omega) g2 ?_
      tm_at "go"
      exact ⟨n, 1 :: (row.getD (2 * k) [] ++ row.getD (2 * k + 1) []), by simp, h1, h8, hK⟩
    · rw [List.nil_append, show ((List.range (row.length / 2)).map fun k => oD (dig n (1 :: (row.getD (2 * k) [] ++ row.getD (2 * k + 1) [])))) = (halve (dig n) row).map oD by rw [halve_range _ _ he, List.map_map]; rfl]
      tm_at "go"
      refine loop_llev n h1 h8 x1 x3 Po Om d (halve (dig n) row) (acc ++ [lsD (halve (dig n) row)]) (by rw [halve_len, hr, Nat.pow_succ]; omega) (by omega) (fun r hr => ?_) (by simp; omega) fun x => ?_
      · obtain ⟨t, rfl⟩ := halve_mem hr
        rw [dig_len]
        omega
      · have := h x
        cases d <;> simpa [lev, List.append_assoc] using this
theorem m__law_levels (ds : List D) (Om : N.Om) (Q : D → N.Om → Prop) (R : RX) (hl : ds.length = 2) (h : sp__law_levels ds Om Q R) : wFn 7 w__law_levels ds Om Q R := by
  obtain ⟨n, ps, rfl, h1, h8, hs, q⟩ := h
  have hs1 := hs.1
  have h20 : dep ps.length ≤ 20 := dep_20 (by omega)
  have hge := dep_le ps.length
  have hp2 : 2 ^ dep ps.length ≤ 1048576 := Nat.pow_le_pow_right (n := 2) (by decide) h20
  unfold w__law_levels
  tm_at "go"
  refine turns_mapA oD (fun p => oD (dig n (0 :: p))) ps [] (by simp; omega) (fun p hp K hK => ?_) ?_
  · have := hs.2 p hp
    tm_at "go"
    exact ⟨n, 0 :: p, by simp, h1, h8, hK⟩
  tm_at "go"
  refine ⟨dep ps.length + 1, ?_⟩
  refine loop_lcnt ps.length (by omega) _ _ (ps.map fun p => oD (dig n (0 :: p))) (by simp) _ _ _ ?_ (dep ps.length) 0 (by omega)
  tm_at "go"
  refine ⟨n, [2], rfl, h1, h8, ?_⟩
  tm_at "go"
  have e2 : (((2 ^ dep ps.length : Nat) : Int) - (ps.length : Int)).toNat = 2 ^ dep ps.length - ps.length := by omega
  rw [e2]
  have e4 : (List.replicate (2 ^ dep ps.length - ps.length) [oD (dig n [2])]).flatten = List.replicate (2 ^ dep ps.length - ps.length) (oD (dig n [2])) := by
    induction (2 ^ dep ps.length - ps.length) with
    | zero => rfl
    | succ k ih => rw [List.replicate_succ, List.flatten_cons, ih]; rfl
  rw [e4]
  have e3 : (ps.map fun p => oD (dig n (0 :: p))) ++ List.replicate (2 ^ dep ps.length - ps.length) (oD (dig n [2])) = (row0 (dig n) ps).map oD := by
    simp [row0, List.map_map, Function.comp_def]
  have hr0 := row0_len (dig n) ps
  rw [e3]
  tm_at "go"
  refine ⟨dep ps.length + 1, ?_⟩
  refine loop_llev n h1 h8 _ _ _ _ (dep ps.length) (row0 (dig n) ps) _ hr0 h20 (fun r hr => ?_) (by simp; omega) fun x => ?_
  · unfold row0 at hr
    rcases List.mem_append.mp hr with hr | hr
    · obtain ⟨p, _, rfl⟩ := List.mem_map.mp hr
      rw [dig_len]; omega
    · rw [(List.mem_replicate.mp hr).2, dig_len]; omega
  · tm_at "go"
    have e5 : lsD (row0 (dig n) ps) :: (lev (dig n) (dep ps.length) (row0 (dig n) ps)).tail.map lsD = (rows (dig n) ps).map lsD := by
      unfold rows
      cases dep ps.length <;> simp [lev]
    rw [e5]
    exact q
end N

set_option Elab.async false
set_option linter.all false
set_option maxRecDepth 100000
set_option maxHeartbeats 0
namespace N
open PySem PySem.Spec PyProof.Rows L2
local macro_rules | `(tactic| tm_at "nv") => `(tactic| try simp -implicitDefEqProofs only [Int.cast_ofNat_Int, Int.reduceEq, Int.reduceLT, Int.reduceLE, List.length_map, List.length_append, see_l, see_d, see_i, Nat.reduceAdd, Nat.reduceLeDiff, Nat.zero_le, wFn_e, startG_c, startG_n, startG_z, wSeq_e, wSet_e, wC_e, wFor_e, wIt_e, wVar_e, wVarB_e, getSl_z, getSl_s, List.set_cons_zero, List.set_cons_succ, wRet_e, wBin_e, gI_i, gI0_i, gB0_i, gAdd_i, gAdd_t, gAdd_l, gAdd_s, gMul_i, gMul_t, gMul_l, gEq_, gNe_, gIs_n, gIs_b, gIsNot_n, gIsNot_b, isNon_n, isNon_i, isNon_b, isNon_t, isNon_l, isNon_s, wIfS_e, wtOr_e, wtAnd_e, wtNot_e, wTst_e, wNext_e, wNev_e, wCall_e, wCallF_e, wFrz_e, wLst_e, wTup_e, waNil_e, waCons_e, wComp_e, wRng_e, gRng1_i, gRng2_i, gRng3_i, wUn_e, gNeg_i, gTuple_t, gTuple_l, gList_t, gList_l, gList_s, gLen_t, gLen_l, gLen_s, gLen_d, gInt_i, gInt_b, gAbs_i, gMax_i, gMin_i, wipeG, fName_e, wCallU_e, wCallK_e, List.append_nil, List.length_cons, List.length_nil, wSl_e, woNone_e, woSome_e, gSl_t, gSl_l, gIt_t, gIt_l, gIt_s, gIsi_i, gIsi_b, gIsi_t, gIsi_l, gIsi_s, gIsi_n, gIsi_d, wFld_e, wMeth_e, wMake_e, wMakeF_e, wSetF_e, wExt_e, wFz_e, wRev_e, wRaise_e, wTry_e, wBits_e, insOf_ins, lk_kind, lk_size, lk_digest, lk_is_digest, gEnum_t, gEnum_l, gZip_t, gZip_l, mem1, reduceCtorEq, eq_self, wAsg_e, fTup_e, fCons_e, fNil_e, wAnd_e, wOr_e, wNot_e, wIf_e, wPar_e, wAug_e, wApp_e, wSetO_e, wRetO_e, br_t, br_f, shp_int, shp_bl, shp_non, deq_int, gAll_b, gAny_b, gSum_i, wDrop_e, wRetN_e, true_and, and_true, decide_true, decide_false, Bool.not_true, Bool.not_false, isi_NoneType_bool, isi_NoneType_int, isi_NoneType_str, isi_NoneType_tuple, isi_NoneType_list, isi_NoneType_dict, isi_bool_bool, isi_bool_int, isi_bool_str, isi_bool_tuple, isi_bool_list, isi_bool_dict, isi_int_bool, isi_int_int, isi_int_str, isi_int_tuple, isi_int_list, isi_int_dict, isi_str_bool, isi_str_int, isi_str_str, isi_str_tuple, isi_str_list, isi_str_dict, isi_tuple_bool, isi_tuple_int, isi_tuple_str, isi_tuple_tuple, isi_tuple_list, isi_tuple_dict, isi_list_bool, isi_list_int, isi_list_str, isi_list_tuple, isi_list_list, isi_list_dict, isi_dict_bool, isi_dict_int, isi_dict_str, isi_dict_tuple, isi_dict_list, isi_dict_dict, okTy_bool, okTy_int, okTy_str, okTy_tuple, okTy_list, okTy_dict, List.cons_append, List.nil_append, wChn_e, wSetIxO_e, wGet1_e, wGet2_e, wPutO_e, wDnew_e, slV_v, slB_v, slB_l, slB_d, slB_i, slL_l, slD_d, asB_b, asI_i, asR_r, asT_t, asQ_t, asQ_l, asD_d, asK_i, asK_s, asC_c, as2_2, asO_s, asIns_i, fz_l, fz_i, fz_v, fz_n, wKeys_e, wItems_e, wVals_e, exL_hit, asRev_l, asRev_t, wtYes_e])
local macro_rules | `(tactic| tm_at "nw") => `(tactic| (tm_at "nv"; repeat (with_reducible refine sq_i ?_; tm_at "nv")))
local macro_rules | `(tactic| tm_at "nc") => `(tactic| first | exact True.intro | omega | exact mulL (by omega) (by omega) | exact mulR (by omega) (by omega) | exact divOk (by omega) (by omega) | exact shlI (n := 1) (by decide) (by decide) (by omega) (by omega) | (simp only [List.length_append, List.length_map, List.length_cons, List.length_nil, List.length_replicate, List.length_flatten, List.map_replicate, List.sum_replicate_nat, List.length_range, rngL_len, rngC_len, List.cons_append, List.nil_append]; first | done | omega))
local macro_rules | `(tactic| tm_at "ns") => `(tactic| repeat (with_reducible refine And.intro (by first | tm_at "nc" | exact ⟨by tm_at "nc", by tm_at "nc"⟩ | exact ⟨by tm_at "nc", by tm_at "nc", by tm_at "nc"⟩ | exact ⟨by tm_at "nc", by tm_at "nc", by tm_at "nc", by tm_at "nc"⟩) ?_))
local macro_rules | `(tactic| tm_at "go") => `(tactic| (tm_at "nw"; repeat (first | (with_reducible refine And.intro (by first | tm_at "nc" | exact ⟨by tm_at "nc", by tm_at "nc"⟩ | exact ⟨by tm_at "nc", by tm_at "nc", by tm_at "nc"⟩) ?_) | (with_reducible refine sq_i ?_)); tm_at "nw"))
theorem m__law_proof (ds : List D) (Om : N.Om) (Q : D → N.Om → Prop) (R : RX) (hl : ds.length = 2) (h : sp__law_proof ds Om Q R) : wFn 3 w__law_proof ds Om Q R := by
  obtain ⟨rs, i, rfl, ⟨h1, h100, hr⟩, q⟩ := h
  unfold w__law_proof
  tm_at "go"
  rw [show ((rs.length : Int) - 1).toNat = rs.length - 1 by omega, rng_r]
  refine turns_mapA (fun (k : Nat) => D.int (k : Int)) (fun h => oD ((rs.getD h []).getD (sib (i / 2 ^ h)) [])) (List.range (rs.length - 1)) [] (by simp; omega) (fun k hk K hK => ?_) ?_
  · have hk := List.mem_range.mp hk
    have hk2 : k < rs.length := by omega
    have gk : rs[k]? = some (rs.getD k []) := by rw [List.getD_eq_getElem?_getD, List.getElem?_eq_getElem hk2]; rfl
    have hs := hr k _ gk (by omega)
    tm_at "go"
    refine gIx_list (j := k) rfl (by rw [List.getElem?_map, gk]; rfl) ?_
    tm_at "go"
    rw [show ((k : Int)).toNat = k by omega, show ((i : Int) / 2 ^ k) = ((i / 2 ^ k : Nat) : Int) by simp, xor1]
    refine gIx_list (j := sib (i / 2 ^ k)) rfl (by rw [List.getElem?_map, List.getElem?_eq_getElem hs]; rfl) ?_
    rw [List.getD_eq_getElem?_getD (l := rs.getD k []), List.getElem?_eq_getElem hs] at hK
    exact hK
  · rw [List.nil_append]
    rw [show osD (prf rs i) = .tup ((List.range (rs.length - 1)).map fun h => oD ((rs.getD h []).getD (sib (i / 2 ^ h)) [])) by rw [prf, osD, List.map_map]; rfl] at q
    exact q
theorem nodI2 (f : List Int → List Int) (i h : Nat) (t o : List Int) : nod f i h t o = if ((i : Int) / 2 ^ h % 2 = 1) then 1 :: (o ++ f t) else 1 :: (f t ++ o) := nodI f i h t o
theorem loop_lpath (n : Nat) (h1 : 1 ≤ n) (h8 : n ≤ 8) (i : Nat) (x2 : Sl) (pr : List (List Int)) (hp : pr.length ≤ 100) (ho : ∀ o ∈ pr, o.length ≤ 100000) (Po : Post) (Om : N.Om) : ∀ (k h : Nat) (t : List Int) (acc : List D) (y5 y6 : Sl), h + k = pr.length → t.length ≤ 1000000 → acc.length + k ≤ 10000 →
    (∀ y5 y6, Po.nx [.val (.int n), .val (.int i), x2, .val (osD pr), .own (.lst (acc ++ (wayG (dig n) i h t (pr.drop h)).map oD)), y5, y6] Om) →
    wForL (fName 5) w__law_path_b1 ((List.range' h k).map fun (i : Nat) => D.int (i : Int)) [.val (.int n), .val (.int i), x2, .val (osD pr), .own (.lst (acc ++ [oD t])), y5, y6] Om Po
  | 0, h, t, acc, y5, y6, e, _, _, hq => by
    refine wForL_n ?_
    have := hq y5 y6
    rw [List.drop_of_length_le (by omega)] at this
    exact this
  | k + 1, h, t, acc, y5, y6, e, ht, ha, hq => by
    have hh : h < pr.length := by omega
    have gh : pr[h]? = some pr[h] := List.getElem?_eq_getElem hh
    have ol := ho pr[h] (List.getElem_mem hh)
    have ed : pr.drop h = pr[h] :: pr.drop (h + 1) := List.drop_eq_getElem_cons hh
    have dl := dig_len n t
    have ih := fun tt e => loop_lpath n h1 h8 i x2 pr hp ho Po Om k (h + 1) tt (acc ++ [oD t]) (.val (.int (h : Int))) (.val (oD (dig n t))) (by omega) e (by simp; omega)
    rw [rng_from]
    refine wForL_c ?_
    tm_at "go"
    refine gIx_m1 (d := oD t) (by simp) ?_
    refine ⟨n, t, rfl, h1, h8, ?_⟩
    tm_at "go"
    have e1 : ((h : Int)).toNat = h := by omega
    rw [e1, bit1 (Int.ediv_nonneg (by omega) (by exact Int.le_of_lt (Int.pow_pos (by decide))))]
    have hq' : ∀ tt, tt = nod (dig n) i h t pr[h] → ∀ y5 y6, Po.nx [.val (.int n), .val (.int i), x2, .val (osD pr), .own (.lst (acc ++ [oD t] ++ (wayG (dig n) i (h + 1) tt (pr.drop (h + 1))).map oD)), y5, y6] Om := fun tt e y5 y6 => by
      subst e
      have := hq y5 y6
      rw [ed] at this
      rw [List.append_assoc]
      exact this
    refine br_d (fun c => ?_) fun c => ?_
    · tm_at "go"
      refine gIx_tup (j := h) rfl (by rw [List.getElem?_map, gh]; rfl) ?_
      tm_at "go"
      have := ih (1 :: (pr[h] ++ dig n t)) (by simp; omega) (hq' _ (by rw [nodI2, if_pos c]))
      rw [show oD (1 :: (pr[h] ++ dig n t)) = .tup (D.int 1 :: (iD pr[h] ++ iD (dig n t))) by simp] at this
      exact this
    · tm_at "go"
      refine gIx_tup (j := h) rfl (by rw [List.getElem?_map, gh]; rfl) ?_
      tm_at "go"
      have := ih (1 :: (dig n t ++ pr[h])) (by simp; omega) (hq' _ (by rw [nodI2, if_neg c]))
      rw [show oD (1 :: (dig n t ++ pr[h])) = .tup (D.int 1 :: (iD (dig n t) ++ iD pr[h])) by simp] at this
      exact this
theorem m__law_path (ds : List D) (Om : N.Om) (Q : D → N.Om → Prop) (R : RX) (hl : ds.length = 4) (h : sp__law_path ds Om Q R) : wFn 7 w__law_path ds Om Q R := by
  obtain ⟨n, i, p, pr, rfl, h1, h8, hp, hpr, ho, q⟩ := h
  unfold w__law_path
  tm_at "go"
  rw [rng_nat, show ((pr.length : Int)).toNat = pr.length by omega]
  refine loop_lpath n h1 h8 i _ pr hpr ho _ _ pr.length 0 (0 :: p) [] _ _ (by omega) (by simp; omega) (by simp; omega) fun y5 y6 => ?_
  tm_at "go"
  exact q
theorem m__law_fits (ds : List D) (Om : N.Om) (Q : D → N.Om → Prop) (R : RX) (hl : ds.length = 6) (h : sp__law_fits ds Om Q R) : wFn 6 w__law_fits ds Om Q R := by
  obtain ⟨n, c, i, rs, p, pr, rfl, h1, h8, hi, hp, ho, hrs, hlast, q⟩ := h
  unfold w__law_fits
  tm_at "go"
  refine br_if (fun z => ?_) fun z => ?_
  · have z : ¬ pr.length + 1 = rs.length := by simp at z; omega
    rw [decide_eq_false z, Bool.false_and] at q
    exact q
  have z : pr.length + 1 = rs.length := by simp at z; omega
  rw [decide_eq_true z, Bool.true_and] at q
  refine br_df (by omega) (br_df (by omega) ?_)
  tm_at "go"
  refine ⟨n, i, p, pr, rfl, h1, h8, hp, by omega, ho, ?_⟩
  refine gIx_m1 (d := oD ((way (dig n) i p pr).getLastD [])) (by rw [List.getLast?_map, way_last]; rfl) ?_
  refine ⟨n, _, rfl, h1, h8, ?_⟩
  refine gIx_m1 (d := lsD [topR rs]) (by rw [List.getLast?_map, hlast]; rfl) (gIx_l0 ?_)
  refine ⟨shp_tints _, shp_tints _, ?_⟩
  rw [deq_tints]
  exact q
theorem loop_lfig (x0 x1 x2 x5 x6 : Sl) (Po : Post) (Om : N.Om) : ∀ (os : List Int) (acc : List Int) (y4 : Sl), Oct os → acc.length + 2 * os.length ≤ 1000 → (∀ y4, Po.nx [x0, x1, x2, .val (.lst (iD (acc ++ fig2 os))), y4, x5, x6] Om) →
    wForL (fName 4) w__law_figures_b1 (iD os) [x0, x1, x2, .val (.lst (iD acc)), y4, x5, x6] Om Po
  | [], acc, y4, _, _, h => by
    refine wForL_n ?_
    have := h y4
    simpa [fig2] using this
  | o :: r, acc, y4, ho, hl, h => by
    rw [List.length_cons] at hl
    have o1 := ho o List.mem_cons_self
    have := loop_lfig x0 x1 x2 x5 x6 Po Om r (acc ++ [o / 16, o % 16]) (.val (.int o)) (fun x hx => ho x (List.mem_cons_of_mem _ hx)) (by simp; omega) (fun y4 => by
      have := h y4
      simpa [fig2, List.append_assoc] using this)
    refine wForL_c ?_
    tm_at "go"
    rw [bit15 o1.1]
    rw [iD_app] at this
    exact this
theorem p_hi {p : Nat} (h : p < 65536) : (p : Int) / 2 ^ (8 : Int).toNat = (p : Int) / 256 % 256 := by
  show (p : Int) / 256 = _
  omega
theorem m__law_figures (ds : List D) (Om : N.Om) (Q : D → N.Om → Prop) (R : RX) (hl : ds.length = 3) (h : sp__law_figures ds Om Q R) : wFn 7 w__law_figures ds Om Q R := by
  obtain ⟨n, p, os, rfl, h1, h8, hp, ho, q⟩ := h
  have ml := dig_len n (mark p os)
  have f2 := fig2_fig (dig_oct n (mark p os))
  have rr := rst_rng f2
  rw [fig2_len, ml] at rr
  unfold w__law_figures
  tm_at "go"
  rw [p_hi hp, bit255 (by omega)]
  refine ⟨n, mark p os, by simp [mark, p2], h1, h8, ?_⟩
  tm_at "go"
  refine loop_lfig _ _ _ _ _ _ _ (dig n (mark p os)) [] _ (dig_oct _ _) (by rw [ml]; simp; omega) fun y4 => ?_
  tm_at "go"
  refine turns_mapA D.int (fun f => .int (15 - f)) (fig2 (dig n (mark p os))) [] (by rw [fig2_len, ml]; simp; omega) (fun f hf K hK => ?_) ?_
  · tm_at "go"
    exact hK
  rw [List.nil_append, show ((fig2 (dig n (mark p os))).map fun f => D.int (15 - f)) = ((fig2 (dig n (mark p os))).map fun f => 15 - f).map D.int by rw [List.map_map]; rfl]
  tm_at "go"
  rw [show (List.map (fun f => 15 - f) (fig2 (dig n (mark p os)))).sum = rst (fig2 (dig n (mark p os))) from rfl, bit15 rr.1, bit15 (Int.ediv_nonneg rr.1 (by decide)), fig2_len, ml]
  refine ⟨by omega, ?_⟩
  rw [show D.lst (iD (figs n p os)) = .lst (iD (fig2 (dig n (mark p os))) ++ iD [rst (fig2 (dig n (mark p os))) / 256, rst (fig2 (dig n (mark p os))) / 16 % 16, rst (fig2 (dig n (mark p os))) % 16]) by simp [figs]] at q
  exact q
theorem loop_lled (n p c : Nat) (h1 : 1 ≤ n) (h8 : n ≤ 8) (hp : p < 65536) (x3 x5 : Sl) (Po : Post) (Om : N.Om) : ∀ (k h : Nat) (v : List Int) (y6 : Sl), v.length ≤ 1000 → (∀ y6, Po.nx [.val (.int n), .val (.int p), .val (.int c), x3, .val (oD (ldk n p c k h v)), x5, y6] Om) →
    wForL (fName 6) w__law_led_b1 ((List.range' h k).map fun (i : Nat) => D.int (i : Int)) [.val (.int n), .val (.int p), .val (.int c), x3, .val (oD v), x5, y6] Om Po
  | 0, h, v, y6, _, hq => wForL_n (hq y6)
  | k + 1, h, v, y6, hv, hq => by
    rw [rng_from]
    refine wForL_c ?_
    tm_at "go"
    rw [p_hi hp, bit255 (by omega)]
    refine ⟨n, stepT p c h v, by simp [stepT, p2], h1, h8, ?_⟩
    exact loop_lled n p c h1 h8 hp x3 x5 Po Om k (h + 1) _ _ (by rw [dig_len]; omega) hq
theorem m__law_led (ds : List D) (Om : N.Om) (Q : D → N.Om → Prop) (R : RX) (hl : ds.length = 6) (h : sp__law_led ds Om Q R) : wFn 7 w__law_led ds Om Q R := by
  obtain ⟨n, p, c, h, k, v, rfl, h1, h8, hp, hk, hv, q⟩ := h
  unfold w__law_led
  tm_at "go"
  rw [rng_up]
  refine loop_lled n p c h1 h8 hp _ _ _ _ k h v _ hv fun y6 => ?_
  tm_at "go"
  exact q
theorem m__law_value (ds : List D) (Om : N.Om) (Q : D → N.Om → Prop) (R : RX) (hl : ds.length = 5) (h : sp__law_value ds Om Q R) : wFn 5 w__law_value ds Om Q R := by
  obtain ⟨n, p, c, h, seed, rfl, h1, h8, hp, hh, hs, q⟩ := h
  unfold w__law_value
  tm_at "go"
  rw [p_hi hp, bit255 (by omega)]
  refine ⟨n, 4 :: (seed ++ p2 p ++ [(c : Int)]), by simp [p2], h1, h8, ?_⟩
  tm_at "go"
  exact ⟨n, p, c, 0, h, secr n seed p c, by simp [secr], h1, h8, hp, by omega, by rw [secr, dig_len]; omega, q⟩
end N

set_option Elab.async false
set_option linter.all false
set_option maxRecDepth 100000
set_option maxHeartbeats 0
namespace N
open PySem PySem.Spec PyProof.Rows L2
local macro_rules | `(tactic| tm_at "nv") => `(tactic| try simp -implicitDefEqProofs only [Int.cast_ofNat_Int, Int.reduceEq, Int.reduceLT, Int.reduceLE, List.length_map, List.length_append, see_l, see_d, see_i, Nat.reduceAdd, Nat.reduceLeDiff, Nat.zero_le, wFn_e, startG_c, startG_n, startG_z, wSeq_e, wSet_e, wC_e, wFor_e, wIt_e, wVar_e, wVarB_e, getSl_z, getSl_s, List.set_cons_zero, List.set_cons_succ, wRet_e, wBin_e, gI_i, gI0_i, gB0_i, gAdd_i, gAdd_t, gAdd_l, gAdd_s, gMul_i, gMul_t, gMul_l, gEq_, gNe_, gIs_n, gIs_b, gIsNot_n, gIsNot_b, isNon_n, isNon_i, isNon_b, isNon_t, isNon_l, isNon_s, wIfS_e, wtOr_e, wtAnd_e, wtNot_e, wTst_e, wNext_e, wNev_e, wCall_e, wCallF_e, wFrz_e, wLst_e, wTup_e, waNil_e, waCons_e, wComp_e, wRng_e, gRng1_i, gRng2_i, gRng3_i, wUn_e, gNeg_i, gTuple_t, gTuple_l, gList_t, gList_l, gList_s, gLen_t, gLen_l, gLen_s, gLen_d, gInt_i, gInt_b, gAbs_i, gMax_i, gMin_i, wipeG, fName_e, wCallU_e, wCallK_e, List.append_nil, List.length_cons, List.length_nil, wSl_e, woNone_e, woSome_e, gSl_t, gSl_l, gIt_t, gIt_l, gIt_s, gIsi_i, gIsi_b, gIsi_t, gIsi_l, gIsi_s, gIsi_n, gIsi_d, wFld_e, wMeth_e, wMake_e, wMakeF_e, wSetF_e, wExt_e, wFz_e, wRev_e, wRaise_e, wTry_e, wBits_e, insOf_ins, lk_kind, lk_size, lk_digest, lk_is_digest, gEnum_t, gEnum_l, gZip_t, gZip_l, mem1, reduceCtorEq, eq_self, wAsg_e, fTup_e, fCons_e, fNil_e, wAnd_e, wOr_e, wNot_e, wIf_e, wPar_e, wAug_e, wApp_e, wSetO_e, wRetO_e, br_t, br_f, shp_int, shp_bl, shp_non, deq_int, gAll_b, gAny_b, gSum_i, wDrop_e, wRetN_e, true_and, and_true, decide_true, decide_false, Bool.not_true, Bool.not_false, isi_NoneType_bool, isi_NoneType_int, isi_NoneType_str, isi_NoneType_tuple, isi_NoneType_list, isi_NoneType_dict, isi_bool_bool, isi_bool_int, isi_bool_str, isi_bool_tuple, isi_bool_list, isi_bool_dict, isi_int_bool, isi_int_int, isi_int_str, isi_int_tuple, isi_int_list, isi_int_dict, isi_str_bool, isi_str_int, isi_str_str, isi_str_tuple, isi_str_list, isi_str_dict, isi_tuple_bool, isi_tuple_int, isi_tuple_str, isi_tuple_tuple, isi_tuple_list, isi_tuple_dict, isi_list_bool, isi_list_int, isi_list_str, isi_list_tuple, isi_list_list, isi_list_dict, isi_dict_bool, isi_dict_int, isi_dict_str, isi_dict_tuple, isi_dict_list, isi_dict_dict, okTy_bool, okTy_int, okTy_str, okTy_tuple, okTy_list, okTy_dict, List.cons_append, List.nil_append, wChn_e, wSetIxO_e, wGet1_e, wGet2_e, wPutO_e, wDnew_e, slV_v, slB_v, slB_l, slB_d, slB_i, slL_l, slD_d, asB_b, asI_i, asR_r, asT_t, asQ_t, asQ_l, asD_d, asK_i, asK_s, asC_c, as2_2, asO_s, asIns_i, fz_l, fz_i, fz_v, fz_n, wKeys_e, wItems_e, wVals_e, exL_hit, asRev_l, asRev_t, wtYes_e])
local macro_rules | `(tactic| tm_at "nw") => `(tactic| (tm_at "nv"; repeat (with_reducible refine sq_i ?_; tm_at "nv")))
local macro_rules | `(tactic| tm_at "nc") => `(tactic| first | exact True.intro | omega | exact mulL (by omega) (by omega) | exact mulR (by omega) (by omega) | exact divOk (by omega) (by omega) | exact shlI (n := 1) (by decide) (by decide) (by omega) (by omega) | (simp only [List.length_append, List.length_map, List.length_cons, List.length_nil, List.length_replicate, List.length_flatten, List.map_replicate, List.sum_replicate_nat, List.length_range, rngL_len, rngC_len, List.cons_append, List.nil_append]; first | done | omega))
local macro_rules | `(tactic| tm_at "ns") => `(tactic| repeat (with_reducible refine And.intro (by first | tm_at "nc" | exact ⟨by tm_at "nc", by tm_at "nc"⟩ | exact ⟨by tm_at "nc", by tm_at "nc", by tm_at "nc"⟩ | exact ⟨by tm_at "nc", by tm_at "nc", by tm_at "nc", by tm_at "nc"⟩) ?_))
local macro_rules | `(tactic| tm_at "go") => `(tactic| (tm_at "nw"; repeat (first | (with_reducible refine And.intro (by first | tm_at "nc" | exact ⟨by tm_at "nc", by tm_at "nc"⟩ | exact ⟨by tm_at "nc", by tm_at "nc", by tm_at "nc"⟩) ?_) | (with_reducible refine sq_i ?_)); tm_at "nw"))
theorem endsK_len {n p : Nat} {seed : List Int} (h8 : n ≤ 8) : (endsK n seed p).length ≤ 1000 := by
  have := flatMap_le (b := 8) (f := fun c => valK n seed p c 15) (l := List.range (2 * n + 3)) fun c _ => by rw [valK_len]; exact h8
  rw [List.length_range] at this
  unfold endsK
  omega
theorem keyR_len (n : Nat) (seed : List Int) (dp : Nat) : (keyR n seed dp).length = 2 ^ dp := by simp [keyR]
theorem keyR_sz {n dp : Nat} {seed : List Int} (h8 : n ≤ 8) (hd : dp ≤ 10) : Szs (keyR n seed dp) := ⟨by
  rw [keyR_len]
  have : 2 ^ dp ≤ 2 ^ 10 := Nat.pow_le_pow_right (by decide) hd
  omega, fun p hp => by
    obtain ⟨i, _, rfl⟩ := List.mem_map.mp hp
    have := endsK_len (p := i) (seed := seed) h8
    omega⟩
theorem keyR_get {n dp p : Nat} {seed : List Int} (h : p < 2 ^ dp) : (keyR n seed dp)[p]? = some (endsK n seed p) := by
  rw [keyR, List.getElem?_map, List.getElem?_range h]
  rfl
theorem loop_lends1 (n : Nat) (h1 : 1 ≤ n) (h8 : n ≤ 8) (seed : List Int) (hs : seed.length ≤ 1000) (p : Nat) (hp : p < 65536) (x2 x3 : Sl) (Po : Post) (Om : N.Om) : ∀ (k c : Nat) (acc : List Int) (y6 : Sl), acc.length + 10 * k ≤ 10000 →
    (∀ y6, Po.nx [.val (.int n), .val (oD seed), x2, x3, .val (.int p), .val (oD (acc ++ (List.range' c k).flatMap fun c => valK n seed p c 15)), y6] Om) →
    wForL (fName 6) w__law_ends_b1 ((List.range' c k).map fun (i : Nat) => D.int (i : Int)) [.val (.int n), .val (oD seed), x2, x3, .val (.int p), .val (oD acc), y6] Om Po
  | 0, c, acc, y6, _, h => by
    refine wForL_n ?_
    have := h y6
    simpa using this
  | k + 1, c, acc, y6, hl, h => by
    have vl := valK_len n seed p c 15
    have ih := loop_lends1 n h1 h8 seed hs p hp x2 x3 Po Om k (c + 1) (acc ++ valK n seed p c 15) (.val (.int (c : Int))) (by rw [List.length_append, vl]; omega) (fun y6 => by
      have := h y6
      rw [List.range'_succ, List.flatMap_cons] at this
      rw [List.append_assoc]
      exact this)
    rw [rng_from]
    refine wForL_c ?_
    tm_at "go"
    refine ⟨n, p, c, 15, seed, rfl, h1, h8, hp, by decide, hs, ?_⟩
    tm_at "go"
    rw [show oD (acc ++ valK n seed p c 15) = .tup (iD acc ++ iD (valK n seed p c 15)) by simp] at ih
    exact ih
theorem loop_lends2 (n : Nat) (h1 : 1 ≤ n) (h8 : n ≤ 8) (seed : List Int) (hs : seed.length ≤ 1000) (x2 : Sl) (Po : Post) (Om : N.Om) : ∀ (k p : Nat) (acc : List D) (y4 y5 y6 : Sl), p + k ≤ 1024 → acc.length + k ≤ 10000 →
    (∀ y4 y5 y6, Po.nx [.val (.int n), .val (oD seed), x2, .own (.lst (acc ++ (List.range' p k).map fun p => oD (endsK n seed p))), y4, y5, y6] Om) →
    wForL (fName 4) w__law_ends_b2 ((List.range' p k).map fun (i : Nat) => D.int (i : Int)) [.val (.int n), .val (oD seed), x2, .own (.lst acc), y4, y5, y6] Om Po
  | 0, p, acc, y4, y5, y6, _, _, h => by
    refine wForL_n ?_
    have := h y4 y5 y6
    simpa using this
  | k + 1, p, acc, y4, y5, y6, hp, hl, h => by
    have ih := fun y6 => loop_lends2 n h1 h8 seed hs x2 Po Om k (p + 1) (acc ++ [oD (endsK n seed p)]) (.val (.int (p : Int))) (.val (oD (endsK n seed p))) y6 (by omega) (by simp; omega) (fun y4 y5 y6 => by
      have := h y4 y5 y6
      rw [List.range'_succ, List.map_cons] at this
      rw [List.append_assoc]
      exact this)
    rw [rng_from]
    refine wForL_c ?_
    tm_at "go"
    rw [rng_nat, show (2 * (n : Int) + 3).toNat = 2 * n + 3 by omega]
    refine loop_lends1 n h1 h8 seed hs p (by omega) _ _ _ _ (2 * n + 3) 0 [] _ (by simp; omega) fun y6 => ?_
    tm_at "go"
    rw [← List.range_eq_range']
    exact ih _
theorem m__law_ends (ds : List D) (Om : N.Om) (Q : D → N.Om → Prop) (R : RX) (hl : ds.length = 3) (h : sp__law_ends ds Om Q R) : wFn 7 w__law_ends ds Om Q R := by
  obtain ⟨n, dp, seed, rfl, h1, h8, hd, hs, q⟩ := h
  have p10 := pow_le10 hd
  have hp2 : 2 ^ dp ≤ 2 ^ 10 := Nat.pow_le_pow_right (by decide) hd
  have e2 : ((2 : Int) ^ dp).toNat = 2 ^ dp := by
    have : ((2 ^ dp : Nat) : Int) = 2 ^ dp := by simp
    omega
  unfold w__law_ends
  tm_at "go"
  rw [show ((dp : Int)).toNat = dp by omega, Int.one_mul, e2, rng_nat]
  refine ⟨⟨by omega, by omega⟩, ?_⟩
  refine loop_lends2 n h1 h8 seed hs _ _ _ (2 ^ dp) 0 [] _ _ _ (by omega) (by simp; omega) fun y4 y5 y6 => ?_
  tm_at "go"
  rw [show (keyR n seed dp).map oD = (List.range' 0 (2 ^ dp)).map fun p => oD (endsK n seed p) by rw [keyR, List.map_map, List.range_eq_range']; rfl] at q
  exact q
theorem rowsK_deep {n dp p : Nat} {seed : List Int} (hd : dp ≤ 10) (hp : p < 2 ^ dp) : Deep (rows (dig n) (keyR n seed dp)) p := by
  have kl := keyR_len n seed dp
  have hp2 : 2 ^ dp ≤ 2 ^ 10 := Nat.pow_le_pow_right (by decide) hd
  have h20 : dep (keyR n seed dp).length ≤ 20 := dep_20 (by omega)
  refine ⟨by rw [rows_len]; omega, by rw [rows_len]; omega, fun h r e hh => ?_⟩
  rw [rows_len] at hh
  obtain ⟨a, b⟩ := rows_get e
  rw [b]
  exact sib_lt (div_lt_pow (Nat.lt_of_lt_of_le hp (by rw [← kl]; exact dep_le _)) a) (by omega)
theorem m__law_seal (ds : List D) (Om : N.Om) (Q : D → N.Om → Prop) (R : RX) (hl : ds.length = 5) (h : sp__law_seal ds Om Q R) : wFn 8 w__law_seal ds Om Q R := by
  obtain ⟨n, dp, p, seed, os, rfl, h1, h8, hd, hp, hs, ho, q⟩ := h
  have hp2 : 2 ^ dp ≤ 2 ^ 10 := Nat.pow_le_pow_right (by decide) hd
  have fl := figs_len n p os
  unfold w__law_seal
  tm_at "go"
  refine ⟨n, p, os, rfl, h1, h8, by omega, ho, ?_⟩
  tm_at "go"
  rw [fl]
  rw [rng_r, show (((2 * n + 3 : Nat) : Int)).toNat = 2 * n + 3 by omega]
  have ez : (List.range (2 * n + 3)) = ((List.range (figs n p os).length).zip (figs n p os)).map (·.1) := by rw [List.map_fst_zip (by simp), fl]
  rw [ez, List.map_map]
  refine turns_mapA ((fun i : Nat => D.int (i : Int)) ∘ fun x : Nat × Int => x.1) (fun ch : Nat × Int => oD (valK n seed p ch.1 ch.2.toNat)) ((List.range (figs n p os).length).zip (figs n p os)) [] (by simp [fl]; omega) (fun ch hch K hK => ?_) ?_
  · obtain ⟨k, hk⟩ := List.getElem?_of_mem hch
    obtain ⟨g1, g2⟩ := List.getElem?_zip_eq_some.mp hk
    have hk2 : k < (figs n p os).length := (List.getElem?_eq_some_iff.mp g2).1
    rw [List.getElem?_range hk2] at g1
    have e1 : ch.1 = k := by injection g1 with g1; exact g1.symm
    obtain ⟨f0, f15⟩ := figs_fig h8 ch.2 (List.mem_of_getElem? g2)
    simp only [Function.comp]
    tm_at "go"
    refine gIx_list (j := k) (by rw [e1]) (by rw [List.getElem?_map, g2]; rfl) ?_
    exact ⟨n, p, ch.1, ch.2.toNat, seed, by rw [Int.toNat_of_nonneg f0], h1, h8, by omega, by omega, hs, hK⟩
  rw [List.nil_append, show (((List.range (figs n p os).length).zip (figs n p os)).map fun ch : Nat × Int => oD (valK n seed p ch.1 ch.2.toNat)) = (valsK n seed p os).map oD by rw [valsK, List.map_map]; rfl]
  tm_at "go"
  refine ⟨_, p, rfl, rowsK_deep hd hp, ?_⟩
  tm_at "go"
  exact q
theorem loop_llends (n p : Nat) (h1 : 1 ≤ n) (h8 : n ≤ 8) (hp : p < 65536) (vs : List (List Int)) (pr : D) (hv : ∀ v ∈ vs, v.length = n) (hs : List Int) (hvl : vs.length = hs.length) (hf : ∀ f ∈ hs, Fig f) (x2 : Sl) (Po : Post) (Om : N.Om) : ∀ (zs : List (Nat × Int)) (acc : List Int) (y5 : Sl), (∀ z ∈ zs, hs[z.1]? = some z.2) → acc.length + 10 * zs.length ≤ 10000 →
    (∀ y5, Po.nx [.val (.int n), .val (.tup [.str "seal", .int p, osD vs, pr]), x2, .val (oD (acc ++ zs.flatMap fun ch => ldk n p ch.1 (15 - ch.2.toNat) ch.2.toNat (vs.getD ch.1 []))), .val (.lst (iD hs)), y5] Om) →
    wForL (fName 5) w__law_led_ends_b1 (zs.map fun ch => D.int (ch.1 : Int)) [.val (.int n), .val (.tup [.str "seal", .int p, osD vs, pr]), x2, .val (oD acc), .val (.lst (iD hs)), y5] Om Po
  | [], acc, y5, _, _, h => by
    refine wForL_n ?_
    have := h y5
    simpa using this
  | (c, f) :: r, acc, y5, hz, hl, h => by
    rw [List.length_cons] at hl
    have gz := hz (c, f) List.mem_cons_self
    simp only at gz
    have hc : c < vs.length := by rw [hvl]; exact (List.getElem?_eq_some_iff.mp gz).1
    obtain ⟨f0, f15⟩ := hf f (List.mem_of_getElem? gz)
    obtain ⟨g, rfl⟩ := Int.eq_ofNat_of_zero_le f0
    have hvc : vs[c]? = some (vs.getD c []) := by rw [List.getD_eq_getElem?_getD, List.getElem?_eq_getElem hc]; rfl
    have hvl2 : (vs.getD c []).length = n := hv _ (List.mem_of_getElem? hvc)
    have ll := ldk_len n p c (15 - g) g _ hvl2
    have ih := loop_llends n p h1 h8 hp vs pr hv hs hvl hf x2 Po Om r (acc ++ ldk n p c (15 - g) g (vs.getD c [])) (.val (.int (c : Int))) (fun z hz' => hz z (List.mem_cons_of_mem _ hz')) (by rw [List.length_append, ll]; omega) (fun y5 => by
      have := h y5
      rw [List.flatMap_cons] at this
      rw [List.append_assoc]
      exact this)
    rw [List.map_cons]
    refine wForL_c ?_
    tm_at "go"
    refine gIx_t1 ?_
    refine gIx_list (j := c) rfl (by rw [List.getElem?_map, gz]; rfl) ?_
    refine gIx_t2 ?_
    refine gIx_tup (j := c) rfl (by rw [List.getElem?_map, hvc]; rfl) ?_
    refine ⟨n, p, c, g, 15 - g, vs.getD c [], by simp; omega, h1, h8, hp, by omega, by omega, ?_⟩
    tm_at "go"
    rw [show oD (acc ++ ldk n p c (15 - g) g (vs.getD c [])) = .tup (iD acc ++ iD (ldk n p c (15 - g) g (vs.getD c []))) by simp] at ih
    exact ih
theorem zip_get {α : Type} {hs : List α} {ch : Nat × α} (h : ch ∈ (List.range hs.length).zip hs) : hs[ch.1]? = some ch.2 := by
  obtain ⟨k, hk⟩ := List.getElem?_of_mem h
  obtain ⟨g1, g2⟩ := List.getElem?_zip_eq_some.mp hk
  have hk2 : k < hs.length := (List.getElem?_eq_some_iff.mp g2).1
  rw [List.getElem?_range hk2] at g1
  have e1 : ch.1 = k := by injection g1 with g1; exact g1.symm
  rw [e1]; exact g2
theorem m__law_led_ends (ds : List D) (Om : N.Om) (Q : D → N.Om → Prop) (R : RX) (hl : ds.length = 3) (h : sp__law_led_ends ds Om Q R) : wFn 6 w__law_led_ends ds Om Q R := by
  obtain ⟨n, p, vs, pr, os, rfl, h1, h8, hp, hvl, hv, ho, q⟩ := h
  have fl := figs_len n p os
  unfold w__law_led_ends
  tm_at "go"
  refine gIx_t1 ⟨n, p, os, rfl, h1, h8, hp, ho, ?_⟩
  tm_at "go"
  rw [fl]
  rw [rng_r, show (((2 * n + 3 : Nat) : Int)).toNat = 2 * n + 3 by omega]
  have ez : (List.range (2 * n + 3)) = ((List.range (figs n p os).length).zip (figs n p os)).map (·.1) := by rw [List.map_fst_zip (by simp), fl]
  rw [ez, List.map_map]
  refine loop_llends n p h1 h8 hp vs pr hv (figs n p os) (by rw [hvl, fl]) (figs_fig h8) _ _ _ _ [] _ (fun z hz => zip_get hz) (by simp [fl]; omega) fun y5 => ?_
  tm_at "go"
  rw [endsV] at q
  exact q
end N

set_option Elab.async false
set_option linter.all false
set_option maxRecDepth 100000
set_option maxHeartbeats 0
namespace N
open PySem PySem.Spec PyProof.Rows L2
local macro_rules | `(tactic| tm_at "nv") => `(tactic| try simp -implicitDefEqProofs only [Int.cast_ofNat_Int, Int.reduceEq, Int.reduceLT, Int.reduceLE, List.length_map, List.length_append, see_l, see_d, see_i, Nat.reduceAdd, Nat.reduceLeDiff, Nat.zero_le, wFn_e, startG_c, startG_n, startG_z, wSeq_e, wSet_e, wC_e, wFor_e, wIt_e, wVar_e, wVarB_e, getSl_z, getSl_s, List.set_cons_zero, List.set_cons_succ, wRet_e, wBin_e, gI_i, gI0_i, gB0_i, gAdd_i, gAdd_t, gAdd_l, gAdd_s, gMul_i, gMul_t, gMul_l, gEq_, gNe_, gIs_n, gIs_b, gIsNot_n, gIsNot_b, isNon_n, isNon_i, isNon_b, isNon_t, isNon_l, isNon_s, wIfS_e, wtOr_e, wtAnd_e, wtNot_e, wTst_e, wNext_e, wNev_e, wCall_e, wCallF_e, wFrz_e, wLst_e, wTup_e, waNil_e, waCons_e, wComp_e, wRng_e, gRng1_i, gRng2_i, gRng3_i, wUn_e, gNeg_i, gTuple_t, gTuple_l, gList_t, gList_l, gList_s, gLen_t, gLen_l, gLen_s, gLen_d, gInt_i, gInt_b, gAbs_i, gMax_i, gMin_i, wipeG, fName_e, wCallU_e, wCallK_e, List.append_nil, List.length_cons, List.length_nil, wSl_e, woNone_e, woSome_e, gSl_t, gSl_l, gIt_t, gIt_l, gIt_s, gIsi_i, gIsi_b, gIsi_t, gIsi_l, gIsi_s, gIsi_n, gIsi_d, wFld_e, wMeth_e, wMake_e, wMakeF_e, wSetF_e, wExt_e, wFz_e, wRev_e, wRaise_e, wTry_e, wBits_e, insOf_ins, lk_kind, lk_size, lk_digest, lk_is_digest, gEnum_t, gEnum_l, gZip_t, gZip_l, mem1, reduceCtorEq, eq_self, wAsg_e, fTup_e, fCons_e, fNil_e, wAnd_e, wOr_e, wNot_e, wIf_e, wPar_e, wAug_e, wApp_e, wSetO_e, wRetO_e, br_t, br_f, shp_int, shp_bl, shp_non, deq_int, gAll_b, gAny_b, gSum_i, wDrop_e, wRetN_e, true_and, and_true, decide_true, decide_false, Bool.not_true, Bool.not_false, isi_NoneType_bool, isi_NoneType_int, isi_NoneType_str, isi_NoneType_tuple, isi_NoneType_list, isi_NoneType_dict, isi_bool_bool, isi_bool_int, isi_bool_str, isi_bool_tuple, isi_bool_list, isi_bool_dict, isi_int_bool, isi_int_int, isi_int_str, isi_int_tuple, isi_int_list, isi_int_dict, isi_str_bool, isi_str_int, isi_str_str, isi_str_tuple, isi_str_list, isi_str_dict, isi_tuple_bool, isi_tuple_int, isi_tuple_str, isi_tuple_tuple, isi_tuple_list, isi_tuple_dict, isi_list_bool, isi_list_int, isi_list_str, isi_list_tuple, isi_list_list, isi_list_dict, isi_dict_bool, isi_dict_int, isi_dict_str, isi_dict_tuple, isi_dict_list, isi_dict_dict, okTy_bool, okTy_int, okTy_str, okTy_tuple, okTy_list, okTy_dict, List.cons_append, List.nil_append, wChn_e, wSetIxO_e, wGet1_e, wGet2_e, wPutO_e, wDnew_e, slV_v, slB_v, slB_l, slB_d, slB_i, slL_l, slD_d, asB_b, asI_i, asR_r, asT_t, asQ_t, asQ_l, asD_d, asK_i, asK_s, asC_c, as2_2, asO_s, asIns_i, fz_l, fz_i, fz_v, fz_n, wKeys_e, wItems_e, wVals_e, exL_hit, asRev_l, asRev_t, wtYes_e])
local macro_rules | `(tactic| tm_at "nw") => `(tactic| (tm_at "nv"; repeat (with_reducible refine sq_i ?_; tm_at "nv")))
local macro_rules | `(tactic| tm_at "nc") => `(tactic| first | exact True.intro | omega | exact mulL (by omega) (by omega) | exact mulR (by omega) (by omega) | exact divOk (by omega) (by omega) | exact shlI (n := 1) (by decide) (by decide) (by omega) (by omega) | (simp only [List.length_append, List.length_map, List.length_cons, List.length_nil, List.length_replicate, List.length_flatten, List.map_replicate, List.sum_replicate_nat, List.length_range, rngL_len, rngC_len, List.cons_append, List.nil_append]; first | done | omega))
local macro_rules | `(tactic| tm_at "ns") => `(tactic| repeat (with_reducible refine And.intro (by first | tm_at "nc" | exact ⟨by tm_at "nc", by tm_at "nc"⟩ | exact ⟨by tm_at "nc", by tm_at "nc", by tm_at "nc"⟩ | exact ⟨by tm_at "nc", by tm_at "nc", by tm_at "nc", by tm_at "nc"⟩) ?_))
local macro_rules | `(tactic| tm_at "go") => `(tactic| (tm_at "nw"; repeat (first | (with_reducible refine And.intro (by first | tm_at "nc" | exact ⟨by tm_at "nc", by tm_at "nc"⟩ | exact ⟨by tm_at "nc", by tm_at "nc", by tm_at "nc"⟩) ?_) | (with_reducible refine sq_i ?_)); tm_at "nw"))
theorem m__law_are (ds : List D) (Om : N.Om) (Q : D → N.Om → Prop) (R : RX) (hl : ds.length = 2) (h : sp__law_are ds Om Q R) : wFn 4 w__law_are ds Om Q R := by
  obtain ⟨n, d, rfl, h8, ok, q⟩ := h
  unfold w__law_are
  tm_at "go"
  refine gIsi_pl (okD_pl ok) rfl ?_
  cases d <;> try cases ok
  all_goals try (simp only [tyN]; tm_at "go"; exact q)
  rename_i xs
  obtain ⟨l5, okx⟩ := okD_t ok
  simp only [tyN]
  tm_at "go"
  /- the lengths -/
  have c1 : ∀ (K : List D → N.Om → Prop), K (xs.map fun x => .bl (match x with | .tup ys => decide (ys.length = n) | _ => false)) Om → wTurns (fName 2) wtYes (wAnd (wCall gIsi (waCons (wVarB 2) (waCons (wC (D.ty "tuple")) waNil))) (wBin gEq (wCall gLen (waCons (wVarB 2) waNil)) (wVarB 1))) [.val (.tup xs), .val (.int (n : Int)), .no, .no] xs [] Om K := fun K hK => by
    have := turns_mapA (f := fName 2) (we := (wAnd (wCall gIsi (waCons (wVarB 2) (waCons (wC (D.ty "tuple")) waNil))) (wBin gEq (wCall gLen (waCons (wVarB 2) waNil)) (wVarB 1)))) (G := [.val (.tup xs), .val (.int (n : Int)), .no, .no]) (O := Om) (Q := K) _root_.id (fun x => .bl (match x with | .tup ys => decide (ys.length = n) | _ => false)) xs [] (by simp; omega) (fun x hx K2 hK2 => ?_) (by rw [List.nil_append]; exact hK)
    · rw [List.map_id] at this
      exact this
    · have okx := okx x hx
      tm_at "go"
      refine gIsi_pl (okD_pl okx) rfl ?_
      cases x <;> try cases okx
      all_goals try (simp only [tyN, _root_.id]; tm_at "go"; exact hK2)
      rename_i ys
      simp only [tyN, _root_.id]
      tm_at "go"
      rw [show decide ((ys.length : Int) = (n : Int)) = decide (ys.length = n) from decide_eq_decide.mpr (by omega)]
      exact hK2
  refine c1 _ ?_
  simp only [gAll, gLB, bsL_map']
  refine br_if (fun z => ?_) fun z => ?_
  · have : areB n (.tup xs) = false := by
      simp only [areB]
      have z : ((xs.map fun x => (match x with | .tup ys => decide (ys.length = n) | _ => false)).all _root_.id) = false := by simpa using z
      obtain ⟨x, hx, e⟩ := List.all_eq_false.mp z
      obtain ⟨y, hy, rfl⟩ := List.mem_map.mp hx
      refine List.all_eq_false.mpr ⟨y, hy, fun c => e ?_⟩
      cases y <;> try cases c
      rename_i ys
      simp only [isOcts, Bool.and_eq_true] at c
      exact c.1
    rw [this] at q
    exact q
  have z : ∀ x ∈ xs, ∃ ys, x = .tup ys ∧ ys.length = n := fun x hx => by
    have z : ((xs.map fun x => (match x with | .tup ys => decide (ys.length = n) | _ => false)).all _root_.id) = true := by simpa using z
    have := List.all_eq_true.mp z _ (List.mem_map.mpr ⟨x, hx, rfl⟩)
    cases x <;> try cases this
    rename_i ys
    exact ⟨ys, rfl, by simpa using this⟩
  tm_at "go"
  have c2 : ∀ (K : List D → N.Om → Prop), K (xs.map fun x => .bl (isOcts (some n) x)) Om → wTurns (fName 2) wtYes (wCall gAll (waCons (wFrz (wComp (wIt (wVarB 2)) (fName 3) wtYes (wAnd (wCall gIsi (waCons (wVarB 3) (waCons (wC (.ty "int")) waNil))) (wAnd (wNot (wCall gIsi (waCons (wVarB 3) (waCons (wC (.ty "bool")) waNil)))) (wChn (gLe) (gLe) (wC (.int 0)) (wVarB 3) (wC (.int 255))))) [3])) waNil)) [.val (.tup xs), .val (.int (n : Int)), .no, .no] xs [] Om K := fun K hK => by
    have := turns_mapA (f := fName 2) (we := (wCall gAll (waCons (wFrz (wComp (wIt (wVarB 2)) (fName 3) wtYes (wAnd (wCall gIsi (waCons (wVarB 3) (waCons (wC (.ty "int")) waNil))) (wAnd (wNot (wCall gIsi (waCons (wVarB 3) (waCons (wC (.ty "bool")) waNil)))) (wChn (gLe) (gLe) (wC (.int 0)) (wVarB 3) (wC (.int 255))))) [3])) waNil))) (G := [.val (.tup xs), .val (.int (n : Int)), .no, .no]) (O := Om) (Q := K) _root_.id (fun x => .bl (isOcts (some n) x)) xs [] (by simp; omega) (fun x hx K2 hK2 => ?_) (by rw [List.nil_append]; exact hK)
    · rw [List.map_id] at this
      exact this
    · have okx := okx x hx
      obtain ⟨ys, rfl, hn⟩ := z x hx
      obtain ⟨l6, oky⟩ := okD_t okx
      tm_at "go"
      have t2 := turns_mapA (f := fName 3) (we := (wAnd (wCall gIsi (waCons (wVarB 3) (waCons (wC (.ty "int")) waNil))) (wAnd (wNot (wCall gIsi (waCons (wVarB 3) (waCons (wC (.ty "bool")) waNil)))) (wChn (gLe) (gLe) (wC (.int 0)) (wVarB 3) (wC (.int 255)))))) (G := [.val (.tup xs), .val (.int (n : Int)), .val (.tup ys), .no]) (O := Om) (Q := fun ds O2 => gAll [D.lst ds] fun z => K2 z O2) _root_.id (fun y => .bl (isOct y)) ys [] (by simp; omega) (fun y hy K3 hK3 => ?_) ?_
      · rw [List.map_id] at t2
        exact t2
      · have oky := oky y hy
        tm_at "go"
        refine gIsi_pl (okD_pl oky) rfl ?_
        cases y <;> try cases oky
        all_goals try (simp only [tyN, _root_.id]; tm_at "go"; exact hK3)
        · rename_i i
          simp only [tyN, _root_.id]
          tm_at "go"
          simp only [isOct] at hK3
          refine br_d (fun c => ?_) fun c => ?_
          · rw [decide_eq_true c, Bool.true_and] at hK3
            exact hK3
          · rw [decide_eq_false c, Bool.false_and] at hK3
            exact hK3
      · rw [List.nil_append]
        simp only [gAll, gLB, bsL_map']
        have e : isOcts (some n) (.tup ys) = (ys.map fun y => isOct y).all _root_.id := by
          simp only [isOcts, decide_eq_true hn, Bool.true_and, List.all_map]
          rfl
        rw [e] at hK2
        exact hK2
  refine c2 _ ?_
  simp only [gAll, gLB, bsL_map']
  rw [show areB n (.tup xs) = (xs.map fun x => isOcts (some n) x).all _root_.id by simp only [areB, List.all_map]; rfl] at q
  exact q
theorem m__law_holds (ds : List D) (Om : N.Om) (Q : D → N.Om → Prop) (R : RX) (hl : ds.length = 5) (h : sp__law_holds ds Om Q R) : wFn 5 w__law_holds ds Om Q R := by
  obtain ⟨n, dp, seed, os, d, rfl, h1, h8, hd, ok, ho, q⟩ := h
  have p10 := pow_le10 hd
  have kl := keyR_len n seed dp
  unfold w__law_holds
  tm_at "go"
  refine gIsi_pl (okD_pl ok) rfl ?_
  cases d <;> try cases ok
  all_goals try (simp only [tyN]; tm_at "go"; exact q)
  rename_i xs
  obtain ⟨l44, ok4⟩ := okD_t ok
  simp only [tyN]
  tm_at "go"
  by_cases h4 : xs.length = 4
  · obtain ⟨a, b, c, e, rfl⟩ := four h4
    tm_at "go"
    have oka := ok4 a (by simp)
    have okb := ok4 b (by simp)
    have okc := ok4 c (by simp)
    have oke := ok4 e (by simp)
    refine gIx_t0 ?_
    refine gIsi_pl (okD_pl oka) rfl ?_
    cases a <;> try cases oka
    all_goals try (simp only [tyN]; tm_at "go"; exact q)
    rename_i s
    simp only [tyN]
    tm_at "go"
    refine gIx_t0 ?_
    have oks : PyData.strOk s = true := by simpa [okD] using oka
    refine ⟨shp_str oks, shp_str (by decide +kernel), ?_⟩
    rw [deq_str]
    have eH : holdsB n dp (topR (rows (dig n) (keyR n seed dp))) (.tup [.str s, b, c, e]) os = ((match seal4 (.str s) b c e with
      | some (s, p, vs, _) => decide (s = "seal") && decide (0 ≤ p) && decide (p < 2 ^ dp) && decide (vs.length = 2 * n + 3) && vs.all (isOcts (some n))
      | none => false) && (match seal4 (.str s) b c e with
      | some (_, p, vs, pr) => fitB n (topR (rows (dig n) (keyR n seed dp))) (2 ^ dp) p.toNat (endsV n p.toNat (figs n p.toNat os) (vs.map ocOf)) pr
      | none => false)) := rfl
    rw [eH] at q
    refine br_if (fun z => ?_) fun z => ?_
    · have z : ¬ s = "seal" := by simpa using z
      cases b <;> try exact q
      cases c <;> try exact q
      simp only [seal4, decide_eq_false z, Bool.false_and] at q
      exact q
    have z : s = "seal" := by simpa using z
    subst z
    tm_at "go"
    refine gIx_t1 ?_
    refine gIsi_pl (okD_pl okb) rfl ?_
    cases b <;> try cases okb
    all_goals try (simp only [tyN]; tm_at "go"; exact q)
    · simp only [tyN]
      tm_at "go"
      refine gIx_t1 ?_
      tm_at "go"
      exact q
    rename_i p
    simp only [tyN]
    tm_at "go"
    refine gIx_t1 ?_
    tm_at "go"
    refine gIx_t1 ?_
    tm_at "go"
    rw [show ((dp : Int)).toNat = dp by omega, Int.one_mul]
    refine br_d (fun z1 => ?_) fun z1 => ?_
    case refine_2 =>
      cases c <;> try exact q
      simp only [seal4, decide_eq_false (show ¬ 0 ≤ p by omega), Bool.and_false, Bool.false_and] at q
      exact q
    tm_at "go"
    refine br_if (fun z2 => ?_) fun z2 => ?_
    · have z2 : ¬ p < 2 ^ dp := by simpa using z2
      cases c <;> try exact q
      simp only [seal4, decide_eq_false z2, Bool.and_false, Bool.false_and] at q
      exact q
    have z2 : p < 2 ^ dp := by simpa using z2
    tm_at "go"
    refine gIx_t2 ⟨n, c, rfl, by omega, okc, ?_⟩
    cases c <;> try (simp only [areB]; tm_at "go"; exact q)
    rename_i vs
    simp only [seal4, decide_true, Bool.true_and, decide_eq_true z1, decide_eq_true z2] at q
    refine br_if (fun z3 => ?_) fun z3 => ?_
    · have z3 : vs.all (isOcts (some n)) = false := by simpa [areB] using z3
      rw [z3, Bool.and_false, Bool.false_and] at q
      exact q
    have z3 : vs.all (isOcts (some n)) = true := by simpa [areB] using z3
    rw [z3, Bool.and_true] at q
    refine gIx_t2 ?_
    tm_at "go"
    refine br_if (fun z4 => ?_) fun z4 => ?_
    · rw [decide_eq_false (show ¬ vs.length = 2 * n + 3 by simp at z4; omega), Bool.false_and] at q
      exact q
    have z4 : vs.length = 2 * n + 3 := by simp at z4; omega
    rw [decide_eq_true z4, Bool.true_and] at q
    refine gIx_t3 ⟨n, e, rfl, by omega, oke, ?_⟩
    refine br_if (fun z5 => ?_) fun z5 => ?_
    · have z5 : areB n e = false := by simpa using z5
      have : isPrf n (2 ^ dp) e = false := by
        cases e <;> try rfl
        simp only [areB] at z5
        simp only [isPrf, z5, Bool.and_false]
      unfold fitB at q
      rw [this, Bool.false_and] at q
      exact q
    replace z5 : areB n e = true := by simpa using z5
    obtain ⟨ps, rfl⟩ : ∃ ps, e = .tup ps := by cases e <;> first | exact ⟨_, rfl⟩ | cases z5
    simp only [areB] at z5
    obtain ⟨g, rfl⟩ := Int.eq_ofNat_of_zero_le z1
    rw [show ((g : Int)).toNat = g by omega] at q
    have z2 : g < 2 ^ dp := by exact_mod_cast z2
    have hp2 : 2 ^ dp ≤ 2 ^ 10 := Nat.pow_le_pow_right (by decide) hd
    have ev : ∀ x ∈ vs, x = oD (ocOf x) ∧ Oct (ocOf x) ∧ (ocOf x).length = n := fun x hx => by
      have := isOcts_oc (List.all_eq_true.mp z3 x hx)
      exact ⟨this.1, this.2.1, this.2.2 n rfl⟩
    have ep : ∀ x ∈ ps, x = oD (ocOf x) ∧ Oct (ocOf x) ∧ (ocOf x).length = n := fun x hx => by
      have := isOcts_oc (List.all_eq_true.mp z5 x hx)
      exact ⟨this.1, this.2.1, this.2.2 n rfl⟩
    have evs : vs = (vs.map ocOf).map oD := by
      rw [List.map_map]
      conv => lhs; rw [← List.map_id vs]
      exact List.map_congr_left fun x hx => (ev x hx).1
    have eps : ps = (ps.map ocOf).map oD := by
      rw [List.map_map]
      conv => lhs; rw [← List.map_id ps]
      exact List.map_congr_left fun x hx => (ep x hx).1
    have lv : ∀ v ∈ vs.map ocOf, v.length = n := fun v hv => by
      obtain ⟨x, hx, rfl⟩ := List.mem_map.mp hv
      exact (ev x hx).2.2
    have lp : ∀ v ∈ ps.map ocOf, v.length ≤ 100000 := fun v hv => by
      obtain ⟨x, hx, rfl⟩ := List.mem_map.mp hv
      have := (ep x hx).2.2
      omega
    have ef : fitB n (topR (rows (dig n) (keyR n seed dp))) (2 ^ dp) g (endsV n g (figs n g os) (vs.map ocOf)) (.tup ps) = (decide ((ps.map ocOf).length + 1 = (rows (dig n) (keyR n seed dp)).length) && decide (fold (dig n) g (endsV n g (figs n g os) (vs.map ocOf)) (ps.map ocOf) = topR (rows (dig n) (keyR n seed dp)))) := by
      unfold fitB
      simp only [isPrf, z5, Bool.and_true, osOf]
      rw [rows_len, kl, List.length_map]
      rw [show decide (ps.length = dep (2 ^ dp)) = decide (ps.length + 1 = dep (2 ^ dp) + 1) from decide_eq_decide.mpr (by omega)]
      congr 1
    rw [ef] at q
    tm_at "go"
    refine gIx_t1 ?_
    refine ⟨n, g, vs.map ocOf, .tup ps, os, by rw [osD, ← evs], h1, h8, by omega, by simpa using z4, lv, ho, ?_⟩
    refine gIx_t3 ?_
    have el := endsV_len (p := g) (figs_len n g os) h8 lv (by rw [List.length_map, z4, figs_len])
    refine ⟨n, 2 ^ dp, g, rows (dig n) (keyR n seed dp), _, ps.map ocOf, by rw [osD, ← eps]; simp, h1, h8, z2, by omega, lp, ?_, rows_last _ _, q⟩
    have h20 : dep (keyR n seed dp).length ≤ 20 := dep_20 (by omega)
    rw [rows_len]
    omega
  · refine br_if (fun _ => ?_) fun z => ?_
    · have : holdsB n dp (topR (rows (dig n) (keyR n seed dp))) (.tup xs) os = false := by unfold holdsB formB; rw [sealP_len h4]; rfl
      rw [this] at q
      exact q
    · exfalso
      simp at z
      omega
end N

set_option Elab.async false
set_option linter.all false
set_option maxRecDepth 100000
set_option maxHeartbeats 0
namespace N
open PySem PySem.Spec PyProof.Rows L2
local macro_rules | `(tactic| tm_at "nv") => `(tactic| try simp -implicitDefEqProofs only [Int.cast_ofNat_Int, Int.reduceEq, Int.reduceLT, Int.reduceLE, List.length_map, List.length_append, see_l, see_d, see_i, Nat.reduceAdd, Nat.reduceLeDiff, Nat.zero_le, wFn_e, startG_c, startG_n, startG_z, wSeq_e, wSet_e, wC_e, wFor_e, wIt_e, wVar_e, wVarB_e, getSl_z, getSl_s, List.set_cons_zero, List.set_cons_succ, wRet_e, wBin_e, gI_i, gI0_i, gB0_i, gAdd_i, gAdd_t, gAdd_l, gAdd_s, gMul_i, gMul_t, gMul_l, gEq_, gNe_, gIs_n, gIs_b, gIsNot_n, gIsNot_b, isNon_n, isNon_i, isNon_b, isNon_t, isNon_l, isNon_s, wIfS_e, wtOr_e, wtAnd_e, wtNot_e, wTst_e, wNext_e, wNev_e, wCall_e, wCallF_e, wFrz_e, wLst_e, wTup_e, waNil_e, waCons_e, wComp_e, wRng_e, gRng1_i, gRng2_i, gRng3_i, wUn_e, gNeg_i, gTuple_t, gTuple_l, gList_t, gList_l, gList_s, gLen_t, gLen_l, gLen_s, gLen_d, gInt_i, gInt_b, gAbs_i, gMax_i, gMin_i, wipeG, fName_e, wCallU_e, wCallK_e, List.append_nil, List.length_cons, List.length_nil, wSl_e, woNone_e, woSome_e, gSl_t, gSl_l, gIt_t, gIt_l, gIt_s, gIsi_i, gIsi_b, gIsi_t, gIsi_l, gIsi_s, gIsi_n, gIsi_d, wFld_e, wMeth_e, wMake_e, wMakeF_e, wSetF_e, wExt_e, wFz_e, wRev_e, wRaise_e, wTry_e, wBits_e, insOf_ins, lk_kind, lk_size, lk_digest, lk_is_digest, gEnum_t, gEnum_l, gZip_t, gZip_l, mem1, reduceCtorEq, eq_self, wAsg_e, fTup_e, fCons_e, fNil_e, wAnd_e, wOr_e, wNot_e, wIf_e, wPar_e, wAug_e, wApp_e, wSetO_e, wRetO_e, br_t, br_f, shp_int, shp_bl, shp_non, deq_int, gAll_b, gAny_b, gSum_i, wDrop_e, wRetN_e, true_and, and_true, decide_true, decide_false, Bool.not_true, Bool.not_false, isi_NoneType_bool, isi_NoneType_int, isi_NoneType_str, isi_NoneType_tuple, isi_NoneType_list, isi_NoneType_dict, isi_bool_bool, isi_bool_int, isi_bool_str, isi_bool_tuple, isi_bool_list, isi_bool_dict, isi_int_bool, isi_int_int, isi_int_str, isi_int_tuple, isi_int_list, isi_int_dict, isi_str_bool, isi_str_int, isi_str_str, isi_str_tuple, isi_str_list, isi_str_dict, isi_tuple_bool, isi_tuple_int, isi_tuple_str, isi_tuple_tuple, isi_tuple_list, isi_tuple_dict, isi_list_bool, isi_list_int, isi_list_str, isi_list_tuple, isi_list_list, isi_list_dict, isi_dict_bool, isi_dict_int, isi_dict_str, isi_dict_tuple, isi_dict_list, isi_dict_dict, okTy_bool, okTy_int, okTy_str, okTy_tuple, okTy_list, okTy_dict, List.cons_append, List.nil_append, wChn_e, wSetIxO_e, wGet1_e, wGet2_e, wPutO_e, wDnew_e, slV_v, slB_v, slB_l, slB_d, slB_i, slL_l, slD_d, asB_b, asI_i, asR_r, asT_t, asQ_t, asQ_l, asD_d, asK_i, asK_s, asC_c, as2_2, asO_s, asIns_i, fz_l, fz_i, fz_v, fz_n, wKeys_e, wItems_e, wVals_e, exL_hit, asRev_l, asRev_t, wtYes_e])
local macro_rules | `(tactic| tm_at "nw") => `(tactic| (tm_at "nv"; repeat (with_reducible refine sq_i ?_; tm_at "nv")))
local macro_rules | `(tactic| tm_at "nc") => `(tactic| first | exact True.intro | omega | exact mulL (by omega) (by omega) | exact mulR (by omega) (by omega) | exact divOk (by omega) (by omega) | exact shlI (n := 1) (by decide) (by decide) (by omega) (by omega) | (simp only [List.length_append, List.length_map, List.length_cons, List.length_nil, List.length_replicate, List.length_flatten, List.map_replicate, List.sum_replicate_nat, List.length_range, rngL_len, rngC_len, List.cons_append, List.nil_append]; first | done | omega))
local macro_rules | `(tactic| tm_at "ns") => `(tactic| repeat (with_reducible refine And.intro (by first | tm_at "nc" | exact ⟨by tm_at "nc", by tm_at "nc"⟩ | exact ⟨by tm_at "nc", by tm_at "nc", by tm_at "nc"⟩ | exact ⟨by tm_at "nc", by tm_at "nc", by tm_at "nc", by tm_at "nc"⟩) ?_))
local macro_rules | `(tactic| tm_at "go") => `(tactic| (tm_at "nw"; repeat (first | (with_reducible refine And.intro (by first | tm_at "nc" | exact ⟨by tm_at "nc", by tm_at "nc"⟩ | exact ⟨by tm_at "nc", by tm_at "nc", by tm_at "nc"⟩) ?_) | (with_reducible refine sq_i ?_)); tm_at "nw"))
/-! promises of the letters' defs -/
abbrev letD (au : List Int) (k : Nat) (bf bd : List Int) (sl : D) : D := .tup [.str "letter", oD au, .int (k : Int), oD bf, oD bd, sl]
def ltx (au : List Int) (k : Nat) (bf bd : List Int) : List Int := 8 :: (au ++ p2 k ++ bf ++ bd)
structure Lt where
  au : List Int
  k : Nat
  bf : List Int
  bd : List Int
  sl : D
def Lt.d (l : Lt) : D := letD l.au l.k l.bf l.bd l.sl
def Lt.tx (l : Lt) : List Int := ltx l.au l.k l.bf l.bd
def Lt.ok (l : Lt) : Prop := l.k < 65536 ∧ l.au.length ≤ 1000 ∧ l.bf.length ≤ 1000 ∧ l.bd.length ≤ 1000
def zer (n : Nat) : List Int := List.replicate n 0
def headL (n : Nat) (ls : List Lt) : List Int := match ls.getLast? with
  | some l => dig n l.tx
  | none => zer n
abbrev topK (n : Nat) (seed : List Int) (dp : Nat) : List Int := topR (rows (dig n) (keyR n seed dp))
/-- the letter behind a row -/
def nextL (n : Nat) (seed : List Int) (dp : Nat) (ls : List Lt) (bd : List Int) : Lt := ⟨topK n seed dp, ls.length, headL n ls, bd, sealD n seed dp ls.length (ltx (topK n seed dp) ls.length (headL n ls) bd)⟩
def let6 : D → D → D → D → D → D → Option (Str × D × Int × D × D × D)
  | .str s, a, .int k, b, o, sl => some (s, a, k, b, o, sl)
  | _, _, _, _, _, _ => none
def letL : List D → Option (Str × D × Int × D × D × D)
  | [s, a, k, b, o, sl] => let6 s a k b o sl
  | _ => none
def letP : D → Option (Str × D × Int × D × D × D)
  | .tup xs => letL xs
  | _ => none
def lformB (n : Nat) (d : D) : Bool := match letP d with
  | some (s, a, k, b, o, _) => decide (s = "letter") && isOcts (some n) a && decide (0 ≤ k) && decide (k ≤ 65535) && (decide (k ≠ 0) || deq b (oD (zer n))) && isOcts (some n) b && isOcts none o
  | none => false
/-- looks the seal's place like the letter's -/
def sealAt (k : Int) : D → Bool
  | .tup [_, .int p, _, _] => decide (p = k)
  | _ => false
def letB (n dp : Nat) (d : D) : Bool := lformB n d && (match letP d with
  | some (_, a, k, b, o, sl) => sealAt k sl && holdsB n dp (ocOf a) sl (ltx (ocOf a) k.toNat (ocOf b) (ocOf o))
  | none => false)
def txD (d : D) : List Int := match letP d with
  | some (_, a, k, b, o, _) => ltx (ocOf a) k.toNat (ocOf b) (ocOf o)
  | none => []
def partsB (d : D) (au : List Int) (k : Nat) (bf : List Int) : Bool := match letP d with
  | some (_, a, k', b, _, _) => decide (ocOf a = au) && decide (k' = (k : Int)) && decide (ocOf b = bf)
  | none => false
def rowGo (n dp : Nat) (au : List Int) : Nat → List Int → List D → Bool
  | _, _, [] => true
  | k, bf, x :: r => letB n dp x && (partsB x au k bf && rowGo n dp au (k + 1) (dig n (txD x)) r)
def rowB (n dp : Nat) (au : List Int) : D → Bool
  | .tup xs => rowGo n dp au 0 (zer n) xs
  | _ => false
def sp_letter_text : DSp := fun ds Om Q _ => ∃ l : Lt, ds = [l.d] ∧ l.ok ∧ Q (oD l.tx) Om
def sp_letter_digest : DSp := fun ds Om Q _ => ∃ (n : Nat) (l : Lt), ds = [kindD n, l.d] ∧ 1 ≤ n ∧ n ≤ 8 ∧ l.ok ∧ Q (oD (dig n l.tx)) Om
def sp_head_of : DSp := fun ds Om Q _ => ∃ (n : Nat) (ls : List Lt), ds = [kindD n, .tup (ls.map Lt.d)] ∧ 1 ≤ n ∧ n ≤ 8 ∧ (∀ l ∈ ls, l.ok) ∧ shp (.tup (ls.map Lt.d)) = true ∧ Q (oD (headL n ls)) Om
def sealOk (dp : Nat) (pl o : D) : Bool := (match pl with | .int p => decide (0 ≤ p) && decide (p < 2 ^ dp) | _ => false) && isOcts none o
def sp_Key_seal : DSp := fun ds Om Q R => ∃ (n dp : Nat) (seed : List Int) (pl o : D), ds = [keyI n seed dp, pl, o] ∧ 1 ≤ n ∧ n ≤ 8 ∧ dp ≤ 10 ∧ seed.length ≤ 1000 ∧ okD pl = true ∧ okD o = true ∧ (sealOk dp pl o = false → R ⟨6, [], []⟩ Om) ∧
  ∀ (p : Nat) (os : List Int), pl = .int (p : Int) → o = oD os → p < 2 ^ dp → Oct os → Q (sealD n seed dp p os) Om
def sp_written : DSp := fun ds Om Q R => ∃ (n dp : Nat) (seed : List Int) (ls : List Lt) (b : D), ds = [keyI n seed dp, .tup (ls.map Lt.d), b] ∧ 1 ≤ n ∧ n ≤ 8 ∧ dp ≤ 10 ∧ seed.length ≤ 1000 ∧ okD b = true ∧ (∀ l ∈ ls, l.ok) ∧ shp (.tup (ls.map Lt.d)) = true ∧ ls.length ≤ 1000 ∧ (isOcts none b = false → R ⟨6, [], []⟩ Om) ∧
  ∀ bd : List Int, b = oD bd → Oct bd → bd.length ≤ 1000 ∧ ls.length < 2 ^ dp ∧ Q (nextL n seed dp ls bd).d Om
def sp_has_formL : DSp := fun ds Om Q _ => ∃ (n : Nat) (d : D), ds = [hsh n, d] ∧ 1 ≤ n ∧ n ≤ 8 ∧ okD d = true ∧ shp d = true ∧ Q (.bl (lformB n d)) Om
def sp_holds_letter : DSp := fun ds Om Q _ => ∃ (n dp : Nat) (d : D), ds = [kindD n, .int dp, d] ∧ 1 ≤ n ∧ n ≤ 8 ∧ dp ≤ 10 ∧ okD d = true ∧ shp d = true ∧ (∀ s a k b o sl, letP d = some (s, a, k, b, o, sl) → (ocOf o).length ≤ 1000) ∧ Q (.bl (letB n dp d)) Om
def sp_is_row : DSp := fun ds Om Q _ => ∃ (n dp : Nat) (au : List Int) (d : D), ds = [kindD n, .int dp, oD au, d] ∧ 1 ≤ n ∧ n ≤ 8 ∧ dp ≤ 10 ∧ okD d = true ∧ shp d = true ∧ (∀ xs, d = .tup xs → ∀ x ∈ xs, ∀ s a k b o sl, letP x = some (s, a, k, b, o, sl) → (ocOf o).length ≤ 1000) ∧ Q (.bl (rowB n dp au d)) Om
/-! the law's own -/
def sp__law_text : DSp := fun ds Om Q _ => ∃ (au bf bd : List Int) (k : Nat), ds = [oD au, .int (k : Int), oD bf, oD bd] ∧ k < 65536 ∧ au.length ≤ 1000 ∧ bf.length ≤ 1000 ∧ bd.length ≤ 1000 ∧ Q (oD (ltx au k bf bd)) Om
def sp__law_letter : DSp := fun ds Om Q _ => ∃ (n dp : Nat) (seed bd : List Int) (ls : List Lt), ds = [.int n, oD seed, rowsD (rows (dig n) (keyR n seed dp)), .tup (ls.map Lt.d), oD bd] ∧ 1 ≤ n ∧ n ≤ 8 ∧ dp ≤ 10 ∧ seed.length ≤ 1000 ∧ (∀ l ∈ ls, l.ok) ∧ ls.length < 2 ^ dp ∧ bd.length ≤ 1000 ∧ Q (nextL n seed dp ls bd).d Om
def inOwn (n dp : Nat) (s1 s2 : List Int) (d : D) : Prop := ∀ s a k b o sl, letP d = some (s, a, k, b, o, sl) → (ocOf o).length ≤ 1000 ∧ (isOcts (some n) a = true → ocOf a = topK n s1 dp ∨ ocOf a = topK n s2 dp)
def sp__law_is_letter : DSp := fun ds Om Q _ => ∃ (n dp : Nat) (s1 s2 : List Int) (d : D), ds = [.int n, .lst [rowsD (rows (dig n) (keyR n s1 dp)), rowsD (rows (dig n) (keyR n s2 dp))], .int dp, d] ∧ 1 ≤ n ∧ n ≤ 8 ∧ dp ≤ 10 ∧ okD d = true ∧ shp d = true ∧ inOwn n dp s1 s2 d ∧ Q (.bl (letB n dp d)) Om
end N

set_option Elab.async false
set_option linter.all false
set_option maxRecDepth 100000
set_option maxHeartbeats 0
/-! NLm: a lambda without parameters, handed to a def that calls it within a try -/
namespace N
open PySem PySem.Spec PyProof.Rows L2 LamX
section
variable {T : Th} {W : Wd} {H : Hp} {p c : Addr} {n : Nat} {ps more : Array Value} {q : Str}
theorem om_tb (ok : WOk T W H) (e : W.Om p = some (.abs (n + 1))) : p = (T.tb n).1 ∧ (∀ b, W.fp p b ↔ b = p) ∧ TabN W.F H p (T.tb n).2 ∧ W.fp p p := by
  obtain ⟨⟨a, b, d⟩, f⟩ := ok.at_ p _ e
  exact ⟨a, b, d, f⟩
/-- the table grows by a new code object -/
theorem Step.tab (ok : WOk T W H) (e : W.Om p = some (.abs (n + 1))) (hP : H p = some (.tbl ps)) (hc : H c = none)
    (ht : TriplesOk (ps ++ more).toList) (ha : ∀ (pos : Pos) (cv : Value), codeAmong pos (ps ++ more).toList = some cv → (∃ c, cv = .ref c ∧ H c = some (CodeO c (T.tb n).2) ∧ ¬ W.F c) ∨ cv = .ref c) :
    Step T W H W (upd (upd H p (.tbl (ps ++ more))) c (CodeO c (T.tb n).2)) := by
  obtain ⟨e1, e2, e3, e4⟩ := om_tb ok e
  have eW : W.Om p ≠ none := by rw [e]; simp
  have Fp : W.F p := ok.sub p ⟨p, eW, e4⟩
  have nFc : ¬ W.F c := nF ok hc
  have ncp : c ≠ p := fun z => by rw [z, hP] at hc; cases hc
  have keep : ∀ b o, H b = some o → b ≠ p → (upd (upd H p (.tbl (ps ++ more))) c (CodeO c (T.tb n).2)) b = some o := fun b o h nb => by
    rw [upd_ne (ne_of_none h hc), upd_ne nb]
    exact h
  have atp : (upd (upd H p (.tbl (ps ++ more))) c (CodeO c (T.tb n).2)) p = some (.tbl (ps ++ more)) := by rw [upd_ne ncp.symm, upd_same]
  have trk : ∀ b, H b ≠ none → (upd (upd H p (.tbl (ps ++ more))) c (CodeO c (T.tb n).2)) b ≠ none := fun b h => trk_upd _ (trk_upd _ h)
  have kp : Kp W.F H W.F (upd (upd H p (.tbl (ps ++ more))) c (CodeO c (T.tb n).2)) := ⟨fun b o h t _ => keep b o h fun z => by rw [z, hP] at h; exact t _ (Option.some.inj h).symm, fun _ z => .inl z, trk⟩
  refine ⟨⟨fun a m ea => ?_, ok.sub, ok.dis, fun b h => trk b (ok.trk b h), fun b q h => ?_⟩, fun b o h t _ => keep b o h fun z => by rw [z, hP] at h; exact t _ (Option.some.inj h).symm, trk, fun _ h => h, fun _ h => .inl h, fun _ h => ⟨h, rfl⟩, fun a b h h' => (h' h).elim⟩
  · obtain ⟨r, f⟩ := ok.at_ a m ea
    by_cases z : a = p
    · subst z
      rw [e] at ea
      cases ea
      refine ⟨⟨e1, e2, _, atp, ht, fun pos cv hcv => ?_⟩, f⟩
      rcases ha pos cv hcv with ⟨c0, z1, z2, z3⟩ | z
      · exact ⟨c0, z1, keep _ _ z2 fun y => z3 (y ▸ Fp), z3⟩
      · exact ⟨c, z, upd_same, nFc⟩
    · refine ⟨MRep.kp kp (fun b hb => ?_) f r, f⟩
      have nb : b ≠ p := fun y => z (ok.dis a p b (by rw [ea]; simp) eW hb (y ▸ e4))
      cases q : H b with
      | none => exact absurd q (ok.trk b (ok.sub b ⟨a, by rw [ea]; simp, hb⟩))
      | some o => exact keep b o q nb
  · by_cases z : b = p
    · rw [z, atp]
      exact fun y => by cases y
    · rw [upd_ne (fun y : b = c => nFc (y ▸ h)), upd_ne z]
      exact ok.code b q h
end
section
variable {X : Cx} {pins : List (Addr × Obj)} {σ : L2.St} {H : Hp} {s : Shared} {T : Th} {W : Wd} {n : Nat} {c p : Addr}
/-- the lambda is made -/
theorem lam_mk {params : Arguments} {body : Expr} {scope : Scope} {pos : Pos} {E Q : Value → Shared → Prop} (I : Inv X pins σ H s) (ok : WOk T W H) (e : W.Om p = some (.abs (n + 1))) (B : TabB X.base X.mg c p) (code : X.env.code = .ref c)
    (name : (T.tb n).2 = X.env.qual ++ "<lambda>") (dflt : defaultsOf params X.env = ([], [])) (cap : ∀ y ∈ scope.names, y.2 = .free → ∃ c, X.env.cells.lookup y.1 = some c)
    (go : ∀ (f c' : Addr) (pm ctv : Value) (H1 : Hp) (s' : Shared), Inv X pins σ H1 s' → Step T W H W H1 →
      s'.heap.get? f = some (PySem.W.kla_obj "<lambda>" (X.env.qual ++ "<lambda>") params body scope (cloFrom X.env.cells scope.names []) pm c' ctv) → H1 f = none → f ∉ frs X.stack → H1 c' = some (CodeO c' (X.env.qual ++ "<lambda>")) → Q (.ref f) s') :
    wpAny (model X.prog X.w) X.A (eval (.Lambda params body scope pos) X.env) Q E s := by
  obtain ⟨_, _, ⟨ps, hP, tr, among⟩, _⟩ := om_tb ok e
  have seen : s.heap.get? p = some { cls := .none, data := .fields ps } := I.hok p _ hP
  have free : ∀ f, s.heap.objs.size ≤ f → f ∉ frs X.stack := by
    intro f hf hm
    cases List.mem_cons.mp (I.stkSub _ hm) with
    | inl z => exact absurd (Nat.lt_of_lt_of_le I.lt (z ▸ hf)) (Nat.lt_irrefl _)
    | inr z => exact I.nofs hf z
  apply PySem.W.kla_eval dflt
  cases look : codeAmong pos ps.toList with
  | some cv =>
    obtain ⟨c', rfl, is, _⟩ := among pos cv look
    apply PySem.W.kla_makeFunctionHit (closure_ok cap) I.ok.glob (I.mod.glob.keeps I.bk) code (B.code.keeps I.bk) seen tr look (B.bm.keeps I.bk)
    intro ctv h' tk old sz
    exact go _ c' _ ctv H _ (I.kept fun b o z => Heap.get?_push_of_some _ (old b o z)) (Step.refl ok) (Heap.get?_push_size _ rfl) (I.hok.fresh sz) (free _ sz) (name ▸ is)
  | none =>
    apply PySem.W.kla_makeFunction (closure_ok cap) I.ok.glob (I.mod.glob.keeps I.bk) code (B.code.keeps I.bk) seen tr look B.gP (B.bm.keeps I.bk)
    intro c' ctv h' tk old ge lt rec_ tab
    obtain ⟨_, oc, vs, t, e2, a1, a2, a3⟩ := rec_
    cases e2
    have none' : H c' = none := I.hok.fresh ge
    have big : s.heap.objs.size ≤ h'.objs.size := Nat.le_trans ge (Nat.le_of_lt lt)
    have J := inv_table (t' := tk) (q := X.env.qual ++ "<lambda>") (more := #[rawInt pos.line, rawInt pos.col, .ref c']) (h' := h'.push (PySem.W.kla_obj "<lambda>" (X.env.qual ++ "<lambda>") params body scope (cloFrom X.env.cells scope.names []) ((X.mg "__name__").getD .none) c' ctv)) I hP
      (fun b o nb z => Heap.get?_push_of_some _ (old b o nb z)) (Heap.get?_push_of_some _ tab) ge ⟨oc, vs, t, Heap.get?_push_of_some _ a1, a2, a3⟩
    have list : (ps ++ #[rawInt pos.line, rawInt pos.col, .ref c']).toList = ps.toList ++ [rawInt pos.line, rawInt pos.col, .ref c'] := by simp
    have st := Step.tab (more := #[rawInt pos.line, rawInt pos.col, .ref c']) ok e hP none' (by rw [list]; exact PySem.TriplesOk_snoc _ _ _ _ tr) (fun p' cv z => by
      rw [list] at z
      exact (among_app _ tr z).imp (among p' cv) _root_.id)
    rw [name] at st
    refine go _ c' _ ctv _ _ J st (Heap.get?_push_size _ rfl) ?_ (free _ big) upd_same
    have ne1 : h'.objs.size ≠ c' := Nat.ne_of_gt lt
    have ne2 : h'.objs.size ≠ p := Nat.ne_of_gt (Nat.lt_of_lt_of_le (Heap.lt_size seen) big)
    rw [upd_ne ne1, upd_ne ne2]
    exact I.hok.fresh big
end
/-! ### the def that calls it within a try -/
/-- what is answered at an exception: the clauses in their order -/
def lmL : List (Nat × List (Nat × Bool) × D) → Exn → Option D
  | [], _ => none
  | (_, tab, d) :: r, x => match tab.lookup x.c with
    | some true => some d
    | some false => lmL r x
    | none => none
/-- the table of code objects is there -/
def hasT (Om : Om) (n : Nat) : Prop := ∃ a, Om a = some (.abs (n + 1))
/-- x(lambda: e): what the def answers where e ends, and at its exceptions -/
def wLam (n : Nat) (l : List (Nat × List (Nat × Bool) × D)) (r : D) (w : WE) : WE := fun G Om Q R => hasT Om n ∧ w G Om (fun _ O => Q r O) (fun x O => match lmL l x with | some d => Q d O | none => False)
/-- a constant -/
def cV : D → V
  | .bl b => .bl b
  | .str x => .str x
  | .int i => .int i
  | _ => .non
def isC : D → Prop
  | .bl _ | .str _ | .int _ | .non => True
  | _ => False
theorem cV_rep {T : Th} {F : Addr → Prop} {H : Hp} : ∀ {d : D}, isC d → Rep T F H d (cV d)
  | .bl _, _ => by simp [Rep, cV]
  | .str _, _ => by simp [Rep, cV]
  | .int _, _ => by simp [Rep, cV]
  | .non, _ => by simp [Rep, cV]
def wch (K : PySem.W.Frag) (T : Th) (cls : Value) (H : Hp) (Q : VK) : List (Nat × List (Nat × Bool) × D) → Prop
  | [] => False
  | (c, _, d) :: r => ∃ b, PySem.W.exmOne K cls (.ref (T.cm c)) = some b ∧ (b = true → Q (cV d) H) ∧ (b = false → wch K T cls H Q r)
theorem wch_ok {K : PySem.W.Frag} {T : Th} {H : Hp} {Q : VK} {x : Exn} {d : D} : ∀ {l : List (Nat × List (Nat × Bool) × D)}, (∀ e ∈ l, ∀ j b, e.2.1.lookup j = some b → PySem.W.exmOne K (.ref (T.cm j)) (.ref (T.cm e.1)) = some b) → lmL l x = some d → Q (cV d) H → wch K T (.ref (T.cm x.c)) H Q l
  | [], _, e, _ => by cases e
  | (c, tab, d') :: r, h, e, q => by
    unfold lmL at e
    cases z : tab.lookup x.c with
    | none => rw [z] at e; cases e
    | some b =>
      rw [z] at e
      refine ⟨b, h _ List.mem_cons_self _ _ z, fun hb => ?_, fun hb => ?_⟩
      · subst hb
        cases e
        exact q
      · subst hb
        exact wch_ok (fun e' he => h e' (List.mem_cons_of_mem _ he)) e q
theorem lmL_c {x : Exn} {d : D} : ∀ {l : List (Nat × List (Nat × Bool) × D)}, (∀ e ∈ l, isC e.2.2) → lmL l x = some d → isC d
  | [], _, e => by cases e
  | (c, tab, d') :: r, h, e => by
    unfold lmL at e
    cases z : tab.lookup x.c with
    | none => rw [z] at e; cases e
    | some b =>
      rw [z] at e
      cases b with
      | true => cases e; exact h _ List.mem_cons_self
      | false => exact lmL_c (fun e' he => h e' (List.mem_cons_of_mem _ he)) e
theorem tabs_nil {K : PySem.W.Frag} {T : Th} : ∀ e ∈ ([] : List (Nat × List (Nat × Bool) × D)), ∀ j b, e.2.1.lookup j = some b → PySem.W.exmOne K (.ref (T.cm j)) (.ref (T.cm e.1)) = some b := fun e h => by cases h
theorem tabs_cons {K : PySem.W.Frag} {T : Th} {c : Nat} {tab : List (Nat × Bool)} {d : D} {l : List (Nat × List (Nat × Bool) × D)} (h : ∀ j b, tab.lookup j = some b → PySem.W.exmOne K (.ref (T.cm j)) (.ref (T.cm c)) = some b)
    (r : ∀ e ∈ l, ∀ j b, e.2.1.lookup j = some b → PySem.W.exmOne K (.ref (T.cm j)) (.ref (T.cm e.1)) = some b) : ∀ e ∈ (c, tab, d) :: l, ∀ j b, e.2.1.lookup j = some b → PySem.W.exmOne K (.ref (T.cm j)) (.ref (T.cm e.1)) = some b := fun e he => by
  rcases List.mem_cons.mp he with rfl | he
  · exact h
  · exact r e he
theorem cs_nil : ∀ e ∈ ([] : List (Nat × List (Nat × Bool) × D)), isC e.2.2 := fun e h => by cases h
theorem cs_cons {c : Nat} {tab : List (Nat × Bool)} {d : D} {l : List (Nat × List (Nat × Bool) × D)} (h : isC d) (r : ∀ e ∈ l, isC e.2.2) : ∀ e ∈ (c, tab, d) :: l, isC e.2.2 := fun e he => by
  rcases List.mem_cons.mp he with rfl | he
  · exact h
  · exact r e he
/-- what such a def does with the lambda it gets -/
def TTl (T : Th) (K : PySem.W.Frag) (l : List (Nat × List (Nat × Bool) × D)) (r : D) : (XK → Hp → VK → Prop) → Hp → VK → Prop := fun tl H Q => tl (fun cls _ H' => wch K T cls H' Q l) H fun _ H' => Q (cV r) H'
/-- a clause: except x: return a constant -/
inductive Cls1 (X : Cx) (T : Th) : List ExceptHandler → List (Nat × List (Nat × Bool) × D) → Prop
  | nil : Cls1 X T [] []
  | cons {x : Str} {c : Nat} {tab : List (Nat × Bool)} {d : D} {e : Expr} {p1 p2 p3 : Pos} {hds : List ExceptHandler} {l : List (Nat × List (Nat × Bool) × D)} (hm : X.mg x = some (.ref (T.cm c))) (hg : Gl X x) (he : ∀ Y : Cx, PE Y e (tC (cV d))) (r : Cls1 X T hds l) (hdb : (x == ("__debug__" : Str)) = false := by decide) :
      Cls1 X T (.ExceptHandler (some (.Name x p1)) none [.Return (some e) p2] p3 :: hds) ((c, tab, d) :: l)
def lsT (T : Th) : List (Nat × List (Nat × Bool) × D) → List (Value × (Addr → Value → Option Addr → TS))
  | [] => []
  | (c, _, d) :: r => (.ref (T.cm c), fun _ _ _ => tRet (tC (cV d))) :: lsT T r
theorem hds_ok {X : Cx} {T : Th} {hds : List ExceptHandler} {l : List (Nat × List (Nat × Bool) × D)} (h : Cls1 X T hds l) : HdsOk X hds (lsT T l) := by
  induction h with
  | nil => exact .nil
  | cons hm hg he r hdb ih => exact .cons ⟨hg, hdb, .inl hm⟩ (fun _ _ _ _ _ _ _ => pss_one (ps_ret (he _))) ih
theorem wMany_ok {K : PySem.W.Frag} {T : Th} {W : WX} {D0 : Ends} {cls : Value} {d : Option Addr} {σ : L2.St} {H : Hp} : ∀ {l : List (Nat × List (Nat × Bool) × D)}, wch K T cls H D0.rt l → wMany K W D0 (lsT T l) cls d σ H
  | [], h => h.elim
  | _ :: r, ⟨b, e, h1, h2⟩ => ⟨b, e, fun hb _ _ => h1 hb, fun hb => wMany_ok (h2 hb)⟩
/-- try: a() / except ..: return .. / .. / return r -/
theorem lam_gives {X : Cx} {T : Th} {Ng : List Str} {x a q : Str} {sg : Scope} {g : Addr} {cdg : Value} {hd : ExceptHandler} {hds : List ExceptHandler} {l : List (Nat × List (Nat × Bool) × D)} {r : D} {e : Expr} {p1 p2 p3 p4 p5 : Pos} {bg : List Stmt}
    (eb : bg = [.Try [.Expr (.Call (.Name a p1) [] [] p2) p3] (hd :: hds) [] [] p4, .Return (some e) p5])
    (h0 : ∀ f : Addr, (L2.start Ng [V.ref f])[0]? = some (some (V.ref f))) (he : ∀ Y : Cx, PE Y e (tC (cV r)))
    (hc : ∀ (s : Shared) (H : Hp), Cls1 (cxOf C8.CX0 X.prog X.w X.K X.mg X.base Ng x sg g cdg X.A X.stack s H C8.E0).nox T (hd :: hds) l) :
    GivesTo X Ng x sg g cdg bg a q (TTl T X.K l r) := by
  subst eb
  intro f c' s H Q tl act code h
  refine ⟨_, pss_cons (ps_try_many (X := (cxOf C8.CX0 X.prog X.w X.K X.mg X.base Ng x sg g cdg X.A X.stack s H C8.E0).nox)
    (tb := fun W D σ H => ∃ E : XK, (∀ cls d σ' H', E cls d H' → W cls d σ' H') ∧ σ[0]? = some (some (.ref f)) ∧ H c' = some (CodeO c' q) ∧ tl E H fun _ H' => D.nx σ H')
    rfl rfl LamX.takes0 (fun W pn xe tk _ => ?_) (hds_ok (hc s H))) (pss_one (ps_ret (he _))), ?_⟩
  · refine ⟨fun pins s' σ H' D I hw => ?_⟩
    obtain ⟨E, hE, i1, i2, i3⟩ := hw
    exact (pss_one (ps_expr (act W pn xe E p1 p2 tk hE))).run pins s' σ H' D I ⟨i1, i2, i3⟩
  · exact ⟨fun cls _ H' => wch X.K T cls H' Q l, fun cls d σ' H' z => wMany_ok (D0 := { nx := _, rt := Q, bk := _, ct := _ }) z, h0 f, code, h⟩
section
variable {PR : Program} {w : World} {K : PySem.W.Frag} {mg : Str → Option Value} {base : Heap}
/-- a def with lambdas: its code object is known -/
theorem fn_okT {x qual : Str} {st : Stmt} {dvs : List V} {kws : List (Str × V)} {f c : Addr} {fd : FuncData} {N ps : List Str} {k : Nat} (F : FunD K x qual (defArgs st) (defBody st) (defScope st) dvs kws f fd) (hc : fd.code = .ref c) (S : FnScope N ps (defScope st)) (T : Th) (ws : WS)
    (body : ∀ (A : Around) (outer : List Env) (s : Shared) (H : Hp) (E : XK) (W : Wd), WOk T W H → Room k (A.deeper (envOfC qual (defScope st) s.heap.objs.size f (.ref c))) →
      Takes (cxOf (L2.CX PR w) PR w K mg base N qual (defScope st) f (.ref c) A outer s H E) (pmOf T E W H).W →
      PassesOwn (model PR w) (A.deeper (envOfC qual (defScope st) s.heap.objs.size f (.ref c))) (envOfC qual (defScope st) s.heap.objs.size f (.ref c)) (cxOf (L2.CX PR w) PR w K mg base N qual (defScope st) f (.ref c) A outer s H E).xe →
      DSs (cxOf (L2.CX PR w) PR w K mg base N qual (defScope st) f (.ref c) A outer s H E) (pmOf T E W H) (defBody st) ws) : FnOk PR w K mg base (L2.CX PR w) (k + 1) f fd ps (toSp T ps.length (wFn N.length ws)) := by
  have len : ps.length ≤ N.length := by have := congrArg List.length S.pre; rw [List.length_take] at this; omega
  obtain ⟨oc, od, dV, kV, doc, pm, an, cdv, ct, osl, rfl, lk, hcd, _, _⟩ := F.ex
  have hc : cdv = .ref c := hc
  subst hc
  refine fn_of lk hcd S toSp_len fun A outer s H vs Q E hr ⟨ds, W, Q0, R0, l, r, ok, hw, hq, he⟩ => ?_
  have b := body A outer s H E W ok hr (takes_of rfl rfl rfl rfl) (passes_of (X := cxOf (L2.CX PR w) PR w K mg base N qual (defScope st) f (.ref c) A outer s H E) rfl)
  exact ⟨_, b.ps, startG N.length ds, W, _, sta_start ok r (by rw [l]; exact len), hw,
    fun G' O q σ' H' W' k S' e => hq _ O q _ H' W' S'.st e (by simp [Rep]), fun d O q v H' W' s e r => hq d O q v H' W' s e r, fun _ _ z => z.elim, fun _ _ z => z.elim, fun x G' O q cls dd σ' H' W' _ S' e r => he x O q cls dd H' W' S'.st e r⟩
end
/-- a def that gets a lambda -/
def ClL (K : PySem.W.Frag) (mg : Str → Option Value) (x a : Str) (st : Stmt) : Prop := ∃ g fd, FunD K x x (defArgs st) (defBody st) (defScope st) [] [] g fd ∧ mg x = some (.ref g) ∧ Binds K fd [a] []
/-- the wish of a lambda's body -/
abbrev Pm.lam (P : Pm) (E : XK) : Pm := { P with W := fun cls dd _ H => E cls dd H }
section
variable {X : Cx} {P : Pm}
/-- x(lambda: body) -/
theorem de_lam (n : Nat) {l : List (Nat × List (Nat × Bool) × D)} {r : D} {x a : Str} {st : Stmt} {Ng : List Str} {c : Addr} {k : Nat} {params : Arguments} {body : Expr} {scope : Scope} {w : WE} {p lpos pos : Pos}
    (C : ClL X.K X.mg x a st) (Sg : FnScope Ng [a] (defScope st)) (hNg : Ng[0]? = some a) (hva : Vis (defScope st) a)
    (gives : ∀ (g : Addr) (cdg : Value), GivesTo X Ng x (defScope st) g cdg (defBody st) a (X.env.qual ++ "<lambda>") (TTl P.T X.K l r))
    (tabs : ∀ e ∈ l, ∀ j b, e.2.1.lookup j = some b → PySem.W.exmOne X.K (.ref (P.T.cm j)) (.ref (P.T.cm e.1)) = some b) (cs : ∀ e ∈ l, isC e.2.2) (cr : isC r)
    (B : TabB X.base X.mg c (P.T.tb n).1) (code : X.env.code = .ref c) (name : (P.T.tb n).2 = X.env.qual ++ "<lambda>") (room : Room (k + 2) X.A) (L : LamS X.env.scope scope)
    (hbody : ∀ (A : Around) (outer : List Env) (s : Shared) (H : Hp) (E : XK) (f c' : Addr), Room k (A.deeper (lamEnv X scope s.heap.objs.size f c')) → DE (lamCx X A outer s H E scope f c') (P.lam E) body w)
    (dflt : defaultsOf params X.env = ([], []) := by rfl)
    (bind : ∀ (q : Str) (cl : List (Str × Addr)) (pm cv ctv : Value), bindArgs (PySem.W.kla_fn "<lambda>" q params body scope cl pm cv ctv) ⟨[], []⟩ = pure [] := by intros; rfl)
    (hg : Gl X x := by rfl) (hdb : (x == ("__debug__" : Str)) = false := by decide) (hd : (a == ("__debug__" : Str)) = false := by decide) (hcd : (a == ("__classdict__" : Str)) = false := by decide) :
    DE X P (.Call (.Name x p) [.Lambda params body scope lpos] [] pos) (wLam n l r w) := by
  refine ⟨⟨fun pins s σ H Q I h => ?_⟩⟩
  obtain ⟨G, W, Q0, R0, S, ⟨⟨a0, ea⟩, hw⟩, ex, hq⟩ := h
  obtain rfl : a0 = (P.T.tb n).1 := (om_tb S.ok ea).1
  obtain ⟨g, fd, F, hm, hb⟩ := C
  obtain ⟨oc, od, dV, kV, doc, pm, an, cdv, ct, osl, rfl, lk, hcg, _, _⟩ := F.ex
  apply wpAny_Call_Name_kw
  apply ld_glob I hg hm (hd := hdb)
  refine PySem.W.callWith_K (h₀ := X.base) I.ok.mod.kin F.kp ?_ (by rfl) (by rfl)
  show wpAny _ _ (spliced ((false, eval (.Lambda params body scope lpos) X.env) :: backTo pos (starEach [] X.env))) _ _ s
  apply Calls.spliced_cons
  apply lam_mk I S.ok ea B code name dflt (L.has I.ok)
  intro f c' pmv ctv H1 s' I1 st1 hf hfn hfr hco
  apply Calls.spliced_nil
  refine ⟨I1.kIn, ?_⟩
  have run : codeAny (model X.prog X.w) X.A (.call (.ref g) ⟨[.ref f], []⟩) (CR C8.CX0 X.stack X.prog X.w H1 s' Q C8.E0) s' := by
    refine run_ofS (N := Ng) (ps := [a]) (us := [.ref f]) (vs := [.ref f]) lk hcg Sg room I1.env0 (hb s' [.ref f] I1.kIn rfl) (.cons rfl .nil) rfl fun room' => ?_
    have told : TTl P.T X.K l r (fun E => tE (P.lam E) w σ) H1 Q := by
      refine ⟨G, W, _, _, (S.step st1).chW, hw, fun y O hy cls dd H' W' s2 e2 r2 => ?_, fun d O h0 v H' W' s2 e2 r2 => hq r O h0 (cV r) H' W' (st1.trans s2) e2 (cV_rep cr)⟩
      have hy : (match lmL l y with | some d => Q0 d O | none => False) := hy
      cases z : lmL l y with
      | none => rw [z] at hy; exact hy.elim
      | some d =>
        rw [z] at hy
        have cd : isC d := lmL_c cs z
        show wch X.K P.T cls H' Q l
        rw [r2.1]
        exact wch_ok tabs z (hq d O hy (cV d) H' W' (st1.trans s2) e2 (cV_rep cd))
    obtain ⟨t', ht', hq'⟩ := gives g cdv f c' s' H1 Q (fun E => tE (P.lam E) w σ)
      (fun W pn xe E p1 p2 tk hW => pe_act (i := 0) I1 L hf hfn hfr (bind _ _ _ _ _) tk hW room' (fun A outer s H room2 => (hbody A outer s H E f c' room2).pe) hNg hva hd hcd) hco told
    exact ⟨t', ht'.nox, hq'⟩
  apply wpAny_call
  refine codeAny_mono run fun res s2 hq => ?_
  cases res with
  | error e => exact (show False from hq).elim
  | ok fl =>
    cases fl with
    | ret u => exact I1.after hq
    | next => exact False.elim hq
    | brk => exact False.elim hq
    | cont => exact False.elim hq
end
theorem hasT_put {O : Om} {a : Addr} {m : MO} {n : Nat} (h : hasT O n) (ha : O a = none) : hasT (putO O a m) n := by
  obtain ⟨b, e⟩ := h
  exact ⟨b, by rw [putO_ne (fun z => by rw [z, ha] at e; cases e)]; exact e⟩
theorem wLam_e {n : Nat} {l : List (Nat × List (Nat × Bool) × D)} {r : D} {w : WE} {G : Gam} {O : Om} {Q : D → Om → Prop} {R : RX} : wLam n l r w G O Q R = (hasT O n ∧ w G O (fun _ O => Q r O) (fun x O => match lmL l x with | some d => Q d O | none => False)) := rfl
end N

set_option Elab.async false
set_option linter.all false
set_option maxRecDepth 100000
set_option maxHeartbeats 0
/-! NSa: shared lists and dicts, read by their content where they are used -/
namespace N
open PySem PySem.Spec PyProof.Rows L2
/-- what a value is just now: of a shared list or dict its content -/
def cont (O : Om) (d : D) (Q : D → Prop) : Prop := match d with
  | .ref q => (match O q with | some (.lst xs) => Q (.lst xs) | some (.dct ks vs) => Q (.dct ks vs) | _ => False)
  | d => Q d
def contL (O : Om) : List D → (List D → Prop) → Prop
  | [], Q => Q []
  | d :: r, Q => cont O d fun d' => contL O r fun r' => Q (d' :: r')
section
variable {T : Th} {W : Wd} {H : Hp}
theorem RepT.less {F Pm : Addr → Prop} : ∀ {d : D} {v : V}, RepT T F Pm H d v → RepT T F (fun _ => False) H d v
  | .non, v, h => h
  | .bl b, v, h => h
  | .int i, v, h => h
  | .str x, v, h => h
  | .ty n, v, h => h
  | .ref a, v, h => h
  | .tup xs, v, h => h
  | .scr xs, v, h => h
  | .lst xs, v, ⟨a, vs, e, h, n, r⟩ => ⟨a, vs, e, h, id, r⟩
  | .dct ks xs, v, ⟨a, vs, e, h, n, l, r⟩ => ⟨a, vs, e, h, id, l, r⟩
  | .ins c ns xs, v, ⟨a, dx, vs, e, h, n, l, r⟩ => ⟨a, dx, vs, e, h, id, l, r⟩
theorem cont_rep {d : D} {v : V} {Q : D → Prop} (ok : WOk T W H) (r : RepT T W.F (fun _ => False) H d v) (h : cont W.Om d Q) : ∃ d', Q d' ∧ RepT T W.F (fun _ => False) H d' v := by
  cases d <;> try exact ⟨_, h, r⟩
  rename_i q
  unfold cont at h
  simp only at h
  split at h
  · rename_i xs e
    obtain ⟨⟨vs, h1, h2⟩, _⟩ := ok.at_ q _ e
    exact ⟨_, h, q, vs, r, h1, id, h2⟩
  · rename_i ks xs e
    obtain ⟨⟨vs, h1, l, h2⟩, _⟩ := ok.at_ q _ e
    exact ⟨_, h, q, vs, r, .inl h1, id, l, h2⟩
  · exact h.elim
theorem RepsT.less {F Pm : Addr → Prop} : ∀ {ds : List D} {vs : List V}, RepsT T F Pm H ds vs → RepsT T F (fun _ => False) H ds vs
  | [], vs, h => h
  | d :: ds, vs, h => by
    obtain ⟨v, r, e, h1, h2⟩ := h
    exact ⟨v, r, e, h1.less, RepsT.less h2⟩
theorem contL_rep (ok : WOk T W H) : ∀ {ds : List D} {vs : List V} {Q : List D → Prop}, RepsT T W.F (fun _ => False) H ds vs → contL W.Om ds Q → ∃ ds', Q ds' ∧ RepsT T W.F (fun _ => False) H ds' vs
  | [], vs, Q, r, h => ⟨[], h, r⟩
  | d :: ds, vs, Q, r, h => by
    obtain ⟨v, w, e, h1, h2⟩ := r
    obtain ⟨d', q, r1⟩ := cont_rep ok h1 h
    obtain ⟨ds', q2, r2⟩ := contL_rep ok h2 q
    exact ⟨d' :: ds', q2, v, w, e, r1, r2⟩
end
section
variable {X : Cx} {P : Pm} {a b c e f o i : Expr} {w wa wb wo wi wv wf : WE} {wl : WA} {pos p apos cpos tpos : Pos}
/-- a op b by content -/
def wBinC (g : GD) (wa wb : WE) : WE := fun G Om Q R => wa G Om (fun x O1 => wb G O1 (fun y O2 => cont O2 x fun x' => cont O2 y fun y' => g x' y' fun z => Q z O2) R) R
theorem binC_imp {g : GD} {wa wb : WE} : ∀ σ H Q, tE P (wBinC g wa wb) σ H Q → tOp (rD P.T g) (tB P wa) (tB P wb) σ H Q := fun σ H Q h => by
  obtain ⟨G, W, Q0, R0, S, h, ex, hq⟩ := h
  refine ⟨G, W, _, R0, S, h, ex, fun dx O1 h1 x H1 W1 s1 e1 rx => ?_⟩
  subst e1
  refine ⟨G, W1, _, R0, S.step s1, h1, ex.step s1, fun dy O2 h2 y H2 W2 s2 e2 ry => ?_⟩
  subst e2
  obtain ⟨dx', h3, rx'⟩ := cont_rep s2.ok (rx.step s2 s1.ok).less h2
  obtain ⟨dy', h4, ry'⟩ := cont_rep s2.ok ry.less h3
  refine ⟨W2.F, _, dx', dy', _, rx', ry', s2.ok.trk, h4, fun z hz v H3 xt r => ?_⟩
  exact hq z _ hz v H3 W2 ((s1.trans s2).trans (Step.ext s2.ok xt)) rfl r
theorem de_binC {op : Operator} {g : GD} (ho : OpD X P.T (binaryOp op) g) (ha : DB X P a wa) (hb : DB X P b wb) : DE X P (.BinOp a op b pos) (wBinC g wa wb) := ⟨pe_imp (pe_op ho ha.pe hb.pe) binC_imp⟩
theorem de_cmpC {op : CmpOp} {g : GD} (ho : OpD X P.T (compareOp op) g) (ha : DB X P a wa) (hb : DB X P b wb) (hm : behindInMarks op b = false := by first | exact nomark _ | rfl) : DE X P (.Compare a [op] [b] pos) (wBinC g wa wb) :=
  ⟨pe_imp (pe_cmpR ho ha.pe hb.pe hm) binC_imp⟩
theorem dt_cmpC {op : CmpOp} {g : GD} (ho : OpD X P.T (compareOp op) g) (ha : DB X P a wa) (hb : DB X P b wb) (hm : behindInMarks op b = false := by first | exact nomark _ | rfl) : DT X P (.Compare a [op] [b] pos) (wTst (wBinC g wa wb)) :=
  ⟨pt_imp (pt_cmpR ho ha.pe hb.pe hm) (tst_imp binC_imp)⟩
theorem de_ixC {g : GD} (ho : IxD X P.T g) (ha : DB X P a wa) (hb : DB X P b wb) (hs : PlainIx b := by first | exact fun _ _ => rfl | (intro _ _; rfl)) : DE X P (.Subscript a b pos) (wBinC g wa wb) := ⟨pe_imp (pe_ix ho ha.pe hb.pe hs) binC_imp⟩
/-- calls by content -/
def wCallC (g : GC) (wa : WA) : WE := fun G Om Q R => wa G Om (fun ds O => contL O ds fun ds' => g ds' fun z => Q z O) R
def wCallFC (g : GCF) (wa : WA) : WF := fun G Om Q R => wa G Om (fun ds O => contL O ds fun ds' => g ds' fun z => Q z O) R
theorem callC_imp {g : GC} : ∀ σ H Q, tE P (wCallC g wl) σ H Q → tCB (rC P.T g) (tAB P wl) σ H Q := fun σ H Q h => by
  obtain ⟨G, W, Q0, R0, S, q, ex, hq⟩ := h
  refine ⟨G, W, _, R0, S, q, ex, fun ds O h1 vs H1 W1 s1 e1 r => ?_⟩
  subst e1
  obtain ⟨ds', h2, r'⟩ := contL_rep s1.ok r.less h1
  refine ⟨W1.F, _, ds', _, r', s1.ok.trk, h2, fun z hz u H2 xt r2 => ?_⟩
  exact hq z _ hz u H2 W1 (s1.trans (Step.ext s1.ok xt)) rfl r2
theorem callFC_imp {g : GCF} : ∀ σ H Q, tF P (wCallFC g wl) σ H Q → tCB (rCF P.T g) (tAB P wl) σ H Q := fun σ H Q h => by
  obtain ⟨G, W, Q0, R0, S, q, ex, hq⟩ := h
  refine ⟨G, W, _, R0, S, q, ex, fun ds O h1 vs H1 W1 s1 e1 r => ?_⟩
  subst e1
  obtain ⟨ds', h2, r'⟩ := contL_rep s1.ok r.less h1
  refine ⟨W1.F, _, ds', _, r', s1.ok.trk, h2, fun z hz p o hp r2 => ?_⟩
  obtain ⟨s2, a1, a2, a3, a4⟩ := newOwn_fin (o := o) (m := z) s1.ok hp r2
  exact hq z _ hz p _ (W1.add p) (s1.trans s2) rfl (s1.back hp) a1 a2 a3 a4
section
variable {es : List Expr} {x : Str} {id TT : String}
theorem de_callBC {g : GC} (hc : CallD X P.T (.builtin id) g) (hm : X.mg x = none) (ha : DAB X P (e :: es) wl) (hv : bootBuiltins x = some (.builtin id) := by decide +kernel) (hg : Gl X x := by rfl) (hn : x ≠ "__name__" := by decide) (hdb : (x == ("__debug__" : Str)) = false := by decide)
    (he : starEach (e :: es) X.env = (false, eval e X.env) :: starEach es X.env := by rfl) (hpl : (backTo pos (starEach es X.env)).any (·.1) = false := by rfl) : DE X P (.Call (.Name x p) (e :: es) [] pos) (wCallC g wl) :=
  ⟨pe_imp (pe_callB hc hg hm hv ha.pa hn hdb he hpl) callC_imp⟩
theorem de_callTC {g : GC} (hc : CallD X P.T (.type TT) g) (hm : X.mg x = none) (ha : DAB X P (e :: es) wl) (hv : bootBuiltins x = some (.type TT) := by decide +kernel) (hg : Gl X x := by rfl) (hn : x ≠ "__name__" := by decide) (hdb : (x == ("__debug__" : Str)) = false := by decide)
    (he : starEach (e :: es) X.env = (false, eval e X.env) :: starEach es X.env := by rfl) (hpl : (backTo pos (starEach es X.env)).any (·.1) = false := by rfl) : DE X P (.Call (.Name x p) (e :: es) [] pos) (wCallC g wl) :=
  ⟨pe_imp (pe_callTy hc hg hm hv ha.pa hn hdb he hpl) callC_imp⟩
theorem df_callBC {g : GCF} (hc : CallF X P.T (.builtin id) g) (hm : X.mg x = none) (ha : DAB X P (e :: es) wl) (hv : bootBuiltins x = some (.builtin id) := by decide +kernel) (hg : Gl X x := by rfl) (hn : x ≠ "__name__" := by decide) (hdb : (x == ("__debug__" : Str)) = false := by decide)
    (he : starEach (e :: es) X.env = (false, eval e X.env) :: starEach es X.env := by rfl) (hpl : (backTo pos (starEach es X.env)).any (·.1) = false := by rfl) : DF X P (.Call (.Name x p) (e :: es) [] pos) (wCallFC g wl) :=
  ⟨pe_imp (pe_callB hc hg hm hv ha.pa hn hdb he hpl) callFC_imp⟩
theorem df_callTC {g : GCF} (hc : CallF X P.T (.type TT) g) (hm : X.mg x = none) (ha : DAB X P (e :: es) wl) (hv : bootBuiltins x = some (.type TT) := by decide +kernel) (hg : Gl X x := by rfl) (hn : x ≠ "__name__" := by decide) (hdb : (x == ("__debug__" : Str)) = false := by decide)
    (he : starEach (e :: es) X.env = (false, eval e X.env) :: starEach es X.env := by rfl) (hpl : (backTo pos (starEach es X.env)).any (·.1) = false := by rfl) : DF X P (.Call (.Name x p) (e :: es) [] pos) (wCallFC g wl) :=
  ⟨pe_imp (pe_callTy hc hg hm hv ha.pa hn hdb he hpl) callFC_imp⟩
end
/-! ### x.append(e), x.remove(e) of a shared list -/
def wAppS (wo wi : WE) : WE := fun G Om Q R => wo G Om (fun d O => match d with
  | .ref q => (match O q with
    | some (.lst _) => wi G O (fun z O' => match O' q with
        | some (.lst ys) => ys.length < 16777216 ∧ Q .non (putO O' q (.lst (ys ++ [z])))
        | _ => False) R
    | _ => False)
  | _ => False) R
theorem de_appS (ho : DE X P o wo) (hi : DE X P i wi)
    (hbase : attributeBase o "append" X.env (eval o X.env) = eval o X.env := by rfl)
    (hfew : ((backTo cpos (starEach [i] X.env)).all (fun x => !x.1) && (backToKw cpos (keywordEach [] X.env)).all (fun x => x.1.isSome) && decide ([i].length + ([] : List Keyword).length + (if ([] : List Keyword).isEmpty then 0 else 1) < 30)) = true := by rfl)
    (hline : (apos.endLine == cpos.line) = true := by rfl) (hs1 : starEach [i] X.env = (false, eval i X.env) :: starEach [] X.env := by rfl) (hplain : (backTo cpos (starEach [] X.env)).any (·.1) = false := by rfl) :
    DE X P (.Call (.Attribute o "append" apos) [i] [] cpos) (wAppS wo wi) := by
  refine ⟨pe_imp (pe_bm PySem.F.plainAttrs_list PySem.F.slot_list_append PySem.F.type_list_append mt_append ho.pe (pa_cons hi.pe pa_nil hs1) hbase hfew hline hs1 hplain) fun σ H Q q => ?_⟩
  obtain ⟨G, W, Q0, R0, S, q, ex, hq⟩ := q
  refine ⟨G, W, _, R0, S, q, ex, fun d O h1 v H1 W1 s1 e1 r1 => ?_⟩
  subst e1
  cases d <;> try exact h1.elim
  rename_i q
  simp only [Rep] at r1
  have h1 : (match W1.Om q with | some (.lst _) => _ | _ => False) := h1
  split at h1
  · rename_i xs0 ex0
    obtain ⟨vs0, hv0, _, _⟩ := shl_at s1.ok ex0
    refine ⟨by subst r1; exact .inl ⟨rfl, vs0, .of hv0⟩, G, W1, _, R0, S.step s1, h1, ex.step s1, fun z O' h2 u H2 W2 s2 e2 r2 => ?_⟩
    subst e2
    change (match W2.Om q with | some (.lst ys) => _ | _ => False) at h2
    split at h2
    · rename_i ys ey
      obtain ⟨hk, h2⟩ := h2
      obtain ⟨vs, hv, rv, Fq⟩ := shl_at s2.ok ey
      have sm := shl_set s2.ok ey (rv.app (.cons r2 .nil))
      exact ⟨q, vs, u, r1, rfl, hv, Nat.lt_of_lt_of_le (by rw [rv.len]; exact hk) (by decide), hq _ _ h2 _ _ _ ((s1.trans s2).trans sm) rfl (by simp [Rep])⟩
    · exact h2.elim
  · exact h1.elim
def rRem : V → List V → Hp → VK → Prop := fun x vs H Q => ∃ (l : Addr) (ns : List Int) (k : Int) (j : Nat), x = .ref l ∧ vs = [.int k] ∧ H l = some (.lst (ns.map V.int)) ∧ ns.findIdx? (· == k) = some j ∧ Q .non (upd H l (.lst ((ns.eraseIdx j).map V.int)))
theorem ints_of : ∀ {ns : List Int} {its : List Value}, Vals (ns.map V.int) its → IntsAre its ns
  | [], its, h => by cases h; exact .nil
  | n :: ns, its, h => by
    cases h with
    | cons r t => obtain ⟨t', rfl⟩ := r; exact .cons n t' (ints_of t)
theorem map_erase {α β : Type} (f : α → β) : ∀ (l : List α) (j : Nat), (l.map f).eraseIdx j = (l.eraseIdx j).map f
  | [], j => by simp
  | a :: l, 0 => rfl
  | a :: l, j + 1 => by simp [map_erase f l j]
theorem ints_at {ns : List Int} {its : List Value} {k : Int} (h : IntsAre its ns) : ∀ (m : Nat) (hm : m < its.length) (hn : m < ns.length), isInt k its[m] = (ns[m] == k) := by
  induction h with
  | nil => intro m hm; exact absurd hm (Nat.not_lt_zero _)
  | cons n t r ih =>
    intro m hm hn
    cases m with
    | zero => rfl
    | succ m => exact ih m (Nat.lt_of_succ_lt_succ hm) (Nat.lt_of_succ_lt_succ hn)
theorem mt_remove {X : Cx} : MtM X "list.remove" rRem := by
  intro pins s σ H x vs v us Q I rx rv h
  obtain ⟨l, ns, k, j, rfl, rfl, hH, hj, q⟩ := h
  cases rx
  obtain ⟨u, rfl, ru⟩ := rv.one
  obtain ⟨t, rfl⟩ := ru
  obtain ⟨z, its, n, r, hl, e⟩ := I.lstM hH
  have ia := ints_of r
  have hlen : its.length = ns.length := by have := r.length; simpa using this.symm
  have hz : ns.length ≤ sizeLine := by simpa using z
  obtain ⟨hjn, hjt, hjm⟩ := List.findIdx?_eq_some_iff_getElem.mp hj
  refine call_meets F.slot_list_remove ⟨_, e, rfl⟩ F.entry_list_remove (F.args_list_remove_2 _ _)
    (MeetsSeq.list_remove l its.toArray n (.int k t) (isInt k) (fun y hy => eq_isInt k t ia y (by simpa using hy)) j (by rw [List.size_toArray, hlen]; exact hjn) (by simpa [ints_at ia j (by omega) hjn] using hjt)
      (fun m hm hlt => by
        have := hjm m hlt
        rw [List.size_toArray, hlen] at hm
        simpa [ints_at ia m (by omega) hm] using this) (by rw [List.size_toArray, hlen]; exact hz)) ⟨e, ?_⟩
  refine ⟨.non, _, I.lset (its' := its.eraseIdx j) hH e ?_ (by rw [← map_erase]; exact r.eraseIdx j) ?_, rfl, q⟩
  · show its.toArray.eraseIdxIfInBounds j = (its.eraseIdx j).toArray
    rw [List.eraseIdxIfInBounds_toArray]
  · rw [List.length_map]
    have := List.length_eraseIdx_le ns j
    omega
def wRemS (wo wi : WE) : WE := fun G Om Q R => wo G Om (fun d O => match d with
  | .ref q => (match O q with
    | some (.lst _) => wi G O (fun z O' => match z with
      | .int k => ∃ (ns : List Int) (j : Nat), O' q = some (.lst (ns.map .int)) ∧ ns.findIdx? (· == k) = some j ∧ Q .non (putO O' q (.lst ((ns.eraseIdx j).map .int)))
      | _ => False) R
    | _ => False)
  | _ => False) R
theorem de_remS (ho : DE X P o wo) (hi : DE X P i wi)
    (hbase : attributeBase o "remove" X.env (eval o X.env) = eval o X.env := by rfl)
    (hfew : ((backTo cpos (starEach [i] X.env)).all (fun x => !x.1) && (backToKw cpos (keywordEach [] X.env)).all (fun x => x.1.isSome) && decide ([i].length + ([] : List Keyword).length + (if ([] : List Keyword).isEmpty then 0 else 1) < 30)) = true := by rfl)
    (hline : (apos.endLine == cpos.line) = true := by rfl) (hs1 : starEach [i] X.env = (false, eval i X.env) :: starEach [] X.env := by rfl) (hplain : (backTo cpos (starEach [] X.env)).any (·.1) = false := by rfl) :
    DE X P (.Call (.Attribute o "remove" apos) [i] [] cpos) (wRemS wo wi) := by
  refine ⟨pe_imp (pe_bm PySem.F.plainAttrs_list PySem.F.slot_list_remove PySem.F.type_list_remove mt_remove ho.pe (pa_cons hi.pe pa_nil hs1) hbase hfew hline hs1 hplain) fun σ H Q q => ?_⟩
  obtain ⟨G, W, Q0, R0, S, q, ex, hq⟩ := q
  refine ⟨G, W, _, R0, S, q, ex, fun d O h1 v H1 W1 s1 e1 r1 => ?_⟩
  subst e1
  cases d <;> try exact h1.elim
  rename_i q
  simp only [Rep] at r1
  have h1 : (match W1.Om q with | some (.lst _) => _ | _ => False) := h1
  split at h1
  · rename_i xs0 ex0
    obtain ⟨vs0, hv0, _, _⟩ := shl_at s1.ok ex0
    refine ⟨by subst r1; exact .inl ⟨rfl, vs0, .of hv0⟩, G, W1, _, R0, S.step s1, h1, ex.step s1, fun z O' h2 u H2 W2 s2 e2 r2 => ?_⟩
    subst e2
    cases z <;> try exact h2.elim
    rename_i k
    simp only [Rep] at r2
    obtain ⟨ns, j, ey, hj, h2⟩ := h2
    obtain ⟨vs, hv, rv, Fq⟩ := shl_at s2.ok ey
    have := rv.ofInts
    subst this
    have sm := shl_set s2.ok ey (Reps.ints (T := P.T) (F := W2.F) (H := H2) (ns.eraseIdx j))
    exact ⟨q, ns, k, j, r1, by rw [r2], hv, hj, hq _ _ h2 _ _ _ ((s1.trans s2).trans sm) rfl (by simp [Rep])⟩
  · exact h1.elim
end
end N

set_option Elab.async false
set_option linter.all false
set_option maxRecDepth 100000
set_option maxHeartbeats 0
/-! NSb: a new thing is shared; what is walked is shared; shared dicts; comprehensions of two -/
namespace N
open PySem PySem.Spec PyProof.Rows L2
def Wd.shr (W : Wd) (p : Addr) (m : MO) : Wd := ⟨putO W.Om p m, fun x b => if x = p then b = p else W.fp x b, W.F⟩
theorem MRep.shr {T : Th} {F : Addr → Prop} {H : Hp} {a : Addr} : ∀ {m : MO}, MRep T F (fun _ => False) H a m → MRep T F (fun b => b = a) H a m
  | .lst ds, h => h
  | .dct ks ds, h => h
  | .ins c ns ds, h => h
  | .abs 0, ⟨c, cs, s, h1, h2, _⟩ => (((h2 a).mpr (.inl rfl))).elim
  | .abs (_ + 1), ⟨_, h1, _⟩ => ((h1 a).mpr rfl).elim
theorem Step.shr {T : Th} {W1 W : Wd} {H1 H : Hp} {p : Addr} {m : MO} (s : Step T W1 H1 W H) (hn : H1 p = none) (hF : W.F p) (hpm : ¬ W.pm p) (no : W.Om p = none) (r : MRep T W.F (fun _ => False) H p m) : Step T W1 H1 (W.shr p m) H := by
  have om : ∀ b, b ≠ p → (W.shr p m).Om b = W.Om b := fun b q => putO_ne q
  have fp : ∀ b, b ≠ p → (W.shr p m).fp b = W.fp b := fun b q => funext fun c => if_neg q
  have fpa : ∀ c, (W.shr p m).fp p c ↔ c = p := fun c => by show (if p = p then c = p else W.fp p c) ↔ c = p; rw [if_pos rfl]
  have nfp : ∀ b, W.Om b ≠ none → ¬ W.fp b p := fun b hb hf => hpm ⟨b, hb, hf⟩
  refine ⟨⟨fun b mb eb => ?_, fun b ⟨x, hx, hf⟩ => ?_, fun x y b hx hy fx fy => ?_, s.ok.trk, s.ok.code⟩, s.keep', s.trk, s.sub, s.fnew, fun x hx => ?_, fun x b hx hx' hf => ?_⟩
  · by_cases q : b = p
    · subst q
      rw [show (W.shr b m).Om b = some m from putO_same] at eb
      cases eb
      have e2 : (W.shr b m).fp b = fun c => c = b := funext fun c => propext (fpa c)
      rw [e2]
      exact ⟨r.shr, rfl⟩
    · rw [om b q] at eb
      rw [fp b q]
      exact s.ok.at_ b mb eb
  · by_cases q : x = p
    · subst q
      rw [(fpa b).mp hf]; exact hF
    · rw [om x q] at hx
      rw [fp x q] at hf
      exact s.ok.sub b ⟨x, hx, hf⟩
  · by_cases q : x = p <;> by_cases q2 : y = p
    · rw [q, q2]
    · subst q
      rw [(fpa b).mp fx, fp y q2] at fy
      rw [om y q2] at hy
      exact absurd fy (nfp y hy)
    · subst q2
      rw [(fpa b).mp fy, fp x q] at fx
      rw [om x q] at hx
      exact absurd fx (nfp x hx)
    · rw [om x q] at hx; rw [om y q2] at hy; rw [fp x q] at fx; rw [fp y q2] at fy
      exact s.ok.dis x y b hx hy fx fy
  · have q : x ≠ p := fun z => (s.om x hx).1 (z ▸ no)
    rw [om x q, fp x q]
    exact s.om x hx
  · by_cases q : x = p
    · subst q
      rw [(fpa b).mp hf]; exact hn
    · rw [om x q] at hx'
      rw [fp x q] at hf
      exact s.new x b hx hx' hf
section
variable {X : Cx} {P : Pm} {a b c e f o i value : Expr} {w wa wb wo wi wv wf : WE} {wl : WA} {pos p apos cpos tpos pos' : Pos}
/-- a new thing, shared from now on -/
def wShF (w : WF) : WE := fun G Om Q R => w G Om (fun m O => ∀ q, O q = none → Q (.ref q) (putO O q m)) R
theorem DF.sh {w : WF} (h : DF X P e w) : DE X P e (wShF w) :=
  ⟨pe_imp h.pe fun σ H Q ⟨G, W, Q0, R0, S, q, ex, hq⟩ => ⟨G, W, _, R0, S, q, ex, fun m O h0 p H' W' s e n1 F1 npm o1 r => by
    subst e
    exact hq (.ref p) _ (h0 p o1) (.ref p) H' (W'.shr p m) (s.shr n1 F1 npm o1 r) rfl (by simp [Rep])⟩⟩
theorem setSh_imp {i : Nat} {w : WF} : ∀ D σ H, tS P (wSet i (wShF w)) D σ H → tAsg (tF P w) (gName i) D σ H := fun D σ H ⟨G, W, Po, S, q, h⟩ =>
  ⟨G, W, _, _, S, q, h.exE S, fun m O q' p H' W' s' e n1 a1 a2 a3 r => by
    subst e
    have st := s'.shr n1 a1 a2 a3 r
    exact h.nx _ _ (q' p a3) _ H' (W'.shr p m) (st.kp S.ok) ((S.step st).set (by simp [Rep])) rfl⟩
theorem ds_setLcS {elt tg iter : Expr} {ifs : List Expr} {scope : Scope} {spos lpos : Pos} {wi : WA} {f : WG} {wt : WT} {we : WE} {is : List Nat} {y : Str} {py : Pos} (hc : X.calm = true) (hN : X.N.Nodup) (i : Nat) (own : List (Str × Nat)) (hi : DI X P (RS P.T) tg iter wi)
    (hg : ∀ (s : Shared) (H : Hp) (C : Addr) (cl : List (Str × Addr)) (fp : List Addr), DG (X.blk s H scope (compEnvC scope cl C X.env) fp) P.noW tg is f)
    (ht : ∀ (s : Shared) (H : Hp) (C : Addr) (cl : List (Str × Addr)) (fp : List Addr), DTs (X.blk s H scope (compEnvC scope cl C X.env) fp) P.noW ifs wt)
    (he : ∀ (s : Shared) (H : Hp) (C : Addr) (cl : List (Str × Addr)) (fp : List Addr), DE (X.blk s H scope (compEnvC scope cl C X.env) fp) P.noW elt we)
    (hy : X.N[i]? = some y := by rfl) (hyl : X.env.scope.names.lookup y = some .local := by rfl) (hsw : swapsWith (.ListComp elt [⟨tg, iter, ifs, 0⟩] scope lpos) (some (.Name y py)) spos.line X.env = pure true := by exact sw_true rfl rfl rfl (by decide +kernel))
    (ok : blkC X.N X.env.scope scope own = true := by kernel_rfl) (hsub : ∀ i ∈ is, i ∈ own.map (·.2) := by decide) (hs : ∀ x, foldedSetIterable iter X.env x = pure x := by intro _; rfl) :
    DS X P (.Assign [.Name y py] (.ListComp elt [⟨tg, iter, ifs, 0⟩] scope lpos) spos) (wSet i (wShF (wComp wi f wt we (own.map (·.2))))) := ⟨ps_lc hc hN i own hi hg ht he hy hyl hsw ok hsub hs setSh_imp⟩
/-! ### a shared list is walked; nothing shared changes meanwhile -/
def RE (T : Th) : Rl := fun W H W' H' => (Kp W.F H W'.F H' ∧ WOk T W' H') ∧ W'.Om = W.Om
theorem walk_shl {K : PySem.W.Frag} {a : Addr} {n : Nat} : Walk (Itl K a) n (fun H => ∃ xs, H a = some (.lst xs) ∧ xs.length = n) (fun i H x H' => H' = H ∧ ∀ xs, SqL K H a xs → xs[i]? = some x) :=
  ⟨fun i _ hi ⟨xs, q, l⟩ => ⟨xs, xs[i]'(by omega), .of q, by simp [show i < xs.length by omega]⟩, fun _ ⟨xs, q, l⟩ => ⟨xs, .of q, by omega⟩, fun _ _ _ _ _ q y => ⟨y.1, y.2⟩⟩
def gItC (O : Om) (d : D) (Q : List D → Prop) : Prop := match d with
  | .ref q => (match O q with | some (.lst xs) => Q xs | _ => False)
  | _ => False
def wItC (w : WE) : WA := fun G Om Q R => w G Om (fun d O => gItC O d fun xs => Q xs O) R
theorem di_valC {tg iter : Expr} (h : DE X P iter w) : DI X P (RE P.T) tg iter (wItC w) := by
  refine ⟨pi_imp (pi_any h.pe) fun σ H R q => ?_⟩
  obtain ⟨G, W, Q0, R0, S, q, ex, hq⟩ := q
  refine ⟨G, W, _, R0, S, q, ex, fun d O h1 v H1 W1 s1 e1 r => ?_⟩
  subst e1
  cases d <;> try exact h1.elim
  rename_i q
  simp only [Rep] at r
  subst r
  unfold gItC at h1
  simp only at h1
  split at h1
  · rename_i xs e
    obtain ⟨vs, hv, rv, _⟩ := shl_at s1.ok e
    refine .inl ⟨q, rfl, ⟨vs, .of hv⟩, hq _ _ h1 _ H1 W1 s1 rfl ?_⟩
    refine ⟨_, _, walk_shl, fun W2 H2 k => ?_⟩
    obtain ⟨vs2, hv2, rv2, _⟩ := shl_at k.1.2 (k.2 ▸ e)
    refine ⟨⟨vs2, hv2, rv2.len⟩, fun i d ei x H3 y => ?_⟩
    obtain ⟨rfl, y⟩ := y
    obtain ⟨v, ev, rd⟩ := rv2.get ei
    have := y vs2 (.of hv2)
    rw [ev] at this
    cases this
    exact ⟨fun _ _ z => z, rd⟩
  · exact h1.elim
/-- for over it -/
def wForLE (f : WG) (u : WS) (O1 : Om) : List D → WS
  | [] => fun G Om Po => Po.nx G Om
  | d :: r => fun G Om Po => f d G fun G' => u G' Om { Po with nx := fun G2 O2 => O2 = O1 ∧ wForLE f u O1 r G2 O2 Po, ct := fun G2 O2 => O2 = O1 ∧ wForLE f u O1 r G2 O2 Po, bk := Po.nx }
def wForE (wi : WA) (f : WG) (u : WS) : WS := fun G Om Po => wi G Om (fun items O => wForLE f u O items G O Po) fun x O => Po.ex x G O
theorem ds_forE {tg iter : Expr} {sb : List Stmt} {wi : WA} {f : WG} {u : WS} {is : List Nat} (hp : PassesOwn (model X.prog X.w) X.A X.env X.xe) (hc : X.calm = true) (hi : DI X P (RE P.T) tg iter wi) (hg : DG X P tg is f) (hb : DSs X P sb u)
    (hs : ∀ x, foldedSetIterable iter X.env x = pure x := by intro _; rfl) : DS X P (.For tg iter sb [] pos) (wForE wi f u) := by
  refine ⟨ps_imp (ps_for hp hc hi.pi hg.pg hb.ps hs) fun D σ H ⟨G, W, Po, S, q, h⟩ => ?_⟩
  refine ⟨G, W, _, _, S, q, h.exE S, fun items O q1 J H1 W1 s1 e1 wk => ?_⟩
  subst e1
  obtain ⟨Gd, Y, wk, hy⟩ := wk
  have h1 := h.kp (s1.kp S.ok)
  refine for_it wk (fun i σ' H' => ∃ G' W', Kp W1.F H1 W'.F H' ∧ Sta P G' W' σ' H' ∧ W'.Om = W1.Om ∧ wForLE f u W1.Om (items.drop i) G' W'.Om Po) ⟨G, W1, Kp.refl, S.step s1, rfl, q1⟩ (fun i σ' H' _ ⟨G', W', k, S', eo, _⟩ => (hy W' H' ⟨⟨k, S'.ok⟩, eo⟩).1)
    (fun i x σ' Hc H' hi ⟨G', W', k, S', eo, q'⟩ hyx => ?_) (fun σ' H' ⟨G', W', k, S', eo, q'⟩ => ?_)
  · have gi : items[i]? = some items[i] := List.getElem?_eq_getElem hi
    obtain ⟨nw, rx⟩ := (hy W' Hc ⟨⟨k, S'.ok⟩, eo⟩).2 i _ gi x H' hyx
    rw [List.drop_eq_getElem_cons hi] at q'
    have sx : Step P.T W' Hc W' H' := Step.ext S'.ok nw
    have kx := k.trans (sx.kp S'.ok)
    refine ⟨G', W', _, _, S'.step sx, rx, q', fun G2 q2 σ2 S2 _ => ?_⟩
    have h2 := h1.kp kx
    exact ⟨G2, W', _, S2, q2, ⟨fun G3 O3 q3 σ3 H3 W3 k3 S3 e3 => ⟨G3, W3, kx.trans k3, S3, e3.trans q3.1, by rw [e3]; exact q3.2⟩, h2.rt, fun G3 O3 q3 σ3 H3 W3 k3 S3 e3 => h2.nx G3 O3 q3 σ3 H3 W3 k3 S3 e3, fun G3 O3 q3 σ3 H3 W3 k3 S3 e3 => ⟨G3, W3, kx.trans k3, S3, e3.trans q3.1, by rw [e3]; exact q3.2⟩, h2.ex⟩⟩
  · rw [List.drop_length] at q'
    exact h1.nx _ _ q' σ' H' W' k S' rfl
/-! ### shared dicts -/
/-- x[k] = v, x a shared dict -/
def wPutS (wv wo wi : WE) : WS := fun G Om Po => wv G Om (fun d O => wo G O (fun z O1 => wi G O1 (fun y O2 => match z with
  | .ref q => (match O2 q, keyD y with
    | some (.dct ks vs), some k => ks.Nodup ∧ ks.length < 16777216 ∧ Po.nx G (putO O2 q (.dct (putKs ks k) (putVs ks vs k d)))
    | _, _ => False)
  | _ => False) fun x O => Po.ex x G O) fun x O => Po.ex x G O) fun x O => Po.ex x G O
theorem ds_putS (hu : X.A.units + 64 < cLine) (hv : DE X P value wv) (ho : DE X P o wo) (hi : DE X P i wi) (hs : swapsWith value (some (.Subscript o i tpos)) pos.line X.env = pure false := by rfl) :
    DS X P (.Assign [.Subscript o i tpos] value pos) (wPutS wv wo wi) := by
  refine ⟨ps_imp (ps_dput (by omega) ho.pe hi.pe hv.pe hs) fun D σ H ⟨G, W, Po, S, q, h⟩ => ⟨G, W, _, _, S, q, h.exE S, fun d O q1 v H1 W1 s1 e1 r1 => ?_⟩⟩
  subst e1
  have p1 := h.kp (s1.kp S.ok)
  refine ⟨G, W1, _, _, S.step s1, q1, p1.exE (S.step s1), fun z O1 q2 v2 H2 W2 s2 e2 r2 => ?_⟩
  subst e2
  have p2 := p1.kp (s2.kp s1.ok)
  refine ⟨G, W2, _, _, (S.step s1).step s2, q2, p2.exE ((S.step s1).step s2), fun y O2 q3 v3 H3 W3 s3 e3 r3 => ?_⟩
  subst e3
  cases z <;> try exact q3.elim
  rename_i q
  simp only [Rep] at r2
  have q3 : (match W3.Om q, keyD y with | some (.dct ks vs), some k => ks.Nodup ∧ ks.length < 16777216 ∧ Po.nx G (putO W3.Om q (.dct (putKs ks k) (putVs ks vs k d))) | _, _ => False) := q3
  split at q3
  · rename_i ks ds k ex2 ek
    obtain ⟨nd, hk, q3⟩ := q3
    obtain ⟨⟨ws, hl, l, rl⟩, ff⟩ := s3.ok.at_ q _ ex2
    have Fq := s3.ok.sub q ⟨q, by rw [ex2]; simp, ff⟩
    have rd := Rep.kp (s3.kp s2.ok) _ _ (Rep.kp (s2.kp s1.ok) _ _ r1)
    obtain ⟨us, h1, h2, h3⟩ := put_rep (k := k) rd nd l rl
    have sm : Step P.T W3 H3 (W3.setO q (.dct (putKs ks k) (putVs ks ds k d))) (upd H3 q (.dK (putK (ks.zip ws) k v))) := Step.mutS s3.ok ex2 ⟨us, by rw [upd_same, h1], h2, Reps.kp (Kp.mut Fq) _ _ h3⟩
    have ev := keyD_rep (r3.t s3.ok.sub) ek
    subst ev
    exact ⟨q, _, r2, DPut.k hl (by rw [zip_len l rl]; exact Nat.lt_of_lt_of_le hk (by decide)), p2.nx _ _ q3 _ _ _ ((s3.trans sm).kp s2.ok) (((S.step s1).step s2).step (s3.trans sm)) rfl⟩
  · exact q3.elim
end
end N

set_option Elab.async false
set_option linter.all false
set_option maxRecDepth 100000
set_option maxHeartbeats 0
/-! NSc: comprehensions over what is shared, of one and of two -/
namespace N
open PySem PySem.Spec PyProof.Rows L2
def noOwn : Gam → Gam
  | [] => []
  | .own _ :: r => .no :: noOwn r
  | s :: r => s :: noOwn r
theorem noOwn_len : ∀ G : Gam, (noOwn G).length = G.length
  | [] => rfl
  | .own _ :: r => by simp [noOwn, noOwn_len r]
  | .no :: r => by simp [noOwn, noOwn_len r]
  | .val d :: r => by simp [noOwn, noOwn_len r]
theorem noOwn_get : ∀ (G : Gam) (i : Nat) (s : Sl), (noOwn G)[i]? = some s → s = .no ∨ ∃ d, s = .val d ∧ G[i]? = some (.val d)
  | [], i, s, h => by simp [noOwn] at h
  | .own _ :: r, 0, s, h => by simp [noOwn] at h; exact .inl h.symm
  | .no :: r, 0, s, h => by simp [noOwn] at h; exact .inl h.symm
  | .val d :: r, 0, s, h => by simp [noOwn] at h; exact .inr ⟨d, h.symm, rfl⟩
  | .own _ :: r, i + 1, s, h => by simpa using noOwn_get r i s (by simpa [noOwn] using h)
  | .no :: r, i + 1, s, h => by simpa using noOwn_get r i s (by simpa [noOwn] using h)
  | .val d :: r, i + 1, s, h => by simpa using noOwn_get r i s (by simpa [noOwn] using h)
section
variable {P : Pm} {G : Gam} {W W' : Wd} {σ : L2.St} {H H' : Hp}
theorem Sta.noOwn (S : Sta P G W σ H) : Sta P (noOwn G) W σ H :=
  ⟨S.st, (noOwn_len G).trans S.len, fun i s e => by
    rcases noOwn_get G i s e with rfl | ⟨d, rfl, q⟩
    · trivial
    · exact S.sl i _ q, fun i j m m' a e _ _ _ => by
    rcases noOwn_get G i _ e with q | ⟨d, q, _⟩ <;> cases q⟩
/-- without own things a frame stands under all that keeps what is not of F -/
theorem Sta.kpN (S : Sta P (N.noOwn G) W σ H) (k : Kp W.F H W'.F H') (st : Step P.T P.W0 P.H0 W' H') : Sta P (N.noOwn G) W' σ H' :=
  ⟨st, S.len, fun i s e => by
    have q := S.sl i s e
    rcases noOwn_get G i s e with rfl | ⟨d, rfl, _⟩
    · trivial
    · obtain ⟨v, e1, r⟩ := q
      exact ⟨v, e1, Rep.kp k d v r⟩, fun i j m m' a e _ _ _ => by
    rcases noOwn_get G i _ e with q | ⟨d, q, _⟩ <;> cases q⟩
end
section
variable {X : Cx} {P : Pm}
theorem DI.mono {R R' : Rl} {tg iter : Expr} {w : WA} (h : DI X P R tg iter w) (i : ∀ W H W' H', R' W H W' H' → R W H W' H') : DI X P R' tg iter w :=
  ⟨pi_imp h.pi fun σ H K ⟨G, W, Q0, R0, S, q, ex, hq⟩ => ⟨G, W, Q0, R0, S, q, ex, fun items O h1 J H1 W1 s1 e1 ⟨Gd, Y, wk, hy⟩ => hq items O h1 J H1 W1 s1 e1 ⟨Gd, Y, wk, fun W2 H2 r => hy W2 H2 (i _ _ _ _ r)⟩⟩⟩
theorem DI.ev {tg iter : Expr} {w : WA} (h : DI X P (RF P.T) tg iter w) : DI X P (RE P.T) tg iter w := h.mono fun _ _ _ _ r => r.1
/-- the turns of a comprehension that leaves the shared things as they are -/
def wTurnsE (f : WG) (wt : WT) (we : WE) (G : Gam) (O1 : Om) : List D → List D → (List D → Prop) → Prop
  | [], acc, Q => Q acc
  | d :: r, acc, Q => acc.length < 16777216 ∧ f d G fun G2 => wt G2 O1 (fun b O2 => O2 = O1 ∧ br b (we G2 O1 (fun x O3 => O3 = O1 ∧ wTurnsE f wt we G O1 r (acc ++ [x]) Q) noR) (wTurnsE f wt we G O1 r acc Q)) noR
def wCompE (wi : WA) (f : WG) (wt : WT) (we : WE) (vs : List Nat) : WF := fun G Om Q R => wi G Om (fun items O1 => wTurnsE f wt we (noOwn (wipeG G vs)) O1 items [] fun ds => Q (.lst ds) O1) R
/-- one walk of them: from the list at p -/
theorem turnsE_it {J : It} {items : List D} {f : WG} {wt : WT} {we : WE} {G : Gam} {vs is : List Nat} {σ : L2.St} {Wb W1 : Wd} {Hb H1 : Hp} {p : Addr} (sb0 : Step P.T P.W0 P.H0 Wb Hb) (sb : Step P.T Wb Hb W1 H1) (nb : Hb p = none)
    (S : Sta P (noOwn G) W1 (wipe σ vs) H1) (hsub : ∀ i ∈ is, i ∈ vs) (wk : Wk P.T (RE P.T) W1 H1 items J) (hF : W1.F p) (hpm : ¬ W1.pm p) {acc : List D} {vacc : List V} (hl : H1 p = some (.lst vacc)) (hr : Reps P.T W1.F H1 acc vacc)
    {Q : List D → Prop} (q : wTurnsE f wt we (noOwn G) W1.Om items acc Q) {Nx : Hp → Prop}
    (hd : ∀ Wt Hc acc vacc, Kp W1.F H1 Wt.F Hc → Step P.T Wb Hb Wt Hc → Wt.Om = W1.Om → Wt.F p → ¬ Wt.pm p → Hc p = some (.lst vacc) → Reps P.T Wt.F Hc acc vacc → Q acc → Nx Hc) :
    ∃ W : Nat → Nat → Hp → Prop, (∃ m, W 0 m H1) ∧ ∀ i m H, W i m H →
      (J.stop i H ∧ Nx H) ∨ (J.go i H ∧ ∃ N1 : Hp → Prop, (∀ H', N1 H' → ∃ m', m' < m ∧ W (i + 1) m' H') ∧ ∀ x H', J.yld i H x H' → tG P.noW is f x (wipe σ vs) H' fun σ2 H2 => wipe σ2 vs = wipe σ vs ∧ tT P.noW wt σ2 H2 fun b H3 =>
        if b = true then tE P.noW we σ2 H3 fun y H4 => ∃ acc, H4 p = some (.lst acc) ∧ acc.length < sizeLine ∧ N1 (upd H4 p (.lst (acc ++ [y]))) else N1 H3) := by
  obtain ⟨Gd, Y, wk, hy⟩ := wk
  let Pv : Nat → Hp → Prop := fun i Hc => ∃ Wt acc vacc, Kp W1.F H1 Wt.F Hc ∧ Step P.T Wb Hb Wt Hc ∧ Wt.Om = W1.Om ∧ Wt.F p ∧ ¬ Wt.pm p ∧ Hc p = some (.lst vacc) ∧ Reps P.T Wt.F Hc acc vacc ∧ wTurnsE f wt we (noOwn G) W1.Om (items.drop i) acc Q
  refine ⟨fun i m H => m = items.length - i ∧ i ≤ items.length ∧ Pv i H, ⟨items.length, by simp, Nat.zero_le _, W1, acc, vacc, Kp.refl, sb, rfl, hF, hpm, hl, hr, q⟩, ?_⟩
  rintro i m Hc ⟨rfl, hi, Wt, acc, vacc, k, st, eo, hF, hpm, hl, hr, ht⟩
  obtain ⟨hg, hy2⟩ := hy Wt Hc ⟨⟨k, st.ok⟩, eo⟩
  by_cases hlt : i < items.length
  · refine .inr ⟨wk.goes i Hc hlt hg, Pv (i + 1), fun H' p' => ⟨items.length - (i + 1), by omega, rfl, hlt, p'⟩, fun x H' y => ?_⟩
    have hyx := wk.yields i Hc x H' hlt hg y
    have gi : items[i]? = some items[i] := List.getElem?_eq_getElem hlt
    obtain ⟨nw, rx⟩ := hy2 i _ gi x H' hyx
    rw [List.drop_eq_getElem_cons hlt] at ht
    obtain ⟨hsz, ht⟩ := ht
    have sx : Step P.T Wt Hc Wt H' := Step.ext st.ok nw
    have k' := k.trans (sx.kp st.ok)
    have st' := st.trans sx
    have hl' : H' p = some (.lst vacc) := nw p _ hl
    have hr' := Reps.kp (sx.kp st.ok) _ _ hr
    have S2 : Sta P.noW (noOwn G) Wt (wipe σ vs) H' := (S.kpN k' (sb0.trans st')).noW
    refine ⟨noOwn G, Wt, items[i], _, S2, rx, ht, fun G2 h2 σ2 S3 ag => ⟨ag.wipe hsub, ?_⟩⟩
    refine ⟨G2, Wt, _, noR, S3, by rw [eo]; exact h2, exNo, fun b O2 h3 H3 W3 s3 e3 => ?_⟩
    obtain ⟨rfl, h3⟩ := h3
    have hl3 : H3 p = some (.lst vacc) := s3.keep p _ hl' hpm
    have npm3 : ¬ W3.pm p := s3.pm hl' hpm
    have hr3 : Reps P.T W3.F H3 acc vacc := Reps.kp (s3.kp st'.ok) _ _ hr'
    have st3 := st'.trans s3
    have k3 := k'.trans (s3.kp st'.ok)
    cases b with
    | false => exact ⟨W3, acc, vacc, k3, st3, e3, s3.sub p hF, npm3, hl3, hr3, h3⟩
    | true =>
      rw [if_pos rfl]
      refine ⟨G2, W3, _, noR, S3.step s3, by rw [e3]; exact h3, exNo, fun d O4 h4 y H4 W4 s4 e4 ry => ?_⟩
      obtain ⟨rfl, h4⟩ := h4
      have hl4 : H4 p = some (.lst vacc) := s4.keep p _ hl3 npm3
      have npm4 : ¬ W4.pm p := s4.pm hl3 npm3
      have hF4 := s4.sub p (s3.sub p hF)
      have hr4 : Reps P.T W4.F H4 acc vacc := Reps.kp (s4.kp s3.ok) _ _ hr3
      have km : Kp W4.F H4 W4.F (upd H4 p (.lst (vacc ++ [y]))) := Kp.mut hF4
      refine ⟨vacc, hl4, Nat.lt_of_lt_of_le (by rw [hr4.len]; exact hsz) (by decide), W4, acc ++ [d], vacc ++ [y], (k3.trans (s4.kp s3.ok)).trans km, (st3.trans s4).mutO nb hF4 npm4, e4, hF4, npm4, upd_same, ?_, h4⟩
      exact Reps.kp km _ _ (hr4.app (.cons ry .nil))
  · have : i = items.length := by omega
    subst this
    rw [List.drop_length] at ht
    exact .inl ⟨wk.stops Hc hg, hd Wt Hc acc vacc k st eo hF hpm hl hr ht⟩
theorem Wk.more {R : Rl} {W1 W2 : Wd} {H1 H2 : Hp} {items : List D} {J : It} (w : Wk P.T (RE P.T) W1 H1 items J) (k : Kp W1.F H1 W2.F H2) (e : W2.Om = W1.Om) : Wk P.T (RE P.T) W2 H2 items J := by
  obtain ⟨Gd, Y, w, hy⟩ := w
  exact ⟨Gd, Y, w, fun W3 H3 r => hy W3 H3 ⟨⟨k.trans r.1.1, r.1.2⟩, r.2.trans e⟩⟩
theorem om_no {T : Th} {Wt : Wd} {Hc : Hp} {p : Addr} (ok : WOk T Wt Hc) (hpm : ¬ Wt.pm p) : Wt.Om p = none := by
  cases q : Wt.Om p with
  | none => rfl
  | some m => exact (hpm ⟨p, by rw [q]; simp, (ok.at_ p m q).2⟩).elim
theorem lcE_imp {wi : WA} {f : WG} {wt : WT} {we : WE} {vs is : List Nat} (hsub : ∀ i ∈ is, i ∈ vs) :
    ∀ σ H Q, tF P (wCompE wi f wt we vs) σ H Q → tLc (tI P (RE P.T) wi) (tG P.noW is f) (tT P.noW wt) (tE P.noW we) vs σ H Q := fun σ H Q q => by
  obtain ⟨G, W, Q0, R0, S, q, ex, hq⟩ := q
  refine ⟨G, W, _, R0, S, q, ex, fun items O h1 J H1 W1 s1 e1 wk D hD => ?_⟩
  subst e1
  have S1 := S.step s1
  have n0 : Step P.T W1 H1 (W1.add D) (upd H1 D (.lst [])) := Step.newOwn s1.ok hD
  have npm0 : ¬ (W1.add D).pm D := fun z => s1.ok.trk D (s1.ok.sub D z) hD
  have S2 := (((S1.step n0)).wipe vs).noOwn
  have hb : H D = none := s1.back hD
  refine turnsE_it (Nx := fun H => Q (.ref D) H) (P := P) S.st (s1.trans n0) hb S2 hsub (wk.more (R := RE P.T) (n0.kp s1.ok) rfl) (.inr rfl) npm0 upd_same .nil h1 fun Wt Hc acc vacc k st eo hF hpm hl hr ht => ?_
  exact hq _ _ ht D Hc Wt st eo hb hF hpm (om_no st.ok hpm) ⟨vacc, hl, hr⟩
variable {elt tg iter tg1 iter1 : Expr} {ifs ifs1 : List Expr} {scope : Scope} {own : List (Str × Nat)} {pos : Pos} {wi wi1 : WA} {f f1 : WG} {wt wt1 : WT} {we : WE} {is is1 : List Nat}
theorem df_lcE (hc : X.calm = true) (hN : X.N.Nodup) (own : List (Str × Nat)) (hi : DI X P (RE P.T) tg iter wi)
    (hg : ∀ (s : Shared) (H : Hp) (C : Addr) (cl : List (Str × Addr)) (fp : List Addr), DG (X.blk s H scope (compEnvC scope cl C X.env) fp) P.noW tg is f)
    (ht : ∀ (s : Shared) (H : Hp) (C : Addr) (cl : List (Str × Addr)) (fp : List Addr), DTs (X.blk s H scope (compEnvC scope cl C X.env) fp) P.noW ifs wt)
    (he : ∀ (s : Shared) (H : Hp) (C : Addr) (cl : List (Str × Addr)) (fp : List Addr), DE (X.blk s H scope (compEnvC scope cl C X.env) fp) P.noW elt we)
    (ok : blkC X.N X.env.scope scope own = true := by kernel_rfl) (hsub : ∀ i ∈ is, i ∈ own.map (·.2) := by decide) (hs : ∀ x, foldedSetIterable iter X.env x = pure x := by intro _; rfl) :
    DF X P (.ListComp elt [⟨tg, iter, ifs, 0⟩] scope pos) (wCompE wi f wt we (own.map (·.2))) :=
  ⟨pe_imp (pe_lc hc hN hi.pi (blkOk_by ok) (fun s H C cl fp => (hg s H C cl fp).pg) (fun s H C cl fp => (ht s H C cl fp).pt) (fun s H C cl fp => (he s H C cl fp).pe) hs) (lcE_imp hsub)⟩
theorem ps_lcE {spos lpos : Pos} {y : Str} {py : Pos} (hc : X.calm = true) (hN : X.N.Nodup) (i : Nat) (own : List (Str × Nat)) (hi : DI X P (RE P.T) tg iter wi)
    (hg : ∀ (s : Shared) (H : Hp) (C : Addr) (cl : List (Str × Addr)) (fp : List Addr), DG (X.blk s H scope (compEnvC scope cl C X.env) fp) P.noW tg is f)
    (ht : ∀ (s : Shared) (H : Hp) (C : Addr) (cl : List (Str × Addr)) (fp : List Addr), DTs (X.blk s H scope (compEnvC scope cl C X.env) fp) P.noW ifs wt)
    (he : ∀ (s : Shared) (H : Hp) (C : Addr) (cl : List (Str × Addr)) (fp : List Addr), DE (X.blk s H scope (compEnvC scope cl C X.env) fp) P.noW elt we)
    (hy : X.N[i]? = some y) (hyl : X.env.scope.names.lookup y = some .local) (hsw : swapsWith (.ListComp elt [⟨tg, iter, ifs, 0⟩] scope lpos) (some (.Name y py)) spos.line X.env = pure true)
    (ok : blkC X.N X.env.scope scope own = true) (hsub : ∀ i ∈ is, i ∈ own.map (·.2)) (hs : ∀ x, foldedSetIterable iter X.env x = pure x) {t : TS} (himp : ∀ D σ H, t D σ H → tAsg (tF P (wCompE wi f wt we (own.map (·.2)))) (gName i) D σ H) :
    PS X (.Assign [.Name y py] (.ListComp elt [⟨tg, iter, ifs, 0⟩] scope lpos) spos) t :=
  ps_imp (ps_setLc hc hN hy hyl hsw hi.pi (blkOk_by ok) (fun s H C cl fp => (hg s H C cl fp).pg) (fun s H C cl fp => (ht s H C cl fp).pt) (fun s H C cl fp => (he s H C cl fp).pe) hs) fun D σ H q => lcE_imp hsub σ H _ (himp D σ H q)
theorem ds_setLcE {spos lpos : Pos} {y : Str} {py : Pos} (hc : X.calm = true) (hN : X.N.Nodup) (i : Nat) (own : List (Str × Nat)) (hi : DI X P (RE P.T) tg iter wi)
    (hg : ∀ (s : Shared) (H : Hp) (C : Addr) (cl : List (Str × Addr)) (fp : List Addr), DG (X.blk s H scope (compEnvC scope cl C X.env) fp) P.noW tg is f)
    (ht : ∀ (s : Shared) (H : Hp) (C : Addr) (cl : List (Str × Addr)) (fp : List Addr), DTs (X.blk s H scope (compEnvC scope cl C X.env) fp) P.noW ifs wt)
    (he : ∀ (s : Shared) (H : Hp) (C : Addr) (cl : List (Str × Addr)) (fp : List Addr), DE (X.blk s H scope (compEnvC scope cl C X.env) fp) P.noW elt we)
    (hy : X.N[i]? = some y := by rfl) (hyl : X.env.scope.names.lookup y = some .local := by rfl) (hsw : swapsWith (.ListComp elt [⟨tg, iter, ifs, 0⟩] scope lpos) (some (.Name y py)) spos.line X.env = pure true := by exact sw_true rfl rfl rfl (by decide +kernel))
    (ok : blkC X.N X.env.scope scope own = true := by kernel_rfl) (hsub : ∀ i ∈ is, i ∈ own.map (·.2) := by decide) (hs : ∀ x, foldedSetIterable iter X.env x = pure x := by intro _; rfl) :
    DS X P (.Assign [.Name y py] (.ListComp elt [⟨tg, iter, ifs, 0⟩] scope lpos) spos) (wSet i (wFrz (wCompE wi f wt we (own.map (·.2))))) := ⟨ps_lcE hc hN i own hi hg ht he hy hyl hsw ok hsub hs (setF_imp fun _ _ _ _ h => h)⟩
/-! ### of two -/
def wTurns2 (f : WG) (wi1 : WA) (f1 : WG) (wt1 : WT) (we : WE) (G : Gam) (vs1 : List Nat) (O1 : Om) : List D → List D → (List D → Prop) → Prop
  | [], acc, Q => Q acc
  | d :: r, acc, Q => f d G fun G2 => wi1 G2 O1 (fun items1 O2 => O2 = O1 ∧ wTurnsE f1 wt1 we (noOwn (wipeG G2 vs1)) O1 items1 acc fun acc' => wTurns2 f wi1 f1 wt1 we G vs1 O1 r acc' Q) noR
def wComp2 (wi : WA) (f : WG) (wi1 : WA) (f1 : WG) (wt1 : WT) (we : WE) (vs vs1 : List Nat) : WF := fun G Om Q R => wi G Om (fun items O1 => wTurns2 f wi1 f1 wt1 we (noOwn (wipeG G vs)) vs1 O1 items [] fun ds => Q (.lst ds) O1) R
theorem lc2_imp {vs vs1 : List Nat} (hsub : ∀ i ∈ is, i ∈ vs) (hsub1 : ∀ i ∈ is1, i ∈ vs1) :
    ∀ σ H Q, tF P (wComp2 wi f wi1 f1 wt1 we vs vs1) σ H Q → tLc2 (tI P (RE P.T) wi) (tG P.noW is f) (tT P.noW wtYes) (tI P.noW (RE P.T) wi1) (tG P.noW is1 f1) (tT P.noW wt1) (tE P.noW we) vs vs1 σ H Q := fun σ H Q q => by
  obtain ⟨G, W, Q0, R0, S, q, ex, hq⟩ := q
  refine ⟨G, W, _, R0, S, q, ex, fun items O h1 J H1 W1 s1 e1 wk p hp => ?_⟩
  subst e1
  have S1 := S.step s1
  have n0 : Step P.T W1 H1 (W1.add p) (upd H1 p (.lst [])) := Step.newOwn s1.ok hp
  have npm0 : ¬ (W1.add p).pm p := fun z => s1.ok.trk p (s1.ok.sub p z) hp
  have S2 := (((S1.step n0)).wipe vs).noOwn
  have hb : H p = none := s1.back hp
  have k0 := n0.kp s1.ok
  obtain ⟨Gd, Y, wk, hy⟩ := wk
  let Pv : Nat → Hp → Prop := fun i Hc => ∃ Wt acc vacc, Kp (W1.add p).F (upd H1 p (.lst [])) Wt.F Hc ∧ Step P.T W H Wt Hc ∧ Wt.Om = W1.Om ∧ Wt.F p ∧ ¬ Wt.pm p ∧ Hc p = some (.lst vacc) ∧ Reps P.T Wt.F Hc acc vacc ∧ wTurns2 f wi1 f1 wt1 we (noOwn (wipeG G vs)) vs1 W1.Om (items.drop i) acc fun ds => Q0 (.lst ds) W1.Om
  refine ⟨fun i m H => m = items.length - i ∧ i ≤ items.length ∧ Pv i H, ⟨items.length, by simp, Nat.zero_le _, W1.add p, [], [], Kp.refl, s1.trans n0, rfl, .inr rfl, npm0, upd_same, .nil, h1⟩, ?_⟩
  rintro i m Hc ⟨rfl, hi, Wt, acc, vacc, k, st, eo, hF, hpm, hl, hr, ht⟩
  obtain ⟨hg, hy2⟩ := hy Wt Hc ⟨⟨k0.trans k, st.ok⟩, eo⟩
  by_cases hlt : i < items.length
  · refine .inr ⟨wk.goes i Hc hlt hg, Pv (i + 1), fun H' p' => ⟨items.length - (i + 1), by omega, rfl, hlt, p'⟩, fun x H' y => ?_⟩
    have hyx := wk.yields i Hc x H' hlt hg y
    have gi : items[i]? = some items[i] := List.getElem?_eq_getElem hlt
    obtain ⟨nw, rx⟩ := hy2 i _ gi x H' hyx
    rw [List.drop_eq_getElem_cons hlt] at ht
    have sx : Step P.T Wt Hc Wt H' := Step.ext st.ok nw
    have k' := k.trans (sx.kp st.ok)
    have st' := st.trans sx
    have hl' : H' p = some (.lst vacc) := nw p _ hl
    have hr' := Reps.kp (sx.kp st.ok) _ _ hr
    have S3 : Sta P.noW (noOwn (wipeG G vs)) Wt (wipe σ vs) H' := (S2.kpN k' (S.st.trans st')).noW
    refine ⟨noOwn (wipeG G vs), Wt, items[i], _, S3, rx, ht, fun G2 h2 σ2 S4 ag => ⟨ag.wipe hsub, ?_⟩⟩
    refine ⟨G2, Wt, fun b O => b = true ∧ O = Wt.Om, noR, S4, ⟨rfl, rfl⟩, exNo, fun b O2 h3 H3 W3 s3 e3 => ?_⟩
    obtain ⟨rfl, rfl⟩ := h3
    rw [if_pos rfl]
    have hl3 : H3 p = some (.lst vacc) := s3.keep p _ hl' hpm
    have npm3 : ¬ W3.pm p := s3.pm hl' hpm
    have hF3 := s3.sub p hF
    have hr3 : Reps P.T W3.F H3 acc vacc := Reps.kp (s3.kp st'.ok) _ _ hr'
    have st3 := st'.trans s3
    have k3 := k'.trans (s3.kp st'.ok)
    have S5 := S4.step s3
    have eo3 : W3.Om = W1.Om := e3.trans eo
    refine ⟨G2, W3, _, noR, S5, by rw [eo3]; exact h2, exNo, fun items1 O4 h4 J1 H4 W4 s4 e4 wk1 => ?_⟩
    obtain ⟨rfl, h4⟩ := h4
    have hl4 : H4 p = some (.lst vacc) := s4.keep p _ hl3 npm3
    have npm4 : ¬ W4.pm p := s4.pm hl3 npm3
    have hF4 := s4.sub p hF3
    have hr4 : Reps P.T W4.F H4 acc vacc := Reps.kp (s4.kp s3.ok) _ _ hr3
    have S6 : Sta P.noW (noOwn (wipeG G2 vs1)) W4 (wipe σ2 vs1) H4 := ((S5.step s4).wipe vs1).noOwn
    refine turnsE_it (P := P.noW) (Nx := Pv (i + 1)) (W1 := W4) S.st (st3.trans s4) hb S6 hsub1 wk1 hF4 npm4 hl4 hr4 (by rw [e4]; exact h4) fun Wt' Hc' acc' vacc' k5 st5 eo5 hF5 hpm5 hl5 hr5 hq5 => ?_
    exact ⟨Wt', acc', vacc', (k3.trans (s4.kp s3.ok)).trans k5, st5, eo5.trans e4, hF5, hpm5, hl5, hr5, hq5⟩
  · have : i = items.length := by omega
    subst this
    rw [List.drop_length] at ht
    exact .inl ⟨wk.stops Hc hg, hq _ _ ht p Hc Wt st eo hb hF hpm (om_no st.ok hpm) ⟨vacc, hl, hr⟩⟩
theorem df_lc2 (hc : X.calm = true) (hN : X.N.Nodup) (own : List (Str × Nat)) (vs1 : List Nat) (hi : DI X P (RE P.T) tg iter wi)
    (hg : ∀ (s : Shared) (H : Hp) (C : Addr) (cl : List (Str × Addr)) (fp : List Addr), DG (X.blk s H scope (compEnvC scope cl C X.env) fp) P.noW tg is f)
    (hi1 : ∀ (s : Shared) (H : Hp) (C : Addr) (cl : List (Str × Addr)) (fp : List Addr), DI (X.blk s H scope (compEnvC scope cl C X.env) fp) P.noW (RE P.T) tg1 iter1 wi1)
    (hg1 : ∀ (s : Shared) (H : Hp) (C : Addr) (cl : List (Str × Addr)) (fp : List Addr), DG (X.blk s H scope (compEnvC scope cl C X.env) fp) P.noW tg1 is1 f1)
    (ht1 : ∀ (s : Shared) (H : Hp) (C : Addr) (cl : List (Str × Addr)) (fp : List Addr), DTs (X.blk s H scope (compEnvC scope cl C X.env) fp) P.noW ifs1 wt1)
    (he : ∀ (s : Shared) (H : Hp) (C : Addr) (cl : List (Str × Addr)) (fp : List Addr), DE (X.blk s H scope (compEnvC scope cl C X.env) fp) P.noW elt we)
    (ok : blkC X.N X.env.scope scope own = true := by kernel_rfl) (hv : ∀ i ∈ vs1, i ∈ own.map (·.2) := by decide) (hsub : ∀ i ∈ is, i ∈ own.map (·.2) := by decide) (hsub1 : ∀ i ∈ is1, i ∈ vs1 := by decide) (hs : ∀ x, foldedSetIterable iter X.env x = pure x := by intro _; rfl) (hs1 : ∀ env x, foldedSetIterable iter1 env x = pure x := by intro _ _; rfl) :
    DF X P (.ListComp elt [⟨tg, iter, [], 0⟩, ⟨tg1, iter1, ifs1, 0⟩] scope pos) (wComp2 wi f wi1 f1 wt1 we (own.map (·.2)) vs1) :=
  ⟨pe_imp (pe_lc2 hc hN hi.pi (blkOk_by ok) hv (fun s H C cl fp => (hg s H C cl fp).pg) (fun s H C cl fp => dts_nil.pt) (fun s H C cl fp => (hi1 s H C cl fp).pi) (fun s H C cl fp => (hg1 s H C cl fp).pg) (fun s H C cl fp => (ht1 s H C cl fp).pt) (fun s H C cl fp => (he s H C cl fp).pe) hs hs1) (lc2_imp hsub hsub1)⟩
end
end N

set_option Elab.async false
set_option linter.all false
set_option maxRecDepth 100000
set_option maxHeartbeats 0
/-! NSo: sorted, of ints and of pairs of ints -/
namespace N
open PySem PySem.Spec PyProof.Rows L2
def leI (a b : Int) : Bool := decide (a ≤ b)
def leP (p q : Int × Int) : Bool := decide (p.1 < q.1 ∨ (p.1 = q.1 ∧ p.2 ≤ q.2))
def srtI (ns : List Int) : List Int := ns.mergeSort leI
def srtP (ps : List (Int × Int)) : List (Int × Int) := ps.mergeSort leP
theorem srtI_perm (ns : List Int) : (srtI ns).Perm ns := List.mergeSort_perm ns leI
theorem srtP_perm (ps : List (Int × Int)) : (srtP ps).Perm ps := List.mergeSort_perm ps leP
theorem srtI_sorted (ns : List Int) : (srtI ns).Pairwise (· ≤ ·) := (List.pairwise_mergeSort (le := leI) (fun a b c h1 h2 => by simp only [leI, decide_eq_true_eq] at *; omega) (fun a b => by simp only [leI, Bool.or_eq_true, decide_eq_true_eq]; omega) ns).imp fun h => by simpa [leI] using h
theorem srtP_sorted (ps : List (Int × Int)) : (srtP ps).Pairwise (fun p q => leP p q = true) := List.pairwise_mergeSort (le := leP) (fun a b c h1 h2 => by simp only [leP, decide_eq_true_eq] at *; omega) (fun a b => by simp only [leP, Bool.or_eq_true, decide_eq_true_eq]; omega) ps
theorem srtI_uniq {a b : List Int} (h : a.Perm b) (ha : a.Pairwise (· ≤ ·)) : a = srtI b :=
  (h.trans (srtI_perm b).symm).eq_of_pairwise (fun x y _ _ h1 h2 => by omega) ha (srtI_sorted b)
theorem srtP_uniq {a b : List (Int × Int)} (h : a.Perm b) (ha : a.Pairwise (fun p q => leP p q = true)) : a = srtP b :=
  (h.trans (srtP_perm b).symm).eq_of_pairwise (fun x y _ _ h1 h2 => by simp only [leP, decide_eq_true_eq] at h1 h2; exact Prod.ext (by omega) (by omega)) ha (srtP_sorted b)
def prD (p : Int × Int) : D := .tup [.int p.1, .int p.2]
def asInts : List D → Option (List Int)
  | [] => some []
  | .int i :: r => (asInts r).map (i :: ·)
  | _ :: _ => none
def asPairs : List D → Option (List (Int × Int))
  | [] => some []
  | .tup [.int i, .int j] :: r => (asPairs r).map ((i, j) :: ·)
  | _ :: _ => none
theorem asInts_map : ∀ ns : List Int, asInts (ns.map .int) = some ns
  | [] => rfl
  | n :: ns => by simp [asInts, asInts_map ns]
theorem asPairs_map : ∀ ps : List (Int × Int), asPairs (ps.map prD) = some ps
  | [] => rfl
  | p :: ps => by simp [asPairs, prD, asPairs_map ps]
theorem asInts_eq : ∀ {ds : List D} {ns : List Int}, asInts ds = some ns → ds = ns.map .int
  | [], ns, h => by cases h; rfl
  | .int i :: r, ns, h => by
    simp only [asInts, Option.map_eq_some_iff] at h
    obtain ⟨m, h, rfl⟩ := h
    rw [asInts_eq h]; rfl
  | .non :: r, ns, h => by simp [asInts] at h
  | .bl _ :: r, ns, h => by simp [asInts] at h
  | .str _ :: r, ns, h => by simp [asInts] at h
  | .ty _ :: r, ns, h => by simp [asInts] at h
  | .ref _ :: r, ns, h => by simp [asInts] at h
  | .tup _ :: r, ns, h => by simp [asInts] at h
  | .lst _ :: r, ns, h => by simp [asInts] at h
  | .dct _ _ :: r, ns, h => by simp [asInts] at h
  | .ins _ _ _ :: r, ns, h => by simp [asInts] at h
  | .scr _ :: r, ns, h => by simp [asInts] at h
theorem asPairs_eq : ∀ {ds : List D} {ps : List (Int × Int)}, asPairs ds = some ps → ds = ps.map prD := by
  intro ds
  induction ds with
  | nil => intro ps h; cases h; rfl
  | cons d r ih =>
    intro ps h
    unfold asPairs at h
    split at h
    · rename_i e; cases e
    · rename_i i j r' e
      cases e
      simp only [Option.map_eq_some_iff] at h
      obtain ⟨m, h, rfl⟩ := h
      rw [ih h]; rfl
    · cases h
def keysI : List Key → Option (List Int)
  | [] => some []
  | .inl i :: r => (keysI r).map (i :: ·)
  | .inr _ :: _ => none
theorem keysI_map : ∀ ns : List Int, keysI (ns.map Sum.inl) = some ns
  | [] => rfl
  | n :: ns => by simp [keysI, keysI_map ns]
theorem keysI_eq : ∀ {ks : List Key} {ns : List Int}, keysI ks = some ns → ks = ns.map Sum.inl
  | [], ns, h => by cases h; rfl
  | .inl i :: r, ns, h => by
    simp only [keysI, Option.map_eq_some_iff] at h
    obtain ⟨m, h, rfl⟩ := h
    rw [keysI_eq h]; rfl
  | .inr _ :: r, ns, h => by simp [keysI] at h
def gSorted : GCF
  | [.dct ks vs], Q => match keysI ks with
    | some ns => ns.length < 64 ∧ Q (.lst ((srtI ns).map .int))
    | none => False
  | [.lst xs], Q => match asInts xs with
    | some ns => Q (.lst ((srtI ns).map .int))
    | none => match asPairs xs with
      | some ps => Q (.lst ((srtP ps).map prD))
      | none => False
  | _, _ => False
theorem gSorted_d {ns : List Int} {vs : List D} {Q : MO → Prop} : gSorted [.dct (ns.map Sum.inl) vs] Q = (ns.length < 64 ∧ Q (.lst ((srtI ns).map .int))) := by
  simp only [gSorted, keysI_map]
theorem gSorted_i {ns : List Int} {Q : MO → Prop} : gSorted [.lst (ns.map .int)] Q = Q (.lst ((srtI ns).map .int)) := by
  simp only [gSorted, asInts_map]
theorem gSorted_p {ps : List (Int × Int)} {Q : MO → Prop} : gSorted [.lst (ps.map prD)] Q = Q (.lst ((srtP ps).map prD)) := by
  cases ps with
  | nil => simp [gSorted, asInts, srtI, srtP]
  | cons p ps => 
    have : asInts ((p :: ps).map prD) = none := rfl
    simp only [gSorted, this, asPairs_map]
def rSortedPT (K : PySem.W.Frag) : List V → Hp → VK → Prop := fun vs H Q => ∃ (a : Addr) (xs : List V) (k : V → Int × Int), vs = [V.ref a] ∧ SqL K H a xs ∧ (∀ x ∈ xs, ∃ t, x = V.ref t ∧ SqT K H t [.int (k x).1, .int (k x).2]) ∧
  ∀ ys p, SrtO.Srtd (ltP k) ys → SrtO.Stb (ltP k) ys xs → H p = none → Q (.ref p) (upd H p (.lst ys))
section
variable {X : Cx} {T : Th}
theorem cr_sortedPT : CallR X (.builtin "sorted") (rSortedPT X.K) := by
  intro pins s σ H vs us Q I r h
  obtain ⟨a, xs, k, rfl, hs, hx, q⟩ := h
  obtain ⟨its, rv, hl, hz⟩ := I.list hs
  obtain ⟨u, rfl, ru⟩ := vals1 r
  obtain rfl : u = Value.ref a := ru
  obtain ⟨e1, e2⟩ := refs_back rv fun x m => by
    obtain ⟨t, e, _⟩ := hx x m
    exact ⟨t, e⟩
  refine SrtO.sorted_pairsO (k := fun u => k (backV u)) hl.isList (by rw [← rv.length]; exact hz) (fun v hv => ?_) fun h' d out h1 h2 kp hd hn => ?_
  · obtain ⟨t, rfl⟩ := e2 v hv
    have hm : V.ref t ∈ xs := by rw [e1]; exact List.mem_map.mpr ⟨_, hv, rfl⟩
    obtain ⟨t', e, ht⟩ := hx _ hm
    cases e
    obtain ⟨its2, r2, ⟨o, ho, hc, n, hd⟩, _⟩ := I.tuple ht
    obtain ⟨u1, u2, rfl, ri, rj⟩ := vals2 r2
    obtain ⟨t1, rfl⟩ := ri
    obtain ⟨t2, rfl⟩ := rj
    exact ⟨t, o, t1, t2, n, rfl, ho, hc, hd⟩
  · have h3 : ∀ u ∈ out, ∃ a, u = Value.ref a := fun u hu => e2 u (h2.perm.mem_iff.mp hu)
    obtain ⟨n, hn⟩ := hn
    have hb : SrtO.Stb (ltP k) (out.map backV) xs := by
      rw [e1]
      exact SrtO.Stb.map (ltP_swo k) backV h2
    refine ⟨.ref d, upd H d (.lst (out.map backV)), I.laid (t' := s.toks) kp hd ⟨?_, out, n, vals_back h3, hn⟩, rfl, q _ d (SrtO.srtd_map h1) hb (I.hok.fresh hd)⟩
    rw [hb.len]
    exact hz
theorem rep_pair (hK : T.K = X.K) {F : Addr → Prop} {H : Hp} {p : Int × Int} {v : V} (h : Rep T F H (prD p) v) : ∃ t, v = .ref t ∧ SqT X.K H t [.int p.1, .int p.2] := by
  simp only [prD, Rep, Reps] at h
  obtain ⟨a, vs, rfl, h, _, _, rfl, rfl, _, _, rfl, rfl, rfl⟩ := h
  exact ⟨a, rfl, hK ▸ tupAt h⟩
theorem reps_memP (hK : T.K = X.K) {F : Addr → Prop} {H : Hp} : ∀ {ps : List (Int × Int)} {vs : List V}, Reps T F H (ps.map prD) vs → ∀ v ∈ vs, ∃ p, Rep T F H (prD p) v
  | [], vs, h, v, hv => by simp only [List.map_nil, Reps] at h; subst h; cases hv
  | p :: ps, vs, h, v, hv => by
    simp only [List.map_cons, Reps] at h
    obtain ⟨u, w, rfl, h1, h2⟩ := h
    rcases List.mem_cons.mp hv with rfl | hv
    · exact ⟨p, h1⟩
    · exact reps_memP hK h2 v hv
theorem reps_k {F : Addr → Prop} {H : Hp} (k : V → Int × Int) : ∀ {vs : List V}, (∀ v ∈ vs, Rep T F H (prD (k v)) v) → Reps T F H ((vs.map k).map prD) vs
  | [], _ => .nil
  | v :: vs, h => .cons (h v List.mem_cons_self) (reps_k k fun u hu => h u (List.mem_cons_of_mem _ hu))
theorem reps_kE {F : Addr → Prop} {H : Hp} (k : V → Int × Int) : ∀ {ps : List (Int × Int)} {vs : List V}, Reps T F H (ps.map prD) vs → (∀ v ∈ vs, ∀ p, Rep T F H (prD p) v → k v = p) → vs.map k = ps
  | [], vs, h, _ => by simp only [List.map_nil, Reps] at h; subst h; rfl
  | p :: ps, vs, h, hk => by
    simp only [List.map_cons, Reps] at h
    obtain ⟨u, w, rfl, h1, h2⟩ := h
    rw [List.map_cons, hk u List.mem_cons_self p h1, reps_kE k h2 fun v hv => hk v (List.mem_cons_of_mem _ hv)]
open Classical in
theorem cf_sorted (hK : T.K = X.K) (hcalm : X.calm = true) : CallF X T (.builtin "sorted") gSorted := by
  intro pins s σ H xs us Q I r ⟨F, Pm, ds, Qd, hx, hF, hg, hq⟩
  match ds, hg with
  | [.dct ks vs], hg =>
    obtain ⟨v, rfl, h⟩ := reps1 hx
    obtain ⟨a, ws, rfl, ha, _, l, rs⟩ := h
    unfold gSorted at hg
    simp only at hg
    split at hg
    · rename_i ns e
      have := keysI_eq e
      subst this
      refine call_sortedDI hcalm pins s σ H _ us Q I r ⟨a, _, ns, rfl, ha, ?_, hg.1, fun ns' p h1 h2 hp => ?_⟩
      · rw [List.map_fst_zip (by rw [rs.len, ← l]; exact Nat.le_refl _)]
      · rw [srtI_uniq h1 h2]
        exact hq _ hg.2 p (.lst _) hp (Reps.ints _)
    · exact hg.elim
  | [.lst xs], hg =>
    obtain ⟨v, rfl, h⟩ := reps1 hx
    obtain ⟨a, vs, rfl, ha, _, rs⟩ := h
    unfold gSorted at hg
    simp only at hg
    split at hg
    · rename_i ns e
      have := asInts_eq e
      subst this
      have := rs.ofInts
      subst this
      refine cr_sortedI pins s σ H _ us Q I r ⟨a, ns, rfl, .of ha, fun ns' p h1 h2 hp => ?_⟩
      rw [srtI_uniq h1 h2]
      exact hq _ hg p (.lst _) hp (Reps.ints _)
    · split at hg
      · rename_i ps e
        have := asPairs_eq e
        subst this
        have hm := reps_memP (X := X) hK rs
        let k : V → Int × Int := fun v => if h : ∃ p, Rep T F H (prD p) v then h.choose else (0, 0)
        have kr : ∀ v ∈ vs, Rep T F H (prD (k v)) v := fun v hv => by
          show Rep T F H (prD (if h : ∃ p, Rep T F H (prD p) v then h.choose else (0, 0))) v
          rw [dif_pos (hm v hv)]
          exact (hm v hv).choose_spec
        have ku : ∀ v ∈ vs, ∀ p, Rep T F H (prD p) v → k v = p := fun v hv p hp => by
          obtain ⟨t, rfl, h1⟩ := rep_pair (X := X) hK hp
          obtain ⟨t', e, h2⟩ := rep_pair (X := X) hK (kr _ hv)
          cases e
          have := I.tuple_inj h2 h1
          injection this with e1 e2
          injection e2 with e2 _
          injection e1 with e1
          injection e2 with e2
          exact Prod.ext e1 e2
        refine cr_sortedPT pins s σ H _ us Q I r ⟨a, vs, k, rfl, .of ha, fun x hx => rep_pair (X := X) hK (kr x hx), fun ys p h1 h2 hp => ?_⟩
        have e2 : ys.map k = srtP ps := by
          rw [← reps_kE k rs ku]
          refine srtP_uniq (h2.perm.map k) (List.pairwise_map.mpr (h1.imp fun {x y} h => ?_))
          have := SrtO.lexB_no.mp h
          simp only [leP, decide_eq_true_eq]
          omega
        refine hq _ hg p (.lst ys) hp ?_
        rw [← e2]
        exact reps_k k fun v hv => kr v (h2.perm.mem_iff.mp hv)
      · exact hg.elim
end
end N

set_option Elab.async false
set_option linter.all false
set_option maxRecDepth 100000
set_option maxHeartbeats 0
namespace N
open PySem PySem.Spec PyProof.Rows L2
/-! an own dict becomes a value: it is locked for good -/
section
variable {X : Cx} {P : Pm}
theorem Sta.frzO {G : Gam} {W : Wd} {σ : L2.St} {H : Hp} {i : Nat} {ks : List Key} {ds : List D} {a : Addr} {o : HO} (S : Sta P G W σ H) (ok0 : WOk P.T P.W0 P.H0) (g : G[i]? = some (.own (.dct ks ds))) (e : σ[i]? = some (some (.ref a)))
    (r : Rep P.T (W.del a).F (upd H a o) (.dct ks ds) (.ref a)) (oa : OwnAt P W H a (.dct ks ds)) (no : ∀ q, o ≠ LamX.CodeO a q := by intro _ z; cases z) : ∃ W', W'.Om = W.Om ∧ Kp W.F H W'.F (upd H a o) ∧ Sta P (G.set i (.val (.dct ks ds))) W' σ (upd H a o) := by
  have k1 : Kp W.F H W.F (upd H a o) := Kp.mut oa.f
  have kp : Kp W.F H (W.del a).F (upd H a o) := ⟨k1.same', fun b h => .inl h.1, k1.trk⟩
  refine ⟨W.del a, rfl, kp, (S.st.mutO oa.n oa.f oa.p no).del ok0 oa.n oa.p, by simp [S.len], fun j s es => ?_, fun j k m1 m2 b e1 e2 h1 h2 => ?_⟩
  · by_cases q : i = j
    · subst q
      rw [List.getElem?_set, if_pos rfl] at es
      split at es
      · cases es
        exact ⟨.ref a, e, r⟩
      · cases es
    · rw [List.getElem?_set_ne q] at es
      have z := S.sl j s es
      cases s with
      | no => trivial
      | val d =>
        obtain ⟨v, e1, r⟩ := z
        exact ⟨v, e1, Rep.kp kp d v r⟩
      | own m' =>
        obtain ⟨b, e1, ob⟩ := z
        have hne : b ≠ a := fun z => q (S.ap i j _ m' a g es e (z ▸ e1))
        exact ⟨b, e1, ⟨⟨ob.f, hne⟩, ob.o, ob.p, ob.n, noFp (fp := fun _ => False) kp (upd_ne hne) ob.r⟩⟩
  · have back : ∀ (j : Nat) mm, (G.set i (.val (.dct ks ds)))[j]? = some (.own mm) → G[j]? = some (.own mm) := fun j mm e => by
      by_cases q : i = j
      · subst q
        rw [List.getElem?_set, if_pos rfl] at e
        split at e <;> cases e
      · rwa [List.getElem?_set_ne q] at e
    exact S.ap j k m1 m2 b (back j m1 e1) (back k m2 e2) h1 h2
def fzD (s : Sl) (K : Gam → Prop) (G : Gam) (i : Nat) : Prop := match s with | .own (.dct ks ds) => K (G.set i (.val (.dct ks ds))) | .val _ => K G | _ => False
def wFzD (i : Nat) (w : WS) : WS := fun G Om Po => fzD (getSl G i) (fun G' => w G' Om Po) G i
theorem fzD_d {K : Gam → Prop} {G : Gam} {i : Nat} {ks : List Key} {ds : List D} : fzD (.own (.dct ks ds)) K G i = K (G.set i (.val (.dct ks ds))) := rfl
theorem fzD_v {K : Gam → Prop} {G : Gam} {i : Nat} {d : D} : fzD (.val d) K G i = K G := rfl
theorem wFzD_e {w : WS} {G : Gam} {i : Nat} {Om : Om} {Po : Post} : wFzD i w G Om Po = fzD (getSl G i) (fun G' => w G' Om Po) G i := rfl
theorem dss_fzD (i : Nat) {ss : List Stmt} {u : WS} (ok0 : WOk P.T P.W0 P.H0) (h : DSs X P ss u) : DSs X P ss (wFzD i u) := by
  refine ⟨⟨fun pins s σ H D I ⟨G, W, Po, S, q, hp⟩ => ?_⟩⟩
  unfold wFzD fzD at q
  split at q
  · rename_i ks ds ed
    have gg := getSl_get G i (by rw [ed]; intro z; cases z)
    rw [ed] at gg
    obtain ⟨a, e, oa⟩ := S.sl i _ gg
    obtain ⟨vs, ha, l, r⟩ := oa.r
    obtain ⟨od, I2⟩ := I.lock ha trivial
    have k1 : Kp W.F H W.F (upd H a (.frz od (.dK (ks.zip vs)))) := Kp.mut oa.f
    have k2 : Kp W.F (upd H a (.frz od (.dK (ks.zip vs)))) (W.del a).F (upd H a (.frz od (.dK (ks.zip vs)))) := Kp.less fun b h => h.1
    have r2 : Rep P.T (W.del a).F (upd H a (.frz od (.dK (ks.zip vs)))) (.dct ks ds) (.ref a) := by
      simp only [Rep]
      exact ⟨a, vs, rfl, ⟨od, upd_same⟩, fun z => z.2 rfl, l, Reps.kp k2 _ _ (Reps.kp k1 _ _ r)⟩
    obtain ⟨W', eO, k, S'⟩ := S.frzO ok0 gg e r2 oa
    exact h.ps.run pins s σ _ D I2 ⟨_, W', Po, S', by rw [eO]; exact q, hp.kp k⟩
  · exact h.ps.run pins s σ H D I ⟨G, W, Po, S, q, hp⟩
  · exact q.elim
end
end N

set_option Elab.async false
set_option linter.all false
set_option maxRecDepth 100000
set_option maxHeartbeats 0
/-! NSd: makes whose __init__ shares new things; the readings of NSa NSb NSc as equations -/
namespace N
open PySem PySem.Spec PyProof.Rows L2
section
variable {X : Cx} {P : Pm} {c n k : Nat} {S : DSp} {wl : WA} {x : Str} {e : Expr} {es : List Expr} {p pos : Pos}
def wMakeG (c n : Nat) (S : DSp) (wa : WA) : WE := fun G Om Q R => wa G Om (fun ds O => ds.length + 1 = n ∧ ∀ a, O a = none → S (.ref a :: ds) (putO O a (.ins c [] [])) (fun d O' => d = .non ∧ ∃ ns vs, O' a = some (.ins c ns vs) ∧ Q (.ins c ns vs) (delO O' a)) R) R
theorem makeG_imp {ta : TA} (i : ∀ σ H Q, tA P wl σ H Q → ta σ H Q) : ∀ σ H Q, tE P (wMakeG c n S wl) σ H Q → tMakeQ (P.T.cm c) (toSp P.T n S) (L2.WE P.W) ta σ H Q := fun σ H Q q => by
  obtain ⟨G, W, Q0, R0, S0, q, ex, hq⟩ := q
  refine i _ _ _ ⟨G, W, _, R0, S0, q, ex, fun ds O h1 vs H1 W1 s1 e1 r y dx hy hd ne => ?_⟩
  subst e1
  obtain ⟨hn, h1⟩ := h1
  have s2 := make_st (c := c) s1.ok hy hd ne
  have s3 := s1.trans s2
  have ny := om_none s1.ok hy
  refine sp_of rfl S0.ok s3 (ds := .ref y :: ds) (vs := .ref y :: vs) (by simpa using hn) (.cons (by simp [Rep]) (Reps.kp (s2.kp s1.ok) _ _ r)) (h1 y ny) ex fun d O' q2 v H' W' s' e' r' => ?_
  obtain ⟨rfl, ns, us, e4, q2⟩ := q2
  subst e'
  obtain ⟨⟨dx', ws, ha, l, rs⟩, fy⟩ := s'.ok.at_ y _ e4
  have s5 : Step P.T W H (W'.delS y) H' := s'.frzS S0.ok (s1.back hy) e4
  refine ⟨by simpa [Rep] using r', hq _ _ q2 _ H' (W'.delS y) s5 rfl ?_⟩
  simp only [Rep]
  exact ⟨y, dx', ws, rfl, ha, fun z => z.2 rfl, l, Reps.kp (Kp.less fun b h => h.1) _ _ rs⟩
theorem de_makeG (cl : ClI X.prog X.w X.K X.mg X.base P.T k c x n S) (hr : Room (k + 1) X.A) (tk : Takes X P.W) (ha : DA X P (e :: es) wl) (hg : Gl X x := by rfl) (hdb : (x == ("__debug__" : Str)) = false := by decide)
    (he : starEach (e :: es) X.env = (false, eval e X.env) :: starEach es X.env := by rfl) (hpl : (backTo pos (starEach es X.env)).any (·.1) = false := by rfl) : DE X P (.Call (.Name x p) (e :: es) [] pos) (wMakeG c n S wl) :=
  let ⟨_, _, _, F, h1, h2, hb⟩ := cl.ex
  ⟨pe_imp (pe_makeQ h2 F hr hg h1 hb (fun σ => passAt tk σ) ha.pa hdb he hpl) (makeG_imp fun _ _ _ z => z)⟩
end
/-! ### equations -/
def asSh (o : Option MO) (Q : D → Prop) : Prop := match o with | some (.lst xs) => Q (.lst xs) | some (.dct ks vs) => Q (.dct ks vs) | _ => False
def asShL (o : Option MO) (Q : List D → Prop) : Prop := match o with | some (.lst xs) => Q xs | _ => False
def asShD (o : Option MO) (Q : List Key → List D → Prop) : Prop := match o with | some (.dct ks vs) => Q ks vs | _ => False
section
variable {Q : D → Prop} {QL : List D → Prop} {QD : List Key → List D → Prop} {xs vs : List D} {ks : List Key} {O Om : N.Om}
theorem asSh_l : asSh (some (.lst xs)) Q = Q (.lst xs) := rfl
theorem asSh_d : asSh (some (.dct ks vs)) Q = Q (.dct ks vs) := rfl
theorem asShL_l : asShL (some (.lst xs)) QL = QL xs := rfl
theorem asShD_d : asShD (some (.dct ks vs)) QD = QD ks vs := rfl
theorem cont_r {q : Addr} : cont O (.ref q) Q = asSh (O q) Q := rfl
theorem cont_n : cont O .non Q = Q .non := rfl
theorem cont_b {b : Bool} : cont O (.bl b) Q = Q (.bl b) := rfl
theorem cont_i {b : Int} : cont O (.int b) Q = Q (.int b) := rfl
theorem cont_s {b : Str} : cont O (.str b) Q = Q (.str b) := rfl
theorem cont_t : cont O (.tup xs) Q = Q (.tup xs) := rfl
theorem cont_l : cont O (.lst xs) Q = Q (.lst xs) := rfl
theorem cont_d : cont O (.dct ks vs) Q = Q (.dct ks vs) := rfl
theorem cont_o {c : Nat} {ns : List Str} : cont O (.ins c ns vs) Q = Q (.ins c ns vs) := rfl
theorem contL_n {Q : List D → Prop} : contL O [] Q = Q [] := rfl
theorem contL_c {Q : List D → Prop} {d : D} : contL O (d :: xs) Q = cont O d fun d' => contL O xs fun r' => Q (d' :: r') := rfl
variable {w wa wb wo wi wv : WE} {wl : WA} {wf : WF} {f f1 : WG} {u : WS} {wt : WT} {we : WE} {G : Gam} {Q : D → N.Om → Prop} {QF : MO → N.Om → Prop} {QA : List D → N.Om → Prop} {R : RX} {Po : Post} {g : GD} {gc : GC} {gf : GCF} {vs1 vs0 : List Nat}
theorem wBinC_e : wBinC g wa wb G Om Q R = wa G Om (fun x O1 => wb G O1 (fun y O2 => cont O2 x fun x' => cont O2 y fun y' => g x' y' fun z => Q z O2) R) R := rfl
theorem wCallC_e : wCallC gc wl G Om Q R = wl G Om (fun ds O => contL O ds fun ds' => gc ds' fun z => Q z O) R := rfl
theorem wCallFC_e : wCallFC gf wl G Om QF R = wl G Om (fun ds O => contL O ds fun ds' => gf ds' fun z => QF z O) R := rfl
theorem wShF_e : wShF wf G Om Q R = wf G Om (fun m O => ∀ q, O q = none → Q (.ref q) (putO O q m)) R := rfl
theorem wItC_e : wItC w G Om QA R = w G Om (fun d O => asR d fun q => asShL (O q) fun xs => QA xs O) R := by
  unfold wItC gItC asR asShL
  congr 1
theorem wForE_e : wForE wl f u G Om Po = wl G Om (fun items O => wForLE f u O items G O Po) fun x O => Po.ex x G O := rfl
theorem wForLE_n {O1 : N.Om} : wForLE f u O1 [] G Om Po = Po.nx G Om := rfl
theorem wForLE_c {O1 : N.Om} {d : D} {r : List D} : wForLE f u O1 (d :: r) G Om Po = f d G fun G' => u G' Om { Po with nx := fun G2 O2 => O2 = O1 ∧ wForLE f u O1 r G2 O2 Po, ct := fun G2 O2 => O2 = O1 ∧ wForLE f u O1 r G2 O2 Po, bk := Po.nx } := rfl
theorem wCompE_e : wCompE wl f wt we vs0 G Om QF R = wl G Om (fun items O1 => wTurnsE f wt we (noOwn (wipeG G vs0)) O1 items [] fun ds => QF (.lst ds) O1) R := rfl
theorem wComp2_e {wi1 : WA} {wt1 : WT} : wComp2 wl f wi1 f1 wt1 we vs0 vs1 G Om QF R = wl G Om (fun items O1 => wTurns2 f wi1 f1 wt1 we (noOwn (wipeG G vs0)) vs1 O1 items [] fun ds => QF (.lst ds) O1) R := rfl
theorem wAppS_e : wAppS wo wi G Om Q R = wo G Om (fun d O => asR d fun q => asShL (O q) fun _ => wi G O (fun z O' => asShL (O' q) fun ys => ys.length < 16777216 ∧ Q .non (putO O' q (.lst (ys ++ [z])))) R) R := by
  unfold wAppS asR asShL
  congr 1
theorem wRemS_e : wRemS wo wi G Om Q R = wo G Om (fun d O => asR d fun q => asShL (O q) fun _ => wi G O (fun z O' => asI z fun k => ∃ (ns : List Int) (j : Nat), O' q = some (.lst (ns.map .int)) ∧ ns.findIdx? (· == k) = some j ∧ Q .non (putO O' q (.lst ((ns.eraseIdx j).map .int)))) R) R := by
  unfold wRemS asR asShL asI
  congr 1
theorem wSetIxS_e : wSetIxS wv wo wi G Om Po = wv G Om (fun d O => wo G O (fun z O1 => wi G O1 (fun y O2 => asR z fun q => asI y fun k => asShL (O2 q) fun xs => asO (ixN xs.length k) fun j => Po.nx G (putO O2 q (.lst (xs.set j d)))) fun x O => Po.ex x G O) fun x O => Po.ex x G O) fun x O => Po.ex x G O := by
  unfold wSetIxS asR asShL asI asO
  congr 1
  funext d O
  congr 1
  funext z O1
  congr 1
  funext y O2
  cases z <;> (try rfl)
  cases y <;> (try rfl)
  rename_i q k
  dsimp only
  cases O2 q with
  | none => rfl
  | some m =>
    cases m <;> (try rfl)
    rename_i xs
    dsimp only
    cases ixN xs.length k <;> rfl
theorem wPutS_e : wPutS wv wo wi G Om Po = wv G Om (fun d O => wo G O (fun z O1 => wi G O1 (fun y O2 => asR z fun q => asShD (O2 q) fun ks vs => asK y fun k => ks.Nodup ∧ ks.length < 16777216 ∧ Po.nx G (putO O2 q (.dct (putKs ks k) (putVs ks vs k d)))) fun x O => Po.ex x G O) fun x O => Po.ex x G O) fun x O => Po.ex x G O := by
  unfold wPutS asR asShD asK
  congr 1
  funext d O
  congr 1
  funext z O1
  congr 1
  funext y O2
  cases z <;> (try rfl)
  rename_i q
  dsimp only
  cases O2 q with
  | none => cases keyD y <;> rfl
  | some m => cases m <;> cases keyD y <;> rfl
theorem wMakeG_e {c n : Nat} {S : DSp} : wMakeG c n S wl G Om Q R = wl G Om (fun ds O => ds.length + 1 = n ∧ ∀ a, O a = none → S (.ref a :: ds) (putO O a (.ins c [] [])) (fun d O' => d = .non ∧ ∃ ns vs, O' a = some (.ins c ns vs) ∧ Q (.ins c ns vs) (delO O' a)) R) R := rfl
theorem noOwn_n : noOwn [] = [] := rfl
theorem noOwn_o {m : MO} {r : Gam} : noOwn (.own m :: r) = .no :: noOwn r := rfl
theorem noOwn_v {d : D} {r : Gam} : noOwn (.val d :: r) = .val d :: noOwn r := rfl
theorem noOwn_z {r : Gam} : noOwn (.no :: r) = .no :: noOwn r := rfl
end
end N

set_option Elab.async false
set_option linter.all false
set_option maxRecDepth 100000
/-! CS7: tables of nodes: promises -/
namespace N
open PySem PySem.Spec PyProof.Rows L2
abbrev TC : Nat := 24
abbrev xo (a b : Int) : Int := Builtin.bitXor a b
/-- the number of a shelf -/
def shf (a b : Int) : Int := (Builtin.Int.intBits (xo a b) : Int) - 1
def tbN : List Str := ["own", "bits", "room", "shelves"]
def tbD (own : Int) (bits : Nat) (room : Int) (qs : List Addr) : D := .ins TC tbN [.int own, .int bits, .int room, .lst (qs.map .ref)]
def shD (l : List Int) : D := .lst (l.map .int)
def inN (bits : Nat) (x : Int) : Prop := 0 ≤ x ∧ x < 2 ^ bits
/-- the shelves as they lie -/
structure ShA (O : Om) (qs : List Addr) (sh : List (List Int)) : Prop where
  len : qs.length = sh.length
  nd : qs.Nodup
  at_ : ∀ (i : Nat) (q : Addr) (l : List Int), qs[i]? = some q → sh[i]? = some l → O q = some (.lst (l.map .int))
structure GoodS (bits : Nat) (room : Int) (sh : List (List Int)) : Prop where
  len : sh.length = bits
  nd : ∀ l ∈ sh, l.Nodup
  sz : ∀ l ∈ sh, (l.length : Int) ≤ room
  rg : ∀ l ∈ sh, ∀ x ∈ l, inN bits x
/-- the shelves behind a name that is seen (1) or silent (0) -/
def stepP (sh : List (List Int)) (own room name kind : Int) : List (List Int) :=
  if name = own then sh else
    let i := (shf own name).toNat
    let l := sh.getD i []
    let left := l.filter fun x => x ≠ name
    sh.set i (if kind = 0 then left else if name ∈ l ∨ (l.length : Int) < room then left ++ [name] else l)
def nameB (d : D) (bits : Nat) : Bool := match d with | .int i => decide (0 ≤ i) && decide (i < 2 ^ bits) | _ => false
structure TabA (O : Om) (own : Int) (bits : Nat) (room : Int) (qs : List Addr) (sh : List (List Int)) : Prop where
  b1 : 1 ≤ bits
  b2 : bits ≤ 24
  r1 : 1 ≤ room
  r2 : room ≤ 20
  ow : inN bits own
  at_ : ShA O qs sh
  gd : GoodS bits room sh
/-- names by their distances -/
def ordI (ns : List Int) (t : Int) : List Int := (srtP (ns.map fun n => (xo n t, n))).map (·.2)
def sp_shelf_of : DSp := fun ds Om Q _ => ∃ a b : Int, ds = [.int a, .int b] ∧ Q (.int (shf a b)) Om
def sp__law_shelf : DSp := fun ds Om Q _ => ∃ (a b : Int) (k : Nat), ds = [.int a, .int b] ∧ k ≤ 24 ∧ inN k a ∧ inN k b ∧ a ≠ b ∧ Q (.int (shf a b)) Om
def sp_is_nameT : DSp := fun ds Om Q _ => ∃ (d : D) (k : Nat), ds = [d, .int k] ∧ k ≤ 24 ∧ plD d = true ∧ Q (.bl (nameB d k)) Om
def sp_in_order : DSp := fun ds Om Q _ => ∃ (d : D) (ns : List Int) (t : Int), ds = [d, .int t] ∧ (d = .lst (ns.map .int) ∨ d = .tup (ns.map .int)) ∧ ns.length ≤ 1000000 ∧ Q (.lst ((ordI ns t).map .int)) Om
def sp__law_order : DSp := sp_in_order
def okT : D → D → D → Bool
  | .int o, .int b, .int r => decide (1 ≤ b ∧ b ≤ 24) && decide (1 ≤ r ∧ r ≤ 20) && decide (0 ≤ o ∧ o < 2 ^ b.toNat)
  | _, _, _ => false
/-- all that was there is as it was -/
def Kept (O O' : Om) : Prop := ∀ b, O b ≠ none → O' b = O b
def sp_Table___init__ : DSp := fun ds Om Q _ => ∃ (a : Addr) (own : Int) (bits : Nat) (room : Int), ds = [.ref a, .int own, .int bits, .int room] ∧ Om a = some (.ins TC [] []) ∧ 1 ≤ bits ∧ bits ≤ 24 ∧ 1 ≤ room ∧ room ≤ 20 ∧ inN bits own ∧
  ∀ (qs : List Addr) (O : N.Om), qs.length = bits → qs.Nodup → (∀ q ∈ qs, O q = some (.lst []) ∧ Om q = none) → O a = some (.ins TC tbN [.int own, .int bits, .int room, .lst (qs.map .ref)]) → (∀ b, Om b ≠ none → b ≠ a → O b = Om b) → Q .non O
def sp_TableA : DSp := fun ds Om Q R => sp_Table___init__ ds Om Q R ∨ ∃ (a : Addr) (x y z : D), ds = [.ref a, x, y, z] ∧ Om a = some (.ins TC [] []) ∧ plD x = true ∧ plD y = true ∧ plD z = true ∧ okT x y z = false ∧ R ⟨23, [], []⟩ Om
def sp_Table_check : DSp := fun ds Om Q R => ∃ (own : Int) (bits : Nat) (room : Int) (qs : List Addr) (d : D), ds = [tbD own bits room qs, d] ∧ bits ≤ 24 ∧ plD d = true ∧ (nameB d bits = true → Q .non Om) ∧ (nameB d bits = false → R ⟨23, [], []⟩ Om)
/-- a name is seen or silent -/
def sp_seeing (kind : Int) : DSp := fun ds Om Q R => ∃ (own : Int) (bits : Nat) (room : Int) (qs : List Addr) (sh : List (List Int)) (d : D), ds = [tbD own bits room qs, d] ∧ TabA Om own bits room qs sh ∧
  ((∃ name, d = .int name ∧ inN bits name ∧ ∀ O, ShA O qs (stepP sh own room name kind) → (∀ b, b ∉ qs → O b = Om b) → Q .non O) ∨ (plD d = true ∧ nameB d bits = false ∧ R ⟨23, [], []⟩ Om))
def sp_Table_see : DSp := sp_seeing 1
def sp_Table_silent : DSp := sp_seeing 0
def sp_Table_shelf : DSp := fun ds Om Q _ => ∃ (own : Int) (bits : Nat) (room : Int) (qs : List Addr) (sh : List (List Int)) (i : Nat), ds = [tbD own bits room qs, .int i] ∧ TabA Om own bits room qs sh ∧ i < bits ∧ Q (.tup ((sh.getD i []).map .int)) Om
def sp_Table_names : DSp := fun ds Om Q _ => ∃ (own : Int) (bits : Nat) (room : Int) (qs : List Addr) (sh : List (List Int)), ds = [tbD own bits room qs] ∧ TabA Om own bits room qs sh ∧ Q (.tup ((srtI sh.flatten).map .int)) Om
def sp_Table_nearest : DSp := fun ds Om Q R => ∃ (own : Int) (bits : Nat) (room : Int) (qs : List Addr) (sh : List (List Int)) (d : D) (many : Nat), ds = [tbD own bits room qs, d, .int many] ∧ TabA Om own bits room qs sh ∧
  ((∃ t, d = .int t ∧ inN bits t ∧ Q (.tup (((ordI sh.flatten t).take many).map .int)) Om) ∨ (plD d = true ∧ nameB d bits = false ∧ R ⟨23, [], []⟩ Om))
def sp__law_step : DSp := fun ds Om Q _ => ∃ (s : Addr) (own room name kind : Int) (bits : Nat) (sh : List (List Int)), ds = [.ref s, .int own, .int room, .int name, .int kind] ∧ Om s = some (.lst (sh.map shD)) ∧ bits ≤ 24 ∧ room ≤ 20 ∧ inN bits own ∧ inN bits name ∧ GoodS bits room sh ∧ (kind = 0 ∨ kind = 1) ∧ Q .non (putO Om s (.lst ((stepP sh own room name kind).map shD)))
def sp__law_pickR : DSp := fun ds Om Q R => sp__law_pick ds Om Q R ∨ ∃ (a q : Addr) (xs : List D), ds = [.ref a, .ref q] ∧ Tp Om a ∧ Om q = some (.lst xs) ∧ 0 < xs.length ∧ xs.length < 1000000 ∧ ∀ x ∈ xs, Q x Om
end N

set_option Elab.async false
set_option linter.all false
set_option maxRecDepth 100000
/-! CT1: tables of nodes: plain facts -/
namespace N
open PySem PySem.Spec PyProof.Rows L2
theorem lk_own {a b c d : D} : lk tbN [a, b, c, d] "own" = some a := by unfold tbN; rw [lk_hit]
theorem lk_bits {a b c d : D} : lk tbN [a, b, c, d] "bits" = some b := by unfold tbN; rw [lk_miss (by decide), lk_hit]
theorem lk_room {a b c d : D} : lk tbN [a, b, c, d] "room" = some c := by unfold tbN; rw [lk_miss (by decide), lk_miss (by decide), lk_hit]
theorem lk_shelves {a b c d : D} : lk tbN [a, b, c, d] "shelves" = some d := by unfold tbN; rw [lk_miss (by decide), lk_miss (by decide), lk_miss (by decide), lk_hit]
theorem lk_tbno {f : Str} {a b c d : D} (h : (tbN.contains f) = false) : lk tbN [a, b, c, d] f = none := by
  simp only [tbN, List.contains_cons, Bool.or_eq_false_iff] at h
  obtain ⟨h1, h2, h3, h4, _⟩ := h
  unfold tbN
  rw [lk_miss h1, lk_miss h2, lk_miss h3, lk_miss h4, lk_nil]
theorem lk_check {a b c d : D} : lk tbN [a, b, c, d] "check" = none := lk_tbno (by decide)
theorem lk_see {a b c d : D} : lk tbN [a, b, c, d] "see" = none := lk_tbno (by decide)
theorem lk_silent {a b c d : D} : lk tbN [a, b, c, d] "silent" = none := lk_tbno (by decide)
theorem lk_shelf {a b c d : D} : lk tbN [a, b, c, d] "shelf" = none := lk_tbno (by decide)
theorem lk_names {a b c d : D} : lk tbN [a, b, c, d] "names" = none := lk_tbno (by decide)
theorem lk_nearest {a b c d : D} : lk tbN [a, b, c, d] "nearest" = none := lk_tbno (by decide)
theorem xor_zero {a b : Nat} (h : a ^^^ b = 0) : a = b := by
  have : (a ^^^ b) ^^^ b = a := by rw [Nat.xor_assoc, Nat.xor_self, Nat.xor_zero]
  rw [h, Nat.zero_xor] at this
  exact this.symm
theorem xo_nat {k : Nat} {a b : Int} (ha : inN k a) (hb : inN k b) : ∃ m : Nat, xo a b = (m : Int) ∧ m < 2 ^ k ∧ (a ≠ b → m ≠ 0) := by
  obtain ⟨a0, a1⟩ := ha
  obtain ⟨b0, b1⟩ := hb
  refine ⟨a.toNat ^^^ b.toNat, Bits.bitXor_pp a0 b0, Nat.xor_lt_two_pow ?_ ?_, fun h z => h ?_⟩
  · have : ((a.toNat : Nat) : Int) < ((2 ^ k : Nat) : Int) := by simpa [Int.toNat_of_nonneg a0] using a1
    exact Int.ofNat_lt.mp this
  · have : ((b.toNat : Nat) : Int) < ((2 ^ k : Nat) : Int) := by simpa [Int.toNat_of_nonneg b0] using b1
    exact Int.ofNat_lt.mp this
  · have := xor_zero z
    omega
theorem bits_nat {m : Nat} (h : m ≠ 0) : Builtin.Int.intBits (m : Int) = m.log2 + 1 := by
  unfold Builtin.Int.intBits
  rw [if_neg (by simpa using h)]
  rfl
theorem shf_nat {k : Nat} {a b : Int} (ha : inN k a) (hb : inN k b) (h : a ≠ b) : ∃ m : Nat, xo a b = (m : Int) ∧ m ≠ 0 ∧ m < 2 ^ k ∧ shf a b = (m.log2 : Int) ∧ m.log2 < k := by
  obtain ⟨m, e, l, n⟩ := xo_nat ha hb
  refine ⟨m, e, n h, l, ?_, (Nat.log2_lt (n h)).mpr l⟩
  unfold shf
  rw [e, bits_nat (n h)]
  omega
theorem shf_lt {k : Nat} {a b : Int} (ha : inN k a) (hb : inN k b) (h : a ≠ b) : ∃ i : Nat, shf a b = (i : Int) ∧ i < k := by
  obtain ⟨m, _, _, _, e, l⟩ := shf_nat ha hb h
  exact ⟨_, e, l⟩
theorem inD_ints (i : Int) : ∀ ns : List Int, inD (.int i) (ns.map .int) = ns.contains i
  | [] => rfl
  | n :: r => by
    have ih := inD_ints i r
    simp only [inD, List.map_cons, inV, List.any_cons, vOf, List.contains_cons] at ih ⊢
    rw [ih]
    congr 1
    show ((n : Int) == i) = (i == n)
    rw [Bool.eq_iff_iff, beq_iff_eq, beq_iff_eq]
    exact ⟨fun h => h.symm, fun h => h.symm⟩
theorem flD_ints : ∀ ns : List Int, (ns.map D.int).all flD = true
  | [] => rfl
  | n :: r => by simp only [List.map_cons, List.all_cons, flD_ints r, Bool.and_true]; rfl
theorem stepP_own {sh : List (List Int)} {own room kind : Int} : stepP sh own room own kind = sh := by unfold stepP; rw [if_pos rfl]
theorem stepP_no {sh : List (List Int)} {own room name kind : Int} {i : Nat} {l : List Int} (h : name ≠ own) (hi : shf own name = (i : Int)) (hl : sh[i]? = some l) :
    stepP sh own room name kind = sh.set i (if kind = 0 then l.filter (fun x => x ≠ name) else if name ∈ l ∨ (l.length : Int) < room then l.filter (fun x => x ≠ name) ++ [name] else l) := by
  unfold stepP
  rw [if_neg h, hi]
  simp only [Int.toNat_natCast, List.getD_eq_getElem?_getD, hl, Option.getD_some]
theorem filter_no {l : List Int} {x : Int} (h : x ∉ l) : l.filter (fun y => y ≠ x) = l := by
  rw [List.filter_eq_self]
  intro y hy
  simp only [ne_eq, decide_eq_true_eq]
  exact fun z => h (z ▸ hy)
/-- the first one of a list without doubles is taken out -/
theorem erase_first : ∀ {l : List Int} {x : Int}, l.Nodup → x ∈ l → ∃ j, l.findIdx? (· == x) = some j ∧ l.eraseIdx j = l.filter fun y => y ≠ x
  | [], x, _, h => by cases h
  | y :: l, x, nd, h => by
    have nd' := List.nodup_cons.mp nd
    by_cases e : y = x
    · subst e
      refine ⟨0, by simp [List.findIdx?_cons], ?_⟩
      rw [List.filter_cons, if_neg (by simp), filter_no nd'.1]
      rfl
    · have hm : x ∈ l := (List.mem_cons.mp h).resolve_left (fun z => e z.symm)
      obtain ⟨j, h1, h2⟩ := erase_first nd'.2 hm
      refine ⟨j + 1, ?_, ?_⟩
      · rw [List.findIdx?_cons, if_neg (by simpa using e), h1]
        rfl
      · rw [List.eraseIdx_cons_succ, h2, List.filter_cons, if_pos (by simpa using e)]
theorem GoodS.step {bits : Nat} {room : Int} {sh : List (List Int)} {own name kind : Int} (g : GoodS bits room sh) (ow : inN bits own) (hn : inN bits name) : GoodS bits room (stepP sh own room name kind) := by
  by_cases h : name = own
  · subst h; rw [stepP_own]; exact g
  obtain ⟨i, hi, hlt⟩ := shf_lt ow hn (fun z => h z.symm)
  have his : i < sh.length := by rw [g.len]; exact hlt
  have hl : sh[i]? = some sh[i] := List.getElem?_eq_getElem his
  have hm : sh[i] ∈ sh := List.getElem_mem _
  rw [stepP_no h hi hl]
  have fl : ∀ x ∈ sh[i].filter (fun x => x ≠ name), inN bits x := fun x hx => g.rg _ hm x (List.mem_filter.mp hx).1
  have fn : (sh[i].filter fun x => x ≠ name).Nodup := (g.nd _ hm).filter _
  have fz : ((sh[i].filter fun x => x ≠ name).length : Int) ≤ room := by
    have := List.length_filter_le (fun x => decide (x ≠ name)) sh[i]
    have := g.sz _ hm
    omega
  have an : (sh[i].filter (fun x => x ≠ name) ++ [name]).Nodup := by
    rw [List.nodup_append]
    refine ⟨fn, by simp, fun a ha b hb => ?_⟩
    simp only [List.mem_singleton] at hb
    subst hb
    have := (List.mem_filter.mp ha).2
    simpa using this
  have key : ∀ l', (l'.Nodup ∧ (l'.length : Int) ≤ room ∧ ∀ x ∈ l', inN bits x) → GoodS bits room (sh.set i l') := fun l' ⟨a, b, c⟩ =>
    ⟨by rw [List.length_set]; exact g.len, fun l hl => (List.mem_or_eq_of_mem_set hl).elim (g.nd l) (fun e => e ▸ a), fun l hl => (List.mem_or_eq_of_mem_set hl).elim (g.sz l) (fun e => e ▸ b), fun l hl => (List.mem_or_eq_of_mem_set hl).elim (g.rg l) (fun e => e ▸ c)⟩
  refine key _ ?_
  split
  · exact ⟨fn, fz, fl⟩
  · split
    · rename_i hc
      refine ⟨an, ?_, fun x hx => ?_⟩
      · rw [List.length_append, List.length_singleton]
        rcases hc with hc | hc
        · obtain ⟨j, h1, h2⟩ := erase_first (g.nd _ hm) hc
          rw [← h2]
          have hj : j < sh[i].length := (List.findIdx?_eq_some_iff_getElem.mp h1).1
          have := List.length_eraseIdx_of_lt hj
          have := g.sz _ hm
          have := List.length_pos_of_mem hc
          omega
        · have := List.length_filter_le (fun x => decide (x ≠ name)) sh[i]
          omega
      · rcases List.mem_append.mp hx with hx | hx
        · exact fl x hx
        · simp only [List.mem_singleton] at hx; subst hx; exact hn
    · exact ⟨g.nd _ hm, g.sz _ hm, g.rg _ hm⟩
theorem ShA.set {O O' : Om} {qs : List Addr} {sh : List (List Int)} {i : Nat} {q : Addr} {l : List Int} (h : ShA O qs sh) (hq : qs[i]? = some q) (e : O' q = some (.lst (l.map .int))) (k : ∀ b, b ≠ q → O' b = O b) : ShA O' qs (sh.set i l) := by
  have hi : i < qs.length := (List.getElem?_eq_some_iff.mp hq).1
  refine ⟨by rw [List.length_set]; exact h.len, h.nd, fun j q' l' h1 h2 => ?_⟩
  by_cases z : i = j
  · subst z
    rw [hq] at h1; cases h1
    rw [List.getElem?_set_self (by rw [← h.len]; exact hi)] at h2
    cases h2
    exact e
  · rw [List.getElem?_set_ne z] at h2
    have hj : j < qs.length := (List.getElem?_eq_some_iff.mp h1).1
    have ne : q' ≠ q := fun w => by
      subst w
      have e1 := (List.getElem?_eq_some_iff.mp hq).2
      have e2 := (List.getElem?_eq_some_iff.mp h1).2
      exact z ((List.getElem_inj h.nd).mp (e1.trans e2.symm))
    rw [k q' ne]
    exact h.at_ j q' l' h1 h2
theorem ShA.keep {O O' : Om} {qs : List Addr} {sh : List (List Int)} (h : ShA O qs sh) (k : ∀ q ∈ qs, O' q = O q) : ShA O' qs sh :=
  ⟨h.len, h.nd, fun i q l h1 h2 => (k q (List.mem_of_getElem? h1)).trans (h.at_ i q l h1 h2)⟩
theorem ShA.get {O : Om} {qs : List Addr} {sh : List (List Int)} {i : Nat} (h : ShA O qs sh) (hi : i < sh.length) : ∃ q, qs[i]? = some q ∧ sh[i]? = some (sh.getD i []) ∧ O q = some (.lst ((sh.getD i []).map .int)) := by
  have h1 : qs[i]? = some (qs[i]'(by rw [h.len]; exact hi)) := List.getElem?_eq_getElem _
  have h2 : sh[i]? = some (sh.getD i []) := by rw [List.getD_eq_getElem?_getD, List.getElem?_eq_getElem hi]; rfl
  exact ⟨_, h1, h2, h.at_ i _ _ h1 h2⟩
theorem TabA.step {O O' : Om} {own : Int} {bits : Nat} {room : Int} {qs : List Addr} {sh : List (List Int)} {name kind : Int} (t : TabA O own bits room qs sh) (hn : inN bits name) (h : ShA O' qs (stepP sh own room name kind)) : TabA O' own bits room qs (stepP sh own room name kind) :=
  ⟨t.b1, t.b2, t.r1, t.r2, t.ow, h, t.gd.step t.ow hn⟩
theorem TabA.keep {O O' : Om} {own : Int} {bits : Nat} {room : Int} {qs : List Addr} {sh : List (List Int)} (t : TabA O own bits room qs sh) (k : ∀ q ∈ qs, O' q = O q) : TabA O' own bits room qs sh :=
  ⟨t.b1, t.b2, t.r1, t.r2, t.ow, t.at_.keep k, t.gd⟩
theorem flat_len {bits : Nat} {room : Int} {sh : List (List Int)} (g : GoodS bits room sh) (hb : bits ≤ 24) (hr : room ≤ 20) : sh.flatten.length ≤ 1000000 := by
  have : ∀ sh : List (List Int), (∀ l ∈ sh, (l.length : Int) ≤ room) → sh.flatten.length ≤ sh.length * 20 := fun sh => by
    induction sh with
    | nil => intro _; simp
    | cons l r ih =>
      intro h
      have h1 := h l List.mem_cons_self
      have h2 := ih fun l hl => h l (List.mem_cons_of_mem _ hl)
      simp only [List.flatten_cons, List.length_append, List.length_cons]
      omega
  have := this sh g.sz
  rw [g.len] at this
  omega
theorem ordI_perm {a b : List Int} (h : a.Perm b) (t : Int) : ordI a t = ordI b t := by
  unfold ordI
  rw [srtP_uniq (a := srtP (a.map fun n => (xo n t, n))) (b := b.map fun n => (xo n t, n)) ((srtP_perm _).trans (h.map _)) (srtP_sorted _)]
theorem nameB_in {k : Nat} {i : Int} (h : inN k i) : nameB (.int i) k = true := by
  simp only [nameB, decide_eq_true h.1, decide_eq_true h.2, Bool.and_true]
theorem nameB_of {d : D} {k : Nat} (h : nameB d k = true) : ∃ i, d = .int i ∧ inN k i := by
  cases d <;> simp only [nameB, Bool.and_eq_true, decide_eq_true_eq, Bool.false_eq_true] at h
  exact ⟨_, rfl, h⟩
section
variable {α : Type} {f f1 : WG} {wt wt1 : WT} {we : WE} {wi1 : WA} {G : Gam} {vs1 : List Nat} {O : Om} {Q : List D → Prop}
/-- a comprehension that leaves the shared things as they are, some of which are taken -/
theorem turnsE_filA (h g : α → D) (t : α → Bool) : ∀ (as : List α) (acc : List D), acc.length + as.length ≤ 16777216 →
    (∀ a ∈ as, ∀ (K1 : D → Om → Prop) (K2 : Prop), (t a = true → K1 (g a) O) → (t a = false → K2) → f (h a) G fun G2 => wt G2 O (fun b O2 => O2 = O ∧ br b (we G2 O K1 noR) K2) noR) →
    Q (acc ++ (as.filter t).map g) → wTurnsE f wt we G O (as.map h) acc Q
  | [], acc, _, _, q => by simpa [wTurnsE] using q
  | a :: r, acc, l, h1, q => by
    rw [List.length_cons] at l
    refine ⟨by omega, h1 a List.mem_cons_self _ _ (fun e => ⟨rfl, turnsE_filA h g t r (acc ++ [g a]) (by rw [List.length_append, List.length_singleton]; omega) (fun a' h' => h1 a' (List.mem_cons_of_mem _ h')) ?_⟩) (fun e => turnsE_filA h g t r acc (by omega) (fun a' h' => h1 a' (List.mem_cons_of_mem _ h')) ?_)⟩
    · rw [List.filter_cons, if_pos e] at q
      simpa using q
    · rw [List.filter_cons, if_neg (by rw [e]; decide)] at q
      exact q
theorem turns2_A (h : α → D) (ys : α → List D) : ∀ (as : List α) (acc : List D), acc.length + (as.flatMap ys).length ≤ 16777216 →
    (∀ a ∈ as, ∀ (acc : List D) (K : List D → Prop), acc.length + (ys a).length ≤ 16777216 → K (acc ++ ys a) → f (h a) G fun G2 => wi1 G2 O (fun items1 O2 => O2 = O ∧ wTurnsE f1 wt1 we (noOwn (wipeG G2 vs1)) O items1 acc K) noR) →
    Q (acc ++ as.flatMap ys) → wTurns2 f wi1 f1 wt1 we G vs1 O (as.map h) acc Q
  | [], acc, _, _, q => by simpa [wTurns2] using q
  | a :: r, acc, l, h1, q => by
    rw [List.flatMap_cons, List.length_append] at l
    rw [List.flatMap_cons, ← List.append_assoc] at q
    exact h1 a List.mem_cons_self acc _ (by omega) (turns2_A h ys r (acc ++ ys a) (by rw [List.length_append]; omega) (fun a' h' => h1 a' (List.mem_cons_of_mem _ h')) q)
end
theorem zip_refs : ∀ {qs : List Addr} {sh : List (List Int)}, qs.length = sh.length → (qs.zip sh).map (fun p => D.ref p.1) = qs.map .ref
  | [], _, _ => rfl
  | q :: qs, [], h => by cases h
  | q :: qs, l :: sh, h => by
    rw [List.zip_cons_cons, List.map_cons, List.map_cons, zip_refs (by simpa using h)]
theorem zip_flat : ∀ {qs : List Addr} {sh : List (List Int)}, qs.length = sh.length → (qs.zip sh).flatMap (fun p => p.2.map D.int) = sh.flatten.map .int
  | [], [], _ => rfl
  | [], _ :: _, h => by cases h
  | q :: qs, [], h => by cases h
  | q :: qs, l :: sh, h => by
    rw [List.zip_cons_cons, List.flatMap_cons, List.flatten_cons, List.map_append, zip_flat (by simpa using h)]
theorem ShA.zip {O : Om} {qs : List Addr} {sh : List (List Int)} (h : ShA O qs sh) : ∀ p ∈ qs.zip sh, O p.1 = some (.lst (p.2.map .int)) := fun p hp => by
  obtain ⟨i, hi, e⟩ := List.getElem_of_mem hp
  rw [List.getElem_zip] at e
  have l := h.len
  rw [List.length_zip, l, Nat.min_self] at hi
  subst e
  exact h.at_ i _ _ (List.getElem?_eq_getElem (by omega)) (List.getElem?_eq_getElem hi)
end N

set_option Elab.async false
set_option linter.all false
set_option maxRecDepth 100000
set_option maxHeartbeats 0
/-! NSg: x.index(e) of a list of ints; for k, v in d.items() -/
namespace N
open PySem PySem.Spec PyProof.Rows L2
section
variable {X : Cx} {P : Pm} {e o i : Expr} {w wo wi : WE} {pos apos cpos tpos : Pos}
def asLs (d : D) (Q : List D → Prop) : Prop := match d with | .lst xs => Q xs | _ => False
theorem asLs_l {xs : List D} {Q : List D → Prop} : asLs (.lst xs) Q = Q xs := rfl
def wIndex (wo wi : WE) : WE := fun G Om Q R => wo G Om (fun d O => match d with
  | .lst xs => wi G O (fun z O' => match z with
    | .int k => ∃ (ns : List Int) (j : Nat), xs = ns.map .int ∧ ns.findIdx? (· == k) = some j ∧ Q (.int j) O'
    | _ => False) R
  | _ => False) R
theorem flat_ints : ∀ ns : List Int, (ns.map V.int).all flatV = true
  | [] => rfl
  | n :: r => by simp only [List.map_cons, List.all_cons, flat_ints r, Bool.and_true]; rfl
theorem eqV_int (a b : Int) : eqV (.int a) (.int b) = (a == b) := rfl
theorem de_index (hK : P.T.K = X.K) (ho : DB X P o wo) (hi : DE X P i wi)
    (hbase : attributeBase o "index" X.env (eval o X.env) = eval o X.env := by rfl)
    (hfew : ((backTo cpos (starEach [i] X.env)).all (fun x => !x.1) && (backToKw cpos (keywordEach [] X.env)).all (fun x => x.1.isSome) && decide ([i].length + ([] : List Keyword).length + (if ([] : List Keyword).isEmpty then 0 else 1) < 30)) = true := by rfl)
    (hline : (apos.endLine == cpos.line) = true := by rfl) (hs1 : starEach [i] X.env = (false, eval i X.env) :: starEach [] X.env := by rfl) (hplain : (backTo cpos (starEach [] X.env)).any (·.1) = false := by rfl) :
    DE X P (.Call (.Attribute o "index" apos) [i] [] cpos) (wIndex wo wi) := by
  refine ⟨pe_imp (pe_bm PySem.F.plainAttrs_list PySem.F.slot_list_index PySem.F.type_list_index mt_index ho.pe (pa_cons hi.pe pa_nil hs1) hbase hfew hline hs1 hplain) fun σ H Q q => ?_⟩
  obtain ⟨G, W, Q0, R0, S, q, ex, hq⟩ := q
  refine ⟨G, W, _, R0, S, q, ex, fun d O h1 v H1 W1 s1 e1 r1 => ?_⟩
  subst e1
  cases d <;> try exact h1.elim
  rename_i xs
  have r1' := r1
  obtain ⟨a, vs, ev, ha, npm, rs⟩ := r1
  subst ev
  refine ⟨.inl ⟨rfl, vs, .of ha⟩, G, W1, _, R0, S.step s1, h1, ex.step s1, fun z O' h2 u H2 W2 s2 e2 r2 => ?_⟩
  subst e2
  cases z <;> try exact h2.elim
  rename_i k
  simp only [Rep] at r2
  subst r2
  obtain ⟨ns, j, rfl, hj, h2⟩ := h2
  obtain ⟨a2, vs2, ev2, ha2, _, rs2⟩ := r1'.step s2 s1.ok
  cases ev2
  have := rs2.ofInts
  subst this
  obtain ⟨hjn, hjt, hjm⟩ := List.findIdx?_eq_some_iff_getElem.mp hj
  refine ⟨a, ns.map V.int, .int k, j, .int ns[j], rfl, rfl, .of ha2, rfl, flat_ints ns, by rw [List.getElem?_map, List.getElem?_eq_getElem hjn]; rfl, by rw [eqV_int]; exact hjt, fun m z' hm hz => ?_, hq _ _ h2 _ H2 W2 (s1.trans s2) rfl (by simp [Rep])⟩
  rw [List.getElem?_map, List.getElem?_eq_getElem (by omega)] at hz
  cases hz
  rw [eqV_int]
  have := hjm m hm
  simpa using this
theorem di_items {elts : List Expr} {kk : Nat} (h : DE X P e w) (hbase : attributeBase e "items" X.env (eval e X.env) = eval e X.env := by rfl) (hline : (apos.endLine == cpos.line) = true := by rfl) : DI X P (RF P.T) (.Tuple elts kk tpos) (.Call (.Attribute e "items" apos) [] [] cpos) (wItems w) := by
  refine ⟨pi_imp (pi_items h.pe hbase hline) fun σ H R q => ?_⟩
  obtain ⟨G, W, Q0, R0, S, q, ex, hq⟩ := q
  refine ⟨G, W, _, R0, S, q, ex, fun d O h1 v H1 W1 s1 e1 r => ?_⟩
  cases d <;> try exact h1.elim
  simp only [Rep] at r
  obtain ⟨a, vs, rfl, ⟨o, ha⟩, n, l, r⟩ := r
  rename_i ks ds
  refine ⟨a, o, _, rfl, ha, hq _ O h1 _ H1 W1 s1 e1 ?_⟩
  have wk := walk_items (d := a) (o := o) (kvs := ks.zip vs)
  rw [show (ks.zip vs).length = (List.zipWith (fun k v => D.tup [kyD k, v]) ks ds).length from by rw [List.length_zip, List.length_zipWith, r.len]] at wk
  refine ⟨_, _, wk, fun W2 H2 k => ⟨k.1.same _ _ ha n, fun i d e x H3 y => ?_⟩⟩
  obtain ⟨p, x', y', rfl, hp, eH, e1, e2⟩ := y
  rw [List.getElem?_zipWith] at e
  cases hk : ks[i]? with
  | none => rw [hk] at e; simp at e
  | some kk0 =>
    cases hd : ds[i]? with
    | none => rw [hk, hd] at e; simp at e
    | some d0 =>
      rw [hk, hd] at e
      simp at e
      subst e
      obtain ⟨v0, ev0, rv0⟩ := (Reps.kp k.1 _ _ r).get hd
      have ez : (ks.zip vs)[i]? = some (kk0, v0) := List.getElem?_zip_eq_some.mpr ⟨hk, ev0⟩
      dsimp only at e1 e2
      rw [ez] at e1 e2
      simp only [Option.map_some, Option.some.injEq] at e1 e2
      subst e1 e2
      exact pair_rep k.2 hp eH (rep_kyD kk0) rv0
variable {G : Gam} {Om : N.Om} {Q : D → N.Om → Prop} {R : RX}
theorem wIndex_e : wIndex wo wi G Om Q R = wo G Om (fun d O => asLs d fun xs => wi G O (fun z O' => asI z fun k => ∃ (ns : List Int) (j : Nat), xs = ns.map .int ∧ ns.findIdx? (· == k) = some j ∧ Q (.int j) O') R) R := by
  unfold wIndex asLs asI
  congr 1
end
end N

set_option Elab.async false
set_option linter.all false
set_option maxRecDepth 100000
/-! CS8: nets of tables, lookups: promises -/
namespace N
open PySem PySem.Spec PyProof.Rows L2
abbrev SrC : Nat := 25
structure Nd where
  own : Int
  room : Int
  qs : List Addr
  sh : List (List Int)
def ndD (bits : Nat) (n : Nd) : D := tbD n.own bits n.room n.qs
def netD (bits : Nat) (ns : List Nd) : D := .dct (ns.map fun n => .inl n.own) (ns.map (ndD bits))
def owns (ns : List Nd) : List Int := ns.map (·.own)
/-- what is on a shelf belongs there -/
def PlS (own : Int) (sh : List (List Int)) : Prop := ∀ (i : Nat) (l : List Int), sh[i]? = some l → ∀ x ∈ l, x ≠ own ∧ shf own x = (i : Int)
structure NetA (O : Om) (bits : Nat) (ns : List Nd) : Prop where
  tab : ∀ n ∈ ns, TabA O n.own bits n.room n.qs n.sh
  nd : (owns ns).Nodup
  dj : ((ns.map (·.qs)).flatten).Nodup
  pl : ∀ n ∈ ns, PlS n.own n.sh
  b1 : 1 ≤ bits
  b16 : bits ≤ 16
  sz : ns.length ≤ 60
/-- where a name belongs, one is; and no others -/
def Filled (ns : List Nd) : Prop := ∀ n ∈ ns, (∀ x ∈ n.sh.flatten, x ∈ owns ns) ∧ ∀ m ∈ ns, m.own ≠ n.own → n.sh.getD (shf n.own m.own).toNat [] ≠ []
open Classical in
noncomputable def filB (ns : List Nd) : Bool := decide (Filled ns)
/-! the lookup -/
structure LS where
  known : List Int
  asked : List Int
  quiet : List Int
def bestS (room target : Int) (s : LS) : List Int := (ordI (s.known.filter fun x => !s.quiet.contains x) target).take room.toNat
def waitS (room target : Int) (s : LS) : List Int := (bestS room target s).filter fun x => !s.asked.contains x
def namesOf (ns : List Nd) (x : Int) : List Int := match ns.find? (fun n => decide (n.own = x)) with | some n => n.sh.flatten | none => []
def heardS (ns : List Nd) (room target x : Int) : List Int := (ordI (namesOf ns x) target).take room.toNat
def hearP (known : List Int) (names : List Int) : List Int := names.foldl (fun k x => if x ∈ k then k else k ++ [x]) known
def stepS (ns : List Nd) (room target : Int) (s : LS) (x : Int) : LS :=
  if x ∈ owns ns then ⟨hearP s.known (heardS ns room target x), s.asked ++ [x], s.quiet⟩ else ⟨s.known, s.asked ++ [x], s.quiet ++ [x]⟩
def runS (ns : List Nd) (room target : Int) : Nat → LS → LS
  | 0, s => s
  | n + 1, s => match waitS room target s with
    | [] => s
    | x :: _ => runS ns room target n (stepS ns room target s x)
def roomOf (ns : List Nd) (x : Int) : Int := match ns.find? (fun n => decide (n.own = x)) with | some n => n.room | none => 0
def startS (ns : List Nd) (start target : Int) : LS := ⟨hearP [start] (heardS ns (roomOf ns start) target start), [], []⟩
def lookS (bits : Nat) (ns : List Nd) (start target : Int) : LS := runS ns (roomOf ns start) target (2 ^ bits + 1) (startS ns start target)
def foundS (bits : Nat) (ns : List Nd) (start target : Int) : List Int := bestS (roomOf ns start) target (lookS bits ns start target)
def srN : List Str := ["net", "target", "room", "known", "asked", "quiet"]
def srV (bits : Nat) (ns : List Nd) (target room : Int) (k a q : Addr) : List D := [netD bits ns, .int target, .int room, .ref k, .ref a, .ref q]
/-- a lookup under way, as it lies -/
structure SrA (O : Om) (k a q : Addr) (s : LS) : Prop where
  hk : O k = some (.lst (s.known.map .int))
  ha : O a = some (.lst (s.asked.map .int))
  hq : O q = some (.lst (s.quiet.map .int))
  ka : k ≠ a
  kq : k ≠ q
  aq : a ≠ q
/-- the three lists lie apart from the net's -/
structure Apart (ns : List Nd) (k a q : Addr) : Prop where
  k : ∀ n ∈ ns, k ∉ n.qs
  a : ∀ n ∈ ns, a ∉ n.qs
  q : ∀ n ∈ ns, q ∉ n.qs
structure LsOk (bits : Nat) (s : LS) : Prop where
  nd : s.known.Nodup
  rg : ∀ x ∈ s.known, inN bits x
  an : s.asked.Nodup
  ak : ∀ x ∈ s.asked, x ∈ s.known
  ql : s.quiet.length ≤ s.asked.length
def sp_Search_hear : DSp := fun ds Om Q _ => ∃ (d x : D) (vs : List D) (k : Addr) (l names : List Int), ds = [d, x] ∧ insOf Om d = some (SrC, srN, vs) ∧ lk srN vs "known" = some (.ref k) ∧ Om k = some (.lst (l.map .int)) ∧ x = .tup (names.map .int) ∧ l.length + names.length ≤ 1000000 ∧ Q .non (putO Om k (.lst ((hearP l names).map .int)))
def sp_Search_best : DSp := fun ds Om Q _ => ∃ (bits : Nat) (ns : List Nd) (target room : Int) (k a q : Addr) (s : LS), ds = [.ins SrC srN (srV bits ns target room k a q)] ∧ SrA Om k a q s ∧ s.known.length ≤ 70000 ∧ s.quiet.length ≤ 70000 ∧ 0 ≤ room ∧ Q (.lst ((bestS room target s).map .int)) Om
def sp_Search_run : DSp := fun ds Om Q _ => ∃ (bits : Nat) (ns : List Nd) (target room : Int) (k a q : Addr) (s : LS), ds = [.ins SrC srN (srV bits ns target room k a q)] ∧ SrA Om k a q s ∧ Apart ns k a q ∧ NetA Om bits ns ∧ inN bits target ∧ 1 ≤ room ∧ room ≤ 20 ∧ LsOk bits s ∧
  ∀ O n, n = 2 ^ bits + 1 → (∀ b, b ≠ k → b ≠ a → b ≠ q → O b = Om b) → Q (.tup [.tup ((bestS room target (runS ns room target n s)).map .int), .tup ((runS ns room target n s).asked.map .int)]) O
def sp_Search___init__ : DSp := fun ds Om Q _ => ∃ (b : Addr) (bits : Nat) (ns : List Nd) (start target : Int), ds = [.ref b, netD bits ns, .int start, .int target] ∧ Om b = some (.ins SrC [] []) ∧ NetA Om bits ns ∧ inN bits target ∧ start ∈ owns ns ∧
  ∀ O k a q, O b = some (.ins SrC srN (srV bits ns target (roomOf ns start) k a q)) → SrA O k a q (startS ns start target) → Om k = none → Om a = none → Om q = none → (∀ c, Om c ≠ none → c ≠ b → O c = Om c) → Q .non O
def sp_lookup : DSp := fun ds Om Q _ => ∃ (bits : Nat) (ns : List Nd) (start target : Int), ds = [netD bits ns, .int start, .int target] ∧ NetA Om bits ns ∧ inN bits target ∧ start ∈ owns ns ∧
  ∀ O, Kept Om O → Q (.tup [.tup ((foundS bits ns start target).map .int), .tup ((lookS bits ns start target).asked.map .int)]) O
def sp_is_filled : DSp := fun ds Om Q _ => ∃ (bits : Nat) (ns : List Nd), ds = [netD bits ns] ∧ NetA Om bits ns ∧ Q (.bl (filB ns)) Om
def sp__law_is_filled : DSp := fun ds Om Q _ => ∃ (bits : Nat) (ns : List Nd), ds = [netD bits ns, .int bits] ∧ NetA Om bits ns ∧ Q (.bl (filB ns)) Om
end N

set_option Elab.async false
set_option linter.all false
set_option maxRecDepth 100000
/-! CT2: lookups in filled nets: plain facts -/
namespace N
open PySem PySem.Spec PyProof.Rows L2
theorem lk_s_net {a b c d e f : D} : lk srN [a, b, c, d, e, f] "net" = some a := by unfold srN; rw [lk_hit]
theorem lk_s_target {a b c d e f : D} : lk srN [a, b, c, d, e, f] "target" = some b := by unfold srN; rw [lk_miss (by decide), lk_hit]
theorem lk_s_room {a b c d e f : D} : lk srN [a, b, c, d, e, f] "room" = some c := by unfold srN; rw [lk_miss (by decide), lk_miss (by decide), lk_hit]
theorem lk_s_known {a b c d e f : D} : lk srN [a, b, c, d, e, f] "known" = some d := by unfold srN; rw [lk_miss (by decide), lk_miss (by decide), lk_miss (by decide), lk_hit]
theorem lk_s_asked {a b c d e f : D} : lk srN [a, b, c, d, e, f] "asked" = some e := by unfold srN; rw [lk_miss (by decide), lk_miss (by decide), lk_miss (by decide), lk_miss (by decide), lk_hit]
theorem lk_s_quiet {a b c d e f : D} : lk srN [a, b, c, d, e, f] "quiet" = some f := by unfold srN; rw [lk_miss (by decide), lk_miss (by decide), lk_miss (by decide), lk_miss (by decide), lk_miss (by decide), lk_hit]
theorem lk_s_no {x : Str} {a b c d e f : D} (h : (srN.contains x) = false) : lk srN [a, b, c, d, e, f] x = none := by
  simp only [srN, List.contains_cons, Bool.or_eq_false_iff] at h
  obtain ⟨h1, h2, h3, h4, h5, h6, _⟩ := h
  unfold srN
  rw [lk_miss h1, lk_miss h2, lk_miss h3, lk_miss h4, lk_miss h5, lk_miss h6, lk_nil]
theorem lk_s_hear {a b c d e f : D} : lk srN [a, b, c, d, e, f] "hear" = none := lk_s_no (by decide)
theorem lk_s_best {a b c d e f : D} : lk srN [a, b, c, d, e, f] "best" = none := lk_s_no (by decide)
theorem lk_s_run {a b c d e f : D} : lk srN [a, b, c, d, e, f] "run" = none := lk_s_no (by decide)
/-! names as natural numbers -/
def xn (a b : Int) : Nat := a.toNat ^^^ b.toNat
theorem xo_xn {k : Nat} {a b : Int} (ha : inN k a) (hb : inN k b) : xo a b = (xn a b : Int) := Bits.bitXor_pp ha.1 hb.1
theorem xn_lt {k : Nat} {a b : Int} (ha : inN k a) (hb : inN k b) : xn a b < 2 ^ k := by
  obtain ⟨m, e, l, _⟩ := xo_nat ha hb
  rw [xo_xn ha hb] at e
  have : xn a b = m := by omega
  omega
theorem xn_ne {k : Nat} {a b : Int} (ha : inN k a) (hb : inN k b) (h : a ≠ b) : xn a b ≠ 0 := fun z => by
  have := xor_zero z
  have := ha.1
  have := hb.1
  omega
theorem xn_comm (a b : Int) : xn a b = xn b a := Nat.xor_comm _ _
theorem xn_tri (a b t : Int) : xn a t ^^^ xn b t = xn a b := by
  unfold xn
  rw [Nat.xor_assoc, Nat.xor_comm (b.toNat) t.toNat, ← Nat.xor_assoc t.toNat, Nat.xor_self, Nat.zero_xor]
theorem xn_inj {k : Nat} {a b t : Int} (ha : inN k a) (hb : inN k b) (h : xn a t = xn b t) : a = b := by
  have e := xn_tri a b t
  rw [h, Nat.xor_self] at e
  by_cases z : a = b
  · exact z
  · exact absurd e.symm (xn_ne ha hb z)
theorem div_eq {a b i : Nat} (h : a ^^^ b < 2 ^ i) : a / 2 ^ i = b / 2 ^ i := by
  have : (a ^^^ b) / 2 ^ i = 0 := Nat.div_eq_of_lt h
  rw [Nat.xor_div_two_pow] at this
  exact xor_zero this
theorem eq_div {a b i : Nat} (h : a / 2 ^ i = b / 2 ^ i) : a ^^^ b < 2 ^ i := by
  have : (a ^^^ b) / 2 ^ i = 0 := by rw [Nat.xor_div_two_pow, h, Nat.xor_self]
  exact (Nat.div_eq_zero_iff_lt (Nat.two_pow_pos i)).mp this
/-- two numbers with one top bit -/
theorem top_xor {a b i : Nat} (ha : 2 ^ i ≤ a) (ha2 : a < 2 ^ (i + 1)) (hb : 2 ^ i ≤ b) (hb2 : b < 2 ^ (i + 1)) : a ^^^ b < 2 ^ i := by
  have e : ∀ c, 2 ^ i ≤ c → c < 2 ^ (i + 1) → c / 2 ^ i = 1 := fun c h1 h2 => by
    rw [Nat.pow_succ] at h2
    exact Nat.div_eq_of_lt_le (by omega) (by omega)
  exact eq_div (by rw [e a ha ha2, e b hb hb2])
theorem shf_xn {k : Nat} {a b : Int} (ha : inN k a) (hb : inN k b) (h : a ≠ b) : shf a b = ((xn a b).log2 : Int) := by
  obtain ⟨m, e, n, _, e2, _⟩ := shf_nat ha hb h
  rw [xo_xn ha hb] at e
  have : xn a b = m := by omega
  rw [this]; exact e2
/-! names in their order -/
theorem ordI_mem {l : List Int} {t x : Int} : x ∈ ordI l t ↔ x ∈ l := by
  unfold ordI
  constructor
  · intro h
    obtain ⟨p, hp, rfl⟩ := List.mem_map.mp h
    obtain ⟨n, hn, rfl⟩ := List.mem_map.mp ((srtP_perm _).mem_iff.mp hp)
    exact hn
  · intro h
    exact List.mem_map.mpr ⟨(xo x t, x), (srtP_perm _).mem_iff.mpr (List.mem_map.mpr ⟨x, h, rfl⟩), rfl⟩
theorem ordI_len (l : List Int) (t : Int) : (ordI l t).length = l.length := by
  unfold ordI
  rw [List.length_map, (srtP_perm _).length_eq, List.length_map]
theorem ordI_head {l r : List Int} {t x : Int} (h : ordI l t = x :: r) : ∀ y ∈ l, xo x t ≤ xo y t := fun y hy => by
  unfold ordI at h
  have hs := srtP_sorted (l.map fun n => (xo n t, n))
  have hm : ∀ p ∈ srtP (l.map fun n => (xo n t, n)), p.1 = xo p.2 t := fun p hp => by
    obtain ⟨n, hn, rfl⟩ := List.mem_map.mp ((srtP_perm _).mem_iff.mp hp)
    rfl
  have hy' : (xo y t, y) ∈ srtP (l.map fun n => (xo n t, n)) := (srtP_perm _).mem_iff.mpr (List.mem_map.mpr ⟨y, hy, rfl⟩)
  generalize srtP (l.map fun n => (xo n t, n)) = s at *
  cases s with
  | nil => cases hy'
  | cons p s =>
    rw [List.map_cons] at h
    have ep : p.2 = x := (List.cons.inj h).1
    have e1 := hm p List.mem_cons_self
    rw [ep] at e1
    rcases List.mem_cons.mp hy' with e | hr
    · rw [← e] at e1
      simp only at e1
      omega
    · have := (List.pairwise_cons.mp hs).1 _ hr
      simp only [leP, decide_eq_true_eq] at this
      omega
theorem ordI_cons {l : List Int} {t : Int} (h : l ≠ []) : ∃ x r, ordI l t = x :: r ∧ x ∈ l := by
  cases e : ordI l t with
  | nil =>
    have := ordI_len l t
    rw [e] at this
    exact absurd (List.eq_nil_of_length_eq_zero this.symm) h
  | cons x r => exact ⟨x, r, rfl, ordI_mem.mp (by rw [e]; exact List.mem_cons_self)⟩
/-! known names -/
theorem hearP_mem {x : Int} : ∀ {names known : List Int}, x ∈ hearP known names ↔ x ∈ known ∨ x ∈ names
  | [], known => by simp [hearP]
  | n :: r, known => by
    show x ∈ hearP (if n ∈ known then known else known ++ [n]) r ↔ _
    rw [hearP_mem]
    by_cases h : n ∈ known
    · rw [if_pos h, List.mem_cons]
      constructor
      · rintro (z | z)
        · exact .inl z
        · exact .inr (.inr z)
      · rintro (z | rfl | z)
        · exact .inl z
        · exact .inl h
        · exact .inr z
    · rw [if_neg h, List.mem_append, List.mem_singleton, List.mem_cons]
      constructor
      · rintro ((z | z) | z)
        · exact .inl z
        · exact .inr (.inl z)
        · exact .inr (.inr z)
      · rintro (z | z | z)
        · exact .inl (.inl z)
        · exact .inl (.inr z)
        · exact .inr z
theorem hearP_nd : ∀ {names known : List Int}, known.Nodup → (hearP known names).Nodup
  | [], known, h => h
  | n :: r, known, h => by
    show (hearP (if n ∈ known then known else known ++ [n]) r).Nodup
    by_cases z : n ∈ known
    · rw [if_pos z]; exact hearP_nd h
    · rw [if_neg z]
      refine hearP_nd ?_
      rw [List.nodup_append]
      refine ⟨h, by simp, fun a ha b hb => ?_⟩
      simp only [List.mem_singleton] at hb
      subst hb
      exact fun e => z (e ▸ ha)
theorem hearP_len : ∀ {names known : List Int}, (hearP known names).length ≤ known.length + names.length
  | [], known => by simp [hearP]
  | n :: r, known => by
    show (hearP (if n ∈ known then known else known ++ [n]) r).length ≤ _
    have := hearP_len (names := r) (known := if n ∈ known then known else known ++ [n])
    rw [List.length_cons]
    by_cases z : n ∈ known
    · rw [if_pos z] at this ⊢; omega
    · rw [if_neg z] at this ⊢
      rw [List.length_append, List.length_singleton] at this
      omega
/-- different names below N are at most N -/
theorem nd_len {l : List Int} {N : Nat} (nd : l.Nodup) (h : ∀ x ∈ l, 0 ≤ x ∧ x < N) : l.length ≤ N := by
  have key : ∀ {l : List Int} {lo : Int}, l.Pairwise (· < ·) → (∀ x ∈ l, lo ≤ x ∧ x < N) → lo ≤ N → (l.length : Int) ≤ N - lo := fun {l} => by
    induction l with
    | nil => intro lo _ _ h; simp; omega
    | cons x r ih =>
      intro lo hp hr hlo
      have hx := hr x List.mem_cons_self
      have hp' := List.pairwise_cons.mp hp
      have := ih (lo := x + 1) hp'.2 (fun y hy => ⟨by have := hp'.1 y hy; omega, (hr y (List.mem_cons_of_mem _ hy)).2⟩) (by omega)
      simp only [List.length_cons]
      omega
  have h1 := srtI_sorted l
  have h2 : (srtI l).Nodup := (srtI_perm l).nodup_iff.mpr nd
  have := key (lo := 0) ((h1.and h2).imp fun {a b} h => by omega) (fun x hx => h x ((srtI_perm l).mem_iff.mp hx)) (by omega)
  rw [(srtI_perm l).length_eq] at this
  omega
theorem nd_two {l : List Int} {bits : Nat} (nd : l.Nodup) (h : ∀ x ∈ l, inN bits x) : l.length ≤ 2 ^ bits :=
  nd_len nd fun x hx => ⟨(h x hx).1, by have := (h x hx).2; simpa using this⟩
theorem find_own {ns : List Nd} {x : Int} (h : x ∈ owns ns) : ∃ n, ns.find? (fun n => decide (n.own = x)) = some n ∧ n ∈ ns ∧ n.own = x := by
  cases e : ns.find? (fun n => decide (n.own = x)) with
  | none =>
    obtain ⟨n, hn, rfl⟩ := List.mem_map.mp h
    have := List.find?_eq_none.mp e n hn
    simp at this
  | some n => exact ⟨n, rfl, List.mem_of_find?_eq_some e, by simpa using List.find?_some e⟩
theorem find_eq {ns : List Nd} (nd : (owns ns).Nodup) {n : Nd} (hn : n ∈ ns) : ns.find? (fun m => decide (m.own = n.own)) = some n := by
  obtain ⟨m, e, hm, eo⟩ := find_own (List.mem_map.mpr ⟨n, hn, rfl⟩)
  rw [e]
  induction ns with
  | nil => cases hn
  | cons a r ih =>
    simp only [owns, List.map_cons, List.nodup_cons] at nd
    rcases List.mem_cons.mp hm with rfl | hm'
    · rcases List.mem_cons.mp hn with rfl | hn'
      · rfl
      · exact absurd (List.mem_map.mpr ⟨n, hn', eo.symm⟩) nd.1
    · rcases List.mem_cons.mp hn with rfl | hn'
      · exact absurd (List.mem_map.mpr ⟨m, hm', eo⟩) nd.1
      · have ne : a.own ≠ n.own := fun z => nd.1 (List.mem_map.mpr ⟨n, hn', z.symm⟩)
        refine ih nd.2 hn' ?_ hm'
        rw [List.find?_cons_of_neg (by simpa using ne)] at e
        exact e
theorem namesOf_eq {ns : List Nd} (nd : (owns ns).Nodup) {n : Nd} (hn : n ∈ ns) : namesOf ns n.own = n.sh.flatten := by
  unfold namesOf; rw [find_eq nd hn]
theorem roomOf_eq {ns : List Nd} (nd : (owns ns).Nodup) {n : Nd} (hn : n ∈ ns) : roomOf ns n.own = n.room := by
  unfold roomOf; rw [find_eq nd hn]
theorem names_in {O : Om} {bits : Nat} {ns : List Nd} (h : NetA O bits ns) {x y : Int} (hx : x ∈ owns ns) (hy : y ∈ namesOf ns x) : inN bits y := by
  obtain ⟨n, hn, rfl⟩ := List.mem_map.mp hx
  rw [namesOf_eq h.nd hn] at hy
  obtain ⟨l, hl, hy⟩ := List.mem_flatten.mp hy
  exact (h.tab n hn).gd.rg l hl y hy
theorem heard_mem {ns : List Nd} {room t x y : Int} (h : y ∈ heardS ns room t x) : y ∈ namesOf ns x := ordI_mem.mp (List.mem_of_mem_take h)
theorem wait_mem {room t x : Int} {s : LS} (h : x ∈ waitS room t s) : x ∈ s.known ∧ x ∉ s.asked := by
  unfold waitS bestS at h
  obtain ⟨h1, h2⟩ := List.mem_filter.mp h
  have := ordI_mem.mp (List.mem_of_mem_take h1)
  exact ⟨(List.mem_filter.mp this).1, by simpa using h2⟩
theorem LsOk.step {O : Om} {bits : Nat} {ns : List Nd} {room t x : Int} {s : LS} (h : LsOk bits s) (hn : NetA O bits ns) (hx : x ∈ waitS room t s) : LsOk bits (stepS ns room t s x) := by
  obtain ⟨hk, ha⟩ := wait_mem hx
  have an : (s.asked ++ [x]).Nodup := by
    rw [List.nodup_append]
    refine ⟨h.an, by simp, fun a ha' b hb => ?_⟩
    simp only [List.mem_singleton] at hb
    subst hb
    exact fun e => ha (e ▸ ha')
  unfold stepS
  split
  · rename_i ho
    refine ⟨hearP_nd h.nd, fun y hy => ?_, an, fun y hy => ?_, ?_⟩
    · rcases hearP_mem.mp hy with hy | hy
      · exact h.rg y hy
      · exact names_in hn ho (heard_mem hy)
    · refine hearP_mem.mpr (.inl ?_)
      rcases List.mem_append.mp hy with hy | hy
      · exact h.ak y hy
      · simp only [List.mem_singleton] at hy; subst hy; exact hk
    · have := h.ql
      simp only [List.length_append, List.length_singleton]
      omega
  · refine ⟨h.nd, h.rg, an, fun y hy => ?_, ?_⟩
    · rcases List.mem_append.mp hy with hy | hy
      · exact h.ak y hy
      · simp only [List.mem_singleton] at hy; subst hy; exact hk
    · have := h.ql
      simp only [List.length_append, List.length_singleton]
      omega
theorem step_asked (ns : List Nd) (room t x : Int) (s : LS) : (stepS ns room t s x).asked = s.asked ++ [x] := by unfold stepS; split <;> rfl
theorem LsOk.asked {bits : Nat} {s : LS} (h : LsOk bits s) : s.asked.length ≤ 2 ^ bits := nd_two h.an fun x hx => h.rg x (h.ak x hx)
theorem LsOk.known {bits : Nat} {s : LS} (h : LsOk bits s) : s.known.length ≤ 2 ^ bits := nd_two h.nd h.rg
/-- all has been asked behind as many steps -/
theorem run_end {O : Om} {bits : Nat} {ns : List Nd} {room t : Int} (hn : NetA O bits ns) : ∀ (n : Nat) (s : LS), LsOk bits s → 2 ^ bits < s.asked.length + n → waitS room t (runS ns room t n s) = [] ∧ LsOk bits (runS ns room t n s)
  | 0, s, h, hl => by have := h.asked; omega
  | n + 1, s, h, hl => by
    unfold runS
    cases e : waitS room t s with
    | nil => exact ⟨e, h⟩
    | cons x r =>
      refine run_end hn n _ (h.step hn (by rw [e]; exact List.mem_cons_self)) ?_
      rw [step_asked, List.length_append, List.length_singleton]
      omega
theorem start_ok {O : Om} {bits : Nat} {ns : List Nd} {start t : Int} (hn : NetA O bits ns) (hs : start ∈ owns ns) : LsOk bits (startS ns start t) := by
  have hi : inN bits start := by
    obtain ⟨n, h, rfl⟩ := List.mem_map.mp hs
    exact (hn.tab n h).ow
  unfold startS
  refine ⟨hearP_nd (by simp), fun y hy => ?_, List.nodup_nil, fun x hx => (List.not_mem_nil hx).elim, Nat.le_refl _⟩
  rcases hearP_mem.mp hy with hy | hy
  · simp only [List.mem_singleton] at hy; subst hy; exact hi
  · exact names_in hn hs (heard_mem hy)
end N

set_option Elab.async false
set_option linter.all false
set_option maxRecDepth 100000
/-! CT3: in a filled net the lookup comes to the nearest name in time -/
namespace N
open PySem PySem.Spec PyProof.Rows L2
section
variable {O : Om} {bits : Nat} {ns : List Nd} {t b : Int}
/-- b is the nearest name of the net -/
def Best (ns : List Nd) (t b : Int) : Prop := b ∈ owns ns ∧ ∀ x ∈ owns ns, xn b t ≤ xn x t
theorem own_in (hn : NetA O bits ns) {x : Int} (hx : x ∈ owns ns) : inN bits x := by
  obtain ⟨n, h, rfl⟩ := List.mem_map.mp hx
  exact (hn.tab n h).ow
/-- the table of another node has a name that is nearer to b -/
theorem nearer (hn : NetA O bits ns) (hf : Filled ns) (hb : b ∈ owns ns) {x : Int} (hx : x ∈ owns ns) (ne : x ≠ b) : ∃ y, y ∈ namesOf ns x ∧ y ∈ owns ns ∧ xn y b < 2 ^ (xn x b).log2 := by
  obtain ⟨n, h, rfl⟩ := List.mem_map.mp hx
  obtain ⟨m, h2, rfl⟩ := List.mem_map.mp hb
  have ix := own_in hn hx
  have ib := own_in hn hb
  obtain ⟨f1, f2⟩ := hf n h
  have f2 := f2 m h2 (fun z => ne z.symm)
  have e := shf_xn ix ib ne
  rw [e, Int.toNat_natCast] at f2
  have nz := xn_ne ix ib ne
  obtain ⟨l, hl⟩ : ∃ l, n.sh[(xn n.own m.own).log2]? = some l := by
    cases q : n.sh[(xn n.own m.own).log2]? with
    | none => rw [List.getD_eq_getElem?_getD, q] at f2; exact absurd rfl f2
    | some l => exact ⟨l, rfl⟩
  rw [List.getD_eq_getElem?_getD, hl, Option.getD_some] at f2
  obtain ⟨y, hy⟩ := List.exists_mem_of_ne_nil l f2
  obtain ⟨yo, ys⟩ := hn.pl n h _ l hl y hy
  have hyf : y ∈ n.sh.flatten := List.mem_flatten.mpr ⟨l, List.mem_of_getElem? hl, hy⟩
  have hyn := f1 y hyf
  have iy := own_in hn hyn
  refine ⟨y, by rw [namesOf_eq hn.nd h]; exact hyf, hyn, ?_⟩
  have e2 := shf_xn ix iy (fun z => yo z.symm)
  rw [ys] at e2
  have e3 : (xn n.own y).log2 = (xn n.own m.own).log2 := by omega
  have ny := xn_ne ix iy (fun z => yo z.symm)
  have tr : xn y m.own = xn n.own y ^^^ xn n.own m.own := by
    have := xn_tri y m.own n.own
    rw [← this, xn_comm y, xn_comm m.own]
  rw [tr]
  refine top_xor ?_ ?_ (Nat.log2_self_le nz) Nat.lt_log2_self
  · rw [← e3]; exact Nat.log2_self_le ny
  · rw [← e3]; exact Nat.lt_log2_self
theorem best_div (hB : Best ns t b) {z : Int} (hz : z ∈ owns ns) {y : Int} {i : Nat} (hy : xn y b < 2 ^ i) (h : xn z t ≤ xn y t) : xn z b < 2 ^ i := by
  have h1 := hB.2 z hz
  have e : xn b t / 2 ^ i = xn y t / 2 ^ i := div_eq (by rw [xn_tri, xn_comm]; exact hy)
  have e1 := Nat.div_le_div_right (c := 2 ^ i) h1
  have e2 := Nat.div_le_div_right (c := 2 ^ i) h
  have : xn z t ^^^ xn b t < 2 ^ i := eq_div (by omega)
  rw [xn_tri] at this
  exact this
/-- it is nearer to the target, too -/
theorem nearer_t (hB : Best ns t b) {x y : Int} (hx : x ∈ owns ns) (nz : xn x b ≠ 0) (hy : xn y b < 2 ^ (xn x b).log2) : xn y t < xn x t := by
  generalize ei : (xn x b).log2 = i at *
  have h1 := hB.2 x hx
  have e : xn b t / 2 ^ i = xn y t / 2 ^ i := div_eq (by rw [xn_tri, xn_comm]; exact hy)
  have e1 := Nat.div_le_div_right (c := 2 ^ i) h1
  have ne : xn x t / 2 ^ i ≠ xn b t / 2 ^ i := fun z => by
    have := eq_div z
    rw [xn_tri] at this
    have := Nat.log2_self_le nz
    rw [ei] at this
    omega
  by_cases q : xn x t ≤ xn y t
  · have := Nat.div_le_div_right (c := 2 ^ i) q
    omega
  · omega
/-- a name is the nearest one of some names -/
def Near (l : List Int) (t z : Int) : Prop := z ∈ l ∧ ∀ x ∈ l, xn z t ≤ xn x t
theorem near_ord (ht : inN bits t) {l : List Int} (hl : ∀ x ∈ l, inN bits x) (ne : l ≠ []) : ∃ z r, ordI l t = z :: r ∧ Near l t z := by
  obtain ⟨z, r, e, hz⟩ := ordI_cons (t := t) ne
  refine ⟨z, r, e, hz, fun x hx => ?_⟩
  have := ordI_head e x hx
  rw [xo_xn (hl z hz) ht, xo_xn (hl x hx) ht] at this
  omega
theorem near_uniq (ht : inN bits t) {l : List Int} (hl : ∀ x ∈ l, inN bits x) {z z' : Int} (h : Near l t z) (h' : Near l t z') : z = z' := by
  have h1 := h.2 z' h'.1
  have h2 := h'.2 z h.1
  exact xn_inj (hl z h.1) (hl z' h'.1) (show xn z t = xn z' t by omega)
/-- how the lookup goes -/
structure Way (bits : Nat) (ns : List Nd) (t b : Int) (s : LS) : Prop where
  ok : LsOk bits s
  qu : s.quiet = []
  kn : ∀ x ∈ s.known, x ∈ owns ns
  ne : s.known ≠ []
  go : (b ∉ s.asked ∧ s.asked.length ≤ bits ∧ ∃ z, Near s.known t z ∧ z ∉ s.asked ∧ xn z b < 2 ^ (bits - s.asked.length)) ∨ (∃ j, s.asked.findIdx? (· == b) = some j ∧ j ≤ bits)
theorem best_known {room : Int} {s : LS} (hq : s.quiet = []) : bestS room t s = (ordI s.known t).take room.toNat := by
  unfold bestS
  rw [hq, List.filter_eq_self.mpr (fun x _ => by simp)]
theorem Way.step {room : Int} {s : LS} (hr : 1 ≤ room) (ht : inN bits t) (hn : NetA O bits ns) (hf : Filled ns) (hB : Best ns t b) (w : Way bits ns t b s) {x : Int} {r : List Int} (hx : waitS room t s = x :: r) : Way bits ns t b (stepS ns room t s x) := by
  have hxm : x ∈ waitS room t s := by rw [hx]; exact List.mem_cons_self
  obtain ⟨xk, xa⟩ := wait_mem hxm
  have xo' := w.kn x xk
  have st : stepS ns room t s x = ⟨hearP s.known (heardS ns room t x), s.asked ++ [x], s.quiet⟩ := if_pos xo'
  have ok' := w.ok.step hn hxm
  have hin : ∀ y ∈ s.known, inN bits y := w.ok.rg
  have hno : ∀ y ∈ namesOf ns x, y ∈ owns ns := fun y hy => by
    obtain ⟨n, h, rfl⟩ := List.mem_map.mp xo'
    rw [namesOf_eq hn.nd h] at hy
    exact (hf n h).1 y hy
  rw [st] at ok' ⊢
  refine ⟨ok', w.qu, fun y hy => ?_, ?_, ?_⟩
  · rcases hearP_mem.mp hy with hy | hy
    · exact w.kn y hy
    · exact hno y (heard_mem hy)
  · intro z
    have : x ∈ hearP s.known (heardS ns room t x) := hearP_mem.mpr (.inl xk)
    have z : hearP s.known (heardS ns room t x) = [] := z
    rw [z] at this
    cases this
  rcases w.go with ⟨g1, g2, z, gz, gza, gb⟩ | ⟨j, g1, g2⟩
  · -- the nearest one is asked
    have hxz : x = z := by
      obtain ⟨z', r', e', n'⟩ := near_ord ht hin w.ne
      have : z' = z := near_uniq ht hin n' gz
      subst this
      have ew : waitS room t s = z' :: (r'.take (room.toNat - 1)).filter fun x => !s.asked.contains x := by
        unfold waitS
        rw [best_known w.qu, e']
        obtain ⟨m, em⟩ : ∃ m, room.toNat = m + 1 := ⟨room.toNat - 1, by omega⟩
        rw [em, List.take_succ_cons, List.filter_cons_of_pos (by simpa using gza)]
        simp
      rw [ew] at hx
      exact (List.cons.inj hx).1.symm
    subst hxz
    by_cases eb : x = b
    · right
      subst eb
      refine ⟨s.asked.length, ?_, g2⟩
      show (s.asked ++ [x]).findIdx? (· == x) = _
      rw [List.findIdx?_append, List.findIdx?_eq_none_iff.mpr (fun y hy => by
        have : y ≠ x := fun z => xa (z ▸ hy)
        simpa using this)]
      simp
    · left
      have nz := xn_ne (hin x xk) (own_in hn hB.1) eb
      have i0 : (xn x b).log2 < bits - s.asked.length := (Nat.log2_lt nz).mpr gb
      obtain ⟨y, y1, y2, y3⟩ := nearer hn hf hB.1 xo' eb
      have yt := nearer_t hB xo' nz y3
      have hnin : ∀ y ∈ namesOf ns x, inN bits y := fun y hy => own_in hn (hno y hy)
      obtain ⟨h0, hr0, eh, nh⟩ := near_ord ht hnin (List.ne_nil_of_mem y1)
      have hh : h0 ∈ heardS ns room t x := by
        unfold heardS
        rw [eh]
        obtain ⟨m, em⟩ : ∃ m, room.toNat = m + 1 := ⟨room.toNat - 1, by omega⟩
        rw [em, List.take_succ_cons]
        exact List.mem_cons_self
      have h0y := nh.2 y y1
      have kin : ∀ y ∈ hearP s.known (heardS ns room t x), inN bits y := ok'.rg
      have kne : hearP s.known (heardS ns room t x) ≠ [] := List.ne_nil_of_mem (hearP_mem.mpr (.inr hh))
      obtain ⟨z', r', e', n'⟩ := near_ord ht kin kne
      have z'h := n'.2 h0 (hearP_mem.mpr (.inr hh))
      have z'o : z' ∈ owns ns := by
        rcases hearP_mem.mp n'.1 with q | q
        · exact w.kn z' q
        · exact hno z' (heard_mem q)
      have z'b := best_div hB z'o y3 (show xn z' t ≤ xn y t by omega)
      have far : ∀ a ∈ s.asked ++ [x], xn x t ≤ xn a t := fun a ha => by
        rcases List.mem_append.mp ha with ha | ha
        · exact gz.2 a (w.ok.ak a ha)
        · simp only [List.mem_singleton] at ha; subst ha; exact Nat.le_refl _
      refine ⟨fun hb => ?_, by simp; omega, z', n', fun ha => ?_, ?_⟩
      · rcases List.mem_append.mp hb with hb | hb
        · exact g1 hb
        · simp only [List.mem_singleton] at hb; exact eb hb.symm
      · have := far z' ha
        omega
      · refine Nat.lt_of_lt_of_le z'b (Nat.pow_le_pow_right (by decide) ?_)
        simp only [List.length_append, List.length_singleton]
        omega
  · right
    refine ⟨j, ?_, g2⟩
    show (s.asked ++ [x]).findIdx? (· == b) = _
    rw [List.findIdx?_append, g1]
    rfl
theorem Way.run {room : Int} (hr : 1 ≤ room) (ht : inN bits t) (hn : NetA O bits ns) (hf : Filled ns) (hB : Best ns t b) : ∀ (n : Nat) (s : LS), Way bits ns t b s → Way bits ns t b (runS ns room t n s)
  | 0, s, w => w
  | n + 1, s, w => by
    unfold runS
    cases e : waitS room t s with
    | nil => exact w
    | cons x r => exact Way.run hr ht hn hf hB n _ (w.step hr ht hn hf hB e)
/-- the end of a lookup in a filled net -/
theorem look_end {start : Int} (ht : inN bits t) (hn : NetA O bits ns) (hf : Filled ns) (hB : Best ns t b) (hs : start ∈ owns ns) :
    (∃ r, foundS bits ns start t = b :: r) ∧ ∃ j, (lookS bits ns start t).asked.findIdx? (· == b) = some j ∧ j ≤ bits := by
  obtain ⟨n, hnn, rfl⟩ := List.mem_map.mp hs
  have hr : 1 ≤ roomOf ns n.own := by rw [roomOf_eq hn.nd hnn]; exact (hn.tab n hnn).r1
  have ok0 := start_ok (t := t) hn hs
  have hno : ∀ y ∈ namesOf ns n.own, y ∈ owns ns := fun y hy => by
    rw [namesOf_eq hn.nd hnn] at hy
    exact (hf n hnn).1 y hy
  have kne : (startS ns n.own t).known ≠ [] := List.ne_nil_of_mem (hearP_mem.mpr (.inl (List.mem_singleton.mpr rfl)))
  have w0 : Way bits ns t b (startS ns n.own t) := by
    refine ⟨ok0, rfl, fun y hy => ?_, kne, .inl ⟨List.not_mem_nil, Nat.zero_le _, ?_⟩⟩
    · rcases hearP_mem.mp hy with hy | hy
      · simp only [List.mem_singleton] at hy; subst hy; exact hs
      · exact hno y (heard_mem hy)
    · obtain ⟨z, r, e, nz⟩ := near_ord ht ok0.rg kne
      exact ⟨z, nz, List.not_mem_nil, xn_lt (ok0.rg z nz.1) (own_in hn hB.1)⟩
  have w := Way.run hr ht hn hf hB (2 ^ bits + 1) _ w0
  have en := (run_end (room := roomOf ns n.own) (t := t) hn (2 ^ bits + 1) _ ok0 (by show 2 ^ bits < 0 + (2 ^ bits + 1); omega)).1
  change Way bits ns t b (lookS bits ns n.own t) at w
  change waitS (roomOf ns n.own) t (lookS bits ns n.own t) = [] at en
  rcases w.go with ⟨g1, g2, z, gz, gza, gb⟩ | ⟨j, g1, g2⟩
  · exfalso
    obtain ⟨z', r', e', n'⟩ := near_ord ht w.ok.rg w.ne
    have : z' = z := near_uniq ht w.ok.rg n' gz
    subst this
    unfold waitS at en
    rw [best_known w.qu, e'] at en
    obtain ⟨m, em⟩ : ∃ m, (roomOf ns n.own).toNat = m + 1 := ⟨(roomOf ns n.own).toNat - 1, by omega⟩
    rw [em, List.take_succ_cons, List.filter_cons_of_pos (by simpa using gza)] at en
    cases en
  · refine ⟨?_, j, g1, g2⟩
    have hba : b ∈ (lookS bits ns n.own t).asked := by
      obtain ⟨h1, h2, _⟩ := List.findIdx?_eq_some_iff_getElem.mp g1
      have : (lookS bits ns n.own t).asked[j] = b := by simpa using h2
      rw [← this]; exact List.getElem_mem _
    obtain ⟨z', r', e', n'⟩ := near_ord ht w.ok.rg w.ne
    have nb : Near (lookS bits ns n.own t).known t b := ⟨w.ok.ak b hba, fun x hx => hB.2 x (w.kn x hx)⟩
    have : z' = b := near_uniq ht w.ok.rg n' nb
    subst this
    unfold foundS
    rw [best_known w.qu, e']
    obtain ⟨m, em⟩ : ∃ m, (roomOf ns n.own).toNat = m + 1 := ⟨(roomOf ns n.own).toNat - 1, by omega⟩
    rw [em, List.take_succ_cons]
    exact ⟨_, rfl⟩
end
end N

set_option Elab.async false
set_option linter.all false
set_option maxRecDepth 100000
set_option maxHeartbeats 0
namespace N
open PySem PySem.Spec PyProof.Rows L2
local macro_rules | `(tactic| tm_at "nw") => `(tactic| try simp only [wFn, startG_c, startG_n, startG_z, wSeq, wSet, wC, wFor, wIt, wVar, wVarB, getSl_z, getSl_s, List.set_cons_zero, List.set_cons_succ, wRet, wBin, gI_i, gI0_i, gB0_i, gAdd_i, gAdd_t, gAdd_l, gAdd_s, gMul_i, gMul_t, gMul_l, gEq_, gNe_, gIs_n, gIs_b, gIsNot_n, gIsNot_b, isNon_n, isNon_i, isNon_b, isNon_t, isNon_l, isNon_s, wIfS, wtOr, wtAnd, wtNot, wTst, wNext, wNev, wCall, wCallF, wFrz, wLst, wTup, waNil, waCons, wComp, wRng, gRng1_i, gRng2_i, gRng3_i, wUn, gNeg_i, gTuple_t, gTuple_l, gList_t, gList_l, gList_s, gLen_t, gLen_l, gLen_s, gLen_d, gInt_i, gInt_b, gAbs_i, gMax_i, gMin_i, wipeG, MO.see, fName, wCallU, wCallK, List.append_nil, List.length_cons, List.length_nil, wSl, woNone, woSome, gSl_t, gSl_l, gIt_t, gIt_l, gIt_s, gIsi_i, gIsi_b, gIsi_t, gIsi_l, gIsi_s, gIsi_n, gIsi_d, wFld, wMeth, wMake, wMakeF, wSetF, wExt, wFz, wRev, wRaise, wTry, wBits, insOf_ins, lk_kind, lk_size, lk_digest, lk_is_digest, gEnum_t, gEnum_l, gZip_t, gZip_l, mem1, reduceCtorEq, eq_self, wAsg, fTup, fCons, fNil, wAnd, wOr, wNot, wIf, wPar, wAug, wApp, wSetO, wRetO, br_t, br_f, shp_int, shp_bl, shp_non, deq_int, gAll_b, gAny_b, gSum_i, wDrop, wRetN, true_and, and_true, decide_true, decide_false, Bool.not_true, Bool.not_false, isi_NoneType_bool, isi_NoneType_int, isi_NoneType_str, isi_NoneType_tuple, isi_NoneType_list, isi_NoneType_dict, isi_bool_bool, isi_bool_int, isi_bool_str, isi_bool_tuple, isi_bool_list, isi_bool_dict, isi_int_bool, isi_int_int, isi_int_str, isi_int_tuple, isi_int_list, isi_int_dict, isi_str_bool, isi_str_int, isi_str_str, isi_str_tuple, isi_str_list, isi_str_dict, isi_tuple_bool, isi_tuple_int, isi_tuple_str, isi_tuple_tuple, isi_tuple_list, isi_tuple_dict, isi_list_bool, isi_list_int, isi_list_str, isi_list_tuple, isi_list_list, isi_list_dict, isi_dict_bool, isi_dict_int, isi_dict_str, isi_dict_tuple, isi_dict_list, isi_dict_dict, okTy_bool, okTy_int, okTy_str, okTy_tuple, okTy_list, okTy_dict])
local macro_rules | `(tactic| tm_at "nc") => `(tactic| first | exact True.intro | omega | exact mulL (by omega) (by omega) | exact mulR (by omega) (by omega) | exact divOk (by omega) (by omega) | (simp only [List.length_append, List.length_map, List.length_cons, List.length_nil, List.length_replicate, List.length_flatten, List.map_replicate, List.sum_replicate_nat, List.length_range, rngL_len, rngC_len, List.cons_append, List.nil_append]; first | done | omega))
local macro_rules | `(tactic| tm_at "ns") => `(tactic| repeat (with_reducible refine And.intro (by first | tm_at "nc" | exact ⟨by tm_at "nc", by tm_at "nc"⟩ | exact ⟨by tm_at "nc", by tm_at "nc", by tm_at "nc"⟩ | exact ⟨by tm_at "nc", by tm_at "nc", by tm_at "nc", by tm_at "nc"⟩) ?_))
theorem walk_ofX {l : PySem.W.OpenLaw} {n k : Nat} {q : Program} {loose : List Str} {XP : (Str → Option Value) → Heap → Prop} {YP : World → Heap → Prop} {d : DefRec} {x : Str}
    (hn : l.most = some n) (hn2 : n ≤ sizeLine) (hdf : d.params.defaults = []) (hr : Room k callerA)
    (F : ∀ (w : World) (mg : Str → Option Value) (fa : Addr) (h : Heap), YP w h → XP mg h → h.Ns mainGlobals mg → mg d.name = some (.ref fa) →
      ∃ (T : Th) (fd : FuncData) (S : DSp), T.K.In h ∧ (∀ (s : Shared) (u : Value), BindsTo s fd ⟨[u], []⟩ [(x, u)]) ∧
        (∀ ns : List Int, ns.length ≤ n → (∀ z ∈ ns, Builtin.Int.intBits z ≤ 1048576) → S [.scr ns] (fun _ => none) (fun d _ => d = .bl true) (fun _ _ => False)) ∧
        ∀ base : Heap, T.K.In base → base.Ns mainGlobals mg → FnOk l.prog w T.K mg base (L2.CX l.prog w) k fa fd [x] (toSp T 1 S)) :
    PySem.W.WalkO q loose XP YP l.row.toRowW d [] (fun f vs => PySem.call f vs) := by
  refine Att.attach_callB hn hdf fun w s₀ s₁ mg mb fa o pm cd doc a vs ns G Y ho hd hcd hmg hobj hints hlen hbits hg => ?_
  obtain ⟨T, fd, S, KX, hb, hsp, hF⟩ := F w mg fa _ Y G.X G.T.g hmg
  refine law_call (CX := L2.CX l.prog w) KX G.T.g G.T.b G.T.builtins G.T.nolimit hg hobj hints (Nat.le_trans hlen hn2) hr hF hb (fun H hO hS => sp_start hS (hsp ns hlen hbits)) fun H e s' h => ?_
  obtain ⟨_, _, h⟩ := h
  simp at h
end N

set_option Elab.async false
set_option linter.all false
set_option maxRecDepth 100000
namespace K31
open PySem PySem.Spec PyProof.Rows L2 N
def sp__law_orderK : DSp := fun ds Om Q _ => ∃ (bits : Nat) (ns : List Nd) (t : Int), ds = [netD bits ns, .int t] ∧ ns.length ≤ 60 ∧ Q (.lst ((ordI (owns ns) t).map .int)) Om
def sp__law_net : DSp := fun ds Om Q _ => ∃ (a : Addr) (bits : Nat), ds = [.ref a, .int bits] ∧ Tp Om a ∧ 1 ≤ bits ∧ bits ≤ 7 ∧ ∀ (O : N.Om) (ns : List Nd), Tp O a → NetA O bits ns → ns ≠ [] → Filled ns → Q (netD bits ns) O
def sp__law_nearest : DSp := fun ds Om Q _ => ∃ (bits : Nat) (ns : List Nd) (start target : Int), ds = [netD bits ns, .int bits, .int start, .int target] ∧ NetA Om bits ns ∧ Filled ns ∧ inN bits target ∧ start ∈ owns ns ∧ bits ≤ 7 ∧ ∀ O, Kept Om O → Q (.bl true) O
def sp__law_spoilt : DSp := fun ds Om Q _ => ∃ (a : Addr) (bits : Nat) (ns : List Nd), ds = [.ref a, netD bits ns, .int bits] ∧ Tp Om a ∧ NetA Om bits ns ∧ ns ≠ [] ∧ bits ≤ 7 ∧ ∀ (O : N.Om) (ns' : List Nd), Tp O a → netD bits ns' = netD bits ns → NetA O bits ns' → ns' ≠ [] → Q (.bl true) O
def sp_law : DSp := fun ds Om Q _ => ∃ ns : List Int, ds = [.scr ns] ∧ ns.length ≤ 63 ∧ ∀ O, Q (.bl true) O
end K31

set_option Elab.async false
set_option linter.all false
set_option maxRecDepth 100000
set_option maxHeartbeats 0
namespace K31
open PySem PySem.Spec PyProof.Rows L2 N
def top (i : Nat) : Stmt := PySem.Challenge.pw_anyenough_k31_whole_lookups_in_filled_ne.main.body.getD i (.Pass ⟨0, 0, 0, 0⟩)
structure Mg (K : PySem.W.Frag) (mg : Str → Option Value) (T : Th) : Prop where
  n_MOST_BITS : ∃ t, mg "MOST_BITS" = some (.int 24 t)
  n_MOST_ROOM : ∃ t, mg "MOST_ROOM" = some (.int 20 t)
  n_abs : mg "abs" = none
  n_all : mg "all" = none
  n_bool : mg "bool" = none
  n_int : mg "int" = none
  n_isinstance : mg "isinstance" = none
  n_len : mg "len" = none
  n_list : mg "list" = none
  n_range : mg "range" = none
  n_sorted : mg "sorted" = none
  n_tuple : mg "tuple" = none
  x_BadNet : ClX K mg T 23 "BadNet"
  cl_Table : Cls K (T.cm 24)
  na_Table_own : NoAttr K (T.cm 24) "own"
  na_Table_bits : NoAttr K (T.cm 24) "bits"
  na_Table_room : NoAttr K (T.cm 24) "room"
  na_Table_shelves : NoAttr K (T.cm 24) "shelves"
  cl_Search : Cls K (T.cm 25)
  na_Search_net : NoAttr K (T.cm 25) "net"
  na_Search_target : NoAttr K (T.cm 25) "target"
  na_Search_room : NoAttr K (T.cm 25) "room"
  na_Search_known : NoAttr K (T.cm 25) "known"
  na_Search_asked : NoAttr K (T.cm 25) "asked"
  na_Search_quiet : NoAttr K (T.cm 25) "quiet"
abbrev s__law_tape : Stmt := top 17
theorem sc__law_tape : FnScope ["script", "seed", "cell"] ["script"] (defScope s__law_tape) := ⟨rfl, rfl, rfl, by decide +kernel, rfl, by decide +kernel, by decide +kernel⟩
theorem k__law_tape {PR : Program} {w : World} {K : PySem.W.Frag} {mg : Str → Option Value} {base : Heap} {T : Th} {f : Addr} {fd : FuncData} (hT : T.K = K) (M : Mg K mg T) (F : FnP K "_law_tape" "_law_tape" s__law_tape [] f fd) :
    FnOk PR w K mg base (L2.CX PR w) 1 f fd ["script"] (toSp T 1 (wFn 3 (w__law_tape))) :=
  fn_okD F sc__law_tape T (w__law_tape) fun cdv A outer s H E W ok hr tk po =>
    have nd := sc__law_tape.nd
    have hu := hr.units
    (dss_cons (ds_set nd 1 de_int)
      (dss_cons (ds_for po rfl (di_val hT (de_var 0)) (dg_name nd 2) (dss_one (ds_set nd 1 (de_bin (od_mod) (de_callT (cd_int) M.n_int (dab_cons (de_bin (od_add hT) (de_bin (od_mul hT) (db_var 1) de_int.br).br (db_var 2)).br dab_nil)).br de_int.br))))
      (dss_one (ds_retTape (df_lc rfl nd [("cell", 2)] (di_valB hT (db_var 0)) (fun _ _ _ _ _ => (dg_name nd 2)) (fun _ _ _ _ _ => dts_nil) (fun _ _ _ _ _ => (de_callB (cd_abs) M.n_abs (dab_cons (de_callT (cd_int) M.n_int (dab_cons (db_var 2) dab_nil)).br dab_nil)))) (de_bin (od_add hT) (db_var 1) de_int.br)))))
abbrev s__law_draw : Stmt := top 18
theorem sc__law_draw : FnScope ["tape", "many", "cells", "number"] ["tape", "many"] (defScope s__law_draw) := ⟨rfl, rfl, rfl, by decide +kernel, rfl, by decide +kernel, by decide +kernel⟩
theorem k__law_draw {PR : Program} {w : World} {K : PySem.W.Frag} {mg : Str → Option Value} {base : Heap} {T : Th} {f : Addr} {fd : FuncData} (hT : T.K = K) (M : Mg K mg T) (F : FnP K "_law_draw" "_law_draw" s__law_draw [] f fd) :
    FnOk PR w K mg base (L2.CX PR w) 1 f fd ["tape", "many"] (toSp T 2 (wFn 4 (w__law_draw))) :=
  fn_okD F sc__law_draw T (w__law_draw) fun cdv A outer s H E W ok hr tk po =>
    have nd := sc__law_draw.nd
    have hu := hr.units
    (dss_cons (ds_set nd 2 (de_ixS (de_var 0) de_int))
      (dss_cons (ds_while po (dw_and (dt_cmp (od_gt) (de_lenS M.n_len (de_var 2)).br de_int.br) (dw_and1 (dt_cmp (od_eq hT hu) (de_ixS (de_var 2) de_int).br de_int.br))).t (dss_one (ds_expr (de_popS (de_var 2) de_int))))
      (dss_cons (ds_if (dt_cmp (od_gt) (de_lenS M.n_len (de_var 2)).br de_int.br) (dss_cons (ds_set nd 3 (de_ixS (de_var 2) de_int))
      (dss_cons (ds_setIxS (de_bin (od_div) (db_var 3) (db_var 1)) (de_var 2) de_int)
      (dss_one (ds_ret (de_bin (od_mod) (de_callT (cd_int) M.n_int (dab_cons (db_var 3) dab_nil)).br (db_var 1)))))) dss_nil)
      (dss_cons (ds_setIxS (de_bin (od_mod) (de_callT (cd_int) M.n_int (dab_cons (de_bin (od_add hT) (de_bin (od_mul hT) (de_ixS (de_var 0) de_int).br de_int.br).br de_int.br).br dab_nil)).br de_int.br) (de_var 0) de_int)
      (dss_one (ds_ret (de_bin (od_mod) (de_callT (cd_int) M.n_int (dab_cons (de_bin (od_div) (de_ixS (de_var 0) de_int).br de_int.br).br dab_nil)).br (db_var 1))))))))
abbrev s__law_shelf : Stmt := top 21
theorem sc__law_shelf : FnScope ["own", "name", "number"] ["own", "name"] (defScope s__law_shelf) := ⟨rfl, rfl, rfl, by decide +kernel, rfl, by decide +kernel, by decide +kernel⟩
abbrev w__law_shelf_b1 : WS := (wSet 2 (wBin (gAdd) (wVarB 2) (wC (.int 1))))
def w__law_shelf : WS := (wSeq (wSet 2 (wUn gNeg (wC (.int 1))))
  (wSeq (wWh (wTst (wBin (gGe) (wBin (gXor) (wVarB 0) (wVarB 1)) (wBin (gShl) (wC (.int 1)) (wBin (gAdd) (wVarB 2) (wC (.int 1)))))) (w__law_shelf_b1))
  (wRet (wVar 2))))
theorem k__law_shelf {PR : Program} {w : World} {K : PySem.W.Frag} {mg : Str → Option Value} {base : Heap} {T : Th} {f : Addr} {fd : FuncData} (hT : T.K = K) (M : Mg K mg T) (F : FnP K "_law_shelf" "_law_shelf" s__law_shelf [] f fd) :
    FnOk PR w K mg base (L2.CX PR w) 1 f fd ["own", "name"] (toSp T 2 (wFn 3 (w__law_shelf))) :=
  fn_okD F sc__law_shelf T (w__law_shelf) fun cdv A outer s H E W ok hr tk po =>
    have nd := sc__law_shelf.nd
    have hu := hr.units
    (dss_cons (ds_set nd 2 (de_un ud_neg de_int.br))
      (dss_cons (ds_while po (dt_cmp (od_ge) (de_bin (od_xor) (db_var 0) (db_var 1)).br (de_bin (od_shl) de_int.br (de_bin (od_add hT) (db_var 2) de_int.br).br).br) (dss_one (ds_set nd 2 (de_bin (od_add hT) (db_var 2) de_int.br))))
      (dss_one (ds_ret (de_var 2)))))
abbrev s__law_pick : Stmt := top 19
theorem sc__law_pick : FnScope ["tape", "row"] ["tape", "row"] (defScope s__law_pick) := ⟨rfl, rfl, rfl, by decide +kernel, rfl, by decide +kernel, by decide +kernel⟩
theorem k__law_pick {PR : Program} {w : World} {K : PySem.W.Frag} {mg : Str → Option Value} {base : Heap} {T : Th} {f : Addr} {fd : FuncData} (hT : T.K = K) (M : Mg K mg T) (F : FnP K "_law_pick" "_law_pick" s__law_pick [] f fd) (c__law_draw : Cl PR w K mg base T 1 "_law_draw" 2 sp__law_draw) :
    FnOk PR w K mg base (L2.CX PR w) 2 f fd ["tape", "row"] (toSp T 2 (wFn 2 (w__law_pick))) :=
  fn_okD F sc__law_pick T (w__law_pick) fun cdv A outer s H E W ok hr tk po =>
    have nd := sc__law_pick.nd
    have hu := hr.units
    (dss_one (ds_ret (de_ix (id_ix hT hu) (db_var 1) (de_cl c__law_draw (hr.mono (by decide)) tk (da_cons (de_var 0) (da_cons (de_callB (cd_len hT) M.n_len (dab_cons (db_var 1) dab_nil)) da_nil))).br)))
abbrev s_is_integer : Stmt := top 4
theorem sc_is_integer : FnScope ["value"] ["value"] (defScope s_is_integer) := ⟨rfl, rfl, rfl, by decide +kernel, rfl, by decide +kernel, by decide +kernel⟩
theorem k_is_integer {PR : Program} {w : World} {K : PySem.W.Frag} {mg : Str → Option Value} {base : Heap} {T : Th} {f : Addr} {fd : FuncData} (hT : T.K = K) (M : Mg K mg T) (F : FnP K "is_integer" "is_integer" s_is_integer [] f fd) :
    FnOk PR w K mg base (L2.CX PR w) 1 f fd ["value"] (toSp T 1 (wFn 1 (w_is_integer))) :=
  fn_okD F sc_is_integer T (w_is_integer) fun cdv A outer s H E W ok hr tk po =>
    have nd := sc_is_integer.nd
    have hu := hr.units
    (dss_one (ds_ret (de_and (de_callB (cd_isi hT) M.n_isinstance (dab_cons (db_var 0) (dab_cons (de_ty M.n_int).br dab_nil))) (de_one (de_not (de_callB (cd_isi hT) M.n_isinstance (dab_cons (db_var 0) (dab_cons (de_ty M.n_bool).br dab_nil))))))))
abbrev s_is_name : Stmt := top 9
theorem sc_is_name : FnScope ["value", "bits"] ["value", "bits"] (defScope s_is_name) := ⟨rfl, rfl, rfl, by decide +kernel, rfl, by decide +kernel, by decide +kernel⟩
def w_is_name : WS := (wRet (wAnd (wCallU 1 sp_is_integer [] (waCons (wVar 0) waNil)) (wAnd (wBin (gLe) (wC (.int 0)) (wVarB 0)) (wBin (gEq) (wBin (gShr) (wVarB 0) (wVarB 1)) (wC (.int 0))))))
theorem k_is_name {PR : Program} {w : World} {K : PySem.W.Frag} {mg : Str → Option Value} {base : Heap} {T : Th} {f : Addr} {fd : FuncData} (hT : T.K = K) (M : Mg K mg T) (F : FnP K "is_name" "is_name" s_is_name [] f fd) (c_is_integer : Cl PR w K mg base T 1 "is_integer" 1 sp_is_integer) :
    FnOk PR w K mg base (L2.CX PR w) 2 f fd ["value", "bits"] (toSp T 2 (wFn 2 (w_is_name))) :=
  fn_okD F sc_is_name T (w_is_name) fun cdv A outer s H E W ok hr tk po =>
    have nd := sc_is_name.nd
    have hu := hr.units
    (dss_one (ds_ret (de_and (de_cl c_is_integer (hr.mono (by decide)) tk (da_cons (de_var 0) da_nil)) (de_and (de_cmp (od_le) de_int.br (db_var 0)) (de_one (de_cmp (od_eq hT hu) (de_bin (od_shr) (db_var 0) (db_var 1)).br de_int.br))))))
abbrev s_Table___init__ : Stmt := clsAt (top 11) 0
theorem sc_Table___init__ : FnScope ["self", "own", "bits", "room", "_"] ["self", "own", "bits", "room"] (defScope s_Table___init__) := ⟨rfl, rfl, rfl, by decide +kernel, rfl, by decide +kernel, by decide +kernel⟩
def w_Table___init__ : WS := (wSeq (wIfS (wtOr (wtNot (wTst (wCallU 1 sp_is_integer [] (waCons (wVar 2) waNil)))) (wtOr (wTst (wBin (gLt) (wVarB 2) (wC (.int 1)))) (wTst (wBin (gGt) (wVarB 2) (wC (.int 24)))))) (wRaise 23) wNext)
  (wSeq (wIfS (wtOr (wtNot (wTst (wCallU 1 sp_is_integer [] (waCons (wVar 3) waNil)))) (wtOr (wTst (wBin (gLt) (wVarB 3) (wC (.int 1)))) (wtOr (wTst (wBin (gGt) (wVarB 3) (wC (.int 20)))) (wtNot (wTst (wCallU 2 sp_is_nameT [] (waCons (wVar 1) (waCons (wVar 2) waNil)))))))) (wRaise 23) wNext)
  (wSeq (wSetF [24] "own" (wVar 1) (wVar 0))
  (wSeq (wSetF [24] "bits" (wVar 2) (wVar 0))
  (wSeq (wSetF [24] "room" (wVar 3) (wVar 0))
  (wSetF [24] "shelves" (wFrz (wComp (wRng gRng1 (waCons (wVar 2) waNil)) (fName 4) wtYes (wShF (wLst waNil)) [4])) (wVar 0)))))))
theorem k_Table___init__ {PR : Program} {w : World} {K : PySem.W.Frag} {mg : Str → Option Value} {base : Heap} {T : Th} {f : Addr} {fd : FuncData} (hT : T.K = K) (M : Mg K mg T) (F : FnP K "__init__" "Table.__init__" s_Table___init__ [] f fd) (c_is_integer : Cl PR w K mg base T 1 "is_integer" 1 sp_is_integer) (c_is_name : Cl PR w K mg base T 2 "is_name" 2 sp_is_nameT) :
    FnOk PR w K mg base (L2.CX PR w) 3 f fd ["self", "own", "bits", "room"] (toSp T 4 (wFn 5 (w_Table___init__))) :=
  fn_okD F sc_Table___init__ T (w_Table___init__) fun cdv A outer s H E W ok hr tk po =>
    have nd := sc_Table___init__.nd
    have hu := hr.units
    (dss_cons (ds_if (dw_or (dt_not (dt_val (de_cl c_is_integer (hr.mono (by decide)) tk (da_cons (de_var 2) da_nil)))) (dw_or (dt_cmp (od_lt) (db_var 2) de_int.br) (dw_or1 (dt_cmp (od_gt) (db_var 2) (de_gintE M.n_MOST_BITS).br)))).t (dss_one (ds_raise M.x_BadNet tk)) dss_nil)
      (dss_cons (ds_if (dw_or (dt_not (dt_val (de_cl c_is_integer (hr.mono (by decide)) tk (da_cons (de_var 3) da_nil)))) (dw_or (dt_cmp (od_lt) (db_var 3) de_int.br) (dw_or (dt_cmp (od_gt) (db_var 3) (de_gintE M.n_MOST_ROOM).br) (dw_or1 (dt_not (dt_val (de_cl c_is_name (hr.mono (by decide)) tk (da_cons (de_var 1) (da_cons (de_var 2) da_nil))))))))).t (dss_one (ds_raise M.x_BadNet tk)) dss_nil)
      (dss_cons (ds_setF (fc_cons M.cl_Table M.na_Table_own fc_nil) (de_var 1) (de_var 0))
      (dss_cons (ds_setF (fc_cons M.cl_Table M.na_Table_bits fc_nil) (de_var 2) (de_var 0))
      (dss_cons (ds_setF (fc_cons M.cl_Table M.na_Table_room fc_nil) (de_var 3) (de_var 0))
      (dss_one (ds_setF (fc_cons M.cl_Table M.na_Table_shelves fc_nil) (df_lc rfl nd [("_", 4)] (di_rng1 M.n_range (da_cons (de_var 2) da_nil)) (fun _ _ _ _ _ => (dg_name nd 4)) (fun _ _ _ _ _ => dts_nil) (fun _ _ _ _ _ => (df_lst da_nil).sh)).fz (de_var 0))))))))
abbrev s_shelf_of : Stmt := top 8
theorem sc_shelf_of : FnScope ["own", "name"] ["own", "name"] (defScope s_shelf_of) := ⟨rfl, rfl, rfl, by decide +kernel, rfl, by decide +kernel, by decide +kernel⟩
def w_shelf_of : WS := (wRet (wBin (gSub) (wBits (wBin (gXor) (wVarB 0) (wVarB 1))) (wC (.int 1))))
theorem k_shelf_of {PR : Program} {w : World} {K : PySem.W.Frag} {mg : Str → Option Value} {base : Heap} {T : Th} {f : Addr} {fd : FuncData} (hT : T.K = K) (M : Mg K mg T) (F : FnP K "shelf_of" "shelf_of" s_shelf_of [] f fd) :
    FnOk PR w K mg base (L2.CX PR w) 1 f fd ["own", "name"] (toSp T 2 (wFn 2 (w_shelf_of))) :=
  fn_okD F sc_shelf_of T (w_shelf_of) fun cdv A outer s H E W ok hr tk po =>
    have nd := sc_shelf_of.nd
    have hu := hr.units
    (dss_one (ds_ret (de_bin (od_sub) (de_bits (de_bin (od_xor) (db_var 0) (db_var 1))).br de_int.br)))
abbrev s_Table_check : Stmt := clsAt (top 11) 1
theorem sc_Table_check : FnScope ["self", "name"] ["self", "name"] (defScope s_Table_check) := ⟨rfl, rfl, rfl, by decide +kernel, rfl, by decide +kernel, by decide +kernel⟩
def w_Table_check : WS := (wIfS (wtNot (wTst (wCallU 2 sp_is_nameT [] (waCons (wVar 1) (waCons (wFld [24] "bits" (wVarB 0)) waNil))))) (wRaise 23) wNext)
theorem k_Table_check {PR : Program} {w : World} {K : PySem.W.Frag} {mg : Str → Option Value} {base : Heap} {T : Th} {f : Addr} {fd : FuncData} (hT : T.K = K) (M : Mg K mg T) (F : FnP K "check" "Table.check" s_Table_check [] f fd) (c_is_name : Cl PR w K mg base T 2 "is_name" 2 sp_is_nameT) :
    FnOk PR w K mg base (L2.CX PR w) 3 f fd ["self", "name"] (toSp T 2 (wFn 2 (w_Table_check))) :=
  fn_okD F sc_Table_check T (w_Table_check) fun cdv A outer s H E W ok hr tk po =>
    have nd := sc_Table_check.nd
    have hu := hr.units
    (dss_one (ds_if (dt_not (dt_val (de_cl c_is_name (hr.mono (by decide)) tk (da_cons (de_var 1) (da_cons (de_fld (fc_cons M.cl_Table M.na_Table_bits fc_nil) (db_var 0)) da_nil))))) (dss_one (ds_raise M.x_BadNet tk)) dss_nil))
abbrev s_Table_see : Stmt := clsAt (top 11) 2
theorem sc_Table_see : FnScope ["self", "name", "shelf"] ["self", "name"] (defScope s_Table_see) := ⟨rfl, rfl, rfl, by decide +kernel, rfl, by decide +kernel, by decide +kernel⟩
def w_Table_see : WS := (wSeq (wDrop (wMeth 24 "check" 2 sp_Table_check (wVar 0) (waCons (wVar 1) waNil)))
  (wSeq (wIfS (wTst (wBin (gEq) (wVarB 1) (wFld [24] "own" (wVarB 0)))) wRetN wNext)
  (wSeq (wSet 2 (wBin gIx (wFld [24] "shelves" (wVarB 0)) (wCallU 2 sp_shelf_of [] (waCons (wFld [24] "own" (wVarB 0)) (waCons (wVar 1) waNil)))))
  (wIfS (wTst (wBinC (gIn false) (wVarB 1) (wVarB 2))) (wSeq (wDrop (wRemS (wVar 2) (wVar 1)))
  (wDrop (wAppS (wVar 2) (wVar 1)))) (wIfS (wTst (wBin (gLt) (wCallC gLen (waCons (wVarB 2) waNil)) (wFld [24] "room" (wVarB 0)))) (wDrop (wAppS (wVar 2) (wVar 1))) wNext)))))
theorem k_Table_see {PR : Program} {w : World} {K : PySem.W.Frag} {mg : Str → Option Value} {base : Heap} {T : Th} {f : Addr} {fd : FuncData} (hT : T.K = K) (M : Mg K mg T) (F : FnP K "see" "Table.see" s_Table_see [] f fd) (c_shelf_of : Cl PR w K mg base T 1 "shelf_of" 2 sp_shelf_of) (c_Table_check : ClM PR w K mg base T 3 24 "check" 2 sp_Table_check) :
    FnOk PR w K mg base (L2.CX PR w) 4 f fd ["self", "name"] (toSp T 2 (wFn 3 (w_Table_see))) :=
  fn_okD F sc_Table_see T (w_Table_see) fun cdv A outer s H E W ok hr tk po =>
    have nd := sc_Table_see.nd
    have hu := hr.units
    (dss_cons (ds_expr (de_meth c_Table_check (hr.mono (by decide)) tk (de_var 0) (da_cons (de_var 1) da_nil)))
      (dss_cons (ds_if (dt_cmp (od_eq hT hu) (db_var 1) (de_fld (fc_cons M.cl_Table M.na_Table_own fc_nil) (db_var 0)).br) (dss_one ds_retN) dss_nil)
      (dss_cons (ds_set nd 2 (de_ix (id_ix hT hu) (de_fld (fc_cons M.cl_Table M.na_Table_shelves fc_nil) (db_var 0)).br (de_cl c_shelf_of (hr.mono (by decide)) tk (da_cons (de_fld (fc_cons M.cl_Table M.na_Table_own fc_nil) (db_var 0)) (da_cons (de_var 1) da_nil))).br))
      (dss_one (ds_if (dt_cmpC (od_in hT hu) (db_var 1) (db_var 2)) (dss_cons (ds_expr (de_remS (de_var 2) (de_var 1)))
      (dss_one (ds_expr (de_appS (de_var 2) (de_var 1))))) (dss_one (ds_if (dt_cmp (od_lt) (de_callBC (cd_len hT) M.n_len (dab_cons (db_var 2) dab_nil)).br (de_fld (fc_cons M.cl_Table M.na_Table_room fc_nil) (db_var 0)).br) (dss_one (ds_expr (de_appS (de_var 2) (de_var 1)))) dss_nil)))))))
abbrev s__law_net : Stmt := top 22
theorem sc__law_net : FnScope ["tape", "bits", "names", "turn", "net", "own", "name", "number", "there"] ["tape", "bits"] (defScope s__law_net) := ⟨rfl, rfl, rfl, by decide +kernel, rfl, by decide +kernel, by decide +kernel⟩
abbrev w__law_net_b1 : WS := (wSeq (wSet 6 (wCallU 2 sp__law_draw [] (waCons (wVar 0) (waCons (wBin (gShl) (wC (.int 1)) (wVarB 1)) waNil))))
  (wSet 2 (wIf (wTst (wBin (gIn false) (wVarB 6) (wVarB 2))) (wVar 2) (wBin (gAdd) (wVarB 2) (wFrz (wLst (waCons (wVar 6) waNil)))))))
abbrev w__law_net_b2 : WS := (wIfS (wTst (wBin (gGt) (wCall gLen (waCons (wVarB 8) waNil)) (wC (.int 0)))) (wDrop (wMeth 24 "see" 2 sp_Table_see (wBin gIx (wVarB 4) (wVarB 5)) (waCons (wCallU 2 sp__law_pick [] (waCons (wVar 0) (waCons (wVar 8) waNil))) waNil))) wNext)
abbrev w__law_net_b3 : WS := (wSeq (wSet 8 (wFrz (wComp (wIt (wVarB 2)) (fName 6) (wtAnd (wTst (wBin (gNe) (wVarB 6) (wVarB 5))) (wTst (wBin (gEq) (wCallU 2 sp__law_shelf [] (waCons (wVar 5) (waCons (wVar 6) waNil))) (wVarB 7)))) (wVar 6) [6])))
  (wSeq (wIfS (wTst (wBin (gGt) (wCall gLen (waCons (wVarB 8) waNil)) (wC (.int 0)))) (wDrop (wMeth 24 "see" 2 sp_Table_see (wBin gIx (wVarB 4) (wVarB 5)) (waCons (wCallU 2 sp__law_pick [] (waCons (wVar 0) (waCons (wVar 8) waNil))) waNil))) wNext)
  (wFor (wRng gRng1 (waCons (wCallU 2 sp__law_draw [] (waCons (wVar 0) (waCons (wC (.int 3)) waNil))) waNil)) (fName 3) (w__law_net_b2))))
abbrev w__law_net_b4 : WS := (wSeq (wPutO 4 (wMakeG 24 4 sp_Table___init__ (waCons (wVar 5) (waCons (wVar 1) (waCons (wBin (gAdd) (wC (.int 1)) (wCallU 2 sp__law_draw [] (waCons (wVar 0) (waCons (wC (.int 3)) waNil)))) waNil)))) (wVar 5))
  (wFor (wRng gRng1 (waCons (wVar 1) waNil)) (fName 7) (w__law_net_b3)))
def w__law_net : WS := (wSeq (wSet 2 (wFrz (wLst waNil)))
  (wSeq (wFor (wRng gRng1 (waCons (wBin (gAdd) (wC (.int 1)) (wCallU 2 sp__law_draw [] (waCons (wVar 0) (waCons (wC (.int 14)) waNil)))) waNil)) (fName 3) (w__law_net_b1))
  (wSeq (wSetO 4 wDnew)
  (wSeq (wFor (wIt (wVar 2)) (fName 5) (w__law_net_b4))
  (wRetO 4)))))
theorem k__law_net {PR : Program} {w : World} {K : PySem.W.Frag} {mg : Str → Option Value} {base : Heap} {T : Th} {f : Addr} {fd : FuncData} (hT : T.K = K) (M : Mg K mg T) (F : FnP K "_law_net" "_law_net" s__law_net [] f fd) (c__law_draw : Cl PR w K mg base T 1 "_law_draw" 2 sp__law_draw) (c__law_shelf : Cl PR w K mg base T 1 "_law_shelf" 2 sp__law_shelf) (c__law_pick : Cl PR w K mg base T 2 "_law_pick" 2 sp__law_pick) (i_Table : ClI PR w K mg base T 3 24 "Table" 4 sp_Table___init__) (c_Table_see : ClM PR w K mg base T 4 24 "see" 2 sp_Table_see) :
    FnOk PR w K mg base (L2.CX PR w) 5 f fd ["tape", "bits"] (toSp T 2 (wFn 9 (w__law_net))) :=
  fn_okD F sc__law_net T (w__law_net) fun cdv A outer s H E W ok hr tk po =>
    have nd := sc__law_net.nd
    have hu := hr.units
    (dss_cons (ds_set nd 2 (df_lst da_nil).fz)
      (dss_cons (ds_for po rfl (di_rng1 M.n_range (da_cons (de_bin (od_add hT) de_int.br (de_cl c__law_draw (hr.mono (by decide)) tk (da_cons (de_var 0) (da_cons de_int da_nil))).br) da_nil)) (dg_name nd 3) (dss_cons (ds_set nd 6 (de_cl c__law_draw (hr.mono (by decide)) tk (da_cons (de_var 0) (da_cons (de_bin (od_shl) de_int.br (db_var 1)) da_nil))))
      (dss_one (ds_set nd 2 (de_if (dt_cmp (od_in hT hu) (db_var 6) (db_var 2)) (de_var 2) (de_bin (od_add hT) (db_var 2) (df_lst (da_cons (de_var 6) da_nil)).br))))))
      (dss_cons (ds_setO nd 4 df_dnew)
      (dss_cons (ds_for po rfl (di_val hT (de_var 2)) (dg_name nd 5) (dss_cons (ds_putO 4 hu (de_makeG i_Table (hr.mono (by decide)) tk (da_cons (de_var 5) (da_cons (de_var 1) (da_cons (de_bin (od_add hT) de_int.br (de_cl c__law_draw (hr.mono (by decide)) tk (da_cons (de_var 0) (da_cons de_int da_nil))).br) da_nil)))) (de_var 5))
      (dss_one (ds_for po rfl (di_rng1 M.n_range (da_cons (de_var 1) da_nil)) (dg_name nd 7) (dss_cons (ds_setLc rfl nd 8 [("name", 6)] (di_valB hT (db_var 2)) (fun _ _ _ _ _ => (dg_name nd 6)) (fun _ _ _ _ _ => (dts_one (dw_and (dt_cmp (od_ne hT hu) (db_var 6) (db_var 5)) (dw_and1 (dt_cmp (od_eq hT hu) (de_cl c__law_shelf (hr.mono (by decide)) takes0 (da_cons (de_var 5) (da_cons (de_var 6) da_nil))).br (db_var 7)))).t)) (fun _ _ _ _ _ => (de_var 6)))
      (dss_cons (ds_if (dt_cmp (od_gt) (de_callB (cd_len hT) M.n_len (dab_cons (db_var 8) dab_nil)).br de_int.br) (dss_one (ds_expr (de_meth c_Table_see (hr.mono (by decide)) tk (de_ix (id_ix hT hu) (db_var 4) (db_var 5)) (da_cons (de_cl c__law_pick (hr.mono (by decide)) tk (da_cons (de_var 0) (da_cons (de_var 8) da_nil))) da_nil)))) dss_nil)
      (dss_one (ds_for po rfl (di_rng1 M.n_range (da_cons (de_cl c__law_draw (hr.mono (by decide)) tk (da_cons (de_var 0) (da_cons de_int da_nil))) da_nil)) (dg_name nd 3) (dss_one (ds_if (dt_cmp (od_gt) (de_callB (cd_len hT) M.n_len (dab_cons (db_var 8) dab_nil)).br de_int.br) (dss_one (ds_expr (de_meth c_Table_see (hr.mono (by decide)) tk (de_ix (id_ix hT hu) (db_var 4) (db_var 5)) (da_cons (de_cl c__law_pick (hr.mono (by decide)) tk (da_cons (de_var 0) (da_cons (de_var 8) da_nil))) da_nil)))) dss_nil))))))))))
      (dss_one (ds_retO 4 ok))))))
abbrev s_Table_names : Stmt := clsAt (top 11) 5
theorem sc_Table_names : FnScope ["self", "shelf", "name"] ["self"] (defScope s_Table_names) := ⟨rfl, rfl, rfl, by decide +kernel, rfl, by decide +kernel, by decide +kernel⟩
def w_Table_names : WS := (wRet (wCall gTuple (waCons (wFrz (wCallF gSorted (waCons (wFrz (wComp2 (wIt (wFld [24] "shelves" (wVarB 0))) (fName 1) (wItC (wVar 1)) (fName 2) wtYes (wVar 2) [1, 2] [2])) waNil))) waNil)))
theorem k_Table_names {PR : Program} {w : World} {K : PySem.W.Frag} {mg : Str → Option Value} {base : Heap} {T : Th} {f : Addr} {fd : FuncData} (hT : T.K = K) (M : Mg K mg T) (F : FnP K "names" "Table.names" s_Table_names [] f fd) :
    FnOk PR w K mg base (L2.CX PR w) 1 f fd ["self"] (toSp T 1 (wFn 3 (w_Table_names))) :=
  fn_okD F sc_Table_names T (w_Table_names) fun cdv A outer s H E W ok hr tk po =>
    have nd := sc_Table_names.nd
    have hu := hr.units
    (dss_one (ds_ret (de_callT (cd_tuple hT) M.n_tuple (dab_cons (df_callB (cf_sorted hT rfl) M.n_sorted (dab_cons (df_lc2 rfl nd [("shelf", 1), ("name", 2)] [2] (di_val hT (de_fld (fc_cons M.cl_Table M.na_Table_shelves fc_nil) (db_var 0))).ev (fun _ _ _ _ _ => (dg_name nd 1)) (fun _ _ _ _ _ => (di_valC (de_var 1))) (fun _ _ _ _ _ => (dg_name nd 2)) (fun _ _ _ _ _ => dts_nil) (fun _ _ _ _ _ => (de_var 2))).br dab_nil)).br dab_nil))))
abbrev s_Table_shelf : Stmt := clsAt (top 11) 4
theorem sc_Table_shelf : FnScope ["self", "number"] ["self", "number"] (defScope s_Table_shelf) := ⟨rfl, rfl, rfl, by decide +kernel, rfl, by decide +kernel, by decide +kernel⟩
def w_Table_shelf : WS := (wRet (wCallC gTuple (waCons (wBin gIx (wFld [24] "shelves" (wVarB 0)) (wVarB 1)) waNil)))
theorem k_Table_shelf {PR : Program} {w : World} {K : PySem.W.Frag} {mg : Str → Option Value} {base : Heap} {T : Th} {f : Addr} {fd : FuncData} (hT : T.K = K) (M : Mg K mg T) (F : FnP K "shelf" "Table.shelf" s_Table_shelf [] f fd) :
    FnOk PR w K mg base (L2.CX PR w) 1 f fd ["self", "number"] (toSp T 2 (wFn 2 (w_Table_shelf))) :=
  fn_okD F sc_Table_shelf T (w_Table_shelf) fun cdv A outer s H E W ok hr tk po =>
    have nd := sc_Table_shelf.nd
    have hu := hr.units
    (dss_one (ds_ret (de_callTC (cd_tuple hT) M.n_tuple (dab_cons (de_ix (id_ix hT hu) (de_fld (fc_cons M.cl_Table M.na_Table_shelves fc_nil) (db_var 0)).br (db_var 1)).br dab_nil))))
abbrev s_is_filled : Stmt := top 15
theorem sc_is_filled : FnScope ["net", "own", "table", "other", "name"] ["net"] (defScope s_is_filled) := ⟨rfl, rfl, rfl, by decide +kernel, rfl, by decide +kernel, by decide +kernel⟩
abbrev w_is_filled_b1 : WS := (wIfS (wtAnd (wTst (wBin (gNe) (wVarB 3) (wVarB 1))) (wTst (wBin (gEq) (wMeth 24 "shelf" 2 sp_Table_shelf (wVar 2) (waCons (wCallU 2 sp_shelf_of [] (waCons (wVar 1) (waCons (wVar 3) waNil))) waNil)) (wTup waNil)))) (wRet (wC (.bl false))) wNext)
abbrev w_is_filled_b2 : WS := (wSeq (wIfS (wtNot (wTst (wCall gAll (waCons (wFrz (wComp (wIt (wMeth 24 "names" 1 sp_Table_names (wVar 2) waNil)) (fName 4) wtYes (wBin (gIn false) (wVarB 4) (wVarB 0)) [4])) waNil)))) (wRet (wC (.bl false))) wNext)
  (wFor (wKeys (wVar 0)) (fName 3) (w_is_filled_b1)))
def w_is_filled : WS := (wSeq (wFor (wItems (wVar 0)) (fTup 2 (fCons (fName 1) (fCons (fName 2) fNil))) (w_is_filled_b2))
  (wRet (wC (.bl true))))
theorem k_is_filled {PR : Program} {w : World} {K : PySem.W.Frag} {mg : Str → Option Value} {base : Heap} {T : Th} {f : Addr} {fd : FuncData} (hT : T.K = K) (M : Mg K mg T) (F : FnP K "is_filled" "is_filled" s_is_filled [] f fd) (c_shelf_of : Cl PR w K mg base T 1 "shelf_of" 2 sp_shelf_of) (c_Table_names : ClM PR w K mg base T 1 24 "names" 1 sp_Table_names) (c_Table_shelf : ClM PR w K mg base T 1 24 "shelf" 2 sp_Table_shelf) :
    FnOk PR w K mg base (L2.CX PR w) 2 f fd ["net"] (toSp T 1 (wFn 5 (w_is_filled))) :=
  fn_okD F sc_is_filled T (w_is_filled) fun cdv A outer s H E W ok hr tk po =>
    have nd := sc_is_filled.nd
    have hu := hr.units
    (dss_cons (ds_for po rfl (di_items (de_var 0)) (dg_tup hT rfl (dgs_cons (dg_name nd 1) (dgs_cons (dg_name nd 2) dgs_nil))) (dss_cons (ds_if (dt_not (dt_val (de_callB (cd_all rfl) M.n_all (dab_cons (df_lc rfl nd [("name", 4)] (di_valB hT (de_meth0 c_Table_names (hr.mono (by decide)) tk (de_var 2)).br) (fun _ _ _ _ _ => (dg_name nd 4)) (fun _ _ _ _ _ => dts_nil) (fun _ _ _ _ _ => (de_cmp (od_in hT hu) (db_var 4) (db_var 0)))).br dab_nil)))) (dss_one (ds_ret de_bl)) dss_nil)
      (dss_one (ds_for po rfl (di_keys (de_var 0)) (dg_name nd 3) (dss_one (ds_if (dw_and (dt_cmp (od_ne hT hu) (db_var 3) (db_var 1)) (dw_and1 (dt_cmp (od_eq hT hu) (de_meth c_Table_shelf (hr.mono (by decide)) tk (de_var 2) (da_cons (de_cl c_shelf_of (hr.mono (by decide)) tk (da_cons (de_var 1) (da_cons (de_var 3) da_nil))) da_nil)).br (de_tup da_nil).br))).t (dss_one (ds_ret de_bl)) dss_nil))))))
      (dss_one (ds_ret de_bl)))
abbrev s_in_order : Stmt := top 10
theorem sc_in_order : FnScope ["names", "target", "_", "name"] ["names", "target"] (defScope s_in_order) := ⟨rfl, rfl, rfl, by decide +kernel, rfl, by decide +kernel, by decide +kernel⟩
def w_in_order : WS := (wRet (wFrz (wComp (wIt (wFrz (wCallF gSorted (waCons (wFrz (wComp (wIt (wVarB 0)) (fName 3) wtYes (wTup (waCons (wBin (gXor) (wVarB 3) (wVarB 1)) (waCons (wVar 3) waNil))) [3])) waNil)))) (fTup 2 (fCons (fName 2) (fCons (fName 3) fNil))) wtYes (wVar 3) [2, 3])))
theorem k_in_order {PR : Program} {w : World} {K : PySem.W.Frag} {mg : Str → Option Value} {base : Heap} {T : Th} {f : Addr} {fd : FuncData} (hT : T.K = K) (M : Mg K mg T) (F : FnP K "in_order" "in_order" s_in_order [] f fd) :
    FnOk PR w K mg base (L2.CX PR w) 1 f fd ["names", "target"] (toSp T 2 (wFn 4 (w_in_order))) :=
  fn_okD F sc_in_order T (w_in_order) fun cdv A outer s H E W ok hr tk po =>
    have nd := sc_in_order.nd
    have hu := hr.units
    (dss_one (ds_ret (df_lc rfl nd [("_", 2), ("name", 3)] (di_valB hT (df_callB (cf_sorted hT rfl) M.n_sorted (dab_cons (df_lc rfl nd [("name", 3)] (di_valB hT (db_var 0)) (fun _ _ _ _ _ => (dg_name nd 3)) (fun _ _ _ _ _ => dts_nil) (fun _ _ _ _ _ => (de_tup (da_cons (de_bin (od_xor) (db_var 3) (db_var 1)) (da_cons (de_var 3) da_nil))))).br dab_nil)).br) (fun _ _ _ _ _ => (dg_tup hT rfl (dgs_cons (dg_name nd 2) (dgs_cons (dg_name nd 3) dgs_nil)))) (fun _ _ _ _ _ => dts_nil) (fun _ _ _ _ _ => (de_var 3))).fz))
abbrev s_Search_best : Stmt := clsAt (top 13) 2
theorem sc_Search_best : FnScope ["self", "name"] ["self"] (defScope s_Search_best) := ⟨rfl, rfl, rfl, by decide +kernel, rfl, by decide +kernel, by decide +kernel⟩
def w_Search_best : WS := (wRet (wSl (wCallU 2 sp_in_order [] (waCons (wFrz (wCompE (wItC (wFld [25] "known" (wVarB 0))) (fName 1) (wTst (wBinC (gIn true) (wVarB 1) (wFld [25] "quiet" (wVarB 0)))) (wVar 1) [1])) (waCons (wFld [25] "target" (wVarB 0)) waNil))) woNone (woSome (wFld [25] "room" (wVarB 0)))))
theorem k_Search_best {PR : Program} {w : World} {K : PySem.W.Frag} {mg : Str → Option Value} {base : Heap} {T : Th} {f : Addr} {fd : FuncData} (hT : T.K = K) (M : Mg K mg T) (F : FnP K "best" "Search.best" s_Search_best [] f fd) (c_in_order : Cl PR w K mg base T 1 "in_order" 2 sp_in_order) :
    FnOk PR w K mg base (L2.CX PR w) 2 f fd ["self"] (toSp T 1 (wFn 2 (w_Search_best))) :=
  fn_okD F sc_Search_best T (w_Search_best) fun cdv A outer s H E W ok hr tk po =>
    have nd := sc_Search_best.nd
    have hu := hr.units
    (dss_one (ds_ret (de_sl hT (de_cl c_in_order (hr.mono (by decide)) tk (da_cons (df_lcE rfl nd [("name", 1)] (di_valC (de_fld (fc_cons M.cl_Search M.na_Search_known fc_nil) (db_var 0))) (fun _ _ _ _ _ => (dg_name nd 1)) (fun _ _ _ _ _ => (dts_one (dt_cmpC (od_notin hT hu) (db_var 1) (de_fld (fc_cons M.cl_Search M.na_Search_quiet fc_nil) (db_var 0)).br))) (fun _ _ _ _ _ => (de_var 1))).fz (da_cons (de_fld (fc_cons M.cl_Search M.na_Search_target fc_nil) (db_var 0)) da_nil))).br do_none (do_some (de_fld (fc_cons M.cl_Search M.na_Search_room fc_nil) (db_var 0))))))
abbrev s_Search_hear : Stmt := clsAt (top 13) 1
theorem sc_Search_hear : FnScope ["self", "names", "name"] ["self", "names"] (defScope s_Search_hear) := ⟨rfl, rfl, rfl, by decide +kernel, rfl, by decide +kernel, by decide +kernel⟩
abbrev w_Search_hear_b1 : WS := (wIfS (wTst (wBinC (gIn true) (wVarB 2) (wFld [25] "known" (wVarB 0)))) (wDrop (wAppS (wFld [25] "known" (wVarB 0)) (wVar 2))) wNext)
def w_Search_hear : WS := (wFor (wIt (wVar 1)) (fName 2) (w_Search_hear_b1))
theorem k_Search_hear {PR : Program} {w : World} {K : PySem.W.Frag} {mg : Str → Option Value} {base : Heap} {T : Th} {f : Addr} {fd : FuncData} (hT : T.K = K) (M : Mg K mg T) (F : FnP K "hear" "Search.hear" s_Search_hear [] f fd) :
    FnOk PR w K mg base (L2.CX PR w) 1 f fd ["self", "names"] (toSp T 2 (wFn 3 (w_Search_hear))) :=
  fn_okD F sc_Search_hear T (w_Search_hear) fun cdv A outer s H E W ok hr tk po =>
    have nd := sc_Search_hear.nd
    have hu := hr.units
    (dss_one (ds_for po rfl (di_val hT (de_var 1)) (dg_name nd 2) (dss_one (ds_if (dt_cmpC (od_notin hT hu) (db_var 2) (de_fld (fc_cons M.cl_Search M.na_Search_known fc_nil) (db_var 0)).br) (dss_one (ds_expr (de_appS (de_fld (fc_cons M.cl_Search M.na_Search_known fc_nil) (db_var 0)) (de_var 2)))) dss_nil))))
abbrev s_Table_nearest : Stmt := clsAt (top 11) 6
theorem sc_Table_nearest : FnScope ["self", "target", "many"] ["self", "target", "many"] (defScope s_Table_nearest) := ⟨rfl, rfl, rfl, by decide +kernel, rfl, by decide +kernel, by decide +kernel⟩
def w_Table_nearest : WS := (wSeq (wDrop (wMeth 24 "check" 2 sp_Table_check (wVar 0) (waCons (wVar 1) waNil)))
  (wRet (wCall gTuple (waCons (wSl (wCallU 2 sp_in_order [] (waCons (wMeth 24 "names" 1 sp_Table_names (wVar 0) waNil) (waCons (wVar 1) waNil))) woNone (woSome (wVar 2))) waNil))))
theorem k_Table_nearest {PR : Program} {w : World} {K : PySem.W.Frag} {mg : Str → Option Value} {base : Heap} {T : Th} {f : Addr} {fd : FuncData} (hT : T.K = K) (M : Mg K mg T) (F : FnP K "nearest" "Table.nearest" s_Table_nearest [] f fd) (c_in_order : Cl PR w K mg base T 1 "in_order" 2 sp_in_order) (c_Table_check : ClM PR w K mg base T 3 24 "check" 2 sp_Table_check) (c_Table_names : ClM PR w K mg base T 1 24 "names" 1 sp_Table_names) :
    FnOk PR w K mg base (L2.CX PR w) 4 f fd ["self", "target", "many"] (toSp T 3 (wFn 3 (w_Table_nearest))) :=
  fn_okD F sc_Table_nearest T (w_Table_nearest) fun cdv A outer s H E W ok hr tk po =>
    have nd := sc_Table_nearest.nd
    have hu := hr.units
    (dss_cons (ds_expr (de_meth c_Table_check (hr.mono (by decide)) tk (de_var 0) (da_cons (de_var 1) da_nil)))
      (dss_one (ds_ret (de_callT (cd_tuple hT) M.n_tuple (dab_cons (de_sl hT (de_cl c_in_order (hr.mono (by decide)) tk (da_cons (de_meth0 c_Table_names (hr.mono (by decide)) tk (de_var 0)) (da_cons (de_var 1) da_nil))).br do_none (do_some (de_var 2))).br dab_nil)))))
abbrev s_Search_run : Stmt := clsAt (top 13) 3
theorem sc_Search_run : FnScope ["self", "waiting", "name", "other"] ["self"] (defScope s_Search_run) := ⟨rfl, rfl, rfl, by decide +kernel, rfl, by decide +kernel, by decide +kernel⟩
abbrev w_Search_run_b1 : WS := (wSeq (wSet 2 (wBin gIx (wVarB 1) (wC (.int 0))))
  (wSeq (wDrop (wAppS (wFld [25] "asked" (wVarB 0)) (wVar 2)))
  (wSeq (wIfS (wTst (wBin (gIn false) (wVarB 2) (wFld [25] "net" (wVarB 0)))) (wDrop (wMeth 25 "hear" 2 sp_Search_hear (wVar 0) (waCons (wMeth 24 "nearest" 3 sp_Table_nearest (wBin gIx (wFld [25] "net" (wVarB 0)) (wVarB 2)) (waCons (wFld [25] "target" (wVarB 0)) (waCons (wFld [25] "room" (wVarB 0)) waNil))) waNil))) (wDrop (wAppS (wFld [25] "quiet" (wVarB 0)) (wVar 2))))
  (wSet 1 (wFrz (wComp (wIt (wMeth 25 "best" 1 sp_Search_best (wVar 0) waNil)) (fName 3) (wTst (wBinC (gIn true) (wVarB 3) (wFld [25] "asked" (wVarB 0)))) (wVar 3) [3]))))))
def w_Search_run : WS := (wSeq (wSet 1 (wFrz (wComp (wIt (wMeth 25 "best" 1 sp_Search_best (wVar 0) waNil)) (fName 2) (wTst (wBinC (gIn true) (wVarB 2) (wFld [25] "asked" (wVarB 0)))) (wVar 2) [2])))
  (wSeq (wWh (wTst (wBin (gNe) (wVarB 1) (wFrz (wLst waNil)))) (w_Search_run_b1))
  (wRet (wTup (waCons (wCall gTuple (waCons (wMeth 25 "best" 1 sp_Search_best (wVar 0) waNil) waNil)) (waCons (wCallC gTuple (waCons (wFld [25] "asked" (wVarB 0)) waNil)) waNil))))))
theorem k_Search_run {PR : Program} {w : World} {K : PySem.W.Frag} {mg : Str → Option Value} {base : Heap} {T : Th} {f : Addr} {fd : FuncData} (hT : T.K = K) (M : Mg K mg T) (F : FnP K "run" "Search.run" s_Search_run [] f fd) (c_Search_best : ClM PR w K mg base T 2 25 "best" 1 sp_Search_best) (c_Search_hear : ClM PR w K mg base T 1 25 "hear" 2 sp_Search_hear) (c_Table_nearest : ClM PR w K mg base T 4 24 "nearest" 3 sp_Table_nearest) :
    FnOk PR w K mg base (L2.CX PR w) 5 f fd ["self"] (toSp T 1 (wFn 4 (w_Search_run))) :=
  fn_okD F sc_Search_run T (w_Search_run) fun cdv A outer s H E W ok hr tk po =>
    have nd := sc_Search_run.nd
    have hu := hr.units
    (dss_cons (ds_setLc rfl nd 1 [("name", 2)] (di_valB hT (de_meth0 c_Search_best (hr.mono (by decide)) tk (de_var 0)).br) (fun _ _ _ _ _ => (dg_name nd 2)) (fun _ _ _ _ _ => (dts_one (dt_cmpC (od_notin hT hu) (db_var 2) (de_fld (fc_cons M.cl_Search M.na_Search_asked fc_nil) (db_var 0)).br))) (fun _ _ _ _ _ => (de_var 2)))
      (dss_cons (ds_while po (dt_cmp (od_ne hT hu) (db_var 1) (df_lst da_nil).br) (dss_cons (ds_set nd 2 (de_ix (id_ix hT hu) (db_var 1) de_int.br))
      (dss_cons (ds_expr (de_appS (de_fld (fc_cons M.cl_Search M.na_Search_asked fc_nil) (db_var 0)) (de_var 2)))
      (dss_cons (ds_if (dt_cmp (od_in hT hu) (db_var 2) (de_fld (fc_cons M.cl_Search M.na_Search_net fc_nil) (db_var 0)).br) (dss_one (ds_expr (de_meth c_Search_hear (hr.mono (by decide)) tk (de_var 0) (da_cons (de_meth c_Table_nearest (hr.mono (by decide)) tk (de_ix (id_ix hT hu) (de_fld (fc_cons M.cl_Search M.na_Search_net fc_nil) (db_var 0)).br (db_var 2)) (da_cons (de_fld (fc_cons M.cl_Search M.na_Search_target fc_nil) (db_var 0)) (da_cons (de_fld (fc_cons M.cl_Search M.na_Search_room fc_nil) (db_var 0)) da_nil))) da_nil)))) (dss_one (ds_expr (de_appS (de_fld (fc_cons M.cl_Search M.na_Search_quiet fc_nil) (db_var 0)) (de_var 2)))))
      (dss_one (ds_setLc rfl nd 1 [("other", 3)] (di_valB hT (de_meth0 c_Search_best (hr.mono (by decide)) tk (de_var 0)).br) (fun _ _ _ _ _ => (dg_name nd 3)) (fun _ _ _ _ _ => (dts_one (dt_cmpC (od_notin hT hu) (db_var 3) (de_fld (fc_cons M.cl_Search M.na_Search_asked fc_nil) (db_var 0)).br))) (fun _ _ _ _ _ => (de_var 3))))))))
      (dss_one (ds_ret (de_tup (da_cons (de_callT (cd_tuple hT) M.n_tuple (dab_cons (de_meth0 c_Search_best (hr.mono (by decide)) tk (de_var 0)).br dab_nil)) (da_cons (de_callTC (cd_tuple hT) M.n_tuple (dab_cons (de_fld (fc_cons M.cl_Search M.na_Search_asked fc_nil) (db_var 0)).br dab_nil)) da_nil)))))))
abbrev s_Search___init__ : Stmt := clsAt (top 13) 0
theorem sc_Search___init__ : FnScope ["self", "net", "start", "target"] ["self", "net", "start", "target"] (defScope s_Search___init__) := ⟨rfl, rfl, rfl, by decide +kernel, rfl, by decide +kernel, by decide +kernel⟩
def w_Search___init__ : WS := (wSeq (wSetF [25] "net" (wVar 1) (wVar 0))
  (wSeq (wSetF [25] "target" (wVar 3) (wVar 0))
  (wSeq (wSetF [25] "room" (wFld [24, 25] "room" (wBin gIx (wVarB 1) (wVarB 2))) (wVar 0))
  (wSeq (wSetF [25] "known" (wShF (wLst (waCons (wVar 2) waNil))) (wVar 0))
  (wSeq (wSetF [25] "asked" (wShF (wLst waNil)) (wVar 0))
  (wSeq (wSetF [25] "quiet" (wShF (wLst waNil)) (wVar 0))
  (wDrop (wMeth 25 "hear" 2 sp_Search_hear (wVar 0) (waCons (wMeth 24 "nearest" 3 sp_Table_nearest (wBin gIx (wVarB 1) (wVarB 2)) (waCons (wVar 3) (waCons (wFld [25] "room" (wVarB 0)) waNil))) waNil)))))))))
theorem k_Search___init__ {PR : Program} {w : World} {K : PySem.W.Frag} {mg : Str → Option Value} {base : Heap} {T : Th} {f : Addr} {fd : FuncData} (hT : T.K = K) (M : Mg K mg T) (F : FnP K "__init__" "Search.__init__" s_Search___init__ [] f fd) (c_Search_hear : ClM PR w K mg base T 1 25 "hear" 2 sp_Search_hear) (c_Table_nearest : ClM PR w K mg base T 4 24 "nearest" 3 sp_Table_nearest) :
    FnOk PR w K mg base (L2.CX PR w) 5 f fd ["self", "net", "start", "target"] (toSp T 4 (wFn 4 (w_Search___init__))) :=
  fn_okD F sc_Search___init__ T (w_Search___init__) fun cdv A outer s H E W ok hr tk po =>
    have nd := sc_Search___init__.nd
    have hu := hr.units
    (dss_cons (ds_setF (fc_cons M.cl_Search M.na_Search_net fc_nil) (de_var 1) (de_var 0))
      (dss_cons (ds_setF (fc_cons M.cl_Search M.na_Search_target fc_nil) (de_var 3) (de_var 0))
      (dss_cons (ds_setF (fc_cons M.cl_Search M.na_Search_room fc_nil) (de_fld (fc_cons M.cl_Table M.na_Table_room (fc_cons M.cl_Search M.na_Search_room fc_nil)) (de_ix (id_ix hT hu) (db_var 1) (db_var 2)).br) (de_var 0))
      (dss_cons (ds_setF (fc_cons M.cl_Search M.na_Search_known fc_nil) (df_lst (da_cons (de_var 2) da_nil)).sh (de_var 0))
      (dss_cons (ds_setF (fc_cons M.cl_Search M.na_Search_asked fc_nil) (df_lst da_nil).sh (de_var 0))
      (dss_cons (ds_setF (fc_cons M.cl_Search M.na_Search_quiet fc_nil) (df_lst da_nil).sh (de_var 0))
      (dss_one (ds_expr (de_meth c_Search_hear (hr.mono (by decide)) tk (de_var 0) (da_cons (de_meth c_Table_nearest (hr.mono (by decide)) tk (de_ix (id_ix hT hu) (db_var 1) (db_var 2)) (da_cons (de_var 3) (da_cons (de_fld (fc_cons M.cl_Search M.na_Search_room fc_nil) (db_var 0)) da_nil))) da_nil))))))))))
abbrev s_lookup : Stmt := top 14
theorem sc_lookup : FnScope ["net", "start", "target"] ["net", "start", "target"] (defScope s_lookup) := ⟨rfl, rfl, rfl, by decide +kernel, rfl, by decide +kernel, by decide +kernel⟩
def w_lookup : WS := (wSeq (wIfS (wtOr (wTst (wBin (gIn true) (wVarB 1) (wVarB 0))) (wtNot (wTst (wCallU 2 sp_is_nameT [] (waCons (wVar 2) (waCons (wFld [24] "bits" (wBin gIx (wVarB 0) (wVarB 1))) waNil)))))) (wRaise 23) wNext)
  (wRet (wMeth 25 "run" 1 sp_Search_run (wMakeG 25 4 sp_Search___init__ (waCons (wVar 0) (waCons (wVar 1) (waCons (wVar 2) waNil)))) waNil)))
theorem k_lookup {PR : Program} {w : World} {K : PySem.W.Frag} {mg : Str → Option Value} {base : Heap} {T : Th} {f : Addr} {fd : FuncData} (hT : T.K = K) (M : Mg K mg T) (F : FnP K "lookup" "lookup" s_lookup [] f fd) (c_is_name : Cl PR w K mg base T 2 "is_name" 2 sp_is_nameT) (c_Search_run : ClM PR w K mg base T 5 25 "run" 1 sp_Search_run) (i_Search : ClI PR w K mg base T 5 25 "Search" 4 sp_Search___init__) :
    FnOk PR w K mg base (L2.CX PR w) 7 f fd ["net", "start", "target"] (toSp T 3 (wFn 3 (w_lookup))) :=
  fn_okD F sc_lookup T (w_lookup) fun cdv A outer s H E W ok hr tk po =>
    have nd := sc_lookup.nd
    have hu := hr.units
    (dss_cons (ds_if (dw_or (dt_cmp (od_notin hT hu) (db_var 1) (db_var 0)) (dw_or1 (dt_not (dt_val (de_cl c_is_name (hr.mono (by decide)) tk (da_cons (de_var 2) (da_cons (de_fld (fc_cons M.cl_Table M.na_Table_bits fc_nil) (de_ix (id_ix hT hu) (db_var 0) (db_var 1)).br) da_nil))))))).t (dss_one (ds_raise M.x_BadNet tk)) dss_nil)
      (dss_one (ds_ret (de_meth0 c_Search_run (hr.mono (by decide)) tk (de_makeG i_Search (hr.mono (by decide)) tk (da_cons (de_var 0) (da_cons (de_var 1) (da_cons (de_var 2) da_nil))))))))
abbrev s__law_order : Stmt := top 20
theorem sc__law_order : FnScope ["names", "target", "pair", "name"] ["names", "target"] (defScope s__law_order) := ⟨rfl, rfl, rfl, by decide +kernel, rfl, by decide +kernel, by decide +kernel⟩
def w__law_order : WS := (wRet (wFrz (wComp (wIt (wFrz (wCallF gSorted (waCons (wFrz (wComp (wKeys (wVar 0)) (fName 3) wtYes (wTup (waCons (wBin (gXor) (wVarB 3) (wVarB 1)) (waCons (wVar 3) waNil))) [3])) waNil)))) (fName 2) wtYes (wBin gIx (wVarB 2) (wC (.int 1))) [2])))
theorem k__law_order {PR : Program} {w : World} {K : PySem.W.Frag} {mg : Str → Option Value} {base : Heap} {T : Th} {f : Addr} {fd : FuncData} (hT : T.K = K) (M : Mg K mg T) (F : FnP K "_law_order" "_law_order" s__law_order [] f fd) :
    FnOk PR w K mg base (L2.CX PR w) 1 f fd ["names", "target"] (toSp T 2 (wFn 4 (w__law_order))) :=
  fn_okD F sc__law_order T (w__law_order) fun cdv A outer s H E W ok hr tk po =>
    have nd := sc__law_order.nd
    have hu := hr.units
    (dss_one (ds_ret (df_lc rfl nd [("pair", 2)] (di_valB hT (df_callB (cf_sorted hT rfl) M.n_sorted (dab_cons (df_lc rfl nd [("name", 3)] (di_keysB (de_var 0)) (fun _ _ _ _ _ => (dg_name nd 3)) (fun _ _ _ _ _ => dts_nil) (fun _ _ _ _ _ => (de_tup (da_cons (de_bin (od_xor) (db_var 3) (db_var 1)) (da_cons (de_var 3) da_nil))))).br dab_nil)).br) (fun _ _ _ _ _ => (dg_name nd 2)) (fun _ _ _ _ _ => dts_nil) (fun _ _ _ _ _ => (de_ix (id_ix hT hu) (db_var 2) de_int.br))).fz))
abbrev s__law_nearest : Stmt := top 24
theorem sc__law_nearest : FnScope ["net", "bits", "start", "target", "best", "ahead", "nearer", "found", "asked", "k", "other"] ["net", "bits", "start", "target"] (defScope s__law_nearest) := ⟨rfl, rfl, rfl, by decide +kernel, rfl, by decide +kernel, by decide +kernel⟩
def w__law_nearest : WS := (wSeq (wAsg (wCallU 3 sp_lookup [] (waCons (wVar 0) (waCons (wVar 2) (waCons (wVar 3) waNil)))) (fTup 2 (fCons (fName 7) (fCons (fName 8) fNil))))
  (wSeq (wSet 4 (wBin gIx (wCallU 2 sp__law_orderK [] (waCons (wVar 0) (waCons (wVar 3) waNil))) (wC (.int 0))))
  (wSeq (wIfS (wtOr (wTst (wBin (gEq) (wCall gLen (waCons (wVarB 7) waNil)) (wC (.int 0)))) (wtOr (wTst (wBin (gNe) (wBin gIx (wVarB 7) (wC (.int 0))) (wVarB 4))) (wTst (wBin (gIn true) (wVarB 4) (wVarB 8))))) (wRet (wC (.bl false))) wNext)
  (wSeq (wSet 5 (wSl (wVarB 8) woNone (woSome (wIndex (wFrz (wCallF gList (waCons (wVarB 8) waNil))) (wVar 4)))))
  (wSeq (wSet 6 (wFrz (wComp (wRng gRng1 (waCons (wCall gLen (waCons (wVarB 5) waNil)) waNil)) (fName 9) (wTst (wCall gAll (waCons (wFrz (wComp (wIt (wSl (wVarB 5) woNone (woSome (wVar 9)))) (fName 10) wtYes (wBin (gLt) (wBin (gXor) (wBin gIx (wVarB 5) (wVarB 9)) (wVarB 3)) (wBin (gXor) (wVarB 10) (wVarB 3))) [10])) waNil))) (wVar 9) [9])))
  (wRet (wBin (gLe) (wCall gLen (waCons (wVarB 6) waNil)) (wVarB 1))))))))
theorem k__law_nearest {PR : Program} {w : World} {K : PySem.W.Frag} {mg : Str → Option Value} {base : Heap} {T : Th} {f : Addr} {fd : FuncData} (hT : T.K = K) (M : Mg K mg T) (F : FnP K "_law_nearest" "_law_nearest" s__law_nearest [] f fd) (c_lookup : Cl PR w K mg base T 7 "lookup" 3 sp_lookup) (c__law_order : Cl PR w K mg base T 1 "_law_order" 2 sp__law_orderK) :
    FnOk PR w K mg base (L2.CX PR w) 8 f fd ["net", "bits", "start", "target"] (toSp T 4 (wFn 11 (w__law_nearest))) :=
  fn_okD F sc__law_nearest T (w__law_nearest) fun cdv A outer s H E W ok hr tk po =>
    have nd := sc__law_nearest.nd
    have hu := hr.units
    (dss_cons (ds_asg (de_cl c_lookup (hr.mono (by decide)) tk (da_cons (de_var 0) (da_cons (de_var 2) (da_cons (de_var 3) da_nil)))) (dg_tup hT rfl (dgs_cons (dg_name nd 7) (dgs_cons (dg_name nd 8) dgs_nil))))
      (dss_cons (ds_set nd 4 (de_ix (id_ix hT hu) (de_cl c__law_order (hr.mono (by decide)) tk (da_cons (de_var 0) (da_cons (de_var 3) da_nil))).br de_int.br))
      (dss_cons (ds_if (dw_or (dt_cmp (od_eq hT hu) (de_callB (cd_len hT) M.n_len (dab_cons (db_var 7) dab_nil)).br de_int.br) (dw_or (dt_cmp (od_ne hT hu) (de_ix (id_ix hT hu) (db_var 7) de_int.br).br (db_var 4)) (dw_or1 (dt_cmp (od_notin hT hu) (db_var 4) (db_var 8))))).t (dss_one (ds_ret de_bl)) dss_nil)
      (dss_cons (ds_set nd 5 (de_sl hT (db_var 8) do_none (do_some (de_index hT (df_callT (cf_list hT) M.n_list (dab_cons (db_var 8) dab_nil)).br (de_var 4)))))
      (dss_cons (ds_setLc rfl nd 6 [("k", 9)] (di_rng1 M.n_range (da_cons (de_callB (cd_len hT) M.n_len (dab_cons (db_var 5) dab_nil)) da_nil)) (fun _ _ _ _ _ => (dg_name nd 9)) (fun _ _ _ _ _ => (dts_one (dt_val (de_callB (cd_all rfl) M.n_all (dab_cons (df_lc rfl nd [("other", 10)] (di_valB hT (de_sl hT (db_var 5) do_none (do_some (de_var 9))).br) (fun _ _ _ _ _ => (dg_name nd 10)) (fun _ _ _ _ _ => dts_nil) (fun _ _ _ _ _ => (de_cmp (od_lt) (de_bin (od_xor) (de_ix (id_ix hT hu) (db_var 5) (db_var 9)).br (db_var 3)).br (de_bin (od_xor) (db_var 10) (db_var 3)).br))).br dab_nil))))) (fun _ _ _ _ _ => (de_var 9)))
      (dss_one (ds_ret (de_cmp (od_le) (de_callB (cd_len hT) M.n_len (dab_cons (db_var 6) dab_nil)).br (db_var 1)))))))))
abbrev s__law_is_filled : Stmt := top 23
theorem sc__law_is_filled : FnScope ["net", "bits", "own", "number", "shelf", "there", "name"] ["net", "bits"] (defScope s__law_is_filled) := ⟨rfl, rfl, rfl, by decide +kernel, rfl, by decide +kernel, by decide +kernel⟩
abbrev w__law_is_filled_b1 : WS := (wSeq (wSet 4 (wMeth 24 "shelf" 2 sp_Table_shelf (wBin gIx (wVarB 0) (wVarB 2)) (waCons (wVar 3) waNil)))
  (wSeq (wSet 5 (wFrz (wComp (wKeys (wVar 0)) (fName 6) (wtAnd (wTst (wBin (gNe) (wVarB 6) (wVarB 2))) (wTst (wBin (gEq) (wCallU 2 sp__law_shelf [] (waCons (wVar 2) (waCons (wVar 6) waNil))) (wVarB 3)))) (wVar 6) [6])))
  (wIfS (wtOr (wTst (wBin (gGt) (wCall gLen (waCons (wFrz (wComp (wIt (wVarB 4)) (fName 6) (wTst (wBin (gIn true) (wVarB 6) (wVarB 0))) (wVar 6) [6])) waNil)) (wC (.int 0)))) (wtAnd (wTst (wBin (gGt) (wCall gLen (waCons (wVarB 5) waNil)) (wC (.int 0)))) (wTst (wBin (gEq) (wCall gLen (waCons (wVarB 4) waNil)) (wC (.int 0)))))) (wRet (wC (.bl false))) wNext)))
abbrev w__law_is_filled_b2 : WS := (wFor (wRng gRng1 (waCons (wVar 1) waNil)) (fName 3) (w__law_is_filled_b1))
def w__law_is_filled : WS := (wSeq (wFor (wKeys (wVar 0)) (fName 2) (w__law_is_filled_b2))
  (wRet (wC (.bl true))))
theorem k__law_is_filled {PR : Program} {w : World} {K : PySem.W.Frag} {mg : Str → Option Value} {base : Heap} {T : Th} {f : Addr} {fd : FuncData} (hT : T.K = K) (M : Mg K mg T) (F : FnP K "_law_is_filled" "_law_is_filled" s__law_is_filled [] f fd) (c__law_shelf : Cl PR w K mg base T 1 "_law_shelf" 2 sp__law_shelf) (c_Table_shelf : ClM PR w K mg base T 1 24 "shelf" 2 sp_Table_shelf) :
    FnOk PR w K mg base (L2.CX PR w) 2 f fd ["net", "bits"] (toSp T 2 (wFn 7 (w__law_is_filled))) :=
  fn_okD F sc__law_is_filled T (w__law_is_filled) fun cdv A outer s H E W ok hr tk po =>
    have nd := sc__law_is_filled.nd
    have hu := hr.units
    (dss_cons (ds_for po rfl (di_keys (de_var 0)) (dg_name nd 2) (dss_one (ds_for po rfl (di_rng1 M.n_range (da_cons (de_var 1) da_nil)) (dg_name nd 3) (dss_cons (ds_set nd 4 (de_meth c_Table_shelf (hr.mono (by decide)) tk (de_ix (id_ix hT hu) (db_var 0) (db_var 2)) (da_cons (de_var 3) da_nil)))
      (dss_cons (ds_setLc rfl nd 5 [("name", 6)] (di_keysB (de_var 0)) (fun _ _ _ _ _ => (dg_name nd 6)) (fun _ _ _ _ _ => (dts_one (dw_and (dt_cmp (od_ne hT hu) (db_var 6) (db_var 2)) (dw_and1 (dt_cmp (od_eq hT hu) (de_cl c__law_shelf (hr.mono (by decide)) takes0 (da_cons (de_var 2) (da_cons (de_var 6) da_nil))).br (db_var 3)))).t)) (fun _ _ _ _ _ => (de_var 6)))
      (dss_one (ds_if (dw_or (dt_cmp (od_gt) (de_callB (cd_len hT) M.n_len (dab_cons (df_lc rfl nd [("name", 6)] (di_valB hT (db_var 4)) (fun _ _ _ _ _ => (dg_name nd 6)) (fun _ _ _ _ _ => (dts_one (dt_cmp (od_notin hT hu) (db_var 6) (db_var 0)))) (fun _ _ _ _ _ => (de_var 6))).br dab_nil)).br de_int.br) (dw_or1 (dw_and (dt_cmp (od_gt) (de_callB (cd_len hT) M.n_len (dab_cons (db_var 5) dab_nil)).br de_int.br) (dw_and1 (dt_cmp (od_eq hT hu) (de_callB (cd_len hT) M.n_len (dab_cons (db_var 4) dab_nil)).br de_int.br))).t)).t (dss_one (ds_ret de_bl)) dss_nil)))))))
      (dss_one (ds_ret de_bl)))
abbrev s_Table_silent : Stmt := clsAt (top 11) 3
theorem sc_Table_silent : FnScope ["self", "name", "shelf"] ["self", "name"] (defScope s_Table_silent) := ⟨rfl, rfl, rfl, by decide +kernel, rfl, by decide +kernel, by decide +kernel⟩
def w_Table_silent : WS := (wSeq (wDrop (wMeth 24 "check" 2 sp_Table_check (wVar 0) (waCons (wVar 1) waNil)))
  (wIfS (wTst (wBin (gNe) (wVarB 1) (wFld [24] "own" (wVarB 0)))) (wSeq (wSet 2 (wBin gIx (wFld [24] "shelves" (wVarB 0)) (wCallU 2 sp_shelf_of [] (waCons (wFld [24] "own" (wVarB 0)) (waCons (wVar 1) waNil)))))
  (wIfS (wTst (wBinC (gIn false) (wVarB 1) (wVarB 2))) (wDrop (wRemS (wVar 2) (wVar 1))) wNext)) wNext))
theorem k_Table_silent {PR : Program} {w : World} {K : PySem.W.Frag} {mg : Str → Option Value} {base : Heap} {T : Th} {f : Addr} {fd : FuncData} (hT : T.K = K) (M : Mg K mg T) (F : FnP K "silent" "Table.silent" s_Table_silent [] f fd) (c_shelf_of : Cl PR w K mg base T 1 "shelf_of" 2 sp_shelf_of) (c_Table_check : ClM PR w K mg base T 3 24 "check" 2 sp_Table_check) :
    FnOk PR w K mg base (L2.CX PR w) 4 f fd ["self", "name"] (toSp T 2 (wFn 3 (w_Table_silent))) :=
  fn_okD F sc_Table_silent T (w_Table_silent) fun cdv A outer s H E W ok hr tk po =>
    have nd := sc_Table_silent.nd
    have hu := hr.units
    (dss_cons (ds_expr (de_meth c_Table_check (hr.mono (by decide)) tk (de_var 0) (da_cons (de_var 1) da_nil)))
      (dss_one (ds_if (dt_cmp (od_ne hT hu) (db_var 1) (de_fld (fc_cons M.cl_Table M.na_Table_own fc_nil) (db_var 0)).br) (dss_cons (ds_set nd 2 (de_ix (id_ix hT hu) (de_fld (fc_cons M.cl_Table M.na_Table_shelves fc_nil) (db_var 0)).br (de_cl c_shelf_of (hr.mono (by decide)) tk (da_cons (de_fld (fc_cons M.cl_Table M.na_Table_own fc_nil) (db_var 0)) (da_cons (de_var 1) da_nil))).br))
      (dss_one (ds_if (dt_cmpC (od_in hT hu) (db_var 1) (db_var 2)) (dss_one (ds_expr (de_remS (de_var 2) (de_var 1)))) dss_nil))) dss_nil)))
abbrev s__law_spoilt : Stmt := top 25
theorem sc__law_spoilt : FnScope ["tape", "net", "bits", "own", "names", "told"] ["tape", "net", "bits"] (defScope s__law_spoilt) := ⟨rfl, rfl, rfl, by decide +kernel, rfl, by decide +kernel, by decide +kernel⟩
def w__law_spoilt : WS := (wSeq (wSet 3 (wCallU 2 sp__law_pick [] (waCons (wVar 0) (waCons (wFrz (wCallF gSorted (waCons (wVarB 1) waNil))) waNil))))
  (wSeq (wSet 4 (wMeth 24 "names" 1 sp_Table_names (wBin gIx (wVarB 1) (wVarB 3)) waNil))
  (wSeq (wIfS (wtAnd (wTst (wBin (gGt) (wCall gLen (waCons (wVarB 4) waNil)) (wC (.int 0)))) (wTst (wBin (gEq) (wCallU 2 sp__law_draw [] (waCons (wVar 0) (waCons (wC (.int 2)) waNil))) (wC (.int 0))))) (wDrop (wMeth 24 "silent" 2 sp_Table_silent (wBin gIx (wVarB 1) (wVarB 3)) (waCons (wCallU 2 sp__law_pick [] (waCons (wVar 0) (waCons (wFrz (wCallF gList (waCons (wVarB 4) waNil))) waNil))) waNil))) (wDrop (wMeth 24 "see" 2 sp_Table_see (wBin gIx (wVarB 1) (wVarB 3)) (waCons (wCallU 2 sp__law_draw [] (waCons (wVar 0) (waCons (wBin (gShl) (wC (.int 1)) (wVarB 2)) waNil))) waNil))))
  (wSeq (wSet 5 (wCallU 1 sp_is_filled [] (waCons (wVar 1) waNil)))
  (wRet (wAnd (wCall gIsi (waCons (wVarB 5) (waCons (wC (.ty "bool")) waNil))) (wBin (gEq) (wVarB 5) (wCallU 2 sp__law_is_filled [] (waCons (wVar 1) (waCons (wVar 2) waNil))))))))))
theorem k__law_spoilt {PR : Program} {w : World} {K : PySem.W.Frag} {mg : Str → Option Value} {base : Heap} {T : Th} {f : Addr} {fd : FuncData} (hT : T.K = K) (M : Mg K mg T) (F : FnP K "_law_spoilt" "_law_spoilt" s__law_spoilt [] f fd) (c__law_pick : Cl PR w K mg base T 2 "_law_pick" 2 sp__law_pick) (c__law_draw : Cl PR w K mg base T 1 "_law_draw" 2 sp__law_draw) (c_is_filled : Cl PR w K mg base T 2 "is_filled" 1 sp_is_filled) (c__law_is_filled : Cl PR w K mg base T 2 "_law_is_filled" 2 sp__law_is_filled) (c_Table_names : ClM PR w K mg base T 1 24 "names" 1 sp_Table_names) (c_Table_silent : ClM PR w K mg base T 4 24 "silent" 2 sp_Table_silent) (c_Table_see : ClM PR w K mg base T 4 24 "see" 2 sp_Table_see) :
    FnOk PR w K mg base (L2.CX PR w) 5 f fd ["tape", "net", "bits"] (toSp T 3 (wFn 6 (w__law_spoilt))) :=
  fn_okD F sc__law_spoilt T (w__law_spoilt) fun cdv A outer s H E W ok hr tk po =>
    have nd := sc__law_spoilt.nd
    have hu := hr.units
    (dss_cons (ds_set nd 3 (de_cl c__law_pick (hr.mono (by decide)) tk (da_cons (de_var 0) (da_cons (df_callB (cf_sorted hT rfl) M.n_sorted (dab_cons (db_var 1) dab_nil)).fz da_nil))))
      (dss_cons (ds_set nd 4 (de_meth0 c_Table_names (hr.mono (by decide)) tk (de_ix (id_ix hT hu) (db_var 1) (db_var 3))))
      (dss_cons (ds_if (dw_and (dt_cmp (od_gt) (de_callB (cd_len hT) M.n_len (dab_cons (db_var 4) dab_nil)).br de_int.br) (dw_and1 (dt_cmp (od_eq hT hu) (de_cl c__law_draw (hr.mono (by decide)) tk (da_cons (de_var 0) (da_cons de_int da_nil))).br de_int.br))).t (dss_one (ds_expr (de_meth c_Table_silent (hr.mono (by decide)) tk (de_ix (id_ix hT hu) (db_var 1) (db_var 3)) (da_cons (de_cl c__law_pick (hr.mono (by decide)) tk (da_cons (de_var 0) (da_cons (df_callT (cf_list hT) M.n_list (dab_cons (db_var 4) dab_nil)).fz da_nil))) da_nil)))) (dss_one (ds_expr (de_meth c_Table_see (hr.mono (by decide)) tk (de_ix (id_ix hT hu) (db_var 1) (db_var 3)) (da_cons (de_cl c__law_draw (hr.mono (by decide)) tk (da_cons (de_var 0) (da_cons (de_bin (od_shl) de_int.br (db_var 2)) da_nil))) da_nil)))))
      (dss_cons (ds_set nd 5 (de_cl c_is_filled (hr.mono (by decide)) tk (da_cons (de_var 1) da_nil)))
      (dss_one (ds_ret (de_and (de_callB (cd_isi hT) M.n_isinstance (dab_cons (db_var 5) (dab_cons (de_ty M.n_bool).br dab_nil))) (de_one (de_cmp (od_eq hT hu) (db_var 5) (de_cl c__law_is_filled (hr.mono (by decide)) tk (da_cons (de_var 1) (da_cons (de_var 2) da_nil))).br)))))))))
abbrev s_law : Stmt := top 26
theorem sc_law : FnScope ["script", "tape", "bits", "net", "turn", "target", "start"] ["script"] (defScope s_law) := ⟨rfl, rfl, rfl, by decide +kernel, rfl, by decide +kernel, by decide +kernel⟩
abbrev w_law_b1 : WS := (wIfS (wtNot (wTst (wCallU 4 sp__law_nearest [] (waCons (wVar 3) (waCons (wVar 2) (waCons (wVar 6) (waCons (wVar 5) waNil))))))) (wRet (wC (.bl false))) wNext)
abbrev w_law_b2 : WS := (wSeq (wSet 5 (wCallU 2 sp__law_draw [] (waCons (wVar 1) (waCons (wBin (gShl) (wC (.int 1)) (wVarB 2)) waNil))))
  (wFor (wIt (wFrz (wCallF gSorted (waCons (wVarB 3) waNil)))) (fName 6) (w_law_b1)))
def w_law : WS := (wSeq (wSet 1 (wCallU 1 sp__law_tape [] (waCons (wVar 0) waNil)))
  (wSeq (wSet 2 (wBin (gAdd) (wC (.int 1)) (wCallU 2 sp__law_draw [] (waCons (wVar 1) (waCons (wC (.int 7)) waNil)))))
  (wSeq (wSet 3 (wCallU 2 sp__law_net [] (waCons (wVar 1) (waCons (wVar 2) waNil))))
  (wSeq (wIfS (wTst (wBin (gIsNot) (wCallU 1 sp_is_filled [] (waCons (wVar 3) waNil)) (wC (.bl true)))) (wRet (wC (.bl false))) wNext)
  (wSeq (wFor (wRng gRng1 (waCons (wC (.int 2)) waNil)) (fName 4) (w_law_b2))
  (wRet (wAnd (wCallU 3 sp__law_spoilt [] (waCons (wVar 1) (waCons (wVar 3) (waCons (wVar 2) waNil)))) (wCallU 3 sp__law_spoilt [] (waCons (wVar 1) (waCons (wVar 3) (waCons (wVar 2) waNil)))))))))))
theorem k_law {PR : Program} {w : World} {K : PySem.W.Frag} {mg : Str → Option Value} {base : Heap} {T : Th} {f : Addr} {fd : FuncData} (hT : T.K = K) (M : Mg K mg T) (F : FnP K "law" "law" s_law [] f fd) (c__law_tape : Cl PR w K mg base T 1 "_law_tape" 1 sp__law_tape) (c__law_draw : Cl PR w K mg base T 1 "_law_draw" 2 sp__law_draw) (c__law_net : Cl PR w K mg base T 5 "_law_net" 2 sp__law_net) (c_is_filled : Cl PR w K mg base T 2 "is_filled" 1 sp_is_filled) (c__law_nearest : Cl PR w K mg base T 8 "_law_nearest" 4 sp__law_nearest) (c__law_spoilt : Cl PR w K mg base T 5 "_law_spoilt" 3 sp__law_spoilt) :
    FnOk PR w K mg base (L2.CX PR w) 9 f fd ["script"] (toSp T 1 (wFn 7 (w_law))) :=
  fn_okD F sc_law T (w_law) fun cdv A outer s H E W ok hr tk po =>
    have nd := sc_law.nd
    have hu := hr.units
    (dss_cons (ds_set nd 1 (de_cl c__law_tape (hr.mono (by decide)) tk (da_cons (de_var 0) da_nil)))
      (dss_cons (ds_set nd 2 (de_bin (od_add hT) de_int.br (de_cl c__law_draw (hr.mono (by decide)) tk (da_cons (de_var 1) (da_cons de_int da_nil))).br))
      (dss_cons (ds_set nd 3 (de_cl c__law_net (hr.mono (by decide)) tk (da_cons (de_var 1) (da_cons (de_var 2) da_nil))))
      (dss_cons (ds_if (dt_cmp (od_isnot) (de_cl c_is_filled (hr.mono (by decide)) tk (da_cons (de_var 3) da_nil)).br de_bl.br) (dss_one (ds_ret de_bl)) dss_nil)
      (dss_cons (ds_for po rfl (di_rng1 M.n_range (da_cons de_int da_nil)) (dg_name nd 4) (dss_cons (ds_set nd 5 (de_cl c__law_draw (hr.mono (by decide)) tk (da_cons (de_var 1) (da_cons (de_bin (od_shl) de_int.br (db_var 2)) da_nil))))
      (dss_one (ds_for po rfl (di_val hT (df_callB (cf_sorted hT rfl) M.n_sorted (dab_cons (db_var 3) dab_nil)).fz) (dg_name nd 6) (dss_one (ds_if (dt_not (dt_val (de_cl c__law_nearest (hr.mono (by decide)) tk (da_cons (de_var 3) (da_cons (de_var 2) (da_cons (de_var 6) (da_cons (de_var 5) da_nil))))))) (dss_one (ds_ret de_bl)) dss_nil))))))
      (dss_one (ds_ret (de_and (de_cl c__law_spoilt (hr.mono (by decide)) tk (da_cons (de_var 1) (da_cons (de_var 3) (da_cons (de_var 2) da_nil)))) (de_one (de_cl c__law_spoilt (hr.mono (by decide)) tk (da_cons (de_var 1) (da_cons (de_var 3) (da_cons (de_var 2) da_nil)))))))))))))
end K31

set_option Elab.async false
set_option linter.all false
set_option maxRecDepth 100000
set_option maxHeartbeats 0
namespace K31
open PySem PySem.Spec PyProof.Rows L2 N
local macro_rules | `(tactic| tm_at "nv") => `(tactic| try simp -implicitDefEqProofs only [wIndex_e, asLs_l, gSorted_d, lk_s_net, lk_s_target, lk_s_room, lk_s_known, lk_s_asked, lk_s_quiet, lk_s_hear, lk_s_best, lk_s_run, tbD, lk_own, lk_bits, lk_room, lk_shelves, lk_check, lk_see, lk_silent, lk_shelf, lk_names, lk_nearest, asSh_l, asSh_d, asShL_l, asShD_d, cont_r, cont_n, cont_b, cont_i, cont_s, cont_t, cont_l, cont_d, cont_o, contL_n, contL_c, wBinC_e, wCallC_e, wCallFC_e, wShF_e, wItC_e, wForE_e, wCompE_e, wComp2_e, wAppS_e, wRemS_e, wSetIxS_e, wPutS_e, wMakeG_e, noOwn_n, noOwn_o, noOwn_v, noOwn_z, gSorted_i, gSorted_p, Int.cast_ofNat_Int, Int.reduceEq, Int.reduceLT, Int.reduceLE, List.length_map, List.length_append, see_l, see_d, see_i, Nat.reduceAdd, Nat.reduceLeDiff, Nat.zero_le, wFn_e, startG_c, startG_n, startG_z, wSeq_e, wSet_e, wC_e, wFor_e, wIt_e, wVar_e, wVarB_e, getSl_z, getSl_s, List.set_cons_zero, List.set_cons_succ, wRet_e, wBin_e, gI_i, gI0_i, gB0_i, gAdd_i, gAdd_t, gAdd_l, gAdd_s, gMul_i, gMul_t, gMul_l, gEq_, gNe_, gIs_n, gIs_b, gIsNot_n, gIsNot_b, isNon_n, isNon_i, isNon_b, isNon_t, isNon_l, isNon_s, wIfS_e, wtOr_e, wtAnd_e, wtNot_e, wTst_e, wNext_e, wNev_e, wCall_e, wCallF_e, wFrz_e, wLst_e, wTup_e, waNil_e, waCons_e, wComp_e, wRng_e, gRng1_i, gRng2_i, gRng3_i, wUn_e, gNeg_i, gTuple_t, gTuple_l, gList_t, gList_l, gList_s, gLen_t, gLen_l, gLen_s, gLen_d, gInt_i, gInt_b, gAbs_i, gMax_i, gMin_i, wipeG, fName_e, wCallU_e, wCallK_e, List.append_nil, List.length_cons, List.length_nil, wSl_e, woNone_e, woSome_e, gSl_t, gSl_l, gIt_t, gIt_l, gIt_s, gIsi_i, gIsi_b, gIsi_t, gIsi_l, gIsi_s, gIsi_n, gIsi_d, wFld_e, wMeth_e, wMake_e, wMakeF_e, wSetF_e, wExt_e, wFz_e, wRev_e, wRaise_e, wTry_e, wBits_e, insOf_ins, lk_kind, lk_size, lk_digest, lk_is_digest, gEnum_t, gEnum_l, gZip_t, gZip_l, mem1, reduceCtorEq, eq_self, wAsg_e, fTup_e, fCons_e, fNil_e, wAnd_e, wOr_e, wNot_e, wIf_e, wPar_e, wAug_e, wApp_e, wSetO_e, wRetO_e, br_t, br_f, shp_int, shp_bl, shp_non, deq_int, gAll_b, gAny_b, gSum_i, wDrop_e, wRetN_e, true_and, and_true, decide_true, decide_false, Bool.not_true, Bool.not_false, isi_NoneType_bool, isi_NoneType_int, isi_NoneType_str, isi_NoneType_tuple, isi_NoneType_list, isi_NoneType_dict, isi_bool_bool, isi_bool_int, isi_bool_str, isi_bool_tuple, isi_bool_list, isi_bool_dict, isi_int_bool, isi_int_int, isi_int_str, isi_int_tuple, isi_int_list, isi_int_dict, isi_str_bool, isi_str_int, isi_str_str, isi_str_tuple, isi_str_list, isi_str_dict, isi_tuple_bool, isi_tuple_int, isi_tuple_str, isi_tuple_tuple, isi_tuple_list, isi_tuple_dict, isi_list_bool, isi_list_int, isi_list_str, isi_list_tuple, isi_list_list, isi_list_dict, isi_dict_bool, isi_dict_int, isi_dict_str, isi_dict_tuple, isi_dict_list, isi_dict_dict, okTy_bool, okTy_int, okTy_str, okTy_tuple, okTy_list, okTy_dict, List.cons_append, List.nil_append, wChn_e, wSetIxO_e, wGet1_e, wGet2_e, wPutO_e, wDnew_e, slV_v, slB_v, slB_l, slB_d, slB_i, slL_l, slD_d, asB_b, asI_i, asR_r, asT_t, asQ_t, asQ_l, asD_d, asK_i, asK_s, asC_c, as2_2, asO_s, asIns_i, fz_l, fz_i, fz_v, fz_n, wKeys_e, wItems_e, wVals_e, exL_hit, asRev_l, asRev_t, wtYes_e, wFzD_e, fzD_d, fzD_v])
local macro_rules | `(tactic| tm_at "nw") => `(tactic| (tm_at "nv"; repeat (with_reducible refine sq_i ?_; tm_at "nv")))
local macro_rules | `(tactic| tm_at "nc") => `(tactic| first | exact True.intro | omega | exact mulL (by omega) (by omega) | exact mulR (by omega) (by omega) | exact divOk (by omega) (by omega) | exact shlI (n := 1) (by decide) (by decide) (by omega) (by omega) | (simp only [List.length_append, List.length_map, List.length_cons, List.length_nil, List.length_replicate, List.length_flatten, List.map_replicate, List.sum_replicate_nat, List.length_range, rngL_len, rngC_len, List.cons_append, List.nil_append]; first | done | omega))
local macro_rules | `(tactic| tm_at "ns") => `(tactic| repeat (with_reducible refine And.intro (by first | tm_at "nc" | exact ⟨by tm_at "nc", by tm_at "nc"⟩ | exact ⟨by tm_at "nc", by tm_at "nc", by tm_at "nc"⟩ | exact ⟨by tm_at "nc", by tm_at "nc", by tm_at "nc", by tm_at "nc"⟩) ?_))
local macro_rules | `(tactic| tm_at "go") => `(tactic| (tm_at "nw"; repeat (first | (with_reducible refine And.intro (by first | tm_at "nc" | exact ⟨by tm_at "nc", by tm_at "nc"⟩ | exact ⟨by tm_at "nc", by tm_at "nc", by tm_at "nc"⟩) ?_) | (with_reducible refine sq_i ?_)); tm_at "nw"))
theorem m_shelf_of (ds : List D) (Om : N.Om) (Q : D → N.Om → Prop) (R : RX) (hl : ds.length = 2) (h : sp_shelf_of ds Om Q R) : wFn 2 w_shelf_of ds Om Q R := by
  obtain ⟨a, b, rfl, q⟩ := h
  unfold w_shelf_of
  tm_at "go"
  exact q
theorem m_is_nameT (ds : List D) (Om : N.Om) (Q : D → N.Om → Prop) (R : RX) (hl : ds.length = 2) (h : sp_is_nameT ds Om Q R) : wFn 2 w_is_name ds Om Q R := by
  obtain ⟨d, k, rfl, hk, hd, q⟩ := h
  unfold w_is_name
  tm_at "go"
  refine ⟨d, rfl, hd, ?_⟩
  cases d <;> simp only [intB, nameB] at q ⊢
  all_goals try (tm_at "go"; exact q)
  rename_i i
  tm_at "go"
  refine br_if (fun h0 => ?_) fun h0 => ?_
  · rw [h0, Bool.true_and] at q
    have h0 := of_decide_eq_true h0
    tm_at "go"
    rw [show (decide (i / 2 ^ ((k : Int)).toNat = 0)) = decide (i < 2 ^ k) from ?_]
    · exact q
    · rw [Int.toNat_natCast]
      have p : (0 : Int) < 2 ^ k := by exact_mod_cast Nat.two_pow_pos k
      refine decide_eq_decide.mpr ⟨fun h => ?_, fun h => Int.ediv_eq_zero_of_lt h0 h⟩
      have := Int.emod_add_mul_ediv i (2 ^ k)
      rw [h, Int.mul_zero, Int.add_zero] at this
      have := Int.emod_lt_of_pos i p
      omega
  · rw [h0, Bool.false_and] at q
    exact q
theorem m_Table_check (ds : List D) (Om : N.Om) (Q : D → N.Om → Prop) (R : RX) (hl : ds.length = 2) (h : sp_Table_check ds Om Q R) : wFn 2 w_Table_check ds Om Q R := by
  obtain ⟨own, bits, room, qs, d, rfl, hb, hd, q1, q2⟩ := h
  unfold w_Table_check
  tm_at "go"
  refine ⟨d, bits, rfl, hb, hd, ?_⟩
  cases e : nameB d bits
  · tm_at "go"
    exact q2 e
  · tm_at "go"
    exact q1 e
theorem m_in_order (ds : List D) (Om : N.Om) (Q : D → N.Om → Prop) (R : RX) (hl : ds.length = 2) (h : sp_in_order ds Om Q R) : wFn 4 w_in_order ds Om Q R := by
  obtain ⟨d, ns, t, rfl, hd, hz, q⟩ := h
  unfold w_in_order
  tm_at "go"
  have hi : ∀ K : List D → Prop, K (ns.map .int) → gIt d K := fun K k => by
    rcases hd with rfl | rfl
    · exact k
    · exact k
  refine hi _ (turns_mapA (h := D.int) (g := fun n => prD (xo n t, n)) ns [] (by simp; omega) (fun n _ K k => ?_) ?_)
  · tm_at "go"
    exact k
  · rw [List.nil_append, show (ns.map fun n => prD (xo n t, n)) = (ns.map fun n => (xo n t, n)).map prD by rw [List.map_map]; rfl]
    tm_at "go"
    refine turns_mapA (h := prD) (g := fun p => .int p.2) _ [] (by simp [srtP]; omega) (fun p _ K k => ?_) ?_
    · simp only [prD]
      tm_at "go"
      exact k
    · tm_at "go"
      rw [show ((srtP (ns.map fun n => (xo n t, n))).map fun p => D.int p.2) = (ordI ns t).map .int by unfold ordI; rw [List.map_map]; rfl]
      exact q
end K31

set_option Elab.async false
set_option linter.all false
set_option maxRecDepth 100000
set_option maxHeartbeats 0
namespace K31
open PySem PySem.Spec PyProof.Rows L2 N
local macro_rules | `(tactic| tm_at "nv") => `(tactic| try simp -implicitDefEqProofs only [wIndex_e, asLs_l, gSorted_d, lk_s_net, lk_s_target, lk_s_room, lk_s_known, lk_s_asked, lk_s_quiet, lk_s_hear, lk_s_best, lk_s_run, tbD, lk_own, lk_bits, lk_room, lk_shelves, lk_check, lk_see, lk_silent, lk_shelf, lk_names, lk_nearest, asSh_l, asSh_d, asShL_l, asShD_d, cont_r, cont_n, cont_b, cont_i, cont_s, cont_t, cont_l, cont_d, cont_o, contL_n, contL_c, wBinC_e, wCallC_e, wCallFC_e, wShF_e, wItC_e, wForE_e, wCompE_e, wComp2_e, wAppS_e, wRemS_e, wSetIxS_e, wPutS_e, wMakeG_e, noOwn_n, noOwn_o, noOwn_v, noOwn_z, gSorted_i, gSorted_p, Int.cast_ofNat_Int, Int.reduceEq, Int.reduceLT, Int.reduceLE, List.length_map, List.length_append, see_l, see_d, see_i, Nat.reduceAdd, Nat.reduceLeDiff, Nat.zero_le, wFn_e, startG_c, startG_n, startG_z, wSeq_e, wSet_e, wC_e, wFor_e, wIt_e, wVar_e, wVarB_e, getSl_z, getSl_s, List.set_cons_zero, List.set_cons_succ, wRet_e, wBin_e, gI_i, gI0_i, gB0_i, gAdd_i, gAdd_t, gAdd_l, gAdd_s, gMul_i, gMul_t, gMul_l, gEq_, gNe_, gIs_n, gIs_b, gIsNot_n, gIsNot_b, isNon_n, isNon_i, isNon_b, isNon_t, isNon_l, isNon_s, wIfS_e, wtOr_e, wtAnd_e, wtNot_e, wTst_e, wNext_e, wNev_e, wCall_e, wCallF_e, wFrz_e, wLst_e, wTup_e, waNil_e, waCons_e, wComp_e, wRng_e, gRng1_i, gRng2_i, gRng3_i, wUn_e, gNeg_i, gTuple_t, gTuple_l, gList_t, gList_l, gList_s, gLen_t, gLen_l, gLen_s, gLen_d, gInt_i, gInt_b, gAbs_i, gMax_i, gMin_i, wipeG, fName_e, wCallU_e, wCallK_e, List.append_nil, List.length_cons, List.length_nil, wSl_e, woNone_e, woSome_e, gSl_t, gSl_l, gIt_t, gIt_l, gIt_s, gIsi_i, gIsi_b, gIsi_t, gIsi_l, gIsi_s, gIsi_n, gIsi_d, wFld_e, wMeth_e, wMake_e, wMakeF_e, wSetF_e, wExt_e, wFz_e, wRev_e, wRaise_e, wTry_e, wBits_e, insOf_ins, lk_kind, lk_size, lk_digest, lk_is_digest, gEnum_t, gEnum_l, gZip_t, gZip_l, mem1, reduceCtorEq, eq_self, wAsg_e, fTup_e, fCons_e, fNil_e, wAnd_e, wOr_e, wNot_e, wIf_e, wPar_e, wAug_e, wApp_e, wSetO_e, wRetO_e, br_t, br_f, shp_int, shp_bl, shp_non, deq_int, gAll_b, gAny_b, gSum_i, wDrop_e, wRetN_e, true_and, and_true, decide_true, decide_false, Bool.not_true, Bool.not_false, isi_NoneType_bool, isi_NoneType_int, isi_NoneType_str, isi_NoneType_tuple, isi_NoneType_list, isi_NoneType_dict, isi_bool_bool, isi_bool_int, isi_bool_str, isi_bool_tuple, isi_bool_list, isi_bool_dict, isi_int_bool, isi_int_int, isi_int_str, isi_int_tuple, isi_int_list, isi_int_dict, isi_str_bool, isi_str_int, isi_str_str, isi_str_tuple, isi_str_list, isi_str_dict, isi_tuple_bool, isi_tuple_int, isi_tuple_str, isi_tuple_tuple, isi_tuple_list, isi_tuple_dict, isi_list_bool, isi_list_int, isi_list_str, isi_list_tuple, isi_list_list, isi_list_dict, isi_dict_bool, isi_dict_int, isi_dict_str, isi_dict_tuple, isi_dict_list, isi_dict_dict, okTy_bool, okTy_int, okTy_str, okTy_tuple, okTy_list, okTy_dict, List.cons_append, List.nil_append, wChn_e, wSetIxO_e, wGet1_e, wGet2_e, wPutO_e, wDnew_e, slV_v, slB_v, slB_l, slB_d, slB_i, slL_l, slD_d, asB_b, asI_i, asR_r, asT_t, asQ_t, asQ_l, asD_d, asK_i, asK_s, asC_c, as2_2, asO_s, asIns_i, fz_l, fz_i, fz_v, fz_n, wKeys_e, wItems_e, wVals_e, exL_hit, asRev_l, asRev_t, wtYes_e, wFzD_e, fzD_d, fzD_v])
local macro_rules | `(tactic| tm_at "nw") => `(tactic| (tm_at "nv"; repeat (with_reducible refine sq_i ?_; tm_at "nv")))
local macro_rules | `(tactic| tm_at "nc") => `(tactic| first | exact True.intro | omega | exact mulL (by omega) (by omega) | exact mulR (by omega) (by omega) | exact divOk (by omega) (by omega) | exact shlI (n := 1) (by decide) (by decide) (by omega) (by omega) | (simp only [List.length_append, List.length_map, List.length_cons, List.length_nil, List.length_replicate, List.length_flatten, List.map_replicate, List.sum_replicate_nat, List.length_range, rngL_len, rngC_len, List.cons_append, List.nil_append]; first | done | omega))
local macro_rules | `(tactic| tm_at "ns") => `(tactic| repeat (with_reducible refine And.intro (by first | tm_at "nc" | exact ⟨by tm_at "nc", by tm_at "nc"⟩ | exact ⟨by tm_at "nc", by tm_at "nc", by tm_at "nc"⟩ | exact ⟨by tm_at "nc", by tm_at "nc", by tm_at "nc", by tm_at "nc"⟩) ?_))
local macro_rules | `(tactic| tm_at "go") => `(tactic| (tm_at "nw"; repeat (first | (with_reducible refine And.intro (by first | tm_at "nc" | exact ⟨by tm_at "nc", by tm_at "nc"⟩ | exact ⟨by tm_at "nc", by tm_at "nc", by tm_at "nc"⟩) ?_) | (with_reducible refine sq_i ?_)); tm_at "nw"))
theorem m_Table_shelf (ds : List D) (Om : N.Om) (Q : D → N.Om → Prop) (R : RX) (hl : ds.length = 2) (h : sp_Table_shelf ds Om Q R) : wFn 2 w_Table_shelf ds Om Q R := by
  obtain ⟨own, bits, room, qs, sh, i, rfl, t, hi, q⟩ := h
  obtain ⟨p, h1, h2, h3⟩ := t.at_.get (by rw [t.gd.len]; exact hi)
  unfold w_Table_shelf
  tm_at "go"
  refine gIx_list (j := i) rfl (by rw [List.getElem?_map, h1]; rfl) ?_
  tm_at "go"
  rw [h3]
  tm_at "go"
  exact q
theorem m_Table_names (ds : List D) (Om : N.Om) (Q : D → N.Om → Prop) (R : RX) (hl : ds.length = 1) (h : sp_Table_names ds Om Q R) : wFn 3 w_Table_names ds Om Q R := by
  obtain ⟨own, bits, room, qs, sh, rfl, t, q⟩ := h
  have fl := flat_len t.gd t.b2 t.r2
  unfold w_Table_names
  tm_at "go"
  rw [← zip_refs t.at_.len]
  refine turns2_A (h := fun p : Addr × List Int => D.ref p.1) (fun p => p.2.map .int) (qs.zip sh) [] ?_ (fun p hp acc K ha k => ?_) ?_
  · rw [zip_flat t.at_.len, List.length_map]
    simp only [List.length_nil]
    omega
  · tm_at "go"
    rw [t.at_.zip p hp]
    tm_at "go"
    refine turnsE_filA (h := D.int) (g := D.int) (t := fun _ => true) p.2 acc (by simpa using ha) (fun n _ K1 K2 k1 _ => ?_) (by rw [List.filter_eq_self.mpr (fun _ _ => rfl)]; exact k)
    tm_at "go"
    exact k1 rfl
  · rw [zip_flat t.at_.len, List.nil_append]
    tm_at "go"
    exact q
theorem m_Table_nearest (ds : List D) (Om : N.Om) (Q : D → N.Om → Prop) (R : RX) (hl : ds.length = 3) (h : sp_Table_nearest ds Om Q R) : wFn 3 w_Table_nearest ds Om Q R := by
  obtain ⟨own, bits, room, qs, sh, d, many, rfl, t, h⟩ := h
  have fl := flat_len t.gd t.b2 t.r2
  unfold w_Table_nearest
  rcases h with ⟨x, rfl, hx, q⟩ | ⟨hd, hb, r⟩
  · tm_at "go"
    refine ⟨own, bits, room, qs, _, rfl, t.b2, rfl, fun _ => ?_, fun z => ?_⟩
    · tm_at "go"
      refine ⟨own, bits, room, qs, sh, rfl, t, ?_⟩
      tm_at "go"
      refine ⟨_, _, x, rfl, .inr rfl, by rw [(srtI_perm _).length_eq]; exact fl, ?_⟩
      tm_at "go"
      rw [cut_to, ← List.map_take, ordI_perm (srtI_perm _)]
      exact q
    · rw [nameB_in hx] at z
      cases z
  · tm_at "go"
    refine ⟨own, bits, room, qs, _, rfl, t.b2, hd, fun z => ?_, fun _ => r⟩
    rw [hb] at z
    cases z
theorem loop_shelf (a b : Int) (m : Nat) (hx : xo a b = (m : Int)) (h0 : m ≠ 0) (hm : m < 2 ^ 24) (Po : Post) (Om : N.Om) (h : Po.nx [.val (.int a), .val (.int b), .val (.int (m.log2 : Int))] Om) : ∀ (n j : Nat), j + n = m.log2 + 1 →
    wWhN (wTst (wBin gGe (wBin gXor (wVarB 0) (wVarB 1)) (wBin gShl (wC (.int 1)) (wBin gAdd (wVarB 2) (wC (.int 1)))))) w__law_shelf_b1 (n + 1) [.val (.int a), .val (.int b), .val (.int ((j : Int) - 1))] Om Po
  | n, j, hj => by
    have h20 : m.log2 < 24 := (Nat.log2_lt h0).mpr hm
    have e0 : ((j : Int) - 1 + 1) = (j : Int) := by omega
    have e1 : (1 : Int) * 2 ^ (j : Int).toNat = ((2 ^ j : Nat) : Int) := by simp
    unfold wWhN
    tm_at "nw"
    rw [e0]
    refine ⟨shlI (n := 1) (by decide) (by decide) (by omega) (by omega), ?_⟩
    rw [e1, show Builtin.bitXor a b = (m : Int) from hx]
    cases n with
    | zero =>
      have hj : j = m.log2 + 1 := by omega
      subst hj
      refine br_df (fun z => ?_) ?_
      · have := Nat.lt_log2_self (n := m)
        omega
      · rw [show (((m.log2 + 1 : Nat) : Int) - 1) = (m.log2 : Int) by omega]
        exact h
    | succ n =>
      have hlt : 2 ^ j ≤ m := Nat.le_trans (Nat.pow_le_pow_right (by decide) (by omega)) (Nat.log2_self_le h0)
      refine br_dt (by omega) ?_
      have := loop_shelf a b m hx h0 hm Po Om h n (j + 1) (by omega)
      rw [show (((j + 1 : Nat) : Int) - 1) = (j : Int) by omega] at this
      exact this
theorem m__law_shelf (ds : List D) (Om : N.Om) (Q : D → N.Om → Prop) (R : RX) (hl : ds.length = 2) (h : sp__law_shelf ds Om Q R) : wFn 3 w__law_shelf ds Om Q R := by
  obtain ⟨a, b, k, rfl, hk, ha, hb, ne, q⟩ := h
  obtain ⟨m, hx, h0, hm, e, hl2⟩ := shf_nat ha hb ne
  rw [e] at q
  unfold w__law_shelf
  tm_at "nw"
  refine ⟨m.log2 + 1 + 1, ?_⟩
  exact loop_shelf a b m hx h0 (Nat.lt_of_lt_of_le hm (Nat.pow_le_pow_right (by decide) hk)) _ _ q (m.log2 + 1) 0 (by omega)
end K31

set_option Elab.async false
set_option linter.all false
set_option maxRecDepth 100000
set_option maxHeartbeats 0
namespace K31
open PySem PySem.Spec PyProof.Rows L2 N
local macro_rules | `(tactic| tm_at "nv") => `(tactic| try simp -implicitDefEqProofs only [wIndex_e, asLs_l, gSorted_d, lk_s_net, lk_s_target, lk_s_room, lk_s_known, lk_s_asked, lk_s_quiet, lk_s_hear, lk_s_best, lk_s_run, tbD, lk_own, lk_bits, lk_room, lk_shelves, lk_check, lk_see, lk_silent, lk_shelf, lk_names, lk_nearest, asSh_l, asSh_d, asShL_l, asShD_d, cont_r, cont_n, cont_b, cont_i, cont_s, cont_t, cont_l, cont_d, cont_o, contL_n, contL_c, wBinC_e, wCallC_e, wCallFC_e, wShF_e, wItC_e, wForE_e, wCompE_e, wComp2_e, wAppS_e, wRemS_e, wSetIxS_e, wPutS_e, wMakeG_e, noOwn_n, noOwn_o, noOwn_v, noOwn_z, gSorted_i, gSorted_p, Int.cast_ofNat_Int, Int.reduceEq, Int.reduceLT, Int.reduceLE, List.length_map, List.length_append, see_l, see_d, see_i, Nat.reduceAdd, Nat.reduceLeDiff, Nat.zero_le, wFn_e, startG_c, startG_n, startG_z, wSeq_e, wSet_e, wC_e, wFor_e, wIt_e, wVar_e, wVarB_e, getSl_z, getSl_s, List.set_cons_zero, List.set_cons_succ, wRet_e, wBin_e, gI_i, gI0_i, gB0_i, gAdd_i, gAdd_t, gAdd_l, gAdd_s, gMul_i, gMul_t, gMul_l, gEq_, gNe_, gIs_n, gIs_b, gIsNot_n, gIsNot_b, isNon_n, isNon_i, isNon_b, isNon_t, isNon_l, isNon_s, wIfS_e, wtOr_e, wtAnd_e, wtNot_e, wTst_e, wNext_e, wNev_e, wCall_e, wCallF_e, wFrz_e, wLst_e, wTup_e, waNil_e, waCons_e, wComp_e, wRng_e, gRng1_i, gRng2_i, gRng3_i, wUn_e, gNeg_i, gTuple_t, gTuple_l, gList_t, gList_l, gList_s, gLen_t, gLen_l, gLen_s, gLen_d, gInt_i, gInt_b, gAbs_i, gMax_i, gMin_i, wipeG, fName_e, wCallU_e, wCallK_e, List.append_nil, List.length_cons, List.length_nil, wSl_e, woNone_e, woSome_e, gSl_t, gSl_l, gIt_t, gIt_l, gIt_s, gIsi_i, gIsi_b, gIsi_t, gIsi_l, gIsi_s, gIsi_n, gIsi_d, wFld_e, wMeth_e, wMake_e, wMakeF_e, wSetF_e, wExt_e, wFz_e, wRev_e, wRaise_e, wTry_e, wBits_e, insOf_ins, lk_kind, lk_size, lk_digest, lk_is_digest, gEnum_t, gEnum_l, gZip_t, gZip_l, mem1, reduceCtorEq, eq_self, wAsg_e, fTup_e, fCons_e, fNil_e, wAnd_e, wOr_e, wNot_e, wIf_e, wPar_e, wAug_e, wApp_e, wSetO_e, wRetO_e, br_t, br_f, shp_int, shp_bl, shp_non, deq_int, gAll_b, gAny_b, gSum_i, wDrop_e, wRetN_e, true_and, and_true, decide_true, decide_false, Bool.not_true, Bool.not_false, isi_NoneType_bool, isi_NoneType_int, isi_NoneType_str, isi_NoneType_tuple, isi_NoneType_list, isi_NoneType_dict, isi_bool_bool, isi_bool_int, isi_bool_str, isi_bool_tuple, isi_bool_list, isi_bool_dict, isi_int_bool, isi_int_int, isi_int_str, isi_int_tuple, isi_int_list, isi_int_dict, isi_str_bool, isi_str_int, isi_str_str, isi_str_tuple, isi_str_list, isi_str_dict, isi_tuple_bool, isi_tuple_int, isi_tuple_str, isi_tuple_tuple, isi_tuple_list, isi_tuple_dict, isi_list_bool, isi_list_int, isi_list_str, isi_list_tuple, isi_list_list, isi_list_dict, isi_dict_bool, isi_dict_int, isi_dict_str, isi_dict_tuple, isi_dict_list, isi_dict_dict, okTy_bool, okTy_int, okTy_str, okTy_tuple, okTy_list, okTy_dict, List.cons_append, List.nil_append, wChn_e, wSetIxO_e, wGet1_e, wGet2_e, wPutO_e, wDnew_e, slV_v, slB_v, slB_l, slB_d, slB_i, slL_l, slD_d, asB_b, asI_i, asR_r, asT_t, asQ_t, asQ_l, asD_d, asK_i, asK_s, asC_c, as2_2, asO_s, asIns_i, fz_l, fz_i, fz_v, fz_n, wKeys_e, wItems_e, wVals_e, exL_hit, asRev_l, asRev_t, wtYes_e, wFzD_e, fzD_d, fzD_v])
local macro_rules | `(tactic| tm_at "nw") => `(tactic| (tm_at "nv"; repeat (with_reducible refine sq_i ?_; tm_at "nv")))
local macro_rules | `(tactic| tm_at "nc") => `(tactic| first | exact True.intro | omega | exact mulL (by omega) (by omega) | exact mulR (by omega) (by omega) | exact divOk (by omega) (by omega) | exact shlI (n := 1) (by decide) (by decide) (by omega) (by omega) | (simp only [List.length_append, List.length_map, List.length_cons, List.length_nil, List.length_replicate, List.length_flatten, List.map_replicate, List.sum_replicate_nat, List.length_range, rngL_len, rngC_len, List.cons_append, List.nil_append]; first | done | omega))
local macro_rules | `(tactic| tm_at "ns") => `(tactic| repeat (with_reducible refine And.intro (by first | tm_at "nc" | exact ⟨by tm_at "nc", by tm_at "nc"⟩ | exact ⟨by tm_at "nc", by tm_at "nc", by tm_at "nc"⟩ | exact ⟨by tm_at "nc", by tm_at "nc", by tm_at "nc", by tm_at "nc"⟩) ?_))
local macro_rules | `(tactic| tm_at "go") => `(tactic| (tm_at "nw"; repeat (first | (with_reducible refine And.intro (by first | tm_at "nc" | exact ⟨by tm_at "nc", by tm_at "nc"⟩ | exact ⟨by tm_at "nc", by tm_at "nc", by tm_at "nc"⟩) ?_) | (with_reducible refine sq_i ?_)); tm_at "nw"))
theorem putO_id {O : N.Om} {p : Addr} {m : MO} (h : O p = some m) : putO O p m = O := funext fun b => by
  by_cases z : b = p
  · rw [z, putO_same, h]
  · rw [putO_ne z]
theorem step_q {Om : N.Om} {own : Int} {bits : Nat} {room : Int} {qs : List Addr} {sh : List (List Int)} {name kind : Int} {i : Nat} {p : Addr} {l : List Int} {P : N.Om → Prop} (t : TabA Om own bits room qs sh) (ne : name ≠ own) (hi : shf own name = (i : Int)) (h1 : qs[i]? = some p) (h2 : sh[i]? = some l)
    (q : ∀ O, ShA O qs (stepP sh own room name kind) → (∀ b, b ∉ qs → O b = Om b) → P O) (l' : List Int) (e : (if kind = 0 then l.filter (fun x => x ≠ name) else if name ∈ l ∨ (l.length : Int) < room then l.filter (fun x => x ≠ name) ++ [name] else l) = l') : P (putO Om p (.lst (l'.map .int))) :=
  q _ (by rw [stepP_no ne hi h2, e]; exact t.at_.set h1 putO_same fun b nb => putO_ne nb) fun b nb => putO_ne fun z => nb (z ▸ List.mem_of_getElem? h1)
theorem m_Table_see (ds : List D) (Om : N.Om) (Q : D → N.Om → Prop) (R : RX) (hl : ds.length = 2) (h : sp_Table_see ds Om Q R) : wFn 3 w_Table_see ds Om Q R := by
  obtain ⟨own, bits, room, qs, sh, d, rfl, t, h⟩ := h
  unfold w_Table_see
  rcases h with ⟨name, rfl, hn, q⟩ | ⟨hd, hb, r⟩
  · tm_at "go"
    refine ⟨own, bits, room, qs, _, rfl, t.b2, rfl, fun _ => ?_, fun z => by rw [nameB_in hn] at z; cases z⟩
    tm_at "go"
    refine br_d (fun e => ?_) fun ne => ?_
    · subst e
      exact q Om (by rw [stepP_own]; exact t.at_) fun _ _ => rfl
    obtain ⟨i, hi, hlt⟩ := shf_lt t.ow hn (fun z => ne z.symm)
    obtain ⟨p, h1, h2, h3⟩ := t.at_.get (show i < sh.length by rw [t.gd.len]; exact hlt)
    generalize sh.getD i [] = l at h2 h3
    have hm : l ∈ sh := List.mem_of_getElem? h2
    have lz : (l.length : Int) ≤ 20 := Int.le_trans (t.gd.sz _ hm) t.r2
    have q := step_q (P := fun O => Q .non O) t ne hi h1 h2 q
    simp only [if_neg (show ¬ (1 : Int) = 0 by decide)] at q
    tm_at "go"
    refine ⟨own, name, rfl, ?_⟩
    tm_at "go"
    refine gIx_list (j := i) (by rw [hi]) (by rw [List.getElem?_map, h1]; rfl) ?_
    tm_at "go"
    rw [h3]
    tm_at "go"
    refine ⟨rfl, flD_ints _, ?_⟩
    rw [inD_ints, if_neg (by decide)]
    cases ec : l.contains name
    · have nm : name ∉ l := fun z => by rw [List.contains_iff_mem.mpr z] at ec; cases ec
      tm_at "go"
      refine br_d (fun hlr => ?_) fun hlr => ?_
      · have := q _ (if_pos (.inr hlr))
        rw [filter_no nm, List.map_append] at this
        exact ⟨by omega, this⟩
      · have := q _ (if_neg fun z => z.elim nm hlr)
        rw [putO_id h3] at this
        exact this
    · have nm : name ∈ l := List.contains_iff_mem.mp ec
      obtain ⟨j, e1, e2⟩ := erase_first (t.gd.nd _ hm) nm
      tm_at "go"
      refine ⟨l, j, rfl, e1, ?_⟩
      tm_at "go"
      rw [putO_same]
      tm_at "go"
      have lj := List.length_eraseIdx_le l j
      refine ⟨by omega, ?_⟩
      have := q _ (if_pos (.inl nm))
      rw [putO_put, e2]
      rw [List.map_append] at this
      exact this
  · tm_at "go"
    refine ⟨own, bits, room, qs, _, rfl, t.b2, hd, fun z => ?_, fun _ => r⟩
    rw [hb] at z
    cases z
theorem m_Table_silent (ds : List D) (Om : N.Om) (Q : D → N.Om → Prop) (R : RX) (hl : ds.length = 2) (h : sp_Table_silent ds Om Q R) : wFn 3 w_Table_silent ds Om Q R := by
  obtain ⟨own, bits, room, qs, sh, d, rfl, t, h⟩ := h
  unfold w_Table_silent
  rcases h with ⟨name, rfl, hn, q⟩ | ⟨hd, hb, r⟩
  · tm_at "go"
    refine ⟨own, bits, room, qs, _, rfl, t.b2, rfl, fun _ => ?_, fun z => by rw [nameB_in hn] at z; cases z⟩
    tm_at "go"
    refine br_if (fun e => ?_) fun e => ?_
    rotate_left
    · have e : name = own := by simpa using e
      subst e
      exact q Om (by rw [stepP_own]; exact t.at_) fun _ _ => rfl
    have ne : name ≠ own := by simpa using e
    obtain ⟨i, hi, hlt⟩ := shf_lt t.ow hn (fun z => ne z.symm)
    obtain ⟨p, h1, h2, h3⟩ := t.at_.get (show i < sh.length by rw [t.gd.len]; exact hlt)
    generalize sh.getD i [] = l at h2 h3
    have hm : l ∈ sh := List.mem_of_getElem? h2
    have lz : (l.length : Int) ≤ 20 := Int.le_trans (t.gd.sz _ hm) t.r2
    have q := step_q (P := fun O => Q .non O) t ne hi h1 h2 q _ (if_pos rfl)
    tm_at "go"
    refine ⟨own, name, rfl, ?_⟩
    tm_at "go"
    refine gIx_list (j := i) (by rw [hi]) (by rw [List.getElem?_map, h1]; rfl) ?_
    tm_at "go"
    rw [h3]
    tm_at "go"
    refine ⟨rfl, flD_ints _, ?_⟩
    rw [inD_ints, if_neg (by decide)]
    cases ec : l.contains name
    · have nm : name ∉ l := fun z => by rw [List.contains_iff_mem.mpr z] at ec; cases ec
      rw [filter_no nm, putO_id h3] at q
      exact q
    · have nm : name ∈ l := List.contains_iff_mem.mp ec
      obtain ⟨j, e1, e2⟩ := erase_first (t.gd.nd _ hm) nm
      tm_at "go"
      refine ⟨l, j, rfl, e1, ?_⟩
      rw [e2]
      exact q
  · tm_at "go"
    refine ⟨own, bits, room, qs, _, rfl, t.b2, hd, fun z => ?_, fun _ => r⟩
    rw [hb] at z
    cases z
end K31

set_option Elab.async false
set_option linter.all false
set_option maxRecDepth 100000
set_option maxHeartbeats 0
namespace K31
open PySem PySem.Spec PyProof.Rows L2 N
local macro_rules | `(tactic| tm_at "nv") => `(tactic| try simp -implicitDefEqProofs only [wIndex_e, asLs_l, gSorted_d, lk_s_net, lk_s_target, lk_s_room, lk_s_known, lk_s_asked, lk_s_quiet, lk_s_hear, lk_s_best, lk_s_run, tbD, lk_own, lk_bits, lk_room, lk_shelves, lk_check, lk_see, lk_silent, lk_shelf, lk_names, lk_nearest, asSh_l, asSh_d, asShL_l, asShD_d, cont_r, cont_n, cont_b, cont_i, cont_s, cont_t, cont_l, cont_d, cont_o, contL_n, contL_c, wBinC_e, wCallC_e, wCallFC_e, wShF_e, wItC_e, wForE_e, wCompE_e, wComp2_e, wAppS_e, wRemS_e, wSetIxS_e, wPutS_e, wMakeG_e, noOwn_n, noOwn_o, noOwn_v, noOwn_z, gSorted_i, gSorted_p, Int.cast_ofNat_Int, Int.reduceEq, Int.reduceLT, Int.reduceLE, List.length_map, List.length_append, see_l, see_d, see_i, Nat.reduceAdd, Nat.reduceLeDiff, Nat.zero_le, wFn_e, startG_c, startG_n, startG_z, wSeq_e, wSet_e, wC_e, wFor_e, wIt_e, wVar_e, wVarB_e, getSl_z, getSl_s, List.set_cons_zero, List.set_cons_succ, wRet_e, wBin_e, gI_i, gI0_i, gB0_i, gAdd_i, gAdd_t, gAdd_l, gAdd_s, gMul_i, gMul_t, gMul_l, gEq_, gNe_, gIs_n, gIs_b, gIsNot_n, gIsNot_b, isNon_n, isNon_i, isNon_b, isNon_t, isNon_l, isNon_s, wIfS_e, wtOr_e, wtAnd_e, wtNot_e, wTst_e, wNext_e, wNev_e, wCall_e, wCallF_e, wFrz_e, wLst_e, wTup_e, waNil_e, waCons_e, wComp_e, wRng_e, gRng1_i, gRng2_i, gRng3_i, wUn_e, gNeg_i, gTuple_t, gTuple_l, gList_t, gList_l, gList_s, gLen_t, gLen_l, gLen_s, gLen_d, gInt_i, gInt_b, gAbs_i, gMax_i, gMin_i, wipeG, fName_e, wCallU_e, wCallK_e, List.append_nil, List.length_cons, List.length_nil, wSl_e, woNone_e, woSome_e, gSl_t, gSl_l, gIt_t, gIt_l, gIt_s, gIsi_i, gIsi_b, gIsi_t, gIsi_l, gIsi_s, gIsi_n, gIsi_d, wFld_e, wMeth_e, wMake_e, wMakeF_e, wSetF_e, wExt_e, wFz_e, wRev_e, wRaise_e, wTry_e, wBits_e, insOf_ins, lk_kind, lk_size, lk_digest, lk_is_digest, gEnum_t, gEnum_l, gZip_t, gZip_l, mem1, reduceCtorEq, eq_self, wAsg_e, fTup_e, fCons_e, fNil_e, wAnd_e, wOr_e, wNot_e, wIf_e, wPar_e, wAug_e, wApp_e, wSetO_e, wRetO_e, br_t, br_f, shp_int, shp_bl, shp_non, deq_int, gAll_b, gAny_b, gSum_i, wDrop_e, wRetN_e, true_and, and_true, decide_true, decide_false, Bool.not_true, Bool.not_false, isi_NoneType_bool, isi_NoneType_int, isi_NoneType_str, isi_NoneType_tuple, isi_NoneType_list, isi_NoneType_dict, isi_bool_bool, isi_bool_int, isi_bool_str, isi_bool_tuple, isi_bool_list, isi_bool_dict, isi_int_bool, isi_int_int, isi_int_str, isi_int_tuple, isi_int_list, isi_int_dict, isi_str_bool, isi_str_int, isi_str_str, isi_str_tuple, isi_str_list, isi_str_dict, isi_tuple_bool, isi_tuple_int, isi_tuple_str, isi_tuple_tuple, isi_tuple_list, isi_tuple_dict, isi_list_bool, isi_list_int, isi_list_str, isi_list_tuple, isi_list_list, isi_list_dict, isi_dict_bool, isi_dict_int, isi_dict_str, isi_dict_tuple, isi_dict_list, isi_dict_dict, okTy_bool, okTy_int, okTy_str, okTy_tuple, okTy_list, okTy_dict, List.cons_append, List.nil_append, wChn_e, wSetIxO_e, wGet1_e, wGet2_e, wPutO_e, wDnew_e, slV_v, slB_v, slB_l, slB_d, slB_i, slL_l, slD_d, asB_b, asI_i, asR_r, asT_t, asQ_t, asQ_l, asD_d, asK_i, asK_s, asC_c, as2_2, asO_s, asIns_i, fz_l, fz_i, fz_v, fz_n, wKeys_e, wItems_e, wVals_e, exL_hit, asRev_l, asRev_t, wtYes_e, wFzD_e, fzD_d, fzD_v])
local macro_rules | `(tactic| tm_at "nw") => `(tactic| (tm_at "nv"; repeat (with_reducible refine sq_i ?_; tm_at "nv")))
local macro_rules | `(tactic| tm_at "nc") => `(tactic| first | exact True.intro | omega | exact mulL (by omega) (by omega) | exact mulR (by omega) (by omega) | exact divOk (by omega) (by omega) | exact shlI (n := 1) (by decide) (by decide) (by omega) (by omega) | (simp only [List.length_append, List.length_map, List.length_cons, List.length_nil, List.length_replicate, List.length_flatten, List.map_replicate, List.sum_replicate_nat, List.length_range, rngL_len, rngC_len, List.cons_append, List.nil_append]; first | done | omega))
local macro_rules | `(tactic| tm_at "ns") => `(tactic| repeat (with_reducible refine And.intro (by first | tm_at "nc" | exact ⟨by tm_at "nc", by tm_at "nc"⟩ | exact ⟨by tm_at "nc", by tm_at "nc", by tm_at "nc"⟩ | exact ⟨by tm_at "nc", by tm_at "nc", by tm_at "nc", by tm_at "nc"⟩) ?_))
local macro_rules | `(tactic| tm_at "go") => `(tactic| (tm_at "nw"; repeat (first | (with_reducible refine And.intro (by first | tm_at "nc" | exact ⟨by tm_at "nc", by tm_at "nc"⟩ | exact ⟨by tm_at "nc", by tm_at "nc", by tm_at "nc"⟩) ?_) | (with_reducible refine sq_i ?_)); tm_at "nw"))
structure NewA (O0 O : N.Om) (qs : List Addr) : Prop where
  nd : qs.Nodup
  at_ : ∀ q ∈ qs, O q = some (.lst []) ∧ O0 q = none
  kp : ∀ b, b ∉ qs → O b = O0 b
theorem turns_new {G : Gam} {O0 : N.Om} {i : Nat} {Q : List D → N.Om → Prop} : ∀ (items : List D) (qs : List Addr) (O : N.Om), NewA O0 O qs → qs.length + items.length ≤ 16777216 →
    (∀ qs' O', qs'.length = qs.length + items.length → NewA O0 O' qs' → Q (qs'.map .ref) O') → wTurns (fName i) wtYes (wShF (wLst waNil)) G items (qs.map .ref) O Q
  | [], qs, O, n, _, q => q qs O (by simp) n
  | d :: r, qs, O, n, l, q => by
    rw [List.length_cons] at l
    refine ⟨by rw [List.length_map]; omega, ?_⟩
    tm_at "go"
    intro p hp
    have np : p ∉ qs := fun z => by rw [(n.at_ p z).1] at hp; cases hp
    have n' : NewA O0 (putO O p (.lst [])) (qs ++ [p]) := by
      refine ⟨?_, fun x hx => ?_, fun b hb => ?_⟩
      · rw [List.nodup_append]
        refine ⟨n.nd, by simp, fun a ha b hb => ?_⟩
        simp only [List.mem_singleton] at hb
        subst hb
        exact fun z => np (z ▸ ha)
      · rcases List.mem_append.mp hx with hx | hx
        · have : x ≠ p := fun z => np (z ▸ hx)
          rw [putO_ne this]
          exact n.at_ x hx
        · simp only [List.mem_singleton] at hx
          subst hx
          refine ⟨putO_same, ?_⟩
          rw [← n.kp x np]; exact hp
      · simp only [List.mem_append, List.mem_singleton, not_or] at hb
        rw [putO_ne hb.2]
        exact n.kp b hb.1
    have := turns_new (G := G) (i := i) r (qs ++ [p]) _ n' (by simp; omega) fun qs' O' e n2 => q qs' O' (by rw [e]; simp; omega) n2
    rw [List.map_append] at this
    exact this
theorem m_TableA (ds : List D) (Om : N.Om) (Q : D → N.Om → Prop) (R : RX) (hl : ds.length = 4) (h : sp_TableA ds Om Q R) : wFn 5 w_Table___init__ ds Om Q R := by
  unfold w_Table___init__
  rcases h with ⟨a, own, bits, room, rfl, ha, b1, b2, r1, r2, ow, q⟩ | ⟨a, x, y, z, rfl, ha, hx, hy, hz, hb, r⟩
  · tm_at "go"
    refine ⟨.int (bits : Int), rfl, rfl, ?_⟩
    simp only [intB]
    tm_at "go"
    refine br_df (by omega) ?_
    tm_at "go"
    refine br_df (by omega) ?_
    tm_at "go"
    refine ⟨.int room, rfl, rfl, ?_⟩
    simp only [intB]
    tm_at "go"
    refine br_df (by omega) ?_
    tm_at "go"
    refine br_df (by omega) ?_
    tm_at "go"
    refine ⟨_, bits, rfl, b2, rfl, ?_⟩
    rw [nameB_in ow]
    tm_at "go"
    rw [ha]
    tm_at "go"
    rw [setN_nil, setV_nil, putO_same]
    tm_at "go"
    try (refine ⟨by decide, ?_⟩; tm_at "go")
    rw [putO_put, setN_miss (by decide), setN_nil, setV_miss (by decide), setV_nil, putO_same]
    tm_at "go"
    try (refine ⟨by decide, ?_⟩; tm_at "go")
    rw [putO_put, setN_miss (by decide), setN_miss (by decide), setN_nil, setV_miss (by decide), setV_miss (by decide), setV_nil]
    rw [Int.toNat_natCast]
    have hlen : (rngL 0 bits).length = bits := rngL_len
    refine turns_new (rngL 0 bits) [] _ (O0 := putO Om a (.ins TC ["own", "bits", "room"] [.int own, .int bits, .int room])) ⟨List.nodup_nil, fun _ h => (List.not_mem_nil h).elim, fun _ _ => rfl⟩ (by rw [hlen]; simp; omega) fun qs' O' e n => ?_
    have na : a ∉ qs' := fun z => by
      have := (n.at_ a z).2
      rw [putO_same] at this
      cases this
    tm_at "go"
    rw [n.kp a na, putO_same]
    tm_at "go"
    rw [setN_miss (by decide), setN_miss (by decide), setN_miss (by decide), setN_nil, setV_miss (by decide), setV_miss (by decide), setV_miss (by decide), setV_nil]
    refine q qs' _ (by rw [e, hlen]; simp) n.nd (fun x hx => ?_) putO_same fun b hb nb => ?_
    · have nx : x ≠ a := fun z => na (z ▸ hx)
      rw [putO_ne nx]
      have := n.at_ x hx
      rw [putO_ne nx] at this
      exact this
    · rw [putO_ne nb]
      have nq : b ∉ qs' := fun z => by
        have := (n.at_ b z).2
        rw [putO_ne nb] at this
        exact hb this
      rw [n.kp b nq, putO_ne nb]
  · have hpl : ∀ d : D, plD d = true → ∀ {K : D → N.Om → Prop} {R' : RX}, K (.bl (intB d)) Om → sp_is_integer [d] Om K R' := fun d hd K R' k => ⟨d, rfl, hd, k⟩
    tm_at "go"
    refine hpl y hy ?_
    cases y
    all_goals simp only [intB]
    all_goals try (tm_at "go"; exact r)
    rename_i b
    tm_at "go"
    refine br_d (fun _ => r) fun h1 => ?_
    tm_at "go"
    refine br_d (fun _ => r) fun h2 => ?_
    tm_at "go"
    refine hpl z hz ?_
    cases z
    all_goals simp only [intB]
    all_goals try (tm_at "go"; exact r)
    rename_i rm
    tm_at "go"
    refine br_d (fun _ => r) fun h3 => ?_
    tm_at "go"
    refine br_d (fun _ => r) fun h4 => ?_
    tm_at "go"
    obtain ⟨k, rfl⟩ : ∃ k : Nat, b = (k : Int) := ⟨b.toNat, by omega⟩
    refine ⟨x, k, rfl, by omega, hx, ?_⟩
    cases e : nameB x k
    · tm_at "go"
      exact r
    · obtain ⟨o, rfl, o0, o1⟩ := nameB_of e
      simp only [okT, Int.toNat_natCast] at hb
      rw [decide_eq_true (show 1 ≤ (k : Int) ∧ (k : Int) ≤ 24 by omega), decide_eq_true (show 1 ≤ rm ∧ rm ≤ 20 by omega), decide_eq_true (show 0 ≤ o ∧ o < 2 ^ k from ⟨o0, o1⟩)] at hb
      cases hb
theorem m_Table0 (ds : List D) (Om : N.Om) (Q : D → N.Om → Prop) (R : RX) (hl : ds.length = 4) (h : sp_Table___init__ ds Om Q R) : wFn 5 w_Table___init__ ds Om Q R := m_TableA ds Om Q R hl (.inl h)
end K31

set_option Elab.async false
set_option linter.all false
set_option maxRecDepth 100000
set_option maxHeartbeats 0
namespace K31
open PySem PySem.Spec PyProof.Rows L2 N
local macro_rules | `(tactic| tm_at "nv") => `(tactic| try simp -implicitDefEqProofs only [wIndex_e, asLs_l, gSorted_d, lk_s_net, lk_s_target, lk_s_room, lk_s_known, lk_s_asked, lk_s_quiet, lk_s_hear, lk_s_best, lk_s_run, tbD, lk_own, lk_bits, lk_room, lk_shelves, lk_check, lk_see, lk_silent, lk_shelf, lk_names, lk_nearest, asSh_l, asSh_d, asShL_l, asShD_d, cont_r, cont_n, cont_b, cont_i, cont_s, cont_t, cont_l, cont_d, cont_o, contL_n, contL_c, wBinC_e, wCallC_e, wCallFC_e, wShF_e, wItC_e, wForE_e, wCompE_e, wComp2_e, wAppS_e, wRemS_e, wSetIxS_e, wPutS_e, wMakeG_e, noOwn_n, noOwn_o, noOwn_v, noOwn_z, gSorted_i, gSorted_p, Int.cast_ofNat_Int, Int.reduceEq, Int.reduceLT, Int.reduceLE, List.length_map, List.length_append, see_l, see_d, see_i, Nat.reduceAdd, Nat.reduceLeDiff, Nat.zero_le, wFn_e, startG_c, startG_n, startG_z, wSeq_e, wSet_e, wC_e, wFor_e, wIt_e, wVar_e, wVarB_e, getSl_z, getSl_s, List.set_cons_zero, List.set_cons_succ, wRet_e, wBin_e, gI_i, gI0_i, gB0_i, gAdd_i, gAdd_t, gAdd_l, gAdd_s, gMul_i, gMul_t, gMul_l, gEq_, gNe_, gIs_n, gIs_b, gIsNot_n, gIsNot_b, isNon_n, isNon_i, isNon_b, isNon_t, isNon_l, isNon_s, wIfS_e, wtOr_e, wtAnd_e, wtNot_e, wTst_e, wNext_e, wNev_e, wCall_e, wCallF_e, wFrz_e, wLst_e, wTup_e, waNil_e, waCons_e, wComp_e, wRng_e, gRng1_i, gRng2_i, gRng3_i, wUn_e, gNeg_i, gTuple_t, gTuple_l, gList_t, gList_l, gList_s, gLen_t, gLen_l, gLen_s, gLen_d, gInt_i, gInt_b, gAbs_i, gMax_i, gMin_i, wipeG, fName_e, wCallU_e, wCallK_e, List.append_nil, List.length_cons, List.length_nil, wSl_e, woNone_e, woSome_e, gSl_t, gSl_l, gIt_t, gIt_l, gIt_s, gIsi_i, gIsi_b, gIsi_t, gIsi_l, gIsi_s, gIsi_n, gIsi_d, wFld_e, wMeth_e, wMake_e, wMakeF_e, wSetF_e, wExt_e, wFz_e, wRev_e, wRaise_e, wTry_e, wBits_e, insOf_ins, lk_kind, lk_size, lk_digest, lk_is_digest, gEnum_t, gEnum_l, gZip_t, gZip_l, mem1, reduceCtorEq, eq_self, wAsg_e, fTup_e, fCons_e, fNil_e, wAnd_e, wOr_e, wNot_e, wIf_e, wPar_e, wAug_e, wApp_e, wSetO_e, wRetO_e, br_t, br_f, shp_int, shp_bl, shp_non, deq_int, gAll_b, gAny_b, gSum_i, wDrop_e, wRetN_e, true_and, and_true, decide_true, decide_false, Bool.not_true, Bool.not_false, isi_NoneType_bool, isi_NoneType_int, isi_NoneType_str, isi_NoneType_tuple, isi_NoneType_list, isi_NoneType_dict, isi_bool_bool, isi_bool_int, isi_bool_str, isi_bool_tuple, isi_bool_list, isi_bool_dict, isi_int_bool, isi_int_int, isi_int_str, isi_int_tuple, isi_int_list, isi_int_dict, isi_str_bool, isi_str_int, isi_str_str, isi_str_tuple, isi_str_list, isi_str_dict, isi_tuple_bool, isi_tuple_int, isi_tuple_str, isi_tuple_tuple, isi_tuple_list, isi_tuple_dict, isi_list_bool, isi_list_int, isi_list_str, isi_list_tuple, isi_list_list, isi_list_dict, isi_dict_bool, isi_dict_int, isi_dict_str, isi_dict_tuple, isi_dict_list, isi_dict_dict, okTy_bool, okTy_int, okTy_str, okTy_tuple, okTy_list, okTy_dict, List.cons_append, List.nil_append, wChn_e, wSetIxO_e, wGet1_e, wGet2_e, wPutO_e, wDnew_e, slV_v, slB_v, slB_l, slB_d, slB_i, slL_l, slD_d, asB_b, asI_i, asR_r, asT_t, asQ_t, asQ_l, asD_d, asK_i, asK_s, asC_c, as2_2, asO_s, asIns_i, fz_l, fz_i, fz_v, fz_n, wKeys_e, wItems_e, wVals_e, exL_hit, asRev_l, asRev_t, wtYes_e, wFzD_e, fzD_d, fzD_v])
local macro_rules | `(tactic| tm_at "nw") => `(tactic| (tm_at "nv"; repeat (with_reducible refine sq_i ?_; tm_at "nv")))
local macro_rules | `(tactic| tm_at "nc") => `(tactic| first | exact True.intro | omega | exact mulL (by omega) (by omega) | exact mulR (by omega) (by omega) | exact divOk (by omega) (by omega) | exact shlI (n := 1) (by decide) (by decide) (by omega) (by omega) | (simp only [List.length_append, List.length_map, List.length_cons, List.length_nil, List.length_replicate, List.length_flatten, List.map_replicate, List.sum_replicate_nat, List.length_range, rngL_len, rngC_len, List.cons_append, List.nil_append]; first | done | omega))
local macro_rules | `(tactic| tm_at "ns") => `(tactic| repeat (with_reducible refine And.intro (by first | tm_at "nc" | exact ⟨by tm_at "nc", by tm_at "nc"⟩ | exact ⟨by tm_at "nc", by tm_at "nc", by tm_at "nc"⟩ | exact ⟨by tm_at "nc", by tm_at "nc", by tm_at "nc", by tm_at "nc"⟩) ?_))
local macro_rules | `(tactic| tm_at "go") => `(tactic| (tm_at "nw"; repeat (first | (with_reducible refine And.intro (by first | tm_at "nc" | exact ⟨by tm_at "nc", by tm_at "nc"⟩ | exact ⟨by tm_at "nc", by tm_at "nc", by tm_at "nc"⟩) ?_) | (with_reducible refine sq_i ?_)); tm_at "nw"))
theorem insOf_keep {O : N.Om} {d : D} {r : Nat × List Str × List D} {k : Addr} {l : List D} {m : MO} (h : insOf O d = some r) (hk : O k = some (.lst l)) : insOf (putO O k m) d = some r := by
  cases d <;> try exact h
  rename_i b
  have ne : b ≠ k := fun z => by
    subst z
    unfold insOf at h
    simp only [hk] at h
    cases h
  unfold insOf at h ⊢
  simp only [putO_ne ne]
  exact h
theorem loop_hear {d x : D} {vs : List D} {k : Addr} (Po : Post) : ∀ (names l : List Int) (O : N.Om) (x2 : Sl), insOf O d = some (SrC, srN, vs) → lk srN vs "known" = some (.ref k) → O k = some (.lst (l.map .int)) → l.length + names.length ≤ 1000000 →
    (∀ y, Po.nx [.val d, .val x, y] (putO O k (.lst ((hearP l names).map .int)))) →
    wForL (fName 2) w_Search_hear_b1 (names.map .int) [.val d, .val x, x2] O Po
  | [], l, O, x2, h1, h2, h3, _, h => wForL_n (by
      have := h x2
      rw [show hearP l [] = l from rfl, putO_id h3] at this
      exact this)
  | n :: names, l, O, x2, h1, h2, h3, h4, h => by
    rw [List.length_cons] at h4
    rw [List.map_cons]
    refine wForL_c ?_
    tm_at "go"
    rw [h1]
    tm_at "go"
    rw [h2]
    tm_at "go"
    rw [h3]
    tm_at "go"
    refine ⟨rfl, flD_ints _, ?_⟩
    rw [inD_ints, if_pos rfl]
    cases ec : l.contains n
    · have nm : n ∉ l := fun z => by rw [List.contains_iff_mem.mpr z] at ec; cases ec
      tm_at "go"
      have e : (l.map D.int ++ [D.int n]) = (l ++ [n]).map .int := by simp
      rw [e]
      refine loop_hear Po names (l ++ [n]) _ _ (insOf_keep h1 h3) h2 putO_same (by simp; omega) fun y => ?_
      rw [putO_put]
      have := h y
      rw [show hearP l (n :: names) = hearP (l ++ [n]) names by show hearP (if n ∈ l then l else l ++ [n]) names = _; rw [if_neg nm]] at this
      exact this
    · have nm : n ∈ l := List.contains_iff_mem.mp ec
      refine loop_hear Po names l O _ h1 h2 h3 (by omega) fun y => ?_
      have := h y
      rw [show hearP l (n :: names) = hearP l names by show hearP (if n ∈ l then l else l ++ [n]) names = _; rw [if_pos nm]] at this
      exact this
theorem m_Search_hear (ds : List D) (Om : N.Om) (Q : D → N.Om → Prop) (R : RX) (hl : ds.length = 2) (h : sp_Search_hear ds Om Q R) : wFn 3 w_Search_hear ds Om Q R := by
  obtain ⟨d, x, vs, k, l, names, rfl, h1, h2, h3, rfl, h4, q⟩ := h
  unfold w_Search_hear
  tm_at "go"
  exact loop_hear _ names l Om _ h1 h2 h3 h4 fun y => q
theorem cut_room {xs : List D} {room : Int} (h : 0 ≤ room) : cutD xs none (some room) = xs.take room.toNat := by
  obtain ⟨r, rfl⟩ := Int.eq_ofNat_of_zero_le h
  rw [Int.toNat_natCast]
  exact cut_to xs r
theorem m_Search_best (ds : List D) (Om : N.Om) (Q : D → N.Om → Prop) (R : RX) (hl : ds.length = 1) (h : sp_Search_best ds Om Q R) : wFn 2 w_Search_best ds Om Q R := by
  obtain ⟨bits, ns, target, room, k, a, q, s, rfl, sr, l1, l2, r0, qq⟩ := h
  unfold w_Search_best
  simp only [srV]
  tm_at "go"
  rw [sr.hk]
  tm_at "go"
  refine turnsE_filA (h := D.int) (g := D.int) (t := fun x => !s.quiet.contains x) s.known [] (by simp; omega) (fun x _ K1 K2 k1 k2 => ?_) ?_
  · tm_at "go"
    rw [sr.hq]
    tm_at "go"
    refine ⟨rfl, flD_ints _, ?_⟩
    rw [inD_ints, if_pos rfl]
    refine br_if (fun e => k1 e) fun e => k2 e
  · rw [List.nil_append]
    tm_at "go"
    refine ⟨_, s.known.filter fun x => !s.quiet.contains x, target, rfl, .inl rfl, Nat.le_trans (List.length_filter_le _ _) (by omega), ?_⟩
    tm_at "go"
    rw [cut_room r0, ← List.map_take]
    exact qq
end K31

set_option Elab.async false
set_option linter.all false
set_option maxRecDepth 100000
set_option maxHeartbeats 0
namespace K31
open PySem PySem.Spec PyProof.Rows L2 N
local macro_rules | `(tactic| tm_at "nv") => `(tactic| try simp -implicitDefEqProofs only [wIndex_e, asLs_l, gSorted_d, lk_s_net, lk_s_target, lk_s_room, lk_s_known, lk_s_asked, lk_s_quiet, lk_s_hear, lk_s_best, lk_s_run, tbD, lk_own, lk_bits, lk_room, lk_shelves, lk_check, lk_see, lk_silent, lk_shelf, lk_names, lk_nearest, asSh_l, asSh_d, asShL_l, asShD_d, cont_r, cont_n, cont_b, cont_i, cont_s, cont_t, cont_l, cont_d, cont_o, contL_n, contL_c, wBinC_e, wCallC_e, wCallFC_e, wShF_e, wItC_e, wForE_e, wCompE_e, wComp2_e, wAppS_e, wRemS_e, wSetIxS_e, wPutS_e, wMakeG_e, noOwn_n, noOwn_o, noOwn_v, noOwn_z, gSorted_i, gSorted_p, Int.cast_ofNat_Int, Int.reduceEq, Int.reduceLT, Int.reduceLE, List.length_map, List.length_append, see_l, see_d, see_i, Nat.reduceAdd, Nat.reduceLeDiff, Nat.zero_le, wFn_e, startG_c, startG_n, startG_z, wSeq_e, wSet_e, wC_e, wFor_e, wIt_e, wVar_e, wVarB_e, getSl_z, getSl_s, List.set_cons_zero, List.set_cons_succ, wRet_e, wBin_e, gI_i, gI0_i, gB0_i, gAdd_i, gAdd_t, gAdd_l, gAdd_s, gMul_i, gMul_t, gMul_l, gEq_, gNe_, gIs_n, gIs_b, gIsNot_n, gIsNot_b, isNon_n, isNon_i, isNon_b, isNon_t, isNon_l, isNon_s, wIfS_e, wtOr_e, wtAnd_e, wtNot_e, wTst_e, wNext_e, wNev_e, wCall_e, wCallF_e, wFrz_e, wLst_e, wTup_e, waNil_e, waCons_e, wComp_e, wRng_e, gRng1_i, gRng2_i, gRng3_i, wUn_e, gNeg_i, gTuple_t, gTuple_l, gList_t, gList_l, gList_s, gLen_t, gLen_l, gLen_s, gLen_d, gInt_i, gInt_b, gAbs_i, gMax_i, gMin_i, wipeG, fName_e, wCallU_e, wCallK_e, List.append_nil, List.length_cons, List.length_nil, wSl_e, woNone_e, woSome_e, gSl_t, gSl_l, gIt_t, gIt_l, gIt_s, gIsi_i, gIsi_b, gIsi_t, gIsi_l, gIsi_s, gIsi_n, gIsi_d, wFld_e, wMeth_e, wMake_e, wMakeF_e, wSetF_e, wExt_e, wFz_e, wRev_e, wRaise_e, wTry_e, wBits_e, insOf_ins, lk_kind, lk_size, lk_digest, lk_is_digest, gEnum_t, gEnum_l, gZip_t, gZip_l, mem1, reduceCtorEq, eq_self, wAsg_e, fTup_e, fCons_e, fNil_e, wAnd_e, wOr_e, wNot_e, wIf_e, wPar_e, wAug_e, wApp_e, wSetO_e, wRetO_e, br_t, br_f, shp_int, shp_bl, shp_non, deq_int, gAll_b, gAny_b, gSum_i, wDrop_e, wRetN_e, true_and, and_true, decide_true, decide_false, Bool.not_true, Bool.not_false, isi_NoneType_bool, isi_NoneType_int, isi_NoneType_str, isi_NoneType_tuple, isi_NoneType_list, isi_NoneType_dict, isi_bool_bool, isi_bool_int, isi_bool_str, isi_bool_tuple, isi_bool_list, isi_bool_dict, isi_int_bool, isi_int_int, isi_int_str, isi_int_tuple, isi_int_list, isi_int_dict, isi_str_bool, isi_str_int, isi_str_str, isi_str_tuple, isi_str_list, isi_str_dict, isi_tuple_bool, isi_tuple_int, isi_tuple_str, isi_tuple_tuple, isi_tuple_list, isi_tuple_dict, isi_list_bool, isi_list_int, isi_list_str, isi_list_tuple, isi_list_list, isi_list_dict, isi_dict_bool, isi_dict_int, isi_dict_str, isi_dict_tuple, isi_dict_list, isi_dict_dict, okTy_bool, okTy_int, okTy_str, okTy_tuple, okTy_list, okTy_dict, List.cons_append, List.nil_append, wChn_e, wSetIxO_e, wGet1_e, wGet2_e, wPutO_e, wDnew_e, slV_v, slB_v, slB_l, slB_d, slB_i, slL_l, slD_d, asB_b, asI_i, asR_r, asT_t, asQ_t, asQ_l, asD_d, asK_i, asK_s, asC_c, as2_2, asO_s, asIns_i, fz_l, fz_i, fz_v, fz_n, wKeys_e, wItems_e, wVals_e, exL_hit, asRev_l, asRev_t, wtYes_e, wFzD_e, fzD_d, fzD_v])
local macro_rules | `(tactic| tm_at "nw") => `(tactic| (tm_at "nv"; repeat (with_reducible refine sq_i ?_; tm_at "nv")))
local macro_rules | `(tactic| tm_at "nc") => `(tactic| first | exact True.intro | omega | exact mulL (by omega) (by omega) | exact mulR (by omega) (by omega) | exact divOk (by omega) (by omega) | exact shlI (n := 1) (by decide) (by decide) (by omega) (by omega) | (simp only [List.length_append, List.length_map, List.length_cons, List.length_nil, List.length_replicate, List.length_flatten, List.map_replicate, List.sum_replicate_nat, List.length_range, rngL_len, rngC_len, List.cons_append, List.nil_append]; first | done | omega))
local macro_rules | `(tactic| tm_at "ns") => `(tactic| repeat (with_reducible refine And.intro (by first | tm_at "nc" | exact ⟨by tm_at "nc", by tm_at "nc"⟩ | exact ⟨by tm_at "nc", by tm_at "nc", by tm_at "nc"⟩ | exact ⟨by tm_at "nc", by tm_at "nc", by tm_at "nc", by tm_at "nc"⟩) ?_))
local macro_rules | `(tactic| tm_at "go") => `(tactic| (tm_at "nw"; repeat (first | (with_reducible refine And.intro (by first | tm_at "nc" | exact ⟨by tm_at "nc", by tm_at "nc"⟩ | exact ⟨by tm_at "nc", by tm_at "nc", by tm_at "nc"⟩) ?_) | (with_reducible refine sq_i ?_)); tm_at "nw"))
theorem getD_net (bits : Nat) (x : Int) : ∀ ns : List Nd, getD (ns.map fun n => Sum.inl n.own) (ns.map (ndD bits)) (.inl x) = (ns.find? fun n => decide (n.own = x)).map (ndD bits)
  | [] => rfl
  | n :: ns => by
    have ih := getD_net bits x ns
    by_cases e : n.own = x
    · subst e
      simp [getD]
    · have e1 : (Sum.inl n.own : Key) ≠ .inl x := fun z => e (by cases z; rfl)
      rw [List.map_cons, List.map_cons, getD, if_neg e1, ih, List.find?_cons_of_neg (by simpa using e)]
theorem gIn_net {bits : Nat} {ns : List Nd} {x : Int} {K : D → Prop} (k : K (.bl (decide (x ∈ owns ns)))) : gIn false (.int x) (netD bits ns) K := by
  simp only [netD, gIn, keyD, getD_net]
  rw [if_neg (by decide)]
  by_cases h : x ∈ owns ns
  · obtain ⟨n, e, _, _⟩ := find_own h
    rw [e]
    rw [decide_eq_true h] at k
    exact k
  · have : ns.find? (fun n => decide (n.own = x)) = none := List.find?_eq_none.mpr fun n hn => by
      have : n.own ≠ x := fun z => h (z ▸ List.mem_map.mpr ⟨n, hn, rfl⟩)
      simpa using this
    rw [this]
    rw [decide_eq_false h] at k
    exact k
theorem gNotIn_net {bits : Nat} {ns : List Nd} {x : Int} {K : D → Prop} (k : K (.bl (!decide (x ∈ owns ns)))) : gIn true (.int x) (netD bits ns) K := by
  simp only [netD, gIn, keyD, getD_net, if_true]
  by_cases h : x ∈ owns ns
  · obtain ⟨n, e, _, _⟩ := find_own h
    rw [e]
    rw [decide_eq_true h] at k
    exact k
  · have : ns.find? (fun n => decide (n.own = x)) = none := List.find?_eq_none.mpr fun n hn => by
      have : n.own ≠ x := fun z => h (z ▸ List.mem_map.mpr ⟨n, hn, rfl⟩)
      simpa using this
    rw [this]
    rw [decide_eq_false h] at k
    exact k
theorem gIx_net {bits : Nat} {ns : List Nd} {n : Nd} (nd : (owns ns).Nodup) (hn : n ∈ ns) {K : D → Prop} (k : K (ndD bits n)) : gIx (netD bits ns) (.int n.own) K := by
  simp only [netD, gIx, keyD, getD_net, find_eq nd hn]
  exact k
theorem netA_keep {O O' : N.Om} {bits : Nat} {ns : List Nd} (h : NetA O bits ns) (k : ∀ n ∈ ns, ∀ q ∈ n.qs, O' q = O q) : NetA O' bits ns :=
  ⟨fun n hn => (h.tab n hn).keep (k n hn), h.nd, h.dj, h.pl, h.b1, h.b16, h.sz⟩
theorem two16 {bits : Nat} (h : bits ≤ 16) : 2 ^ bits ≤ 65536 := Nat.le_trans (Nat.pow_le_pow_right (by decide) h) (by decide)
theorem heard_len {ns : List Nd} {room t x : Int} (h : room ≤ 20) : (heardS ns room t x).length ≤ 20 := by
  unfold heardS; rw [List.length_take]; omega
/-- the names that are still to be asked -/
theorem wait_turns {target room : Int} {k a q : Addr} {s : LS} {O : N.Om} {f : WG} {we : WE} {G : Gam} {wt : WT} (sr : SrA O k a q s) (hz : (bestS room target s).length ≤ 1000000) {Q : List D → N.Om → Prop}
    (hs : ∀ (x : Int) (K1 : D → N.Om → Prop) (K2 : N.Om → Prop), br (!s.asked.contains x) (K1 (.int x) O) (K2 O) → f (.int x) G fun G2 => wt G2 O (fun b O2 => br b (we G2 O2 K1 noR) (K2 O2)) noR)
    (qq : Q ((waitS room target s).map .int) O) : wTurns f wt we G ((bestS room target s).map .int) [] O Q := by
  refine turns_filA (h := D.int) (g := D.int) (t := fun x => !s.asked.contains x) _ [] (by simp; omega) (fun x _ K1 K2 k1 k2 => ?_) qq
  exact hs x K1 K2 (br_if (fun e => k1 e) fun e => k2 e)
theorem best_len {room t : Int} {s : LS} : (bestS room t s).length ≤ s.known.length := by
  unfold bestS
  rw [List.length_take, ordI_len]
  have := List.length_filter_le (fun x => !s.quiet.contains x) s.known
  omega
theorem isSome_net {bits : Nat} {ns : List Nd} {x : Int} : (getD (ns.map fun n => Sum.inl n.own) (ns.map (ndD bits)) (.inl x)).isSome = decide (x ∈ owns ns) := by
  rw [getD_net]
  by_cases h : x ∈ owns ns
  · obtain ⟨n, e, _, _⟩ := find_own h
    rw [e, decide_eq_true h]; rfl
  · have : ns.find? (fun n => decide (n.own = x)) = none := List.find?_eq_none.mpr fun n hn => by
      have : n.own ≠ x := fun z => h (z ▸ List.mem_map.mpr ⟨n, hn, rfl⟩)
      simpa using this
    rw [this, decide_eq_false h]; rfl
def w_Search_run_b1_c3 : WS := (wSet 1 (wFrz (wComp (wIt (wMeth 25 "best" 1 sp_Search_best (wVar 0) waNil)) (fName 3) (wTst (wBinC (gIn true) (wVarB 3) (wFld [25] "asked" (wVarB 0)))) (wVar 3) [3])))
theorem w_Search_run_b1_eq : w_Search_run_b1 = (wSeq (wSet 2 (wBin gIx (wVarB 1) (wC (.int 0)))) (wSeq (wDrop (wAppS (wFld [25] "asked" (wVarB 0)) (wVar 2))) (wSeq (wIfS (wTst (wBin (gIn false) (wVarB 2) (wFld [25] "net" (wVarB 0)))) (wDrop (wMeth 25 "hear" 2 sp_Search_hear (wVar 0) (waCons (wMeth 24 "nearest" 3 sp_Table_nearest (wBin gIx (wFld [25] "net" (wVarB 0)) (wVarB 2)) (waCons (wFld [25] "target" (wVarB 0)) (waCons (wFld [25] "room" (wVarB 0)) waNil))) waNil))) (wDrop (wAppS (wFld [25] "quiet" (wVarB 0)) (wVar 2)))) w_Search_run_b1_c3))) := rfl
theorem loop_run {bits : Nat} {ns : List Nd} {target room : Int} {k a q : Addr} (ap : Apart ns k a q) (it : inN bits target) (r1 : 1 ≤ room) (r2 : room ≤ 20) (Po : Post) (O0 : N.Om) : ∀ (n : Nat) (s : LS) (O : N.Om) (x2 x3 : Sl), SrA O k a q s → NetA O bits ns → (∀ b, b ≠ k → b ≠ a → b ≠ q → O b = O0 b) → LsOk bits s → 2 ^ bits < s.asked.length + n →
    (∀ O' y2 y3, SrA O' k a q (runS ns room target n s) → (∀ b, b ≠ k → b ≠ a → b ≠ q → O' b = O0 b) → LsOk bits (runS ns room target n s) → Po.nx [.val (.ins SrC srN (srV bits ns target room k a q)), .val (.lst ((waitS room target (runS ns room target n s)).map .int)), y2, y3] O') →
    wWhN (wTst (wBin (gNe) (wVarB 1) (wFrz (wLst waNil)))) (w_Search_run_b1) (n + 1) [.val (.ins SrC srN (srV bits ns target room k a q)), .val (.lst ((waitS room target s).map .int)), x2, x3] O Po
  | n, s, O, x2, x3, sr, na, ko, ok, hl, h => by
    have b16 := two16 na.b16
    have lk := ok.known
    have la := ok.asked
    have lq := ok.ql
    unfold wWhN
    rw [w_Search_run_b1_eq]
    tm_at "go"
    cases e : waitS room target s with
    | nil =>
      refine ⟨shp_lints [], shp_lints [], ?_⟩
      rw [show deq (.lst (([] : List Int).map .int)) (.lst []) = true from deq_refl (shp_lints [])]
      tm_at "go"
      have er : runS ns room target n s = s := by
        cases n with
        | zero => rfl
        | succ n => unfold runS; rw [e]
      have := h O x2 x3 (by rw [er]; exact sr) ko (by rw [er]; exact ok)
      rw [er, e] at this
      exact this
    | cons x r =>
      cases n with
      | zero => omega
      | succ n =>
      have hxm : x ∈ waitS room target s := by rw [e]; exact List.mem_cons_self
      have er : runS ns room target (n + 1) s = runS ns room target n (stepS ns room target s x) := by
        conv => lhs; unfold runS
        rw [e]
      have ok' := ok.step na hxm
      have ask' := step_asked ns room target x s
      rw [er] at h
      refine ⟨shp_lints _, shp_lints [], ?_⟩
      rw [show deq (.lst ((x :: r).map .int)) (.lst []) = false by rw [show (.lst [] : D) = .lst (([] : List Int).map .int) from rfl, deq_lints]; simp]
      have next : ∀ O2, SrA O2 k a q (stepS ns room target s x) → NetA O2 bits ns → (∀ b, b ≠ k → b ≠ a → b ≠ q → O2 b = O0 b) → ∀ y2 y3,
          w_Search_run_b1_c3 [.val (.ins SrC srN (srV bits ns target room k a q)), y2, .val (.int x), y3] O2 { nx := fun G' O' => wWhN (wTst (wBin (gNe) (wVarB 1) (wFrz (wLst waNil)))) (w_Search_run_b1) (n + 1) G' O' Po, rt := Po.rt, bk := Po.nx, ct := fun G' O' => wWhN (wTst (wBin (gNe) (wVarB 1) (wFrz (wLst waNil)))) (w_Search_run_b1) (n + 1) G' O' Po, ex := Po.ex } := fun O2 sr2 na2 ko2 y2 y3 => by
        have lk' := ok'.known
        have la' := ok'.asked
        have lq' := ok'.ql
        unfold w_Search_run_b1_c3
        simp only [srV]
        tm_at "go"
        refine ⟨bits, ns, target, room, k, a, q, stepS ns room target s x, rfl, sr2, by omega, by omega, by omega, ?_⟩
        tm_at "go"
        refine wait_turns sr2 (Nat.le_trans best_len (by omega)) (fun z K1 K2 hb => ?_) ?_
        · tm_at "go"
          rw [sr2.ha]
          tm_at "go"
          refine ⟨rfl, flD_ints _, ?_⟩
          rw [inD_ints, if_pos rfl]
          exact hb
        · exact loop_run ap it r1 r2 Po O0 n _ O2 _ _ sr2 na2 ko2 ok' (by rw [ask', List.length_append, List.length_singleton]; omega) h
      simp only [srV]
      tm_at "go"
      refine gIx_list (j := 0) rfl rfl ?_
      tm_at "go"
      rw [sr.ha]
      tm_at "go"
      have e1 : (s.asked.map D.int ++ [D.int x]) = (s.asked ++ [x]).map .int := by simp
      rw [e1]
      have hk1 : (putO O a (.lst ((s.asked ++ [x]).map .int))) k = _ := (putO_ne sr.ka).trans sr.hk
      have hq1 : (putO O a (.lst ((s.asked ++ [x]).map .int))) q = _ := (putO_ne sr.aq.symm).trans sr.hq
      have ha1 : (putO O a (.lst ((s.asked ++ [x]).map .int))) a = _ := putO_same
      have ko1 : ∀ b, b ≠ k → b ≠ a → b ≠ q → (putO O a (.lst ((s.asked ++ [x]).map .int))) b = O0 b := fun b h1 h2 h3 => (putO_ne h2).trans (ko b h1 h2 h3)
      have na1 : NetA (putO O a (.lst ((s.asked ++ [x]).map .int))) bits ns := netA_keep na fun m hm p hp => putO_ne fun z => ap.a m hm (z ▸ hp)
      generalize putO O a (.lst ((s.asked ++ [x]).map .int)) = O1 at *
      refine gIn_net ?_
      tm_at "go"
      refine br_d (fun ho => ?_) fun ho => ?_
      · have st : stepS ns room target s x = ⟨hearP s.known (heardS ns room target x), s.asked ++ [x], s.quiet⟩ := if_pos ho
        obtain ⟨m, hm, rfl⟩ := List.mem_map.mp ho
        refine gIx_net na1.nd hm ?_
        simp only [ndD]
        tm_at "go"
        obtain ⟨rm, hrm⟩ := Int.eq_ofNat_of_zero_le (show 0 ≤ room by omega)
        refine ⟨m.own, bits, m.room, m.qs, m.sh, _, rm, by rw [hrm]; rfl, na1.tab m hm, .inl ⟨target, rfl, it, ?_⟩⟩
        have eh : (ordI m.sh.flatten target).take rm = heardS ns room target m.own := by
          unfold heardS
          rw [namesOf_eq na1.nd hm, hrm, Int.toNat_natCast]
        rw [eh]
        have hl20 := heard_len (ns := ns) (t := target) (x := m.own) r2
        refine ⟨_, _, [netD bits ns, .int target, .int room, .ref k, .ref a, .ref q], k, s.known, heardS ns room target m.own, rfl, rfl, lk_s_known, hk1, rfl, by omega, ?_⟩
        tm_at "go"
        refine next _ ?_ ?_ ?_ _ _
        · rw [st]
          exact ⟨putO_same, (putO_ne sr.ka.symm).trans ha1, (putO_ne sr.kq.symm).trans hq1, sr.ka, sr.kq, sr.aq⟩
        · exact netA_keep na1 fun m hm p hp => putO_ne fun z => ap.k m hm (z ▸ hp)
        · exact fun b h1 h2 h3 => (putO_ne h1).trans (ko1 b h1 h2 h3)
      · have st : stepS ns room target s x = ⟨s.known, s.asked ++ [x], s.quiet ++ [x]⟩ := if_neg ho
        rw [hq1]
        tm_at "go"
        have e2 : (s.quiet.map D.int ++ [D.int x]) = (s.quiet ++ [x]).map .int := by simp
        rw [e2]
        refine next _ ?_ ?_ ?_ _ _
        · rw [st]
          exact ⟨(putO_ne sr.kq).trans hk1, (putO_ne sr.aq).trans ha1, putO_same, sr.ka, sr.kq, sr.aq⟩
        · exact netA_keep na1 fun m hm p hp => putO_ne fun z => ap.q m hm (z ▸ hp)
        · exact fun b h1 h2 h3 => (putO_ne h3).trans (ko1 b h1 h2 h3)
def w_Search_run_c2 : WS := (wRet (wTup (waCons (wCall gTuple (waCons (wMeth 25 "best" 1 sp_Search_best (wVar 0) waNil) waNil)) (waCons (wCallC gTuple (waCons (wFld [25] "asked" (wVarB 0)) waNil)) waNil))))
theorem w_Search_run_eq : w_Search_run = (wSeq (wSet 1 (wFrz (wComp (wIt (wMeth 25 "best" 1 sp_Search_best (wVar 0) waNil)) (fName 2) (wTst (wBinC (gIn true) (wVarB 2) (wFld [25] "asked" (wVarB 0)))) (wVar 2) [2]))) (wSeq (wWh (wTst (wBin (gNe) (wVarB 1) (wFrz (wLst waNil)))) (w_Search_run_b1)) w_Search_run_c2)) := rfl
theorem m_Search_run (ds : List D) (Om : N.Om) (Q : D → N.Om → Prop) (R : RX) (hl : ds.length = 1) (h : sp_Search_run ds Om Q R) : wFn 4 w_Search_run ds Om Q R := by
  obtain ⟨bits, ns, target, room, k, a, q, s, rfl, sr, ap, na, it, r1, r2, ok, qq⟩ := h
  have b16 := two16 na.b16
  have lk := ok.known
  have la := ok.asked
  have lq := ok.ql
  unfold w_Search_run
  have start : ∀ x2, (wSeq (wWh (wTst (wBin (gNe) (wVarB 1) (wFrz (wLst waNil)))) (w_Search_run_b1)) w_Search_run_c2) [.val (.ins SrC srN (srV bits ns target room k a q)), .val (.lst ((waitS room target s).map .int)), x2, .no] Om { nx := fun x O => Q .non O, rt := Q, bk := fun x x_1 => False, ct := fun x x_1 => False, ex := fun x x_1 O => R x O } := fun x2 => by
    rw [wSeq_e]
    refine ⟨2 ^ bits + 1 + 1, ?_⟩
    refine loop_run ap it r1 r2 _ Om (2 ^ bits + 1) s Om x2 _ sr na (fun _ _ _ _ => rfl) ok (by omega) fun O' y2 y3 sr' ko' ok' => ?_
    have lk' := ok'.known
    have la' := ok'.asked
    have lq' := ok'.ql
    tm_at "go"
    unfold w_Search_run_c2
    simp only [srV]
    tm_at "go"
    refine ⟨bits, ns, target, room, k, a, q, _, rfl, sr', by omega, by omega, by omega, ?_⟩
    tm_at "go"
    rw [sr'.ha]
    tm_at "go"
    exact qq O' _ rfl ko'
  show (wSeq (wSet 1 _) (wSeq (wWh _ (w_Search_run_b1)) w_Search_run_c2)) _ _ _
  simp only [srV]
  tm_at "go"
  refine ⟨bits, ns, target, room, k, a, q, s, rfl, sr, by omega, by omega, by omega, ?_⟩
  tm_at "go"
  refine wait_turns sr (Nat.le_trans best_len (by omega)) (fun z K1 K2 hb => ?_) ?_
  · tm_at "go"
    rw [sr.ha]
    tm_at "go"
    refine ⟨rfl, flD_ints _, ?_⟩
    rw [inD_ints, if_pos rfl]
    exact hb
  · exact start _
end K31

set_option Elab.async false
set_option linter.all false
set_option maxRecDepth 100000
set_option maxHeartbeats 0
namespace K31
open PySem PySem.Spec PyProof.Rows L2 N
local macro_rules | `(tactic| tm_at "nv") => `(tactic| try simp -implicitDefEqProofs only [wIndex_e, asLs_l, gSorted_d, lk_s_net, lk_s_target, lk_s_room, lk_s_known, lk_s_asked, lk_s_quiet, lk_s_hear, lk_s_best, lk_s_run, tbD, lk_own, lk_bits, lk_room, lk_shelves, lk_check, lk_see, lk_silent, lk_shelf, lk_names, lk_nearest, asSh_l, asSh_d, asShL_l, asShD_d, cont_r, cont_n, cont_b, cont_i, cont_s, cont_t, cont_l, cont_d, cont_o, contL_n, contL_c, wBinC_e, wCallC_e, wCallFC_e, wShF_e, wItC_e, wForE_e, wCompE_e, wComp2_e, wAppS_e, wRemS_e, wSetIxS_e, wPutS_e, wMakeG_e, noOwn_n, noOwn_o, noOwn_v, noOwn_z, gSorted_i, gSorted_p, Int.cast_ofNat_Int, Int.reduceEq, Int.reduceLT, Int.reduceLE, List.length_map, List.length_append, see_l, see_d, see_i, Nat.reduceAdd, Nat.reduceLeDiff, Nat.zero_le, wFn_e, startG_c, startG_n, startG_z, wSeq_e, wSet_e, wC_e, wFor_e, wIt_e, wVar_e, wVarB_e, getSl_z, getSl_s, List.set_cons_zero, List.set_cons_succ, wRet_e, wBin_e, gI_i, gI0_i, gB0_i, gAdd_i, gAdd_t, gAdd_l, gAdd_s, gMul_i, gMul_t, gMul_l, gEq_, gNe_, gIs_n, gIs_b, gIsNot_n, gIsNot_b, isNon_n, isNon_i, isNon_b, isNon_t, isNon_l, isNon_s, wIfS_e, wtOr_e, wtAnd_e, wtNot_e, wTst_e, wNext_e, wNev_e, wCall_e, wCallF_e, wFrz_e, wLst_e, wTup_e, waNil_e, waCons_e, wComp_e, wRng_e, gRng1_i, gRng2_i, gRng3_i, wUn_e, gNeg_i, gTuple_t, gTuple_l, gList_t, gList_l, gList_s, gLen_t, gLen_l, gLen_s, gLen_d, gInt_i, gInt_b, gAbs_i, gMax_i, gMin_i, wipeG, fName_e, wCallU_e, wCallK_e, List.append_nil, List.length_cons, List.length_nil, wSl_e, woNone_e, woSome_e, gSl_t, gSl_l, gIt_t, gIt_l, gIt_s, gIsi_i, gIsi_b, gIsi_t, gIsi_l, gIsi_s, gIsi_n, gIsi_d, wFld_e, wMeth_e, wMake_e, wMakeF_e, wSetF_e, wExt_e, wFz_e, wRev_e, wRaise_e, wTry_e, wBits_e, insOf_ins, lk_kind, lk_size, lk_digest, lk_is_digest, gEnum_t, gEnum_l, gZip_t, gZip_l, mem1, reduceCtorEq, eq_self, wAsg_e, fTup_e, fCons_e, fNil_e, wAnd_e, wOr_e, wNot_e, wIf_e, wPar_e, wAug_e, wApp_e, wSetO_e, wRetO_e, br_t, br_f, shp_int, shp_bl, shp_non, deq_int, gAll_b, gAny_b, gSum_i, wDrop_e, wRetN_e, true_and, and_true, decide_true, decide_false, Bool.not_true, Bool.not_false, isi_NoneType_bool, isi_NoneType_int, isi_NoneType_str, isi_NoneType_tuple, isi_NoneType_list, isi_NoneType_dict, isi_bool_bool, isi_bool_int, isi_bool_str, isi_bool_tuple, isi_bool_list, isi_bool_dict, isi_int_bool, isi_int_int, isi_int_str, isi_int_tuple, isi_int_list, isi_int_dict, isi_str_bool, isi_str_int, isi_str_str, isi_str_tuple, isi_str_list, isi_str_dict, isi_tuple_bool, isi_tuple_int, isi_tuple_str, isi_tuple_tuple, isi_tuple_list, isi_tuple_dict, isi_list_bool, isi_list_int, isi_list_str, isi_list_tuple, isi_list_list, isi_list_dict, isi_dict_bool, isi_dict_int, isi_dict_str, isi_dict_tuple, isi_dict_list, isi_dict_dict, okTy_bool, okTy_int, okTy_str, okTy_tuple, okTy_list, okTy_dict, List.cons_append, List.nil_append, wChn_e, wSetIxO_e, wGet1_e, wGet2_e, wPutO_e, wDnew_e, slV_v, slB_v, slB_l, slB_d, slB_i, slL_l, slD_d, asB_b, asI_i, asR_r, asT_t, asQ_t, asQ_l, asD_d, asK_i, asK_s, asC_c, as2_2, asO_s, asIns_i, fz_l, fz_i, fz_v, fz_n, wKeys_e, wItems_e, wVals_e, exL_hit, asRev_l, asRev_t, wtYes_e, wFzD_e, fzD_d, fzD_v])
local macro_rules | `(tactic| tm_at "nw") => `(tactic| (tm_at "nv"; repeat (with_reducible refine sq_i ?_; tm_at "nv")))
local macro_rules | `(tactic| tm_at "nc") => `(tactic| first | exact True.intro | omega | exact mulL (by omega) (by omega) | exact mulR (by omega) (by omega) | exact divOk (by omega) (by omega) | exact shlI (n := 1) (by decide) (by decide) (by omega) (by omega) | (simp only [List.length_append, List.length_map, List.length_cons, List.length_nil, List.length_replicate, List.length_flatten, List.map_replicate, List.sum_replicate_nat, List.length_range, rngL_len, rngC_len, List.cons_append, List.nil_append]; first | done | omega))
local macro_rules | `(tactic| tm_at "ns") => `(tactic| repeat (with_reducible refine And.intro (by first | tm_at "nc" | exact ⟨by tm_at "nc", by tm_at "nc"⟩ | exact ⟨by tm_at "nc", by tm_at "nc", by tm_at "nc"⟩ | exact ⟨by tm_at "nc", by tm_at "nc", by tm_at "nc", by tm_at "nc"⟩) ?_))
local macro_rules | `(tactic| tm_at "go") => `(tactic| (tm_at "nw"; repeat (first | (with_reducible refine And.intro (by first | tm_at "nc" | exact ⟨by tm_at "nc", by tm_at "nc"⟩ | exact ⟨by tm_at "nc", by tm_at "nc", by tm_at "nc"⟩) ?_) | (with_reducible refine sq_i ?_)); tm_at "nw"))
theorem m_Search___init__ (ds : List D) (Om : N.Om) (Q : D → N.Om → Prop) (R : RX) (hl : ds.length = 4) (h : sp_Search___init__ ds Om Q R) : wFn 4 w_Search___init__ ds Om Q R := by
  obtain ⟨b, bits, ns, start, target, rfl, hb, na, it, ho, qq⟩ := h
  obtain ⟨m, hm, rfl⟩ := List.mem_map.mp ho
  have rm := roomOf_eq na.nd hm
  have tm := na.tab m hm
  have tr1 := tm.r1
  have tr2 := tm.r2
  unfold w_Search___init__
  tm_at "go"
  rw [hb]
  tm_at "go"
  rw [setN_nil, setV_nil, putO_same]
  tm_at "go"
  try (refine ⟨by decide, ?_⟩; tm_at "go")
  rw [putO_put, setN_miss (by decide), setN_nil, setV_miss (by decide), setV_nil]
  refine gIx_net na.nd hm ?_
  simp only [ndD]
  tm_at "go"
  rw [putO_same]
  tm_at "go"
  try (refine ⟨by decide, ?_⟩; tm_at "go")
  rw [putO_put, setN_miss (by decide), setN_miss (by decide), setN_nil, setV_miss (by decide), setV_miss (by decide), setV_nil]
  have nb0 : ∀ c, (putO Om b (.ins SrC ["net", "target", "room"] [netD bits ns, .int target, .int m.room])) c = none → c ≠ b ∧ Om c = none := fun c hc => by
    have : c ≠ b := fun z => by rw [z, putO_same] at hc; cases hc
    rw [putO_ne this] at hc
    exact ⟨this, hc⟩
  intro k hk
  obtain ⟨kb, hk⟩ := nb0 k hk
  rw [putO_ne kb.symm, putO_same]
  tm_at "go"
  rw [setN_miss (by decide), setN_miss (by decide), setN_miss (by decide), setN_nil, setV_miss (by decide), setV_miss (by decide), setV_miss (by decide), setV_nil]
  have h1 : ∀ O1, O1 = putO (putO (putO Om b (.ins SrC ["net", "target", "room"] [netD bits ns, .int target, .int m.room])) k (.lst [.int m.own])) b (.ins SrC ["net", "target", "room", "known"] [netD bits ns, .int target, .int m.room, .ref k]) →
      O1 b = some (.ins SrC ["net", "target", "room", "known"] [netD bits ns, .int target, .int m.room, .ref k]) ∧ O1 k = some (.lst [.int m.own]) ∧ ∀ c, c ≠ b → c ≠ k → O1 c = Om c := fun O1 e => by
    subst e
    refine ⟨putO_same, by rw [putO_ne kb, putO_same], fun c n1 n2 => by rw [putO_ne n1, putO_ne n2, putO_ne n1]⟩
  generalize eO1 : putO (putO (putO Om b (.ins SrC ["net", "target", "room"] [netD bits ns, .int target, .int m.room])) k (.lst [.int m.own])) b (.ins SrC ["net", "target", "room", "known"] [netD bits ns, .int target, .int m.room, .ref k]) = O1
  obtain ⟨h1b, h1k, h1o⟩ := h1 O1 eO1.symm
  intro a ha
  have ab : a ≠ b := fun z => by rw [z, h1b] at ha; cases ha
  have ak : a ≠ k := fun z => by rw [z, h1k] at ha; cases ha
  have ha0 : Om a = none := (h1o a ab ak).symm.trans ha
  rw [putO_ne ab.symm, h1b]
  tm_at "go"
  try (refine ⟨by decide, ?_⟩; tm_at "go")
  rw [setN_miss (by decide), setN_miss (by decide), setN_miss (by decide), setN_miss (by decide), setN_nil, setV_miss (by decide), setV_miss (by decide), setV_miss (by decide), setV_miss (by decide), setV_nil]
  have h2 : ∀ O2, O2 = putO (putO O1 a (.lst [])) b (.ins SrC ["net", "target", "room", "known", "asked"] [netD bits ns, .int target, .int m.room, .ref k, .ref a]) →
      O2 b = some (.ins SrC ["net", "target", "room", "known", "asked"] [netD bits ns, .int target, .int m.room, .ref k, .ref a]) ∧ O2 k = some (.lst [.int m.own]) ∧ O2 a = some (.lst []) ∧ ∀ c, c ≠ b → c ≠ k → c ≠ a → O2 c = Om c := fun O2 e => by
    subst e
    exact ⟨putO_same, by rw [putO_ne kb, putO_ne ak.symm]; exact h1k, by rw [putO_ne ab, putO_same], fun c n1 n2 n3 => by rw [putO_ne n1, putO_ne n3]; exact h1o c n1 n2⟩
  generalize eO2 : putO (putO O1 a (.lst [])) b (.ins SrC ["net", "target", "room", "known", "asked"] [netD bits ns, .int target, .int m.room, .ref k, .ref a]) = O2
  obtain ⟨h2b, h2k, h2a, h2o⟩ := h2 O2 eO2.symm
  intro q hq
  have qb : q ≠ b := fun z => by rw [z, h2b] at hq; cases hq
  have qk : q ≠ k := fun z => by rw [z, h2k] at hq; cases hq
  have qa : q ≠ a := fun z => by rw [z, h2a] at hq; cases hq
  have hq0 : Om q = none := (h2o q qb qk qa).symm.trans hq
  rw [putO_ne qb.symm, h2b]
  tm_at "go"
  try (refine ⟨by decide, ?_⟩; tm_at "go")
  rw [setN_miss (by decide), setN_miss (by decide), setN_miss (by decide), setN_miss (by decide), setN_miss (by decide), setN_nil, setV_miss (by decide), setV_miss (by decide), setV_miss (by decide), setV_miss (by decide), setV_miss (by decide), setV_nil]
  have h3 : ∀ O3, O3 = putO (putO O2 q (.lst [])) b (.ins SrC srN (srV bits ns target m.room k a q)) →
      O3 b = some (.ins SrC srN (srV bits ns target m.room k a q)) ∧ O3 k = some (.lst [.int m.own]) ∧ O3 a = some (.lst []) ∧ O3 q = some (.lst []) ∧ ∀ c, c ≠ b → c ≠ k → c ≠ a → c ≠ q → O3 c = Om c := fun O3 e => by
    subst e
    exact ⟨putO_same, by rw [putO_ne kb, putO_ne qk.symm]; exact h2k, by rw [putO_ne ab, putO_ne qa.symm]; exact h2a, by rw [putO_ne qb, putO_same], fun c n1 n2 n3 n4 => by rw [putO_ne n1, putO_ne n4]; exact h2o c n1 n2 n3⟩
  generalize eO3 : putO (putO O2 q (.lst [])) b (.ins SrC ["net", "target", "room", "known", "asked", "quiet"] [netD bits ns, .int target, .int m.room, .ref k, .ref a, .ref q]) = O3
  obtain ⟨h3b, h3k, h3a, h3q, h3o⟩ := h3 O3 eO3.symm
  have h3b' : O3 b = some (.ins SrC srN [netD bits ns, .int target, .int m.room, .ref k, .ref a, .ref q]) := h3b
  tm_at "go"
  rw [insOf_ref h3b']
  tm_at "go"
  refine gIx_net na.nd hm ?_
  simp only [ndD]
  tm_at "go"
  have fresh : ∀ n ∈ ns, ∀ p ∈ n.qs, Om p ≠ none := fun n hn p hp => by
    obtain ⟨i, hi, ei⟩ := List.getElem_of_mem hp
    have t := (na.tab n hn).at_
    have := t.at_ i p (n.sh[i]'(by rw [← t.len]; exact hi)) (by rw [List.getElem?_eq_getElem hi, ei]) (List.getElem?_eq_getElem _)
    rw [this]
    intro z; cases z
  have na3 : NetA O3 bits ns := netA_keep na fun n hn p hp => by
    have := fresh n hn p hp
    refine h3o p (fun z => ?_) (fun z => this (z ▸ hk)) (fun z => this (z ▸ ha0)) (fun z => this (z ▸ hq0))
    obtain ⟨i, hi, ei⟩ := List.getElem_of_mem hp
    have t := (na.tab n hn).at_
    have := t.at_ i p (n.sh[i]'(by rw [← t.len]; exact hi)) (by rw [List.getElem?_eq_getElem hi, ei]) (List.getElem?_eq_getElem _)
    rw [z, hb] at this
    cases this
  obtain ⟨rm', hrm⟩ := Int.eq_ofNat_of_zero_le (show 0 ≤ m.room by omega)
  refine ⟨m.own, bits, m.room, m.qs, m.sh, _, rm', by rw [← hrm]; rfl, na3.tab m hm, .inl ⟨target, rfl, it, ?_⟩⟩
  have eh : (ordI m.sh.flatten target).take rm' = heardS ns m.room target m.own := by
    unfold heardS
    rw [namesOf_eq na.nd hm, hrm, Int.toNat_natCast]
  rw [eh]
  have hl20 := heard_len (ns := ns) (t := target) (x := m.own) tr2
  refine ⟨_, _, [netD bits ns, .int target, .int m.room, .ref k, .ref a, .ref q], k, [m.own], heardS ns m.room target m.own, rfl, insOf_ref h3b', lk_s_known, h3k, rfl, by simp; omega, ?_⟩
  rw [rm] at qq
  refine qq _ k a q ((putO_ne kb.symm).trans h3b) ⟨?_, ?_, ?_, ak.symm, qk.symm, qa.symm⟩ hk ha0 hq0 fun c hc nb => ?_
  · rw [putO_same]
    unfold startS
    rw [rm]
  · exact (putO_ne ak).trans h3a
  · exact (putO_ne qk).trans h3q
  · have ck : c ≠ k := fun z => hc (z ▸ hk)
    rw [putO_ne ck]
    exact h3o c nb ck (fun z => hc (z ▸ ha0)) (fun z => hc (z ▸ hq0))
theorem m_lookup (ds : List D) (Om : N.Om) (Q : D → N.Om → Prop) (R : RX) (hl : ds.length = 3) (h : sp_lookup ds Om Q R) : wFn 3 w_lookup ds Om Q R := by
  obtain ⟨bits, ns, start, target, rfl, na, it, ho, qq⟩ := h
  obtain ⟨m, hm, rfl⟩ := List.mem_map.mp ho
  have rm := roomOf_eq na.nd hm
  have tm := na.tab m hm
  unfold w_lookup
  tm_at "go"
  refine gNotIn_net ?_
  rw [decide_eq_true ho]
  tm_at "go"
  refine gIx_net na.nd hm ?_
  simp only [ndD]
  tm_at "go"
  refine ⟨_, bits, rfl, tm.b2, rfl, ?_⟩
  rw [nameB_in it]
  tm_at "go"
  intro b hb
  refine ⟨b, bits, ns, m.own, target, rfl, putO_same, netA_keep na fun n hn p hp => putO_ne fun z => ?_, it, ho, fun O k a q e1 sr hk ha hq ko => ?_⟩
  · obtain ⟨i, hi, ei⟩ := List.getElem_of_mem hp
    have t := (na.tab n hn).at_
    have := t.at_ i p (n.sh[i]'(by rw [← t.len]; exact hi)) (by rw [List.getElem?_eq_getElem hi, ei]) (List.getElem?_eq_getElem _)
    rw [z, hb] at this
    cases this
  have nb : ∀ c, (putO Om b (.ins SrC [] [])) c = none → c ≠ b ∧ Om c = none := fun c hc => by
    have : c ≠ b := fun z => by rw [z, putO_same] at hc; cases hc
    rw [putO_ne this] at hc
    exact ⟨this, hc⟩
  obtain ⟨kb, hk⟩ := nb k hk
  obtain ⟨ab, ha⟩ := nb a ha
  obtain ⟨qb, hq⟩ := nb q hq
  have kept : ∀ c, Om c ≠ none → (delO O b) c = Om c := fun c hc => by
    have cb : c ≠ b := fun z => hc (z ▸ hb)
    show (if c = b then none else O c) = _
    rw [if_neg cb, ko c (by rw [putO_ne cb]; exact hc) cb, putO_ne cb]
  have fresh : ∀ n ∈ ns, ∀ p ∈ n.qs, Om p ≠ none := fun n hn p hp => by
    obtain ⟨i, hi, ei⟩ := List.getElem_of_mem hp
    have t := (na.tab n hn).at_
    have := t.at_ i p (n.sh[i]'(by rw [← t.len]; exact hi)) (by rw [List.getElem?_eq_getElem hi, ei]) (List.getElem?_eq_getElem _)
    rw [this]
    intro z; cases z
  have sr' : SrA (delO O b) k a q (startS ns m.own target) := by
    have d : ∀ c, c ≠ b → (delO O b) c = O c := fun c hc => if_neg hc
    exact ⟨(d k kb).trans sr.hk, (d a ab).trans sr.ha, (d q qb).trans sr.hq, sr.ka, sr.kq, sr.aq⟩
  refine ⟨rfl, _, _, e1, ?_⟩
  simp only [srV]
  tm_at "go"
  refine ⟨bits, ns, target, roomOf ns m.own, k, a, q, _, rfl, sr', ⟨fun n hn z => fresh n hn k z hk, fun n hn z => fresh n hn a z ha, fun n hn z => fresh n hn q z hq⟩, netA_keep na fun n hn p hp => kept p (fresh n hn p hp), it, by rw [rm]; exact tm.r1, by rw [rm]; exact tm.r2, start_ok na ho, fun O' n en ko' => ?_⟩
  subst en
  refine qq O' fun c hc => ?_
  rw [ko' c (fun z => hc (z ▸ hk)) (fun z => hc (z ▸ ha)) (fun z => hc (z ▸ hq))]
  exact kept c hc
end K31

set_option Elab.async false
set_option linter.all false
set_option maxRecDepth 100000
set_option maxHeartbeats 0
namespace K31
open PySem PySem.Spec PyProof.Rows L2 N
local macro_rules | `(tactic| tm_at "nv") => `(tactic| try simp -implicitDefEqProofs only [wIndex_e, asLs_l, gSorted_d, lk_s_net, lk_s_target, lk_s_room, lk_s_known, lk_s_asked, lk_s_quiet, lk_s_hear, lk_s_best, lk_s_run, tbD, lk_own, lk_bits, lk_room, lk_shelves, lk_check, lk_see, lk_silent, lk_shelf, lk_names, lk_nearest, asSh_l, asSh_d, asShL_l, asShD_d, cont_r, cont_n, cont_b, cont_i, cont_s, cont_t, cont_l, cont_d, cont_o, contL_n, contL_c, wBinC_e, wCallC_e, wCallFC_e, wShF_e, wItC_e, wForE_e, wCompE_e, wComp2_e, wAppS_e, wRemS_e, wSetIxS_e, wPutS_e, wMakeG_e, noOwn_n, noOwn_o, noOwn_v, noOwn_z, gSorted_i, gSorted_p, Int.cast_ofNat_Int, Int.reduceEq, Int.reduceLT, Int.reduceLE, List.length_map, List.length_append, see_l, see_d, see_i, Nat.reduceAdd, Nat.reduceLeDiff, Nat.zero_le, wFn_e, startG_c, startG_n, startG_z, wSeq_e, wSet_e, wC_e, wFor_e, wIt_e, wVar_e, wVarB_e, getSl_z, getSl_s, List.set_cons_zero, List.set_cons_succ, wRet_e, wBin_e, gI_i, gI0_i, gB0_i, gAdd_i, gAdd_t, gAdd_l, gAdd_s, gMul_i, gMul_t, gMul_l, gEq_, gNe_, gIs_n, gIs_b, gIsNot_n, gIsNot_b, isNon_n, isNon_i, isNon_b, isNon_t, isNon_l, isNon_s, wIfS_e, wtOr_e, wtAnd_e, wtNot_e, wTst_e, wNext_e, wNev_e, wCall_e, wCallF_e, wFrz_e, wLst_e, wTup_e, waNil_e, waCons_e, wComp_e, wRng_e, gRng1_i, gRng2_i, gRng3_i, wUn_e, gNeg_i, gTuple_t, gTuple_l, gList_t, gList_l, gList_s, gLen_t, gLen_l, gLen_s, gLen_d, gInt_i, gInt_b, gAbs_i, gMax_i, gMin_i, wipeG, fName_e, wCallU_e, wCallK_e, List.append_nil, List.length_cons, List.length_nil, wSl_e, woNone_e, woSome_e, gSl_t, gSl_l, gIt_t, gIt_l, gIt_s, gIsi_i, gIsi_b, gIsi_t, gIsi_l, gIsi_s, gIsi_n, gIsi_d, wFld_e, wMeth_e, wMake_e, wMakeF_e, wSetF_e, wExt_e, wFz_e, wRev_e, wRaise_e, wTry_e, wBits_e, insOf_ins, lk_kind, lk_size, lk_digest, lk_is_digest, gEnum_t, gEnum_l, gZip_t, gZip_l, mem1, reduceCtorEq, eq_self, wAsg_e, fTup_e, fCons_e, fNil_e, wAnd_e, wOr_e, wNot_e, wIf_e, wPar_e, wAug_e, wApp_e, wSetO_e, wRetO_e, br_t, br_f, shp_int, shp_bl, shp_non, deq_int, gAll_b, gAny_b, gSum_i, wDrop_e, wRetN_e, true_and, and_true, decide_true, decide_false, Bool.not_true, Bool.not_false, isi_NoneType_bool, isi_NoneType_int, isi_NoneType_str, isi_NoneType_tuple, isi_NoneType_list, isi_NoneType_dict, isi_bool_bool, isi_bool_int, isi_bool_str, isi_bool_tuple, isi_bool_list, isi_bool_dict, isi_int_bool, isi_int_int, isi_int_str, isi_int_tuple, isi_int_list, isi_int_dict, isi_str_bool, isi_str_int, isi_str_str, isi_str_tuple, isi_str_list, isi_str_dict, isi_tuple_bool, isi_tuple_int, isi_tuple_str, isi_tuple_tuple, isi_tuple_list, isi_tuple_dict, isi_list_bool, isi_list_int, isi_list_str, isi_list_tuple, isi_list_list, isi_list_dict, isi_dict_bool, isi_dict_int, isi_dict_str, isi_dict_tuple, isi_dict_list, isi_dict_dict, okTy_bool, okTy_int, okTy_str, okTy_tuple, okTy_list, okTy_dict, List.cons_append, List.nil_append, wChn_e, wSetIxO_e, wGet1_e, wGet2_e, wPutO_e, wDnew_e, slV_v, slB_v, slB_l, slB_d, slB_i, slL_l, slD_d, asB_b, asI_i, asR_r, asT_t, asQ_t, asQ_l, asD_d, asK_i, asK_s, asC_c, as2_2, asO_s, asIns_i, fz_l, fz_i, fz_v, fz_n, wKeys_e, wItems_e, wVals_e, exL_hit, asRev_l, asRev_t, wtYes_e, wFzD_e, fzD_d, fzD_v])
local macro_rules | `(tactic| tm_at "nw") => `(tactic| (tm_at "nv"; repeat (with_reducible refine sq_i ?_; tm_at "nv")))
local macro_rules | `(tactic| tm_at "nc") => `(tactic| first | exact True.intro | omega | exact mulL (by omega) (by omega) | exact mulR (by omega) (by omega) | exact divOk (by omega) (by omega) | exact shlI (n := 1) (by decide) (by decide) (by omega) (by omega) | (simp only [List.length_append, List.length_map, List.length_cons, List.length_nil, List.length_replicate, List.length_flatten, List.map_replicate, List.sum_replicate_nat, List.length_range, rngL_len, rngC_len, List.cons_append, List.nil_append]; first | done | omega))
local macro_rules | `(tactic| tm_at "ns") => `(tactic| repeat (with_reducible refine And.intro (by first | tm_at "nc" | exact ⟨by tm_at "nc", by tm_at "nc"⟩ | exact ⟨by tm_at "nc", by tm_at "nc", by tm_at "nc"⟩ | exact ⟨by tm_at "nc", by tm_at "nc", by tm_at "nc", by tm_at "nc"⟩) ?_))
local macro_rules | `(tactic| tm_at "go") => `(tactic| (tm_at "nw"; repeat (first | (with_reducible refine And.intro (by first | tm_at "nc" | exact ⟨by tm_at "nc", by tm_at "nc"⟩ | exact ⟨by tm_at "nc", by tm_at "nc", by tm_at "nc"⟩) ?_) | (with_reducible refine sq_i ?_)); tm_at "nw"))
theorem m__law_orderK (ds : List D) (Om : N.Om) (Q : D → N.Om → Prop) (R : RX) (hl : ds.length = 2) (h : sp__law_orderK ds Om Q R) : wFn 4 w__law_order ds Om Q R := by
  obtain ⟨bits, ns, t, rfl, hz, q⟩ := h
  have ol : (owns ns).length ≤ 60 := by unfold owns; rw [List.length_map]; exact hz
  unfold w__law_order
  simp only [netD]
  tm_at "go"
  have hk : (ns.map fun n => (Sum.inl n.own : Key)).map kyD = (owns ns).map .int := by
    unfold owns
    rw [List.map_map, List.map_map]
    rfl
  rw [hk]
  refine turns_mapA (h := D.int) (g := fun n => prD (xo n t, n)) (owns ns) [] (by simp; omega) (fun n _ K k => ?_) ?_
  · tm_at "go"
    exact k
  · rw [List.nil_append, show ((owns ns).map fun n => prD (xo n t, n)) = ((owns ns).map fun n => (xo n t, n)).map prD by rw [List.map_map]; rfl]
    tm_at "go"
    refine turns_mapA (h := prD) (g := fun p => .int p.2) _ [] (by simp [srtP]; omega) (fun p _ K k => ?_) ?_
    · simp only [prD]
      tm_at "go"
      refine gIx_t1 ?_
      exact k
    · tm_at "go"
      rw [show ((srtP ((owns ns).map fun n => (xo n t, n))).map fun p => D.int p.2) = (ordI (owns ns) t).map .int by unfold ordI; rw [List.map_map]; rfl]
      exact q
open Classical in
theorem filB_t {ns : List Nd} (h : Filled ns) : filB ns = true := by unfold filB; exact decide_eq_true h
open Classical in
theorem filB_f {ns : List Nd} (h : ¬ Filled ns) : filB ns = false := by unfold filB; exact decide_eq_false h
theorem items_net (bits : Nat) : ∀ ns : List Nd, List.zipWith (fun k v => D.tup [kyD k, v]) (ns.map fun n => (Sum.inl n.own : Key)) (ns.map (ndD bits)) = ns.map fun n => .tup [.int n.own, ndD bits n]
  | [] => rfl
  | n :: ns => by rw [List.map_cons, List.map_cons, List.zipWith_cons_cons, items_net bits ns]; rfl
theorem shelf_ix {O : N.Om} {bits : Nat} {ns : List Nd} (na : NetA O bits ns) {n : Nd} (hn : n ∈ ns) {x : Int} (hx : x ∈ owns ns) (ne : x ≠ n.own) : ∃ i : Nat, shf n.own x = (i : Int) ∧ i < bits := shf_lt (na.tab n hn).ow (own_in na hx) (fun z => ne z.symm)
theorem loop_fin {O : N.Om} {bits : Nat} {ns : List Nd} (na : NetA O bits ns) {n : Nd} (hn : n ∈ ns) (x4 : Sl) (Po : Post) (hf : ¬ Filled ns → Po.rt (.bl false) O) : ∀ (l : List Int) (x3 : Sl), (∀ x ∈ l, x ∈ owns ns) →
    ((∀ x ∈ l, x ≠ n.own → n.sh.getD (shf n.own x).toNat [] ≠ []) → ∀ y3, Po.nx [.val (netD bits ns), .val (.int n.own), .val (ndD bits n), y3, x4] O) →
    wForL (fName 3) w_is_filled_b1 (l.map .int) [.val (netD bits ns), .val (.int n.own), .val (ndD bits n), x3, x4] O Po
  | [], x3, _, h => wForL_n (h (fun x hx => by cases hx) x3)
  | x :: l, x3, hl, h => by
    rw [List.map_cons]
    refine wForL_c ?_
    have hx := hl x List.mem_cons_self
    have next := fun y => loop_fin na hn x4 Po hf l y (fun z hz => hl z (List.mem_cons_of_mem _ hz))
    simp only [ndD]
    tm_at "go"
    refine br_if (fun e => ?_) fun e => ?_
    · have ne : x ≠ n.own := by simpa using e
      obtain ⟨i, hi, hlt⟩ := shelf_ix na hn hx ne
      refine ⟨n.own, x, rfl, ?_⟩
      tm_at "go"
      rw [hi]
      refine ⟨n.own, bits, n.room, n.qs, n.sh, i, rfl, na.tab n hn, hlt, ?_⟩
      tm_at "go"
      refine ⟨shp_tints _, shp_tints [], ?_⟩
      rw [show deq (.tup ((n.sh.getD i []).map .int)) (.tup []) = decide (n.sh.getD i [] = []) from deq_tints _ []]
      refine br_d (fun e2 => hf fun F => ?_) fun e2 => ?_
      · obtain ⟨m, hm, rfl⟩ := List.mem_map.mp hx
        have := (F n hn).2 m hm ne
        rw [hi, Int.toNat_natCast] at this
        exact this e2
      · have := next (.val (.int x)) fun hh => h fun z hz nz => by
          rcases List.mem_cons.mp hz with rfl | hz
          · rw [hi, Int.toNat_natCast]; exact e2
          · exact hh z hz nz
        simpa only [ndD, tbD] using this
    · have ex : x = n.own := by simpa using e
      have := next (.val (.int x)) fun hh => h fun z hz nz => by
        rcases List.mem_cons.mp hz with rfl | hz
        · exact absurd ex nz
        · exact hh z hz nz
      simpa only [ndD, tbD] using this
theorem loop_fil {O : N.Om} {bits : Nat} {ns : List Nd} (na : NetA O bits ns) (Po : Post) (hf : ¬ Filled ns → Po.rt (.bl false) O) : ∀ (rest : List Nd) (x1 x2 x3 x4 : Sl), (∀ n ∈ rest, n ∈ ns) →
    ((∀ n ∈ rest, (∀ x ∈ n.sh.flatten, x ∈ owns ns) ∧ ∀ x ∈ owns ns, x ≠ n.own → n.sh.getD (shf n.own x).toNat [] ≠ []) → ∀ y1 y2 y3 y4, Po.nx [.val (netD bits ns), y1, y2, y3, y4] O) →
    wForL (fTup 2 (fCons (fName 1) (fCons (fName 2) fNil))) w_is_filled_b2 (rest.map fun n => .tup [.int n.own, ndD bits n]) [.val (netD bits ns), x1, x2, x3, x4] O Po
  | [], x1, x2, x3, x4, _, h => wForL_n (h (fun n hn => by cases hn) x1 x2 x3 x4)
  | n :: rest, x1, x2, x3, x4, hr, h => by
    rw [List.map_cons]
    refine wForL_c ?_
    have hn := hr n List.mem_cons_self
    have t := na.tab n hn
    have fl := flat_len t.gd t.b2 t.r2
    have hk : (ns.map fun n => (Sum.inl n.own : Key)).map kyD = (owns ns).map .int := by
      unfold owns
      rw [List.map_map, List.map_map]
      rfl
    have inner : (∀ x ∈ n.sh.flatten, x ∈ owns ns) → wForL (fName 3) w_is_filled_b1 ((owns ns).map .int) [.val (netD bits ns), .val (.int n.own), .val (ndD bits n), x3, x4] O { nx := fun G2 O2 => wForL (fTup 2 (fCons (fName 1) (fCons (fName 2) fNil))) w_is_filled_b2 (rest.map fun n => .tup [.int n.own, ndD bits n]) G2 O2 Po, rt := Po.rt, bk := Po.nx, ct := fun G2 O2 => wForL (fTup 2 (fCons (fName 1) (fCons (fName 2) fNil))) w_is_filled_b2 (rest.map fun n => .tup [.int n.own, ndD bits n]) G2 O2 Po, ex := Po.ex } := fun h1 => by
      refine loop_fin na hn x4 _ ?_ (owns ns) x3 (fun x hx => hx) fun h2 y3 => ?_
      · exact hf
      · exact loop_fil na Po hf rest _ _ _ _ (fun m hm => hr m (List.mem_cons_of_mem _ hm)) fun h3 => h fun m hm => by
          rcases List.mem_cons.mp hm with rfl | hm
          · exact ⟨h1, h2⟩
          · exact h3 m hm
    simp only [ndD]
    tm_at "go"
    refine ⟨n.own, bits, n.room, n.qs, n.sh, rfl, t, ?_⟩
    tm_at "go"
    refine turns_mapA (h := D.int) (g := fun x => D.bl (decide (x ∈ owns ns))) (srtI n.sh.flatten) [] (by rw [(srtI_perm _).length_eq, List.length_nil]; omega) (fun x hx K k => ?_) ?_
    · tm_at "go"
      exact gIn_net k
    · rw [List.nil_append, show ((srtI n.sh.flatten).map fun x => D.bl (decide (x ∈ owns ns))) = ((srtI n.sh.flatten).map fun x => decide (x ∈ owns ns)).map .bl by rw [List.map_map]; rfl]
      tm_at "go"
      cases ea : ((srtI n.sh.flatten).map fun x => decide (x ∈ owns ns)).all _root_.id
      · tm_at "go"
        refine hf fun F => ?_
        have : ((srtI n.sh.flatten).map fun x => decide (x ∈ owns ns)).all _root_.id = true := by
          rw [List.all_eq_true]
          intro b hb
          obtain ⟨x, hx, rfl⟩ := List.mem_map.mp hb
          exact decide_eq_true ((F n hn).1 x ((srtI_perm _).mem_iff.mp hx))
        rw [ea] at this
        cases this
      · tm_at "go"
        have h1 : ∀ x ∈ n.sh.flatten, x ∈ owns ns := fun x hx => by
          have := List.all_eq_true.mp ea (decide (x ∈ owns ns)) (List.mem_map.mpr ⟨x, (srtI_perm _).mem_iff.mpr hx, rfl⟩)
          exact of_decide_eq_true this
        have := inner h1
        simp only [netD, ndD, tbD] at this ⊢
        tm_at "go"
        rw [hk]
        exact this
theorem m_is_filled (ds : List D) (Om : N.Om) (Q : D → N.Om → Prop) (R : RX) (hl : ds.length = 1) (h : sp_is_filled ds Om Q R) : wFn 5 w_is_filled ds Om Q R := by
  obtain ⟨bits, ns, rfl, na, q⟩ := h
  unfold w_is_filled
  have start : wForL (fTup 2 (fCons (fName 1) (fCons (fName 2) fNil))) w_is_filled_b2 (ns.map fun n => .tup [.int n.own, ndD bits n]) [.val (netD bits ns), .no, .no, .no, .no] Om { nx := fun G' O => wRet (wC (.bl true)) G' O { nx := fun x O => Q .non O, rt := Q, bk := fun x x_1 => False, ct := fun x x_1 => False, ex := fun x x_1 O => R x O }, rt := Q, bk := fun x x_1 => False, ct := fun x x_1 => False, ex := fun x x_1 O => R x O } := by
    refine loop_fil na _ (fun nf => ?_) ns _ _ _ _ (fun n hn => hn) fun hh y1 y2 y3 y4 => ?_
    · rw [filB_f nf] at q; exact q
    · have F : Filled ns := fun n hn => ⟨(hh n hn).1, fun m hm ne => (hh n hn).2 m.own (List.mem_map.mpr ⟨m, hm, rfl⟩) ne⟩
      rw [filB_t F] at q
      exact q
  tm_at "go"
  simp only [netD] at start ⊢
  tm_at "go"
  rw [items_net]
  exact start
end K31

set_option Elab.async false
set_option linter.all false
set_option maxRecDepth 100000
set_option maxHeartbeats 0
namespace K31
open PySem PySem.Spec PyProof.Rows L2 N
local macro_rules | `(tactic| tm_at "nv") => `(tactic| try simp -implicitDefEqProofs only [wIndex_e, asLs_l, gSorted_d, lk_s_net, lk_s_target, lk_s_room, lk_s_known, lk_s_asked, lk_s_quiet, lk_s_hear, lk_s_best, lk_s_run, tbD, lk_own, lk_bits, lk_room, lk_shelves, lk_check, lk_see, lk_silent, lk_shelf, lk_names, lk_nearest, asSh_l, asSh_d, asShL_l, asShD_d, cont_r, cont_n, cont_b, cont_i, cont_s, cont_t, cont_l, cont_d, cont_o, contL_n, contL_c, wBinC_e, wCallC_e, wCallFC_e, wShF_e, wItC_e, wForE_e, wCompE_e, wComp2_e, wAppS_e, wRemS_e, wSetIxS_e, wPutS_e, wMakeG_e, noOwn_n, noOwn_o, noOwn_v, noOwn_z, gSorted_i, gSorted_p, Int.cast_ofNat_Int, Int.reduceEq, Int.reduceLT, Int.reduceLE, List.length_map, List.length_append, see_l, see_d, see_i, Nat.reduceAdd, Nat.reduceLeDiff, Nat.zero_le, wFn_e, startG_c, startG_n, startG_z, wSeq_e, wSet_e, wC_e, wFor_e, wIt_e, wVar_e, wVarB_e, getSl_z, getSl_s, List.set_cons_zero, List.set_cons_succ, wRet_e, wBin_e, gI_i, gI0_i, gB0_i, gAdd_i, gAdd_t, gAdd_l, gAdd_s, gMul_i, gMul_t, gMul_l, gEq_, gNe_, gIs_n, gIs_b, gIsNot_n, gIsNot_b, isNon_n, isNon_i, isNon_b, isNon_t, isNon_l, isNon_s, wIfS_e, wtOr_e, wtAnd_e, wtNot_e, wTst_e, wNext_e, wNev_e, wCall_e, wCallF_e, wFrz_e, wLst_e, wTup_e, waNil_e, waCons_e, wComp_e, wRng_e, gRng1_i, gRng2_i, gRng3_i, wUn_e, gNeg_i, gTuple_t, gTuple_l, gList_t, gList_l, gList_s, gLen_t, gLen_l, gLen_s, gLen_d, gInt_i, gInt_b, gAbs_i, gMax_i, gMin_i, wipeG, fName_e, wCallU_e, wCallK_e, List.append_nil, List.length_cons, List.length_nil, wSl_e, woNone_e, woSome_e, gSl_t, gSl_l, gIt_t, gIt_l, gIt_s, gIsi_i, gIsi_b, gIsi_t, gIsi_l, gIsi_s, gIsi_n, gIsi_d, wFld_e, wMeth_e, wMake_e, wMakeF_e, wSetF_e, wExt_e, wFz_e, wRev_e, wRaise_e, wTry_e, wBits_e, insOf_ins, lk_kind, lk_size, lk_digest, lk_is_digest, gEnum_t, gEnum_l, gZip_t, gZip_l, mem1, reduceCtorEq, eq_self, wAsg_e, fTup_e, fCons_e, fNil_e, wAnd_e, wOr_e, wNot_e, wIf_e, wPar_e, wAug_e, wApp_e, wSetO_e, wRetO_e, br_t, br_f, shp_int, shp_bl, shp_non, deq_int, gAll_b, gAny_b, gSum_i, wDrop_e, wRetN_e, true_and, and_true, decide_true, decide_false, Bool.not_true, Bool.not_false, isi_NoneType_bool, isi_NoneType_int, isi_NoneType_str, isi_NoneType_tuple, isi_NoneType_list, isi_NoneType_dict, isi_bool_bool, isi_bool_int, isi_bool_str, isi_bool_tuple, isi_bool_list, isi_bool_dict, isi_int_bool, isi_int_int, isi_int_str, isi_int_tuple, isi_int_list, isi_int_dict, isi_str_bool, isi_str_int, isi_str_str, isi_str_tuple, isi_str_list, isi_str_dict, isi_tuple_bool, isi_tuple_int, isi_tuple_str, isi_tuple_tuple, isi_tuple_list, isi_tuple_dict, isi_list_bool, isi_list_int, isi_list_str, isi_list_tuple, isi_list_list, isi_list_dict, isi_dict_bool, isi_dict_int, isi_dict_str, isi_dict_tuple, isi_dict_list, isi_dict_dict, okTy_bool, okTy_int, okTy_str, okTy_tuple, okTy_list, okTy_dict, List.cons_append, List.nil_append, wChn_e, wSetIxO_e, wGet1_e, wGet2_e, wPutO_e, wDnew_e, slV_v, slB_v, slB_l, slB_d, slB_i, slL_l, slD_d, asB_b, asI_i, asR_r, asT_t, asQ_t, asQ_l, asD_d, asK_i, asK_s, asC_c, as2_2, asO_s, asIns_i, fz_l, fz_i, fz_v, fz_n, wKeys_e, wItems_e, wVals_e, exL_hit, asRev_l, asRev_t, wtYes_e, wFzD_e, fzD_d, fzD_v])
local macro_rules | `(tactic| tm_at "nw") => `(tactic| (tm_at "nv"; repeat (with_reducible refine sq_i ?_; tm_at "nv")))
local macro_rules | `(tactic| tm_at "nc") => `(tactic| first | exact True.intro | omega | exact mulL (by omega) (by omega) | exact mulR (by omega) (by omega) | exact divOk (by omega) (by omega) | exact shlI (n := 1) (by decide) (by decide) (by omega) (by omega) | (simp only [List.length_append, List.length_map, List.length_cons, List.length_nil, List.length_replicate, List.length_flatten, List.map_replicate, List.sum_replicate_nat, List.length_range, rngL_len, rngC_len, List.cons_append, List.nil_append]; first | done | omega))
local macro_rules | `(tactic| tm_at "ns") => `(tactic| repeat (with_reducible refine And.intro (by first | tm_at "nc" | exact ⟨by tm_at "nc", by tm_at "nc"⟩ | exact ⟨by tm_at "nc", by tm_at "nc", by tm_at "nc"⟩ | exact ⟨by tm_at "nc", by tm_at "nc", by tm_at "nc", by tm_at "nc"⟩) ?_))
local macro_rules | `(tactic| tm_at "go") => `(tactic| (tm_at "nw"; repeat (first | (with_reducible refine And.intro (by first | tm_at "nc" | exact ⟨by tm_at "nc", by tm_at "nc"⟩ | exact ⟨by tm_at "nc", by tm_at "nc", by tm_at "nc"⟩) ?_) | (with_reducible refine sq_i ?_)); tm_at "nw"))
def shOk (ns : List Nd) (n : Nd) (i : Nat) : Prop := (∀ x ∈ n.sh.getD i [], x ∈ owns ns) ∧ ((∃ x ∈ owns ns, x ≠ n.own ∧ shf n.own x = (i : Int)) → n.sh.getD i [] ≠ [])
theorem filled_of {O : N.Om} {bits : Nat} {ns : List Nd} (na : NetA O bits ns) (h : ∀ n ∈ ns, ∀ i, i < bits → shOk ns n i) : Filled ns := fun n hn => by
  have t := na.tab n hn
  refine ⟨fun x hx => ?_, fun m hm ne => ?_⟩
  · obtain ⟨l, hl, hx⟩ := List.mem_flatten.mp hx
    obtain ⟨i, hi, rfl⟩ := List.getElem_of_mem hl
    refine (h n hn i (by rw [← t.gd.len]; exact hi)).1 x ?_
    rw [List.getD_eq_getElem?_getD, List.getElem?_eq_getElem hi]
    exact hx
  · have ho : m.own ∈ owns ns := List.mem_map.mpr ⟨m, hm, rfl⟩
    obtain ⟨i, hi, hlt⟩ := shelf_ix na hn ho ne
    rw [hi, Int.toNat_natCast]
    exact (h n hn i hlt).2 ⟨m.own, ho, ne, hi⟩
theorem filled_at {ns : List Nd} {O : N.Om} {bits : Nat} (na : NetA O bits ns) (F : Filled ns) {n : Nd} (hn : n ∈ ns) {i : Nat} (hi : i < bits) : shOk ns n i := by
  have t := na.tab n hn
  refine ⟨fun x hx => (F n hn).1 x ?_, fun ⟨x, hx, ne, e⟩ => ?_⟩
  · have hl : n.sh[i]? = some (n.sh.getD i []) := by rw [List.getD_eq_getElem?_getD, List.getElem?_eq_getElem (by rw [t.gd.len]; exact hi)]; rfl
    exact List.mem_flatten.mpr ⟨_, List.mem_of_getElem? hl, hx⟩
  · obtain ⟨m, hm, rfl⟩ := List.mem_map.mp hx
    have := (F n hn).2 m hm ne
    rw [e, Int.toNat_natCast] at this
    exact this
theorem keys_own (ns : List Nd) : (ns.map fun n => (Sum.inl n.own : Key)).map kyD = (owns ns).map .int := by
  unfold owns
  rw [List.map_map, List.map_map]
  rfl
theorem getD_len {O : N.Om} {bits : Nat} {ns : List Nd} (na : NetA O bits ns) {n : Nd} (hn : n ∈ ns) (i : Nat) : (n.sh.getD i []).length ≤ 20 := by
  have t := na.tab n hn
  have r2 := t.r2
  rw [List.getD_eq_getElem?_getD]
  cases e : n.sh[i]? with
  | none => simp
  | some l =>
    have := t.gd.sz l (List.mem_of_getElem? e)
    rw [Option.getD_some]
    omega
theorem own_len {O : N.Om} {bits : Nat} {ns : List Nd} (na : NetA O bits ns) : (owns ns).length ≤ 60 := by unfold owns; rw [List.length_map]; exact na.sz
/-- the names that belong on a shelf -/
def thereP (ns : List Nd) (own : Int) (i : Nat) : List Int := (owns ns).filter fun x => decide (x ≠ own) && decide (shf own x = (i : Int))
theorem loop_num {O : N.Om} {bits : Nat} {ns : List Nd} (na : NetA O bits ns) {n : Nd} (hn : n ∈ ns) (x1 x6 : Sl) (Po : Post) (hf : ¬ Filled ns → Po.rt (.bl false) O) : ∀ (l : List Nat) (x3 x4 x5 : Sl), (∀ i ∈ l, i < bits) →
    ((∀ i ∈ l, shOk ns n i) → ∀ y3 y4 y5, Po.nx [.val (netD bits ns), x1, .val (.int n.own), y3, y4, y5, x6] O) →
    wForL (fName 3) w__law_is_filled_b1 (l.map fun (i : Nat) => D.int (i : Int)) [.val (netD bits ns), x1, .val (.int n.own), x3, x4, x5, x6] O Po
  | [], x3, x4, x5, _, h => wForL_n (h (fun x hx => by cases hx) x3 x4 x5)
  | i :: l, x3, x4, x5, hl, h => by
    rw [List.map_cons]
    refine wForL_c ?_
    have hi := hl i List.mem_cons_self
    have ol := own_len na
    have sl := getD_len na hn i
    have next := fun hok y3 y4 y5 => loop_num na hn x1 x6 Po hf l y3 y4 y5 (fun z hz => hl z (List.mem_cons_of_mem _ hz)) fun hh => h fun z hz => by
      rcases List.mem_cons.mp hz with rfl | hz
      · exact (hok : shOk ns n z)
      · exact hh z hz
    tm_at "go"
    refine gIx_net na.nd hn ?_
    simp only [ndD]
    tm_at "go"
    refine ⟨n.own, bits, n.room, n.qs, n.sh, i, rfl, na.tab n hn, hi, ?_⟩
    simp only [netD]
    tm_at "go"
    rw [keys_own]
    refine turns_filA (h := D.int) (g := D.int) (t := fun x => decide (x ≠ n.own) && decide (shf n.own x = (i : Int))) (owns ns) [] (by simp; omega) (fun x hx K1 K2 k1 k2 => ?_) ?_
    · tm_at "go"
      refine br_if (fun e => ?_) fun e => k2 ?_
      · have ne : x ≠ n.own := by simpa using e
        refine ⟨n.own, x, bits, rfl, (na.tab n hn).b2, (na.tab n hn).ow, own_in na hx, fun z => ne z.symm, ?_⟩
        tm_at "go"
        refine br_d (fun e2 => k1 ?_) fun e2 => k2 ?_
        · rw [decide_eq_true ne, decide_eq_true e2]; rfl
        · rw [decide_eq_false e2, Bool.and_false]
      · have ex : x = n.own := by simpa using e
        rw [decide_eq_false (fun z => z ex), Bool.false_and]
    · rw [List.nil_append]
      tm_at "go"
      refine turns_filA (h := D.int) (g := D.int) (t := fun x => !decide (x ∈ owns ns)) (n.sh.getD i []) [] (by rw [List.length_nil]; omega) (fun x hx K1 K2 k1 k2 => ?_) ?_
      · tm_at "go"
        refine gNotIn_net ?_
        refine br_if (fun e => k1 e) fun e => k2 e
      · rw [List.nil_append]
        tm_at "go"
        refine br_d (fun e => hf fun F => ?_) fun e => ?_
        · have := (filled_at na F hn hi).1
          have e0 : (n.sh.getD i []).filter (fun x => !decide (x ∈ owns ns)) = [] := List.filter_eq_nil_iff.mpr fun x hx => by simpa using this x hx
          rw [e0] at e
          simp at e
        have h1 : ∀ x ∈ n.sh.getD i [], x ∈ owns ns := fun x hx => by
          by_cases z : x ∈ owns ns
          · exact z
          · have : x ∈ (n.sh.getD i []).filter (fun x => !decide (x ∈ owns ns)) := List.mem_filter.mpr ⟨hx, by simpa using z⟩
            have := List.length_pos_of_mem this
            exact absurd (by omega) e
        refine br_d (fun e1 => ?_) fun e1 => ?_
        · tm_at "go"
          refine br_d (fun e2 => hf fun F => ?_) fun e2 => ?_
          · obtain ⟨x, hx⟩ := List.exists_mem_of_length_pos (l := (owns ns).filter fun x => decide (x ≠ n.own) && decide (shf n.own x = (i : Int))) (by omega)
            obtain ⟨x1, x2⟩ := List.mem_filter.mp hx
            simp only [Bool.and_eq_true, decide_eq_true_eq] at x2
            exact (filled_at na F hn hi).2 ⟨x, x1, x2.1, x2.2⟩ (List.eq_nil_of_length_eq_zero (by omega))
          · exact next ⟨h1, fun _ z => e2 (by rw [z]; rfl)⟩ _ _ _
        · refine next ⟨h1, fun ⟨x, hx, ne, es⟩ => ?_⟩ _ _ _
          have : x ∈ (owns ns).filter fun x => decide (x ≠ n.own) && decide (shf n.own x = (i : Int)) := List.mem_filter.mpr ⟨hx, by rw [decide_eq_true ne, decide_eq_true es]; rfl⟩
          have := List.length_pos_of_mem this
          exact absurd (by omega) e1
theorem loop_own {O : N.Om} {bits : Nat} {ns : List Nd} (na : NetA O bits ns) (Po : Post) (hf : ¬ Filled ns → Po.rt (.bl false) O) : ∀ (rest : List Nd) (x2 x3 x4 x5 x6 : Sl), (∀ n ∈ rest, n ∈ ns) →
    ((∀ n ∈ rest, ∀ i, i < bits → shOk ns n i) → ∀ y2 y3 y4 y5 y6, Po.nx [.val (netD bits ns), .val (.int bits), y2, y3, y4, y5, y6] O) →
    wForL (fName 2) w__law_is_filled_b2 (rest.map fun n => .int n.own) [.val (netD bits ns), .val (.int bits), x2, x3, x4, x5, x6] O Po
  | [], x2, x3, x4, x5, x6, _, h => wForL_n (h (fun n hn => by cases hn) _ _ _ _ _)
  | n :: rest, x2, x3, x4, x5, x6, hr, h => by
    rw [List.map_cons]
    refine wForL_c ?_
    have hn := hr n List.mem_cons_self
    have b16 := na.b16
    tm_at "go"
    rw [Int.toNat_natCast, rng_r]
    refine loop_num na hn _ _ _ ?_ (List.range bits) _ _ _ (fun i hi => List.mem_range.mp hi) fun h1 y3 y4 y5 => ?_
    · exact hf
    · exact loop_own na Po hf rest _ _ _ _ _ (fun m hm => hr m (List.mem_cons_of_mem _ hm)) fun h3 => h fun m hm => by
        rcases List.mem_cons.mp hm with rfl | hm
        · exact fun i hi => h1 i (List.mem_range.mpr hi)
        · exact h3 m hm
theorem m__law_is_filled (ds : List D) (Om : N.Om) (Q : D → N.Om → Prop) (R : RX) (hl : ds.length = 2) (h : sp__law_is_filled ds Om Q R) : wFn 7 w__law_is_filled ds Om Q R := by
  obtain ⟨bits, ns, rfl, na, q⟩ := h
  unfold w__law_is_filled
  have start : wForL (fName 2) w__law_is_filled_b2 (ns.map fun n => .int n.own) [.val (netD bits ns), .val (.int bits), .no, .no, .no, .no, .no] Om { nx := fun G' O => wRet (wC (.bl true)) G' O { nx := fun x O => Q .non O, rt := Q, bk := fun x x_1 => False, ct := fun x x_1 => False, ex := fun x x_1 O => R x O }, rt := Q, bk := fun x x_1 => False, ct := fun x x_1 => False, ex := fun x x_1 O => R x O } := by
    refine loop_own na _ (fun nf => ?_) ns _ _ _ _ _ (fun n hn => hn) fun hh y2 y3 y4 y5 y6 => ?_
    · rw [filB_f nf] at q; exact q
    · rw [filB_t (filled_of na hh)] at q
      exact q
  tm_at "go"
  simp only [netD] at start ⊢
  tm_at "go"
  rw [keys_own, show (owns ns).map D.int = ns.map fun n => D.int n.own by unfold owns; rw [List.map_map]; rfl]
  exact start
end K31

set_option Elab.async false
set_option linter.all false
set_option maxRecDepth 100000
set_option maxHeartbeats 0
namespace K31
open PySem PySem.Spec PyProof.Rows L2 N
local macro_rules | `(tactic| tm_at "nv") => `(tactic| try simp -implicitDefEqProofs only [wIndex_e, asLs_l, gSorted_d, lk_s_net, lk_s_target, lk_s_room, lk_s_known, lk_s_asked, lk_s_quiet, lk_s_hear, lk_s_best, lk_s_run, tbD, lk_own, lk_bits, lk_room, lk_shelves, lk_check, lk_see, lk_silent, lk_shelf, lk_names, lk_nearest, asSh_l, asSh_d, asShL_l, asShD_d, cont_r, cont_n, cont_b, cont_i, cont_s, cont_t, cont_l, cont_d, cont_o, contL_n, contL_c, wBinC_e, wCallC_e, wCallFC_e, wShF_e, wItC_e, wForE_e, wCompE_e, wComp2_e, wAppS_e, wRemS_e, wSetIxS_e, wPutS_e, wMakeG_e, noOwn_n, noOwn_o, noOwn_v, noOwn_z, gSorted_i, gSorted_p, Int.cast_ofNat_Int, Int.reduceEq, Int.reduceLT, Int.reduceLE, List.length_map, List.length_append, see_l, see_d, see_i, Nat.reduceAdd, Nat.reduceLeDiff, Nat.zero_le, wFn_e, startG_c, startG_n, startG_z, wSeq_e, wSet_e, wC_e, wFor_e, wIt_e, wVar_e, wVarB_e, getSl_z, getSl_s, List.set_cons_zero, List.set_cons_succ, wRet_e, wBin_e, gI_i, gI0_i, gB0_i, gAdd_i, gAdd_t, gAdd_l, gAdd_s, gMul_i, gMul_t, gMul_l, gEq_, gNe_, gIs_n, gIs_b, gIsNot_n, gIsNot_b, isNon_n, isNon_i, isNon_b, isNon_t, isNon_l, isNon_s, wIfS_e, wtOr_e, wtAnd_e, wtNot_e, wTst_e, wNext_e, wNev_e, wCall_e, wCallF_e, wFrz_e, wLst_e, wTup_e, waNil_e, waCons_e, wComp_e, wRng_e, gRng1_i, gRng2_i, gRng3_i, wUn_e, gNeg_i, gTuple_t, gTuple_l, gList_t, gList_l, gList_s, gLen_t, gLen_l, gLen_s, gLen_d, gInt_i, gInt_b, gAbs_i, gMax_i, gMin_i, wipeG, fName_e, wCallU_e, wCallK_e, List.append_nil, List.length_cons, List.length_nil, wSl_e, woNone_e, woSome_e, gSl_t, gSl_l, gIt_t, gIt_l, gIt_s, gIsi_i, gIsi_b, gIsi_t, gIsi_l, gIsi_s, gIsi_n, gIsi_d, wFld_e, wMeth_e, wMake_e, wMakeF_e, wSetF_e, wExt_e, wFz_e, wRev_e, wRaise_e, wTry_e, wBits_e, insOf_ins, lk_kind, lk_size, lk_digest, lk_is_digest, gEnum_t, gEnum_l, gZip_t, gZip_l, mem1, reduceCtorEq, eq_self, wAsg_e, fTup_e, fCons_e, fNil_e, wAnd_e, wOr_e, wNot_e, wIf_e, wPar_e, wAug_e, wApp_e, wSetO_e, wRetO_e, br_t, br_f, shp_int, shp_bl, shp_non, deq_int, gAll_b, gAny_b, gSum_i, wDrop_e, wRetN_e, true_and, and_true, decide_true, decide_false, Bool.not_true, Bool.not_false, isi_NoneType_bool, isi_NoneType_int, isi_NoneType_str, isi_NoneType_tuple, isi_NoneType_list, isi_NoneType_dict, isi_bool_bool, isi_bool_int, isi_bool_str, isi_bool_tuple, isi_bool_list, isi_bool_dict, isi_int_bool, isi_int_int, isi_int_str, isi_int_tuple, isi_int_list, isi_int_dict, isi_str_bool, isi_str_int, isi_str_str, isi_str_tuple, isi_str_list, isi_str_dict, isi_tuple_bool, isi_tuple_int, isi_tuple_str, isi_tuple_tuple, isi_tuple_list, isi_tuple_dict, isi_list_bool, isi_list_int, isi_list_str, isi_list_tuple, isi_list_list, isi_list_dict, isi_dict_bool, isi_dict_int, isi_dict_str, isi_dict_tuple, isi_dict_list, isi_dict_dict, okTy_bool, okTy_int, okTy_str, okTy_tuple, okTy_list, okTy_dict, List.cons_append, List.nil_append, wChn_e, wSetIxO_e, wGet1_e, wGet2_e, wPutO_e, wDnew_e, slV_v, slB_v, slB_l, slB_d, slB_i, slL_l, slD_d, asB_b, asI_i, asR_r, asT_t, asQ_t, asQ_l, asD_d, asK_i, asK_s, asC_c, as2_2, asO_s, asIns_i, fz_l, fz_i, fz_v, fz_n, wKeys_e, wItems_e, wVals_e, exL_hit, asRev_l, asRev_t, wtYes_e, wFzD_e, fzD_d, fzD_v])
local macro_rules | `(tactic| tm_at "nw") => `(tactic| (tm_at "nv"; repeat (with_reducible refine sq_i ?_; tm_at "nv")))
local macro_rules | `(tactic| tm_at "nc") => `(tactic| first | exact True.intro | omega | exact mulL (by omega) (by omega) | exact mulR (by omega) (by omega) | exact divOk (by omega) (by omega) | exact shlI (n := 1) (by decide) (by decide) (by omega) (by omega) | (simp only [List.length_append, List.length_map, List.length_cons, List.length_nil, List.length_replicate, List.length_flatten, List.map_replicate, List.sum_replicate_nat, List.length_range, rngL_len, rngC_len, List.cons_append, List.nil_append]; first | done | omega))
local macro_rules | `(tactic| tm_at "ns") => `(tactic| repeat (with_reducible refine And.intro (by first | tm_at "nc" | exact ⟨by tm_at "nc", by tm_at "nc"⟩ | exact ⟨by tm_at "nc", by tm_at "nc", by tm_at "nc"⟩ | exact ⟨by tm_at "nc", by tm_at "nc", by tm_at "nc", by tm_at "nc"⟩) ?_))
local macro_rules | `(tactic| tm_at "go") => `(tactic| (tm_at "nw"; repeat (first | (with_reducible refine And.intro (by first | tm_at "nc" | exact ⟨by tm_at "nc", by tm_at "nc"⟩ | exact ⟨by tm_at "nc", by tm_at "nc", by tm_at "nc"⟩) ?_) | (with_reducible refine sq_i ?_)); tm_at "nw"))
theorem m__law_nearest (ds : List D) (Om : N.Om) (Q : D → N.Om → Prop) (R : RX) (hl : ds.length = 4) (h : sp__law_nearest ds Om Q R) : wFn 11 w__law_nearest ds Om Q R := by
  obtain ⟨bits, ns, start, target, rfl, na, hf, it, ho, b7, q⟩ := h
  have ol := own_len na
  have b16 := two16 na.b16
  have oin : ∀ x ∈ owns ns, inN bits x := fun x hx => own_in na hx
  obtain ⟨b, r0, eo, nb⟩ := near_ord it oin (List.ne_nil_of_mem ho)
  have hB : Best ns target b := nb
  obtain ⟨⟨fr, ef⟩, j, ej, jb⟩ := look_end it na hf hB ho
  have ok0 := start_ok (t := target) na ho
  have okE := (run_end (room := roomOf ns start) (t := target) na (2 ^ bits + 1) _ ok0 (by show 2 ^ bits < 0 + (2 ^ bits + 1); omega)).2
  change LsOk bits (lookS bits ns start target) at okE
  have al := okE.asked
  obtain ⟨j1, j2, _⟩ := List.findIdx?_eq_some_iff_getElem.mp ej
  have bm : b ∈ (lookS bits ns start target).asked := by
    have : (lookS bits ns start target).asked[j] = b := by simpa using j2
    rw [← this]; exact List.getElem_mem _
  unfold w__law_nearest
  tm_at "go"
  refine ⟨bits, ns, start, target, rfl, na, it, ho, fun O kept => ?_⟩
  tm_at "go"
  refine ⟨bits, ns, target, rfl, na.sz, ?_⟩
  tm_at "go"
  rw [eo]
  refine gIx_list (j := 0) rfl rfl ?_
  tm_at "go"
  rw [ef]
  generalize (lookS bits ns start target).asked = as at *
  refine br_df (by simp; omega) ?_
  refine gIx_tup (j := 0) rfl rfl ?_
  refine ⟨rfl, ?_⟩
  rw [deq_int, decide_eq_true rfl]
  tm_at "go"
  refine ⟨rfl, flD_ints _, ?_⟩
  rw [inD_ints, List.contains_iff_mem.mpr bm, if_pos rfl]
  tm_at "go"
  refine ⟨as, j, rfl, ej, ?_⟩
  rw [cut_to, ← List.map_take]
  have ahl : (as.take j).length ≤ j := by rw [List.length_take]; omega
  generalize as.take j = ah at *
  tm_at "go"
  rw [Int.toNat_natCast, rng_r]
  refine turns_subA (h := fun i : Nat => D.int (i : Int)) (g := fun i : Nat => D.int (i : Int)) (List.range ah.length) [] (by simp; omega) (fun i hi K1 K2 k1 k2 => ?_) fun bs hbs => ?_
  · have hil : i < ah.length := List.mem_range.mp hi
    tm_at "go"
    rw [cut_to, ← List.map_take]
    refine turns_mapA (h := D.int) (g := fun o => D.bl (decide (xo ah[i] target < xo o target))) (ah.take i) [] (by simp; omega) (fun o _ K k => ?_) ?_
    · tm_at "go"
      refine gIx_tup (j := i) rfl (by rw [List.getElem?_map, List.getElem?_eq_getElem hil]; rfl) ?_
      tm_at "go"
      exact k
    · rw [List.nil_append, show ((ah.take i).map fun o => D.bl (decide (xo ah[i] target < xo o target))) = ((ah.take i).map fun o => decide (xo ah[i] target < xo o target)).map .bl by rw [List.map_map]; rfl]
      tm_at "go"
      exact br_if (fun _ => k1) fun _ => k2
  · rw [List.nil_append]
    tm_at "go"
    have := hbs.length_le
    rw [List.length_range] at this
    rw [decide_eq_true (by omega)]
    exact q O kept
/-! ### a table of a net is changed -/
theorem dj_at {l1 l2 : List Nd} {n : Nd} (h : (((l1 ++ n :: l2).map (·.qs)).flatten).Nodup) : (∀ m ∈ l1, ∀ p ∈ m.qs, p ∉ n.qs) ∧ (∀ m ∈ l2, ∀ p ∈ m.qs, p ∉ n.qs) := by
  rw [List.map_append, List.map_cons, List.flatten_append, List.flatten_cons, List.nodup_append] at h
  obtain ⟨_, h2, h3⟩ := h
  rw [List.nodup_append] at h2
  refine ⟨fun m hm p hp hq => h3 p (List.mem_flatten.mpr ⟨m.qs, List.mem_map.mpr ⟨m, hm, rfl⟩, hp⟩) p (List.mem_append.mpr (.inl hq)) rfl, fun m hm p hp hq => ?_⟩
  exact h2.2.2 p hq p (List.mem_flatten.mpr ⟨m.qs, List.mem_map.mpr ⟨m, hm, rfl⟩, hp⟩) rfl
theorem netA_upd {O O' : N.Om} {bits : Nat} {l1 l2 : List Nd} {n : Nd} {sh' : List (List Int)} (h : NetA O bits (l1 ++ n :: l2)) (t : TabA O' n.own bits n.room n.qs sh') (pl : PlS n.own sh') (ko : ∀ b, b ∉ n.qs → O' b = O b) : NetA O' bits (l1 ++ { n with sh := sh' } :: l2) := by
  obtain ⟨d1, d2⟩ := dj_at h.dj
  have eo : owns (l1 ++ { n with sh := sh' } :: l2) = owns (l1 ++ n :: l2) := by unfold owns; rw [List.map_append, List.map_append]; rfl
  have mem : ∀ m ∈ l1 ++ { n with sh := sh' } :: l2, m = { n with sh := sh' } ∨ (m ∈ l1 ∨ m ∈ l2) := fun m hm => by
    rcases List.mem_append.mp hm with hm | hm
    · exact .inr (.inl hm)
    · rcases List.mem_cons.mp hm with rfl | hm
      · exact .inl rfl
      · exact .inr (.inr hm)
  have old : ∀ m, (m ∈ l1 ∨ m ∈ l2) → m ∈ l1 ++ n :: l2 := fun m hm => hm.elim (fun h => List.mem_append.mpr (.inl h)) fun h => List.mem_append.mpr (.inr (List.mem_cons_of_mem _ h))
  refine ⟨fun m hm => ?_, by rw [eo]; exact h.nd, ?_, fun m hm => ?_, h.b1, h.b16, by simpa using h.sz⟩
  · rcases mem m hm with rfl | hm
    · exact t
    · exact (h.tab m (old m hm)).keep fun p hp => ko p (hm.elim (fun q => d1 m q p hp) fun q => d2 m q p hp)
  · have := h.dj
    rw [List.map_append, List.map_cons] at this ⊢
    exact this
  · rcases mem m hm with rfl | hm
    · exact pl
    · exact h.pl m (old m hm)
theorem pl_step {O : N.Om} {bits : Nat} {own room name kind : Int} {qs : List Addr} {sh : List (List Int)} (t : TabA O own bits room qs sh) (pl : PlS own sh) (hn : inN bits name) : PlS own (stepP sh own room name kind) := by
  by_cases e : name = own
  · subst e; rw [stepP_own]; exact pl
  obtain ⟨i, hi, hlt⟩ := shf_lt t.ow hn (fun z => e z.symm)
  have his : i < sh.length := by rw [t.gd.len]; exact hlt
  have hl : sh[i]? = some sh[i] := List.getElem?_eq_getElem his
  rw [stepP_no e hi hl]
  intro j l hj x hx
  by_cases z : i = j
  · subst z
    rw [List.getElem?_set_self his] at hj
    cases hj
    have old : ∀ x ∈ sh[i], x ≠ own ∧ shf own x = (i : Int) := pl i _ hl
    split at hx
    · exact old x (List.mem_filter.mp hx).1
    · split at hx
      · rcases List.mem_append.mp hx with hx | hx
        · exact old x (List.mem_filter.mp hx).1
        · simp only [List.mem_singleton] at hx; subst hx; exact ⟨e, hi⟩
      · exact old x hx
  · rw [List.getElem?_set_ne z] at hj
    exact pl j l hj x hx
theorem ndD_upd (bits : Nat) (n : Nd) (sh' : List (List Int)) : ndD bits { n with sh := sh' } = ndD bits n := rfl
theorem netD_upd (bits : Nat) (l1 l2 : List Nd) (n : Nd) (sh' : List (List Int)) : netD bits (l1 ++ { n with sh := sh' } :: l2) = netD bits (l1 ++ n :: l2) := by
  unfold netD
  simp only [List.map_append, List.map_cons, ndD_upd]
theorem ab_net {O O' : N.Om} {bits : Nat} {ns : List Nd} (na : NetA O bits ns) {n : Nd} (hn : n ∈ ns) (ko : ∀ b, b ∉ n.qs → O' b = O b) {a : Addr} (tp : Tp O a) : Tp O' a := by
  refine (ko a fun hp => ?_).trans tp
  obtain ⟨i, hi, ei⟩ := List.getElem_of_mem hp
  have t := (na.tab n hn).at_
  have := t.at_ i a (n.sh[i]'(by rw [← t.len]; exact hi)) (by rw [List.getElem?_eq_getElem hi, ei]) (List.getElem?_eq_getElem _)
  rw [show O a = some (.abs 0) from tp] at this
  cases this
def w__law_spoilt_c3 : WS := (wSeq (wSet 5 (wCallU 1 sp_is_filled [] (waCons (wVar 1) waNil)))
  (wRet (wAnd (wCall gIsi (waCons (wVarB 5) (waCons (wC (.ty "bool")) waNil))) (wBin (gEq) (wVarB 5) (wCallU 2 sp__law_is_filled [] (waCons (wVar 1) (waCons (wVar 2) waNil)))))))
theorem w__law_spoilt_eq : w__law_spoilt = (wSeq (wSet 3 (wCallU 2 sp__law_pick [] (waCons (wVar 0) (waCons (wFrz (wCallF gSorted (waCons (wVarB 1) waNil))) waNil)))) (wSeq (wSet 4 (wMeth 24 "names" 1 sp_Table_names (wBin gIx (wVarB 1) (wVarB 3)) waNil)) (wSeq (wIfS (wtAnd (wTst (wBin (gGt) (wCall gLen (waCons (wVarB 4) waNil)) (wC (.int 0)))) (wTst (wBin (gEq) (wCallU 2 sp__law_draw [] (waCons (wVar 0) (waCons (wC (.int 2)) waNil))) (wC (.int 0))))) (wDrop (wMeth 24 "silent" 2 sp_Table_silent (wBin gIx (wVarB 1) (wVarB 3)) (waCons (wCallU 2 sp__law_pick [] (waCons (wVar 0) (waCons (wFrz (wCallF gList (waCons (wVarB 4) waNil))) waNil))) waNil))) (wDrop (wMeth 24 "see" 2 sp_Table_see (wBin gIx (wVarB 1) (wVarB 3)) (waCons (wCallU 2 sp__law_draw [] (waCons (wVar 0) (waCons (wBin (gShl) (wC (.int 1)) (wVarB 2)) waNil))) waNil)))) w__law_spoilt_c3))) := rfl
theorem flat_len20 {bits : Nat} {room : Int} {sh : List (List Int)} (g : GoodS bits room sh) (hr : room ≤ 20) : sh.flatten.length ≤ bits * 20 := by
  have : ∀ sh : List (List Int), (∀ l ∈ sh, (l.length : Int) ≤ room) → sh.flatten.length ≤ sh.length * 20 := fun sh => by
    induction sh with
    | nil => intro _; simp
    | cons l r ih =>
      intro h
      have h1 := h l List.mem_cons_self
      have h2 := ih fun l hl => h l (List.mem_cons_of_mem _ hl)
      simp only [List.flatten_cons, List.length_append, List.length_cons]
      omega
  have := this sh g.sz
  rw [g.len] at this
  exact this
theorem m__law_spoilt (ds : List D) (Om : N.Om) (Q : D → N.Om → Prop) (R : RX) (hl : ds.length = 3) (h : sp__law_spoilt ds Om Q R) : wFn 6 w__law_spoilt ds Om Q R := by
  obtain ⟨a, bits, ns, rfl, tp, na, nn, b7, q⟩ := h
  have ol := own_len na
  have op : 0 < (owns ns).length := by unfold owns; rw [List.length_map]; exact List.length_pos_iff.mpr nn
  have sl : (srtI (owns ns)).length = (owns ns).length := (srtI_perm _).length_eq
  have two : (1 : Int) * 2 ^ ((bits : Int)).toNat = 2 ^ bits := by rw [Int.toNat_natCast, Int.one_mul]
  have p2 : (0 : Int) < 2 ^ bits := by exact_mod_cast Nat.two_pow_pos bits
  have l2 : (2 : Int) ^ bits ≤ 128 := by
    have : (2 : Int) ^ bits ≤ 2 ^ 7 := ipow_le b7
    omega
  rw [w__law_spoilt_eq]
  have fin : ∀ (O : N.Om) (ns' : List Nd) (x3 x4 : Sl), Tp O a → netD bits ns' = netD bits ns → NetA O bits ns' → ns' ≠ [] → w__law_spoilt_c3 [.val (.ref a), .val (netD bits ns), .val (.int bits), x3, x4, .no] O { nx := fun x O => Q .non O, rt := Q, bk := fun x x_1 => False, ct := fun x x_1 => False, ex := fun x x_1 O => R x O } := fun O ns' x3 x4 tp e na' nn' => by
    unfold w__law_spoilt_c3
    tm_at "go"
    refine ⟨bits, ns', by rw [e], na', ?_⟩
    tm_at "go"
    refine ⟨bits, ns', by rw [e], na', ?_⟩
    tm_at "go"
    rw [deq_refl rfl]
    exact q O ns' tp e na' nn'
  tm_at "go"
  rw [show netD bits ns = .dct ((owns ns).map Sum.inl) (ns.map (ndD bits)) by unfold netD owns; rw [List.map_map]; rfl, gSorted_d]
  refine ⟨by omega, ?_⟩
  rw [show D.dct ((owns ns).map Sum.inl) (ns.map (ndD bits)) = netD bits ns by unfold netD owns; rw [List.map_map]; rfl]
  tm_at "go"
  refine ⟨a, _, _, rfl, rfl, tp, by rw [List.length_map, sl]; exact op, by rw [List.length_map, sl]; omega, fun x hx => ?_⟩
  obtain ⟨y, hy, rfl⟩ := List.mem_map.mp hx
  obtain ⟨n, hn, rfl⟩ := List.mem_map.mp ((srtI_perm _).mem_iff.mp hy)
  have t := na.tab n hn
  have fl := flat_len20 t.gd t.r2
  have fls : (srtI n.sh.flatten).length = n.sh.flatten.length := (srtI_perm _).length_eq
  have upd : ∀ (O : N.Om) (name kind : Int) (x3 x4 : Sl), inN bits name → ShA O n.qs (stepP n.sh n.own n.room name kind) → (∀ b, b ∉ n.qs → O b = Om b) → w__law_spoilt_c3 [.val (.ref a), .val (netD bits ns), .val (.int bits), x3, x4, .no] O { nx := fun x O => Q .non O, rt := Q, bk := fun x x_1 => False, ct := fun x x_1 => False, ex := fun x x_1 O => R x O } := fun O name kind x3 x4 hi h1 h2 => by
    obtain ⟨l1, l2, e⟩ := List.append_of_mem hn
    refine fin O (l1 ++ { n with sh := stepP n.sh n.own n.room name kind } :: l2) x3 x4 (ab_net na hn h2 tp) ?_ ?_ (by simp)
    · rw [netD_upd, e]
    · exact netA_upd (e ▸ na) (t.step hi h1) (pl_step t (na.pl n hn) hi) h2
  tm_at "go"
  refine gIx_net na.nd hn ?_
  simp only [ndD]
  tm_at "go"
  refine ⟨n.own, bits, n.room, n.qs, n.sh, rfl, t, ?_⟩
  tm_at "go"
  have see : sp__law_draw [.ref a, .int (1 * 2 ^ ((bits : Int)).toNat)] Om (fun d O => sp_Table_see [tbD n.own bits n.room n.qs, d] O (fun _ O => w__law_spoilt_c3 [.val (.ref a), .val (netD bits ns), .val (.int bits), .val (.int n.own), .val (.tup ((srtI n.sh.flatten).map .int)), .no] O { nx := fun x O => Q .non O, rt := Q, bk := fun x x_1 => False, ct := fun x x_1 => False, ex := fun x x_1 O => R x O }) (fun x O => R x O)) (fun x O => R x O) := by
    rw [two]
    refine draw_i tp p2 (by omega) fun r r0 r1 => ?_
    refine ⟨n.own, bits, n.room, n.qs, n.sh, _, rfl, t, .inl ⟨r, rfl, ⟨r0, r1⟩, fun O h1 h2 => ?_⟩⟩
    exact upd O r 1 _ _ ⟨r0, r1⟩ h1 h2
  have goSee : gIx (netD bits ns) (.int n.own) fun z => (asO (insOf Om z) fun p => p.1 = 24 ∧ lk p.2.1 p.2.2 "see" = none) ∧ CShl 1 (bits : Int) ∧ sp__law_draw [.ref a, .int (1 * 2 ^ ((bits : Int)).toNat)] Om (fun d O => sp_Table_see [z, d] O (fun _ O => w__law_spoilt_c3 [.val (.ref a), .val (netD bits ns), .val (.int bits), .val (.int n.own), .val (.tup ((srtI n.sh.flatten).map .int)), .no] O { nx := fun x O => Q .non O, rt := Q, bk := fun x x_1 => False, ct := fun x x_1 => False, ex := fun x x_1 O => R x O }) (fun x O => R x O)) (fun x O => R x O) := by
    refine gIx_net na.nd hn ⟨?_, shlI (n := 1) (by decide) (by decide) (by omega) (by omega), see⟩
    simp only [ndD]
    tm_at "go"
  refine br_d (fun e1 => draw_i tp (by decide) (by decide) fun r r0 r1 => ?_) fun _ => ?_
  · tm_at "go"
    refine br_d (fun _ => ?_) fun _ => ?_
    · refine gIx_net na.nd hn ?_
      simp only [ndD]
      tm_at "go"
      refine ⟨a, _, _, rfl, rfl, tp, by rw [List.length_map]; omega, by rw [List.length_map]; omega, fun z hz => ?_⟩
      obtain ⟨y, hy, rfl⟩ := List.mem_map.mp hz
      have hyf := (srtI_perm _).mem_iff.mp hy
      obtain ⟨l, hl, hyl⟩ := List.mem_flatten.mp hyf
      have iy := t.gd.rg l hl y hyl
      refine ⟨n.own, bits, n.room, n.qs, n.sh, _, rfl, t, .inl ⟨y, rfl, iy, fun O h1 h2 => ?_⟩⟩
      exact upd O y 0 _ _ iy h1 h2
    · exact goSee
  · exact goSee
end K31

set_option Elab.async false
set_option linter.all false
set_option maxRecDepth 100000
set_option maxHeartbeats 0
namespace K31
open PySem PySem.Spec PyProof.Rows L2 N
local macro_rules | `(tactic| tm_at "nv") => `(tactic| try simp -implicitDefEqProofs only [wIndex_e, asLs_l, gSorted_d, lk_s_net, lk_s_target, lk_s_room, lk_s_known, lk_s_asked, lk_s_quiet, lk_s_hear, lk_s_best, lk_s_run, tbD, lk_own, lk_bits, lk_room, lk_shelves, lk_check, lk_see, lk_silent, lk_shelf, lk_names, lk_nearest, asSh_l, asSh_d, asShL_l, asShD_d, cont_r, cont_n, cont_b, cont_i, cont_s, cont_t, cont_l, cont_d, cont_o, contL_n, contL_c, wBinC_e, wCallC_e, wCallFC_e, wShF_e, wItC_e, wForE_e, wCompE_e, wComp2_e, wAppS_e, wRemS_e, wSetIxS_e, wPutS_e, wMakeG_e, noOwn_n, noOwn_o, noOwn_v, noOwn_z, gSorted_i, gSorted_p, Int.cast_ofNat_Int, Int.reduceEq, Int.reduceLT, Int.reduceLE, List.length_map, List.length_append, see_l, see_d, see_i, Nat.reduceAdd, Nat.reduceLeDiff, Nat.zero_le, wFn_e, startG_c, startG_n, startG_z, wSeq_e, wSet_e, wC_e, wFor_e, wIt_e, wVar_e, wVarB_e, getSl_z, getSl_s, List.set_cons_zero, List.set_cons_succ, wRet_e, wBin_e, gI_i, gI0_i, gB0_i, gAdd_i, gAdd_t, gAdd_l, gAdd_s, gMul_i, gMul_t, gMul_l, gEq_, gNe_, gIs_n, gIs_b, gIsNot_n, gIsNot_b, isNon_n, isNon_i, isNon_b, isNon_t, isNon_l, isNon_s, wIfS_e, wtOr_e, wtAnd_e, wtNot_e, wTst_e, wNext_e, wNev_e, wCall_e, wCallF_e, wFrz_e, wLst_e, wTup_e, waNil_e, waCons_e, wComp_e, wRng_e, gRng1_i, gRng2_i, gRng3_i, wUn_e, gNeg_i, gTuple_t, gTuple_l, gList_t, gList_l, gList_s, gLen_t, gLen_l, gLen_s, gLen_d, gInt_i, gInt_b, gAbs_i, gMax_i, gMin_i, wipeG, fName_e, wCallU_e, wCallK_e, List.append_nil, List.length_cons, List.length_nil, wSl_e, woNone_e, woSome_e, gSl_t, gSl_l, gIt_t, gIt_l, gIt_s, gIsi_i, gIsi_b, gIsi_t, gIsi_l, gIsi_s, gIsi_n, gIsi_d, wFld_e, wMeth_e, wMake_e, wMakeF_e, wSetF_e, wExt_e, wFz_e, wRev_e, wRaise_e, wTry_e, wBits_e, insOf_ins, lk_kind, lk_size, lk_digest, lk_is_digest, gEnum_t, gEnum_l, gZip_t, gZip_l, mem1, reduceCtorEq, eq_self, wAsg_e, fTup_e, fCons_e, fNil_e, wAnd_e, wOr_e, wNot_e, wIf_e, wPar_e, wAug_e, wApp_e, wSetO_e, wRetO_e, br_t, br_f, shp_int, shp_bl, shp_non, deq_int, gAll_b, gAny_b, gSum_i, wDrop_e, wRetN_e, true_and, and_true, decide_true, decide_false, Bool.not_true, Bool.not_false, isi_NoneType_bool, isi_NoneType_int, isi_NoneType_str, isi_NoneType_tuple, isi_NoneType_list, isi_NoneType_dict, isi_bool_bool, isi_bool_int, isi_bool_str, isi_bool_tuple, isi_bool_list, isi_bool_dict, isi_int_bool, isi_int_int, isi_int_str, isi_int_tuple, isi_int_list, isi_int_dict, isi_str_bool, isi_str_int, isi_str_str, isi_str_tuple, isi_str_list, isi_str_dict, isi_tuple_bool, isi_tuple_int, isi_tuple_str, isi_tuple_tuple, isi_tuple_list, isi_tuple_dict, isi_list_bool, isi_list_int, isi_list_str, isi_list_tuple, isi_list_list, isi_list_dict, isi_dict_bool, isi_dict_int, isi_dict_str, isi_dict_tuple, isi_dict_list, isi_dict_dict, okTy_bool, okTy_int, okTy_str, okTy_tuple, okTy_list, okTy_dict, List.cons_append, List.nil_append, wChn_e, wSetIxO_e, wGet1_e, wGet2_e, wPutO_e, wDnew_e, slV_v, slB_v, slB_l, slB_d, slB_i, slL_l, slD_d, asB_b, asI_i, asR_r, asT_t, asQ_t, asQ_l, asD_d, asK_i, asK_s, asC_c, as2_2, asO_s, asIns_i, fz_l, fz_i, fz_v, fz_n, wKeys_e, wItems_e, wVals_e, exL_hit, asRev_l, asRev_t, wtYes_e, wFzD_e, fzD_d, fzD_v])
local macro_rules | `(tactic| tm_at "nw") => `(tactic| (tm_at "nv"; repeat (with_reducible refine sq_i ?_; tm_at "nv")))
local macro_rules | `(tactic| tm_at "nc") => `(tactic| first | exact True.intro | omega | exact mulL (by omega) (by omega) | exact mulR (by omega) (by omega) | exact divOk (by omega) (by omega) | exact shlI (n := 1) (by decide) (by decide) (by omega) (by omega) | (simp only [List.length_append, List.length_map, List.length_cons, List.length_nil, List.length_replicate, List.length_flatten, List.map_replicate, List.sum_replicate_nat, List.length_range, rngL_len, rngC_len, List.cons_append, List.nil_append]; first | done | omega))
local macro_rules | `(tactic| tm_at "ns") => `(tactic| repeat (with_reducible refine And.intro (by first | tm_at "nc" | exact ⟨by tm_at "nc", by tm_at "nc"⟩ | exact ⟨by tm_at "nc", by tm_at "nc", by tm_at "nc"⟩ | exact ⟨by tm_at "nc", by tm_at "nc", by tm_at "nc", by tm_at "nc"⟩) ?_))
local macro_rules | `(tactic| tm_at "go") => `(tactic| (tm_at "nw"; repeat (first | (with_reducible refine And.intro (by first | tm_at "nc" | exact ⟨by tm_at "nc", by tm_at "nc"⟩ | exact ⟨by tm_at "nc", by tm_at "nc", by tm_at "nc"⟩) ?_) | (with_reducible refine sq_i ?_)); tm_at "nw"))
/-! ### the law's net -/
theorem fresh_net {Om O' : N.Om} {c : Addr} {own : Int} {bits : Nat} {room : Int} {qs : List Addr} {ns : List Nd} (na : NetA Om bits ns) (hc : Om c = none) (r1 : 1 ≤ room) (r2 : room ≤ 20) (ow : inN bits own) (no : own ∉ owns ns) (hz : ns.length < 60) (e1 : qs.length = bits) (e2 : qs.Nodup) (e3 : ∀ q ∈ qs, O' q = some (.lst []) ∧ (putO Om c (.ins TC [] [])) q = none)
    (e5 : ∀ b, (putO Om c (.ins TC [] [])) b ≠ none → b ≠ c → O' b = (putO Om c (.ins TC [] [])) b) : NetA (delO O' c) bits (ns ++ [⟨own, room, qs, List.replicate bits []⟩]) := by
  have nc : ∀ q ∈ qs, q ≠ c ∧ Om q = none := fun q hq => by
    have h := (e3 q hq).2
    have : q ≠ c := fun z => by rw [z, putO_same] at h; cases h
    rw [putO_ne this] at h
    exact ⟨this, h⟩
  have kept : ∀ b, Om b ≠ none → (delO O' c) b = Om b := fun b hb => by
    have bc : b ≠ c := fun z => hb (z ▸ hc)
    show (if b = c then none else O' b) = _
    rw [if_neg bc, e5 b (by rw [putO_ne bc]; exact hb) bc, putO_ne bc]
  have live : ∀ n ∈ ns, ∀ p ∈ n.qs, Om p ≠ none := fun n hn p hp => by
    obtain ⟨i, hi, ei⟩ := List.getElem_of_mem hp
    have t := (na.tab n hn).at_
    have := t.at_ i p (n.sh[i]'(by rw [← t.len]; exact hi)) (by rw [List.getElem?_eq_getElem hi, ei]) (List.getElem?_eq_getElem _)
    rw [this]
    intro z; cases z
  have na' : NetA (delO O' c) bits ns := netA_keep na fun n hn p hp => kept p (live n hn p hp)
  refine ⟨fun n hn => ?_, ?_, ?_, fun n hn => ?_, na.b1, na.b16, by simp; omega⟩
  · rcases List.mem_append.mp hn with hn | hn
    · exact na'.tab n hn
    · simp only [List.mem_singleton] at hn
      subst hn
      refine ⟨na.b1, by have := na.b16; omega, r1, r2, ow, ⟨by simpa using e1, e2, fun i q l h1 h2 => ?_⟩, ⟨by simp, fun l hl => ?_, fun l hl => ?_, fun l hl => ?_⟩⟩
      · have hq := List.mem_of_getElem? h1
        have : l = [] := (List.mem_replicate.mp (List.mem_of_getElem? h2)).2
        subst this
        show (if q = c then none else O' q) = _
        rw [if_neg (nc q hq).1]
        exact (e3 q hq).1
      · rw [(List.mem_replicate.mp hl).2]; exact List.nodup_nil
      · rw [(List.mem_replicate.mp hl).2]; simp; omega
      · rw [(List.mem_replicate.mp hl).2]; intro x hx; cases hx
  · unfold owns at no ⊢
    rw [List.map_append, List.nodup_append]
    refine ⟨na.nd, by simp, fun a ha b hb => ?_⟩
    simp only [List.map_cons, List.map_nil, List.mem_singleton] at hb
    subst hb
    exact fun z => no (z ▸ ha)
  · rw [List.map_append, List.flatten_append, List.nodup_append]
    refine ⟨na.dj, by simpa using e2, fun a ha b hb => ?_⟩
    simp only [List.map_cons, List.map_nil, List.flatten_cons, List.flatten_nil, List.append_nil] at hb
    obtain ⟨l, hl, ha⟩ := List.mem_flatten.mp ha
    obtain ⟨n, hn, rfl⟩ := List.mem_map.mp hl
    exact fun z => live n hn a ha (z ▸ (nc b hb).2)
  · rcases List.mem_append.mp hn with hn | hn
    · exact na.pl n hn
    · simp only [List.mem_singleton] at hn
      subst hn
      intro i l hl x hx
      have : l = [] := (List.mem_replicate.mp (List.mem_of_getElem? hl)).2
      subst this
      cases hx
/-- the names of the net -/
theorem loop_names {a : Addr} {bits : Nat} {O : N.Om} (tp : Tp O a) (b7 : bits ≤ 7) (x4 x5 x7 x8 : Sl) (Po : Post) : ∀ (items : List D) (l : List Int) (x3 x6 : Sl), l.Nodup → (∀ x ∈ l, inN bits x) → l.length + items.length ≤ 14 → (0 < l.length ∨ 0 < items.length) →
    (∀ (l' : List Int) y3 y6, l'.Nodup → (∀ x ∈ l', inN bits x) → l'.length ≤ 14 → 0 < l'.length → Po.nx [.val (.ref a), .val (.int bits), .val (.lst (l'.map .int)), y3, x4, x5, y6, x7, x8] O) →
    wForL (fName 3) w__law_net_b1 items [.val (.ref a), .val (.int bits), .val (.lst (l.map .int)), x3, x4, x5, x6, x7, x8] O Po
  | [], l, x3, x6, nd, hr, hl, hp, h => wForL_n (h l x3 x6 nd hr (by simpa using hl) (by simpa using hp))
  | d :: r, l, x3, x6, nd, hr, hl, hp, h => by
    rw [List.length_cons] at hl
    refine wForL_c ?_
    have p2 : (0 : Int) < 2 ^ bits := by exact_mod_cast Nat.two_pow_pos bits
    have l2 : (2 : Int) ^ bits ≤ 128 := by
      have : (2 : Int) ^ bits ≤ 2 ^ 7 := ipow_le b7
      omega
    tm_at "go"
    rw [Int.toNat_natCast, Int.one_mul]
    refine draw_i tp p2 (by omega) fun x x0 x1 => ?_
    tm_at "go"
    refine ⟨rfl, flD_ints _, ?_⟩
    rw [inD_ints, if_neg (by decide)]
    cases ec : l.contains x
    · have nm : x ∉ l := fun z => by rw [List.contains_iff_mem.mpr z] at ec; cases ec
      tm_at "go"
      rw [show l.map D.int ++ [D.int x] = (l ++ [x]).map .int by simp]
      refine loop_names tp b7 x4 x5 x7 x8 Po r (l ++ [x]) _ _ ?_ (fun y hy => ?_) (by simp; omega) (.inl (by simp)) h
      · rw [List.nodup_append]
        refine ⟨nd, by simp, fun a ha b hb => ?_⟩
        simp only [List.mem_singleton] at hb
        subst hb
        exact fun e => nm (e ▸ ha)
      · rcases List.mem_append.mp hy with hy | hy
        · exact hr y hy
        · simp only [List.mem_singleton] at hy; subst hy; exact ⟨x0, x1⟩
    · have nm : x ∈ l := List.contains_iff_mem.mp ec
      tm_at "go"
      exact loop_names tp b7 x4 x5 x7 x8 Po r l _ _ nd hr (by omega) (.inl (List.length_pos_of_mem nm)) h
/-- how far a node's shelves are filled -/
structure FilN (names : List Int) (n : Nd) (i : Nat) : Prop where
  inn : ∀ x ∈ n.sh.flatten, x ∈ names
  ful : ∀ x ∈ names, x ≠ n.own → ∀ j : Nat, shf n.own x = (j : Int) → j < i → n.sh.getD j [] ≠ []
theorem stepP_get {own room name : Int} {bits : Nat} {sh : List (List Int)} (g : GoodS bits room sh) (ow : inN bits own) (hn : inN bits name) (j : Nat) : (sh.getD j [] ≠ [] → (stepP sh own room name 1).getD j [] ≠ []) ∧ (name ≠ own → shf own name = (j : Int) → 1 ≤ room → (stepP sh own room name 1).getD j [] ≠ []) := by
  by_cases e : name = own
  · subst e; rw [stepP_own]; exact ⟨id, fun z => absurd rfl z⟩
  obtain ⟨i, hi, hlt⟩ := shf_lt ow hn (fun z => e z.symm)
  have his : i < sh.length := by rw [g.len]; exact hlt
  have hl : sh[i]? = some sh[i] := List.getElem?_eq_getElem his
  rw [stepP_no e hi hl, if_neg (by decide)]
  by_cases z : i = j
  · subst z
    have gi : (sh.set i (if name ∈ sh[i] ∨ (sh[i].length : Int) < room then sh[i].filter (fun x => x ≠ name) ++ [name] else sh[i])).getD i [] = (if name ∈ sh[i] ∨ (sh[i].length : Int) < room then sh[i].filter (fun x => x ≠ name) ++ [name] else sh[i]) := by
      rw [List.getD_eq_getElem?_getD, List.getElem?_set_self his]; rfl
    have si : sh.getD i [] = sh[i] := by rw [List.getD_eq_getElem?_getD, hl]; rfl
    rw [gi, si]
    refine ⟨fun h => ?_, fun _ _ hr => ?_⟩
    · split
      · simp
      · exact h
    · split
      · simp
      · rename_i hn
        intro z
        rw [z] at hn
        simp only [List.not_mem_nil, false_or, List.length_nil] at hn
        exact hn (by omega)
  · have gi : (sh.set i (if name ∈ sh[i] ∨ (sh[i].length : Int) < room then sh[i].filter (fun x => x ≠ name) ++ [name] else sh[i])).getD j [] = sh.getD j [] := by
      rw [List.getD_eq_getElem?_getD, List.getElem?_set_ne z, ← List.getD_eq_getElem?_getD]
    rw [gi]
    refine ⟨id, fun _ h2 => ?_⟩
    rw [hi] at h2
    exact absurd (by omega) z
theorem stepP_mem {own room name : Int} {bits : Nat} {sh : List (List Int)} (g : GoodS bits room sh) (ow : inN bits own) (hn : inN bits name) {x : Int} (hx : x ∈ (stepP sh own room name 1).flatten) : x = name ∨ x ∈ sh.flatten := by
  by_cases e : name = own
  · subst e; rw [stepP_own] at hx; exact .inr hx
  obtain ⟨i, hi, hlt⟩ := shf_lt ow hn (fun z => e z.symm)
  have his : i < sh.length := by rw [g.len]; exact hlt
  have hl : sh[i]? = some sh[i] := List.getElem?_eq_getElem his
  rw [stepP_no e hi hl, if_neg (by decide)] at hx
  obtain ⟨l, hl', hx⟩ := List.mem_flatten.mp hx
  rcases List.mem_or_eq_of_mem_set hl' with h | h
  · exact .inr (List.mem_flatten.mpr ⟨l, h, hx⟩)
  · subst h
    have old : ∀ x ∈ sh[i], x ∈ sh.flatten := fun x hx => List.mem_flatten.mpr ⟨_, List.getElem_mem _, hx⟩
    split at hx
    · rcases List.mem_append.mp hx with hx | hx
      · exact .inr (old x (List.mem_filter.mp hx).1)
      · simp only [List.mem_singleton] at hx; exact .inl hx
    · exact .inr (old x hx)
theorem FilN.step {names : List Int} {n : Nd} {i bits : Nat} {name : Int} (f : FilN names n i) (g : GoodS bits n.room n.sh) (ow : inN bits n.own) (hn : inN bits name) (hm : name ∈ names) : FilN names { n with sh := stepP n.sh n.own n.room name 1 } i :=
  ⟨fun x hx => (stepP_mem g ow hn hx).elim (fun z => z ▸ hm) (f.inn x), fun x hx ne j hj hlt => (stepP_get g ow hn j).1 (f.ful x hx ne j hj hlt)⟩
end K31

set_option Elab.async false
set_option linter.all false
set_option maxRecDepth 100000
set_option maxHeartbeats 0
namespace K31
open PySem PySem.Spec PyProof.Rows L2 N
local macro_rules | `(tactic| tm_at "nv") => `(tactic| try simp -implicitDefEqProofs only [wIndex_e, asLs_l, gSorted_d, lk_s_net, lk_s_target, lk_s_room, lk_s_known, lk_s_asked, lk_s_quiet, lk_s_hear, lk_s_best, lk_s_run, tbD, lk_own, lk_bits, lk_room, lk_shelves, lk_check, lk_see, lk_silent, lk_shelf, lk_names, lk_nearest, asSh_l, asSh_d, asShL_l, asShD_d, cont_r, cont_n, cont_b, cont_i, cont_s, cont_t, cont_l, cont_d, cont_o, contL_n, contL_c, wBinC_e, wCallC_e, wCallFC_e, wShF_e, wItC_e, wForE_e, wCompE_e, wComp2_e, wAppS_e, wRemS_e, wSetIxS_e, wPutS_e, wMakeG_e, noOwn_n, noOwn_o, noOwn_v, noOwn_z, gSorted_i, gSorted_p, Int.cast_ofNat_Int, Int.reduceEq, Int.reduceLT, Int.reduceLE, List.length_map, List.length_append, see_l, see_d, see_i, Nat.reduceAdd, Nat.reduceLeDiff, Nat.zero_le, wFn_e, startG_c, startG_n, startG_z, wSeq_e, wSet_e, wC_e, wFor_e, wIt_e, wVar_e, wVarB_e, getSl_z, getSl_s, List.set_cons_zero, List.set_cons_succ, wRet_e, wBin_e, gI_i, gI0_i, gB0_i, gAdd_i, gAdd_t, gAdd_l, gAdd_s, gMul_i, gMul_t, gMul_l, gEq_, gNe_, gIs_n, gIs_b, gIsNot_n, gIsNot_b, isNon_n, isNon_i, isNon_b, isNon_t, isNon_l, isNon_s, wIfS_e, wtOr_e, wtAnd_e, wtNot_e, wTst_e, wNext_e, wNev_e, wCall_e, wCallF_e, wFrz_e, wLst_e, wTup_e, waNil_e, waCons_e, wComp_e, wRng_e, gRng1_i, gRng2_i, gRng3_i, wUn_e, gNeg_i, gTuple_t, gTuple_l, gList_t, gList_l, gList_s, gLen_t, gLen_l, gLen_s, gLen_d, gInt_i, gInt_b, gAbs_i, gMax_i, gMin_i, wipeG, fName_e, wCallU_e, wCallK_e, List.append_nil, List.length_cons, List.length_nil, wSl_e, woNone_e, woSome_e, gSl_t, gSl_l, gIt_t, gIt_l, gIt_s, gIsi_i, gIsi_b, gIsi_t, gIsi_l, gIsi_s, gIsi_n, gIsi_d, wFld_e, wMeth_e, wMake_e, wMakeF_e, wSetF_e, wExt_e, wFz_e, wRev_e, wRaise_e, wTry_e, wBits_e, insOf_ins, lk_kind, lk_size, lk_digest, lk_is_digest, gEnum_t, gEnum_l, gZip_t, gZip_l, mem1, reduceCtorEq, eq_self, wAsg_e, fTup_e, fCons_e, fNil_e, wAnd_e, wOr_e, wNot_e, wIf_e, wPar_e, wAug_e, wApp_e, wSetO_e, wRetO_e, br_t, br_f, shp_int, shp_bl, shp_non, deq_int, gAll_b, gAny_b, gSum_i, wDrop_e, wRetN_e, true_and, and_true, decide_true, decide_false, Bool.not_true, Bool.not_false, isi_NoneType_bool, isi_NoneType_int, isi_NoneType_str, isi_NoneType_tuple, isi_NoneType_list, isi_NoneType_dict, isi_bool_bool, isi_bool_int, isi_bool_str, isi_bool_tuple, isi_bool_list, isi_bool_dict, isi_int_bool, isi_int_int, isi_int_str, isi_int_tuple, isi_int_list, isi_int_dict, isi_str_bool, isi_str_int, isi_str_str, isi_str_tuple, isi_str_list, isi_str_dict, isi_tuple_bool, isi_tuple_int, isi_tuple_str, isi_tuple_tuple, isi_tuple_list, isi_tuple_dict, isi_list_bool, isi_list_int, isi_list_str, isi_list_tuple, isi_list_list, isi_list_dict, isi_dict_bool, isi_dict_int, isi_dict_str, isi_dict_tuple, isi_dict_list, isi_dict_dict, okTy_bool, okTy_int, okTy_str, okTy_tuple, okTy_list, okTy_dict, List.cons_append, List.nil_append, wChn_e, wSetIxO_e, wGet1_e, wGet2_e, wPutO_e, wDnew_e, slV_v, slB_v, slB_l, slB_d, slB_i, slL_l, slD_d, asB_b, asI_i, asR_r, asT_t, asQ_t, asQ_l, asD_d, asK_i, asK_s, asC_c, as2_2, asO_s, asIns_i, fz_l, fz_i, fz_v, fz_n, wKeys_e, wItems_e, wVals_e, exL_hit, asRev_l, asRev_t, wtYes_e, wFzD_e, fzD_d, fzD_v])
local macro_rules | `(tactic| tm_at "nw") => `(tactic| (tm_at "nv"; repeat (with_reducible refine sq_i ?_; tm_at "nv")))
local macro_rules | `(tactic| tm_at "nc") => `(tactic| first | exact True.intro | omega | exact mulL (by omega) (by omega) | exact mulR (by omega) (by omega) | exact divOk (by omega) (by omega) | exact shlI (n := 1) (by decide) (by decide) (by omega) (by omega) | (simp only [List.length_append, List.length_map, List.length_cons, List.length_nil, List.length_replicate, List.length_flatten, List.map_replicate, List.sum_replicate_nat, List.length_range, rngL_len, rngC_len, List.cons_append, List.nil_append]; first | done | omega))
local macro_rules | `(tactic| tm_at "ns") => `(tactic| repeat (with_reducible refine And.intro (by first | tm_at "nc" | exact ⟨by tm_at "nc", by tm_at "nc"⟩ | exact ⟨by tm_at "nc", by tm_at "nc", by tm_at "nc"⟩ | exact ⟨by tm_at "nc", by tm_at "nc", by tm_at "nc", by tm_at "nc"⟩) ?_))
local macro_rules | `(tactic| tm_at "go") => `(tactic| (tm_at "nw"; repeat (first | (with_reducible refine And.intro (by first | tm_at "nc" | exact ⟨by tm_at "nc", by tm_at "nc"⟩ | exact ⟨by tm_at "nc", by tm_at "nc", by tm_at "nc"⟩) ?_) | (with_reducible refine sq_i ?_)); tm_at "nw"))
/-- what stands of the node that is made -/
structure Mk (a : Addr) (bits : Nat) (names : List Int) (ns0 : List Nd) (own room : Int) (qs : List Addr) (i : Nat) (O : N.Om) (n : Nd) : Prop where
  tp : Tp O a
  na : NetA O bits (ns0 ++ [n])
  fl : FilN names n i
  ow : n.own = own
  rm : n.room = room
  q : n.qs = qs
def dK31 (bits : Nat) (ns0 : List Nd) (own room : Int) (qs : List Addr) : MO := .dct ((ns0 ++ [(⟨own, room, qs, []⟩ : Nd)]).map fun n : Nd => .inl n.own) ((ns0 ++ [(⟨own, room, qs, []⟩ : Nd)]).map (ndD bits))
theorem dK_eq {bits : Nat} {ns0 : List Nd} {own room : Int} {qs : List Addr} {n : Nd} (h1 : n.own = own) (h2 : n.room = room) (h3 : n.qs = qs) : dK31 bits ns0 own room qs = .dct ((ns0 ++ [n]).map fun n => .inl n.own) ((ns0 ++ [n]).map (ndD bits)) := by
  subst h1 h2 h3
  unfold dK31
  simp only [List.map_append, List.map_cons, List.map_nil]
  rfl
theorem b2_ok {a : Addr} {bits : Nat} {names : List Int} {ns0 : List Nd} {own room : Int} {qs : List Addr} {i k : Nat} {O : N.Om} {n : Nd} (v : Mk a bits names ns0 own room qs k O n) (there : List Int) (ht : ∀ x ∈ there, x ∈ names ∧ x ≠ own ∧ shf own x = (i : Int)) (hi : ∀ x ∈ names, inN bits x) (tz : there.length ≤ 14) (x3 x6 x7 : Sl) (Po : Post)
    (h : ∀ O' n', Mk a bits names ns0 own room qs k O' n' → (n.sh.getD i [] ≠ [] → n'.sh.getD i [] ≠ []) → (there ≠ [] → n'.sh.getD i [] ≠ []) → Po.nx [.val (.ref a), .val (.int bits), .val (.lst (names.map .int)), x3, .own (dK31 bits ns0 own room qs), .val (.int own), x6, x7, .val (.lst (there.map .int))] O') :
    w__law_net_b2 [.val (.ref a), .val (.int bits), .val (.lst (names.map .int)), x3, .own (dK31 bits ns0 own room qs), .val (.int own), x6, x7, .val (.lst (there.map .int))] O Po := by
  have hn : n ∈ ns0 ++ [n] := List.mem_append.mpr (.inr (List.mem_singleton.mpr rfl))
  have t := v.na.tab n hn
  have h0 := h O n v id
  rw [dK_eq v.ow v.rm v.q] at h h0 ⊢
  tm_at "go"
  refine br_d (fun e => ?_) fun e => ?_
  · have vo := v.ow
    subst vo
    refine (show ∀ K : D → Prop, K (ndD bits n) → gIx (.dct ((ns0 ++ [n]).map fun n => .inl n.own) ((ns0 ++ [n]).map (ndD bits))) (.int n.own) K from fun K k => gIx_net v.na.nd hn k) _ ?_
    simp only [ndD]
    tm_at "go"
    refine ⟨a, _, _, rfl, rfl, v.tp, by rw [List.length_map]; omega, by rw [List.length_map]; omega, fun z hz => ?_⟩
    obtain ⟨x, hx, rfl⟩ := List.mem_map.mp hz
    obtain ⟨x1, x2, x3'⟩ := ht x hx
    have ix := hi x x1
    refine ⟨n.own, bits, n.room, n.qs, n.sh, _, rfl, t, .inl ⟨x, rfl, ix, fun O' h1 h2 => ?_⟩⟩
    have na' := netA_upd (l1 := ns0) (l2 := []) (n := n) v.na (t.step ix h1) (pl_step t (v.na.pl n hn) ix) h2
    have g := stepP_get (room := n.room) t.gd t.ow ix i
    exact h O' { n with sh := stepP n.sh n.own n.room x 1 } ⟨ab_net v.na hn h2 v.tp, na', v.fl.step t.gd t.ow ix x1, rfl, v.rm, v.q⟩ g.1 (fun _ => g.2 x2 x3' t.r1)
  · refine h0 fun z => absurd ?_ e
    have := List.length_pos_iff.mpr z
    omega
theorem loop_b2 {a : Addr} {bits : Nat} {names : List Int} {ns0 : List Nd} {own room : Int} {qs : List Addr} {i k : Nat} (there : List Int) (ht : ∀ x ∈ there, x ∈ names ∧ x ≠ own ∧ shf own x = (i : Int)) (hi : ∀ x ∈ names, inN bits x) (tz : there.length ≤ 14) (x6 x7 : Sl) (Po : Post)
    (h : ∀ O' n' y3, Mk a bits names ns0 own room qs k O' n' → (there ≠ [] → n'.sh.getD i [] ≠ []) → Po.nx [.val (.ref a), .val (.int bits), .val (.lst (names.map .int)), y3, .own (dK31 bits ns0 own room qs), .val (.int own), x6, x7, .val (.lst (there.map .int))] O') :
    ∀ (items : List D) (O : N.Om) (n : Nd) (x3 : Sl), Mk a bits names ns0 own room qs k O n → (there ≠ [] → n.sh.getD i [] ≠ []) →
    wForL (fName 3) w__law_net_b2 items [.val (.ref a), .val (.int bits), .val (.lst (names.map .int)), x3, .own (dK31 bits ns0 own room qs), .val (.int own), x6, x7, .val (.lst (there.map .int))] O Po
  | [], O, n, x3, v, hf => wForL_n (h O n x3 v hf)
  | d :: r, O, n, x3, v, hf => by
    refine wForL_c ?_
    exact b2_ok v there ht hi tz _ _ _ _ fun O' n' v' h1 h2 => loop_b2 there ht hi tz x6 x7 Po h r O' n' _ v' h2
theorem loop_b3 {a : Addr} {bits : Nat} {names : List Int} {ns0 : List Nd} {own room : Int} {qs : List Addr} (hi : ∀ x ∈ names, inN bits x) (nz : names.length ≤ 14) (ow : inN bits own) (b7 : bits ≤ 7) (Po : Post)
    (h : ∀ O' n' y3 y6 y7 y8, Mk a bits names ns0 own room qs bits O' n' → Po.nx [.val (.ref a), .val (.int bits), .val (.lst (names.map .int)), y3, .own (dK31 bits ns0 own room qs), .val (.int own), y6, y7, y8] O') :
    ∀ (m i : Nat) (O : N.Om) (n : Nd) (x3 x6 x7 x8 : Sl), i + m = bits → Mk a bits names ns0 own room qs i O n →
    wForL (fName 7) w__law_net_b3 ((List.range' i m).map fun (i : Nat) => D.int (i : Int)) [.val (.ref a), .val (.int bits), .val (.lst (names.map .int)), x3, .own (dK31 bits ns0 own room qs), .val (.int own), x6, x7, x8] O Po
  | 0, i, O, n, x3, x6, x7, x8, e, v => by
    have : i = bits := by omega
    subst this
    exact wForL_n (h O n _ _ _ _ v)
  | m + 1, i, O, n, x3, x6, x7, x8, e, v => by
    rw [rng_from]
    refine wForL_c ?_
    show (wSeq _ (wSeq w__law_net_b2 (wFor _ _ _))) _ _ _
    tm_at "go"
    refine turns_filA (h := D.int) (g := D.int) (t := fun x => decide (x ≠ own) && decide (shf own x = (i : Int))) names [] (by simp; omega) (fun x hx K1 K2 k1 k2 => ?_) ?_
    · tm_at "go"
      refine br_if (fun e => ?_) fun e => k2 ?_
      · have ne : x ≠ own := by simpa using e
        refine ⟨own, x, bits, rfl, by omega, ow, hi x hx, fun z => ne z.symm, ?_⟩
        tm_at "go"
        refine br_d (fun e2 => k1 ?_) fun e2 => k2 ?_
        · rw [decide_eq_true ne, decide_eq_true e2]; rfl
        · rw [decide_eq_false e2, Bool.and_false]
      · have ex : x = own := by simpa using e
        rw [decide_eq_false (fun z => z ex), Bool.false_and]
    · rw [List.nil_append]
      have tz : (names.filter fun x => decide (x ≠ own) && decide (shf own x = (i : Int))).length ≤ 14 := Nat.le_trans (List.length_filter_le _ _) nz
      have ht : ∀ x ∈ (names.filter fun x => decide (x ≠ own) && decide (shf own x = (i : Int))), x ∈ names ∧ x ≠ own ∧ shf own x = (i : Int) := fun x hx => by
        obtain ⟨x1, x2⟩ := List.mem_filter.mp hx
        simp only [Bool.and_eq_true, decide_eq_true_eq] at x2
        exact ⟨x1, x2⟩
      have hin : ∀ x ∈ names, x ≠ own → shf own x = (i : Int) → (names.filter fun x => decide (x ≠ own) && decide (shf own x = (i : Int))) ≠ [] := fun x hx ne es z => by
        have : x ∈ (names.filter fun x => decide (x ≠ own) && decide (shf own x = (i : Int))) := List.mem_filter.mpr ⟨hx, by rw [decide_eq_true ne, decide_eq_true es]; rfl⟩
        rw [z] at this
        cases this
      generalize (names.filter fun x => decide (x ≠ own) && decide (shf own x = (i : Int))) = there at *
      refine sq_i ?_
      rw [wSeq_e]
      refine b2_ok (k := i) v there ht hi tz _ _ _ _ fun O2 n2 v2 g1 g2 => ?_
      tm_at "go"
      refine draw_i v2.tp (by decide) (by decide) fun y y0 y3 => ?_
      tm_at "go"
      refine loop_b2 (k := i) there ht hi tz _ _ _ (fun O3 n3 y3 v3 hf => ?_) _ _ _ _ v2 g2
      refine loop_b3 hi nz ow b7 Po h m (i + 1) _ n3 _ _ _ _ (by omega) ⟨v3.tp, v3.na, ⟨v3.fl.inn, fun x hx ne j hj hlt => ?_⟩, v3.ow, v3.rm, v3.q⟩
      by_cases z : j < i
      · exact v3.fl.ful x hx ne j hj z
      · have : j = i := by omega
        subst this
        rw [v3.ow] at ne hj
        exact hf (hin x hx ne hj)
theorem putKs_newA {ks : List Key} {k : Key} (h : k ∉ ks) : putKs ks k = ks ++ [k] := by
  induction ks with
  | nil => rfl
  | cons a r ih =>
    simp only [List.mem_cons, not_or] at h
    unfold putKs
    rw [if_neg (fun z => h.1 z.symm), ih h.2]; rfl
theorem putVs_new {ks : List Key} {vs : List D} {k : Key} {d : D} (h : k ∉ ks) (e : ks.length = vs.length) : putVs ks vs k d = vs ++ [d] := by
  induction ks generalizing vs with
  | nil => cases vs with
    | nil => rfl
    | cons => cases e
  | cons a r ih =>
    cases vs with
    | nil => cases e
    | cons v w =>
      simp only [List.mem_cons, not_or] at h
      unfold putVs
      rw [if_neg (fun z => h.1 z.symm), ih h.2 (by simpa using e)]
      rfl
theorem b4_ok {a : Addr} {bits : Nat} {names : List Int} {ns0 : List Nd} {own : Int} {O : N.Om} (tp : Tp O a) (na : NetA O bits ns0) (hi : ∀ x ∈ names, inN bits x) (nz : names.length ≤ 14) (ow : inN bits own) (no : own ∉ owns ns0) (b7 : bits ≤ 7) (hz : ns0.length < 14) (x3 x6 x7 x8 : Sl) (Po : Post)
    (h : ∀ O' n y3 y6 y7 y8, Tp O' a → NetA O' bits (ns0 ++ [n]) → FilN names n bits → n.own = own → Po.nx [.val (.ref a), .val (.int bits), .val (.lst (names.map .int)), y3, .own (.dct ((ns0 ++ [n]).map fun n => .inl n.own) ((ns0 ++ [n]).map (ndD bits))), .val (.int own), y6, y7, y8] O') :
    w__law_net_b4 [.val (.ref a), .val (.int bits), .val (.lst (names.map .int)), x3, .own (.dct (ns0.map fun n => .inl n.own) (ns0.map (ndD bits))), .val (.int own), x6, x7, x8] O Po := by
  refine (show ∀ (u v : WS) G, (wSeq u (wFor (wRng gRng1 (waCons (wVar 1) waNil)) (fName 7) v)) G O Po → (wSeq u (wFor (wRng gRng1 (waCons (wVar 1) waNil)) (fName 7) v)) G O Po from fun _ _ _ h => h) _ w__law_net_b3 _ ?_
  tm_at "go"
  refine draw_i tp (by decide) (by decide) fun y y0 y3 => ?_
  tm_at "go"
  refine fun c hc => ⟨c, own, bits, 1 + y, rfl, putO_same, na.b1, by have := na.b16; omega, by omega, by omega, ow, fun qs O' e1 e2 e3 e4 e5 => ?_⟩
  refine ⟨rfl, _, _, e4, List.pairwise_map.mpr ((List.pairwise_map.mp na.nd).imp fun h z => h (Sum.inl.inj z)), by omega, ?_⟩
  have nk : (Sum.inl own : Key) ∉ ns0.map fun n => Sum.inl n.own := fun z => by
    obtain ⟨n, hn, e⟩ := List.mem_map.mp z
    exact no (List.mem_map.mpr ⟨n, hn, Sum.inl.inj e⟩)
  have nf := fresh_net na hc (by omega) (by omega) ow no (by omega) e1 e2 e3 e5 (room := 1 + y)
  have ca : a ≠ c := fun z => by rw [Tp, z, hc] at tp; cases tp
  have tp' : Tp (delO O' c) a := by
    show (if a = c then none else O' a) = _
    rw [if_neg ca, e5 a (by rw [putO_ne ca, tp]; intro z; cases z) ca, putO_ne ca]
    exact tp
  rw [putKs_newA nk, putVs_new nk (by simp)]
  rw [show (ns0.map fun n => (Sum.inl n.own : Key)) ++ [Sum.inl own] = ((ns0 ++ [(⟨own, 1 + y, qs, []⟩ : Nd)]).map fun n : Nd => .inl n.own) by simp, show (ns0.map (ndD bits)) ++ [D.ins 24 tbN [.int own, .int bits, .int (1 + y), .lst (qs.map .ref)]] = (ns0 ++ [(⟨own, 1 + y, qs, []⟩ : Nd)]).map (ndD bits) by simp [ndD, tbD]]
  tm_at "go"
  rw [Int.toNat_natCast, rng_nat]
  refine loop_b3 (own := own) (room := 1 + y) (qs := qs) hi nz ow b7 Po (fun O2 n2 y3 y6 y7 y8 v2 => ?_) bits 0 _ ⟨own, 1 + y, qs, List.replicate bits []⟩ _ _ _ _ (by omega) ⟨tp', nf, ⟨fun x hx => ?_, fun x hx ne j hj hlt => absurd hlt (by omega)⟩, rfl, rfl, rfl⟩
  · have := h O2 n2 y3 y6 y7 y8 v2.tp v2.na v2.fl v2.ow
    rw [← dK_eq v2.ow v2.rm v2.q] at this
    exact this
  · obtain ⟨l, hl, hx⟩ := List.mem_flatten.mp hx
    rw [(List.mem_replicate.mp hl).2] at hx
    cases hx
theorem loop_b4 {a : Addr} {bits : Nat} {names : List Int} (hi : ∀ x ∈ names, inN bits x) (nd : names.Nodup) (nz : names.length ≤ 14) (b7 : bits ≤ 7) (Po : Post)
    (h : ∀ O' ns y3 y5 y6 y7 y8, Tp O' a → NetA O' bits ns → owns ns = names → (∀ n ∈ ns, FilN names n bits) → Po.nx [.val (.ref a), .val (.int bits), .val (.lst (names.map .int)), y3, .own (.dct (ns.map fun n => .inl n.own) (ns.map (ndD bits))), y5, y6, y7, y8] O') :
    ∀ (rest : List Int) (ns0 : List Nd) (O : N.Om) (x3 x5 x6 x7 x8 : Sl), owns ns0 ++ rest = names → Tp O a → NetA O bits ns0 → (∀ n ∈ ns0, FilN names n bits) →
    wForL (fName 5) w__law_net_b4 (rest.map D.int) [.val (.ref a), .val (.int bits), .val (.lst (names.map .int)), x3, .own (.dct (ns0.map fun n => .inl n.own) (ns0.map (ndD bits))), x5, x6, x7, x8] O Po
  | [], ns0, O, x3, x5, x6, x7, x8, e, tp, na, hf => wForL_n (h O ns0 _ _ _ _ _ tp na (by rw [← e, List.append_nil]) hf)
  | own :: r, ns0, O, x3, x5, x6, x7, x8, e, tp, na, hf => by
    rw [List.map_cons]
    refine wForL_c ?_
    have om : own ∈ names := by rw [← e]; simp
    have no : own ∉ owns ns0 := fun z => by
      rw [← e, List.nodup_append] at nd
      exact nd.2.2 own z own (by simp) rfl
    have le : ns0.length < 14 := by
      have : (owns ns0 ++ own :: r).length ≤ 14 := by rw [e]; exact nz
      simp [owns] at this
      omega
    refine b4_ok tp na hi nz (hi own om) no b7 le x3 _ _ _ _ fun O' n y3 y6 y7 y8 tp' na' f eo => ?_
    refine loop_b4 hi nd nz b7 Po h r (ns0 ++ [n]) O' _ _ _ _ _ (by rw [← e]; unfold owns; simp [eo]) tp' na' fun m hm => ?_
    rcases List.mem_append.mp hm with hm | hm
    · exact hf m hm
    · simp only [List.mem_singleton] at hm; subst hm; exact f
theorem filled_of_N {ns : List Nd} {names : List Int} {bits : Nat} (hi : ∀ x ∈ names, inN bits x) (e : owns ns = names) (hf : ∀ n ∈ ns, FilN names n bits) : Filled ns := fun n hn => by
  subst e
  refine ⟨(hf n hn).inn, fun m hm ne => ?_⟩
  have ho : m.own ∈ owns ns := List.mem_map.mpr ⟨m, hm, rfl⟩
  have hp : n.own ∈ owns ns := List.mem_map.mpr ⟨n, hn, rfl⟩
  obtain ⟨i, h1, h2⟩ := shf_lt (hi _ hp) (hi _ ho) fun z => ne z.symm
  rw [h1, Int.toNat_natCast]
  exact (hf n hn).ful _ ho ne i h1 h2
theorem m__law_net (ds : List D) (Om : N.Om) (Q : D → N.Om → Prop) (R : RX) (hl : ds.length = 2) (h : sp__law_net ds Om Q R) : wFn 9 w__law_net ds Om Q R := by
  obtain ⟨a, bits, rfl, tp, b1, b7, q⟩ := h
  unfold w__law_net
  tm_at "go"
  refine draw_i tp (by decide) (by decide) fun y y0 y14 => ?_
  tm_at "go"
  have hlen : (rngL 0 (1 + y).toNat).length = (1 + y).toNat := by rw [rng_nat]; simp
  refine loop_names (l := []) tp b7 _ _ _ _ _ (rngL 0 (1 + y).toNat) _ _ List.nodup_nil (fun _ h => (List.not_mem_nil h).elim) (by rw [hlen]; simp; omega) (.inr (by rw [hlen]; omega)) fun l y3 y6 nd hi hz hp => ?_
  tm_at "go"
  refine loop_b4 (ns0 := []) hi nd hz b7 _ (fun O' ns y3 y5 y6 y7 y8 tp' na eo hf => ?_) l _ _ _ _ _ _ (by simp [owns]) tp ⟨fun _ h => (List.not_mem_nil h).elim, List.nodup_nil, List.nodup_nil, fun _ h => (List.not_mem_nil h).elim, b1, by omega, by simp⟩ fun _ h => (List.not_mem_nil h).elim
  tm_at "go"
  refine q O' ns tp' na (fun z => ?_) (filled_of_N hi eo hf)
  subst z
  rw [← eo] at hp
  simp [owns] at hp
end K31

set_option Elab.async false
set_option linter.all false
set_option maxRecDepth 100000
set_option maxHeartbeats 0
namespace K31
open PySem PySem.Spec PyProof.Rows L2 N
local macro_rules | `(tactic| tm_at "nv") => `(tactic| try simp -implicitDefEqProofs only [wIndex_e, asLs_l, gSorted_d, lk_s_net, lk_s_target, lk_s_room, lk_s_known, lk_s_asked, lk_s_quiet, lk_s_hear, lk_s_best, lk_s_run, tbD, lk_own, lk_bits, lk_room, lk_shelves, lk_check, lk_see, lk_silent, lk_shelf, lk_names, lk_nearest, asSh_l, asSh_d, asShL_l, asShD_d, cont_r, cont_n, cont_b, cont_i, cont_s, cont_t, cont_l, cont_d, cont_o, contL_n, contL_c, wBinC_e, wCallC_e, wCallFC_e, wShF_e, wItC_e, wForE_e, wCompE_e, wComp2_e, wAppS_e, wRemS_e, wSetIxS_e, wPutS_e, wMakeG_e, noOwn_n, noOwn_o, noOwn_v, noOwn_z, gSorted_i, gSorted_p, Int.cast_ofNat_Int, Int.reduceEq, Int.reduceLT, Int.reduceLE, List.length_map, List.length_append, see_l, see_d, see_i, Nat.reduceAdd, Nat.reduceLeDiff, Nat.zero_le, wFn_e, startG_c, startG_n, startG_z, wSeq_e, wSet_e, wC_e, wFor_e, wIt_e, wVar_e, wVarB_e, getSl_z, getSl_s, List.set_cons_zero, List.set_cons_succ, wRet_e, wBin_e, gI_i, gI0_i, gB0_i, gAdd_i, gAdd_t, gAdd_l, gAdd_s, gMul_i, gMul_t, gMul_l, gEq_, gNe_, gIs_n, gIs_b, gIsNot_n, gIsNot_b, isNon_n, isNon_i, isNon_b, isNon_t, isNon_l, isNon_s, wIfS_e, wtOr_e, wtAnd_e, wtNot_e, wTst_e, wNext_e, wNev_e, wCall_e, wCallF_e, wFrz_e, wLst_e, wTup_e, waNil_e, waCons_e, wComp_e, wRng_e, gRng1_i, gRng2_i, gRng3_i, wUn_e, gNeg_i, gTuple_t, gTuple_l, gList_t, gList_l, gList_s, gLen_t, gLen_l, gLen_s, gLen_d, gInt_i, gInt_b, gAbs_i, gMax_i, gMin_i, wipeG, fName_e, wCallU_e, wCallK_e, List.append_nil, List.length_cons, List.length_nil, wSl_e, woNone_e, woSome_e, gSl_t, gSl_l, gIt_t, gIt_l, gIt_s, gIsi_i, gIsi_b, gIsi_t, gIsi_l, gIsi_s, gIsi_n, gIsi_d, wFld_e, wMeth_e, wMake_e, wMakeF_e, wSetF_e, wExt_e, wFz_e, wRev_e, wRaise_e, wTry_e, wBits_e, insOf_ins, lk_kind, lk_size, lk_digest, lk_is_digest, gEnum_t, gEnum_l, gZip_t, gZip_l, mem1, reduceCtorEq, eq_self, wAsg_e, fTup_e, fCons_e, fNil_e, wAnd_e, wOr_e, wNot_e, wIf_e, wPar_e, wAug_e, wApp_e, wSetO_e, wRetO_e, br_t, br_f, shp_int, shp_bl, shp_non, deq_int, gAll_b, gAny_b, gSum_i, wDrop_e, wRetN_e, true_and, and_true, decide_true, decide_false, Bool.not_true, Bool.not_false, isi_NoneType_bool, isi_NoneType_int, isi_NoneType_str, isi_NoneType_tuple, isi_NoneType_list, isi_NoneType_dict, isi_bool_bool, isi_bool_int, isi_bool_str, isi_bool_tuple, isi_bool_list, isi_bool_dict, isi_int_bool, isi_int_int, isi_int_str, isi_int_tuple, isi_int_list, isi_int_dict, isi_str_bool, isi_str_int, isi_str_str, isi_str_tuple, isi_str_list, isi_str_dict, isi_tuple_bool, isi_tuple_int, isi_tuple_str, isi_tuple_tuple, isi_tuple_list, isi_tuple_dict, isi_list_bool, isi_list_int, isi_list_str, isi_list_tuple, isi_list_list, isi_list_dict, isi_dict_bool, isi_dict_int, isi_dict_str, isi_dict_tuple, isi_dict_list, isi_dict_dict, okTy_bool, okTy_int, okTy_str, okTy_tuple, okTy_list, okTy_dict, List.cons_append, List.nil_append, wChn_e, wSetIxO_e, wGet1_e, wGet2_e, wPutO_e, wDnew_e, slV_v, slB_v, slB_l, slB_d, slB_i, slL_l, slD_d, asB_b, asI_i, asR_r, asT_t, asQ_t, asQ_l, asD_d, asK_i, asK_s, asC_c, as2_2, asO_s, asIns_i, fz_l, fz_i, fz_v, fz_n, wKeys_e, wItems_e, wVals_e, exL_hit, asRev_l, asRev_t, wtYes_e, wFzD_e, fzD_d, fzD_v])
local macro_rules | `(tactic| tm_at "nw") => `(tactic| (tm_at "nv"; repeat (with_reducible refine sq_i ?_; tm_at "nv")))
local macro_rules | `(tactic| tm_at "nc") => `(tactic| first | exact True.intro | omega | exact mulL (by omega) (by omega) | exact mulR (by omega) (by omega) | exact divOk (by omega) (by omega) | exact shlI (n := 1) (by decide) (by decide) (by omega) (by omega) | (simp only [List.length_append, List.length_map, List.length_cons, List.length_nil, List.length_replicate, List.length_flatten, List.map_replicate, List.sum_replicate_nat, List.length_range, rngL_len, rngC_len, List.cons_append, List.nil_append]; first | done | omega))
local macro_rules | `(tactic| tm_at "ns") => `(tactic| repeat (with_reducible refine And.intro (by first | tm_at "nc" | exact ⟨by tm_at "nc", by tm_at "nc"⟩ | exact ⟨by tm_at "nc", by tm_at "nc", by tm_at "nc"⟩ | exact ⟨by tm_at "nc", by tm_at "nc", by tm_at "nc", by tm_at "nc"⟩) ?_))
local macro_rules | `(tactic| tm_at "go") => `(tactic| (tm_at "nw"; repeat (first | (with_reducible refine And.intro (by first | tm_at "nc" | exact ⟨by tm_at "nc", by tm_at "nc"⟩ | exact ⟨by tm_at "nc", by tm_at "nc", by tm_at "nc"⟩) ?_) | (with_reducible refine sq_i ?_)); tm_at "nw"))
theorem kept_net {O O' : N.Om} {bits : Nat} {ns : List Nd} (na : NetA O bits ns) (k : Kept O O') : NetA O' bits ns :=
  netA_keep na fun n hn q hq => k q (by
    obtain ⟨i, hi, ei⟩ := List.getElem_of_mem hq
    have t := (na.tab n hn).at_
    have := t.at_ i q (n.sh[i]'(by rw [← t.len]; exact hi)) (by rw [List.getElem?_eq_getElem hi, ei]) (List.getElem?_eq_getElem _)
    rw [this]
    intro z; cases z)
theorem kept_tp {O O' : N.Om} {a : Addr} (tp : Tp O a) (k : Kept O O') : Tp O' a := by
  rw [Tp, k a (by rw [tp]; intro z; cases z)]
  exact tp
theorem loop_start {a : Addr} {bits : Nat} {ns : List Nd} {scr : List Int} {target : Int} (hf : Filled ns) (it : inN bits target) (b7 : bits ≤ 7) (x4 : Sl) (Po : Post)
    (h : ∀ O' y6, Tp O' a → NetA O' bits ns → Po.nx [.val (.scr scr), .val (.ref a), .val (.int bits), .val (netD bits ns), x4, .val (.int target), y6] O') :
    ∀ (rest : List Int) (O : N.Om) (x6 : Sl), (∀ x ∈ rest, x ∈ owns ns) → Tp O a → NetA O bits ns →
    wForL (fName 6) w_law_b1 (rest.map D.int) [.val (.scr scr), .val (.ref a), .val (.int bits), .val (netD bits ns), x4, .val (.int target), x6] O Po
  | [], O, x6, hr, tp, na => wForL_n (h O x6 tp na)
  | s :: r, O, x6, hr, tp, na => by
    rw [List.map_cons]
    refine wForL_c ?_
    tm_at "go"
    refine ⟨bits, ns, s, target, rfl, na, hf, it, hr s (by simp), b7, fun O' k => ?_⟩
    tm_at "go"
    exact loop_start hf it b7 x4 Po h r O' _ (fun x hx => hr x (by simp [hx])) (kept_tp tp k) (kept_net na k)
theorem loop_law {a : Addr} {bits : Nat} {ns : List Nd} {scr : List Int} (hf : Filled ns) (b7 : bits ≤ 7) (Po : Post)
    (h : ∀ O' y4 y5 y6, Tp O' a → NetA O' bits ns → Po.nx [.val (.scr scr), .val (.ref a), .val (.int bits), .val (netD bits ns), y4, y5, y6] O') :
    ∀ (items : List D) (O : N.Om) (x4 x5 x6 : Sl), Tp O a → NetA O bits ns →
    wForL (fName 4) w_law_b2 items [.val (.scr scr), .val (.ref a), .val (.int bits), .val (netD bits ns), x4, x5, x6] O Po
  | [], O, x4, x5, x6, tp, na => wForL_n (h O x4 x5 x6 tp na)
  | d :: r, O, x4, x5, x6, tp, na => by
    refine wForL_c ?_
    have ol := own_len na
    have p2 : (0 : Int) < 2 ^ bits := by exact_mod_cast Nat.two_pow_pos bits
    have l2 : (2 : Int) ^ bits ≤ 128 := by
      have : (2 : Int) ^ bits ≤ 2 ^ 7 := ipow_le b7
      omega
    tm_at "go"
    rw [Int.toNat_natCast, Int.one_mul]
    refine draw_i tp p2 (by omega) fun t t0 t1 => ?_
    tm_at "go"
    rw [show netD bits ns = .dct ((owns ns).map Sum.inl) (ns.map (ndD bits)) by unfold netD owns; rw [List.map_map]; rfl, gSorted_d]
    rw [show D.dct ((owns ns).map Sum.inl) (ns.map (ndD bits)) = netD bits ns by unfold netD owns; rw [List.map_map]; rfl]
    refine ⟨by omega, ?_⟩
    tm_at "go"
    refine loop_start hf ⟨t0, t1⟩ b7 _ _ (fun O' y6 tp' na' => ?_) (srtI (owns ns)) O _ (fun x hx => (srtI_perm _).mem_iff.mp hx) tp na
    exact loop_law hf b7 Po h r O' _ _ _ tp' na'
theorem m_law (ds : List D) (Om : N.Om) (Q : D → N.Om → Prop) (R : RX) (hl : ds.length = 1) (h : sp_law ds Om Q R) : wFn 7 w_law ds Om Q R := by
  obtain ⟨ns, rfl, hn, q⟩ := h
  unfold w_law
  tm_at "go"
  refine ⟨ns, rfl, hn, fun a ha => ?_⟩
  have tp : Tp (putO Om a (.abs 0)) a := putO_same
  generalize putO Om a (.abs 0) = O at *
  tm_at "go"
  refine draw_i tp (by decide) (by decide) fun b b0 b7 => ?_
  tm_at "go"
  obtain ⟨bits, hb, hb1, hb2⟩ : ∃ n : Nat, 1 + b = (n : Int) ∧ 1 ≤ n ∧ n ≤ 7 := ⟨(1 + b).toNat, by omega, by omega, by omega⟩
  rw [hb]
  refine ⟨a, bits, rfl, tp, hb1, hb2, fun O2 net tp2 na2 nn2 hf => ?_⟩
  tm_at "go"
  refine ⟨bits, net, rfl, na2, ?_⟩
  rw [filB_t hf]
  tm_at "go"
  refine loop_law hf hb2 _ (fun O3 y4 y5 y6 tp3 na3 => ?_) _ O2 _ _ _ tp2 na2
  tm_at "go"
  refine ⟨a, bits, net, rfl, tp3, na3, nn2, hb2, fun O4 net4 tp4 e4 na4 nn4 => ?_⟩
  tm_at "go"
  refine ⟨a, bits, net4, by rw [e4], tp4, na4, nn4, hb2, fun O5 net5 tp5 e5 na5 nn5 => ?_⟩
  tm_at "go"
  exact q O5
end K31

set_option Elab.async false
set_option linter.all false
set_option maxRecDepth 100000
set_option maxHeartbeats 0
namespace K31
open PySem PySem.Spec PyProof.Rows L2 N
def fn0 : List He.DefD := [defD "_law_tape" s__law_tape, defD "_law_draw" s__law_draw, defD "_law_shelf" s__law_shelf, defD "_law_pick" s__law_pick, defD "is_integer" s_is_integer, defD "is_name" s_is_name, defM "Table" "__init__" "Table.__init__" s_Table___init__, defD "shelf_of" s_shelf_of, defM "Table" "check" "Table.check" s_Table_check, defM "Table" "see" "Table.see" s_Table_see, defD "_law_net" s__law_net, defM "Table" "names" "Table.names" s_Table_names, defM "Table" "shelf" "Table.shelf" s_Table_shelf, defD "is_filled" s_is_filled, defD "in_order" s_in_order, defM "Search" "best" "Search.best" s_Search_best, defM "Search" "hear" "Search.hear" s_Search_hear, defM "Table" "nearest" "Table.nearest" s_Table_nearest, defM "Search" "run" "Search.run" s_Search_run, defM "Search" "__init__" "Search.__init__" s_Search___init__, defD "lookup" s_lookup, defD "_law_order" s__law_order, defD "_law_nearest" s__law_nearest, defD "_law_is_filled" s__law_is_filled, defM "Table" "silent" "Table.silent" s_Table_silent, defD "_law_spoilt" s__law_spoilt, defD "law" s_law]
def fn : List He.DefD := fn0
def fa0 : List He.Fa := [.int "MOST_BITS" 24, .int "MOST_ROOM" 20, .free "abs", .free "all", .free "bool", .free "int", .free "isinstance", .free "len", .free "list", .free "range", .free "sorted", .free "tuple", .glo "BadNet", .exc "BadNet", .cls "Table", .noat "Table" "own", .noat "Table" "bits", .noat "Table" "room", .noat "Table" "shelves", .cls "Search", .noat "Search" "net", .noat "Search" "target", .noat "Search" "room", .noat "Search" "known", .noat "Search" "asked", .noat "Search" "quiet", .glo "_law_tape", .glo "_law_draw", .glo "_law_shelf", .glo "_law_pick", .glo "is_integer", .glo "is_name", .glo "shelf_of", .glo "_law_net", .glo "is_filled", .glo "in_order", .glo "lookup", .glo "_law_order", .glo "_law_nearest", .glo "_law_is_filled"]
def fa1 : List He.Fa := [.glo "_law_spoilt", .glo "law", .glo "Table", .mkr "Table", .meth "Table" "check", .meth "Table" "see", .meth "Table" "names", .meth "Table" "shelf", .meth "Search" "best", .meth "Search" "hear", .meth "Table" "nearest", .meth "Search" "run", .glo "Search", .mkr "Search", .meth "Table" "silent"]
def fa : List He.Fa := fa0 ++ fa1
abbrev TT (K : PySem.W.Frag) : Th := ⟨K, cmL K ["SwarmError", "", "", "", "", "", "", "", "", "", "", "", "", "", "", "", "", "", "", "", "", "", "", "BadNet", "Table", "Search"], fun _ => (0, "")⟩
theorem facts {l : Program} {w : World} {K : PySem.W.Frag} {h : Heap} {mg : Str → Option Value} {f : Addr} (X : K.In h) (G : h.Ns mainGlobals mg) (hfa : mg ("law" : Str) = some (.ref f)) (c : He.SaysD fa fn K) :
    ∃ fd : FuncData, (∀ (s : Shared) (v : Value), BindsTo s fd ⟨[v], []⟩ [("script", v)]) ∧ ∀ base : Heap, K.In base → base.Ns mainGlobals mg → FnOk l w K mg base (L2.CX l w) 9 f fd ["script"] (toSp (TT K) 1 sp_law) := by
  have M : Mg K mg (TT K) := ⟨He.int_ok X G (c.fact 0 (f := .int "MOST_BITS" 24) rfl), He.int_ok X G (c.fact 1 (f := .int "MOST_ROOM" 20) rfl), He.free_ok X G (c.fact 2 (f := .free "abs") rfl), He.free_ok X G (c.fact 3 (f := .free "all") rfl), He.free_ok X G (c.fact 4 (f := .free "bool") rfl), He.free_ok X G (c.fact 5 (f := .free "int") rfl), He.free_ok X G (c.fact 6 (f := .free "isinstance") rfl), He.free_ok X G (c.fact 7 (f := .free "len") rfl), He.free_ok X G (c.fact 8 (f := .free "list") rfl), He.free_ok X G (c.fact 9 (f := .free "range") rfl), He.free_ok X G (c.fact 10 (f := .free "sorted") rfl), He.free_ok X G (c.fact 11 (f := .free "tuple") rfl), clX_mk rfl X G (c.fact 12 (f := .glo "BadNet") rfl) (c.fact 13 (f := .exc "BadNet") rfl), He.cls_ok (c.fact 14 (f := .cls "Table") rfl), He.noat_ok (c.fact 15 (f := .noat "Table" "own") rfl), He.noat_ok (c.fact 16 (f := .noat "Table" "bits") rfl), He.noat_ok (c.fact 17 (f := .noat "Table" "room") rfl), He.noat_ok (c.fact 18 (f := .noat "Table" "shelves") rfl), He.cls_ok (c.fact 19 (f := .cls "Search") rfl), He.noat_ok (c.fact 20 (f := .noat "Search" "net") rfl), He.noat_ok (c.fact 21 (f := .noat "Search" "target") rfl), He.noat_ok (c.fact 22 (f := .noat "Search" "room") rfl), He.noat_ok (c.fact 23 (f := .noat "Search" "known") rfl), He.noat_ok (c.fact 24 (f := .noat "Search" "asked") rfl), He.noat_ok (c.fact 25 (f := .noat "Search" "quiet") rfl)⟩
  obtain ⟨fd__law_tape, F__law_tape⟩ := c.def_ 0 (d := defD "_law_tape" s__law_tape) rfl
  have g__law_tape := He.glo_ok X G (c.fact 26 (f := .glo "_law_tape") rfl)
  have b__law_tape := F__law_tape.bindsN (ps := ["script"]) (fun _ _ _ _ _ _ us hl => match us, hl with | [_], _ => rfl)
  obtain ⟨fd__law_draw, F__law_draw⟩ := c.def_ 1 (d := defD "_law_draw" s__law_draw) rfl
  have g__law_draw := He.glo_ok X G (c.fact 27 (f := .glo "_law_draw") rfl)
  have b__law_draw := F__law_draw.bindsN (ps := ["tape", "many"]) (fun _ _ _ _ _ _ us hl => match us, hl with | [_, _], _ => rfl)
  obtain ⟨fd__law_shelf, F__law_shelf⟩ := c.def_ 2 (d := defD "_law_shelf" s__law_shelf) rfl
  have g__law_shelf := He.glo_ok X G (c.fact 28 (f := .glo "_law_shelf") rfl)
  have b__law_shelf := F__law_shelf.bindsN (ps := ["own", "name"]) (fun _ _ _ _ _ _ us hl => match us, hl with | [_, _], _ => rfl)
  obtain ⟨fd__law_pick, F__law_pick⟩ := c.def_ 3 (d := defD "_law_pick" s__law_pick) rfl
  have g__law_pick := He.glo_ok X G (c.fact 29 (f := .glo "_law_pick") rfl)
  have b__law_pick := F__law_pick.bindsN (ps := ["tape", "row"]) (fun _ _ _ _ _ _ us hl => match us, hl with | [_, _], _ => rfl)
  obtain ⟨fd_is_integer, F_is_integer⟩ := c.def_ 4 (d := defD "is_integer" s_is_integer) rfl
  have g_is_integer := He.glo_ok X G (c.fact 30 (f := .glo "is_integer") rfl)
  have b_is_integer := F_is_integer.bindsN (ps := ["value"]) (fun _ _ _ _ _ _ us hl => match us, hl with | [_], _ => rfl)
  obtain ⟨fd_is_name, F_is_name⟩ := c.def_ 5 (d := defD "is_name" s_is_name) rfl
  have g_is_name := He.glo_ok X G (c.fact 31 (f := .glo "is_name") rfl)
  have b_is_name := F_is_name.bindsN (ps := ["value", "bits"]) (fun _ _ _ _ _ _ us hl => match us, hl with | [_, _], _ => rfl)
  obtain ⟨fd_Table___init__, F_Table___init__⟩ := c.def_ 6 (d := defM "Table" "__init__" "Table.__init__" s_Table___init__) rfl
  have b_Table___init__ := F_Table___init__.bindsN (ps := ["self", "own", "bits", "room"]) (fun _ _ _ _ _ _ us hl => match us, hl with | [_, _, _, _], _ => rfl)
  obtain ⟨fd_shelf_of, F_shelf_of⟩ := c.def_ 7 (d := defD "shelf_of" s_shelf_of) rfl
  have g_shelf_of := He.glo_ok X G (c.fact 32 (f := .glo "shelf_of") rfl)
  have b_shelf_of := F_shelf_of.bindsN (ps := ["own", "name"]) (fun _ _ _ _ _ _ us hl => match us, hl with | [_, _], _ => rfl)
  obtain ⟨fd_Table_check, F_Table_check⟩ := c.def_ 8 (d := defM "Table" "check" "Table.check" s_Table_check) rfl
  have b_Table_check := F_Table_check.bindsN (ps := ["self", "name"]) (fun _ _ _ _ _ _ us hl => match us, hl with | [_, _], _ => rfl)
  obtain ⟨fd_Table_see, F_Table_see⟩ := c.def_ 9 (d := defM "Table" "see" "Table.see" s_Table_see) rfl
  have b_Table_see := F_Table_see.bindsN (ps := ["self", "name"]) (fun _ _ _ _ _ _ us hl => match us, hl with | [_, _], _ => rfl)
  obtain ⟨fd__law_net, F__law_net⟩ := c.def_ 10 (d := defD "_law_net" s__law_net) rfl
  have g__law_net := He.glo_ok X G (c.fact 33 (f := .glo "_law_net") rfl)
  have b__law_net := F__law_net.bindsN (ps := ["tape", "bits"]) (fun _ _ _ _ _ _ us hl => match us, hl with | [_, _], _ => rfl)
  obtain ⟨fd_Table_names, F_Table_names⟩ := c.def_ 11 (d := defM "Table" "names" "Table.names" s_Table_names) rfl
  have b_Table_names := F_Table_names.bindsN (ps := ["self"]) (fun _ _ _ _ _ _ us hl => match us, hl with | [_], _ => rfl)
  obtain ⟨fd_Table_shelf, F_Table_shelf⟩ := c.def_ 12 (d := defM "Table" "shelf" "Table.shelf" s_Table_shelf) rfl
  have b_Table_shelf := F_Table_shelf.bindsN (ps := ["self", "number"]) (fun _ _ _ _ _ _ us hl => match us, hl with | [_, _], _ => rfl)
  obtain ⟨fd_is_filled, F_is_filled⟩ := c.def_ 13 (d := defD "is_filled" s_is_filled) rfl
  have g_is_filled := He.glo_ok X G (c.fact 34 (f := .glo "is_filled") rfl)
  have b_is_filled := F_is_filled.bindsN (ps := ["net"]) (fun _ _ _ _ _ _ us hl => match us, hl with | [_], _ => rfl)
  obtain ⟨fd_in_order, F_in_order⟩ := c.def_ 14 (d := defD "in_order" s_in_order) rfl
  have g_in_order := He.glo_ok X G (c.fact 35 (f := .glo "in_order") rfl)
  have b_in_order := F_in_order.bindsN (ps := ["names", "target"]) (fun _ _ _ _ _ _ us hl => match us, hl with | [_, _], _ => rfl)
  obtain ⟨fd_Search_best, F_Search_best⟩ := c.def_ 15 (d := defM "Search" "best" "Search.best" s_Search_best) rfl
  have b_Search_best := F_Search_best.bindsN (ps := ["self"]) (fun _ _ _ _ _ _ us hl => match us, hl with | [_], _ => rfl)
  obtain ⟨fd_Search_hear, F_Search_hear⟩ := c.def_ 16 (d := defM "Search" "hear" "Search.hear" s_Search_hear) rfl
  have b_Search_hear := F_Search_hear.bindsN (ps := ["self", "names"]) (fun _ _ _ _ _ _ us hl => match us, hl with | [_, _], _ => rfl)
  obtain ⟨fd_Table_nearest, F_Table_nearest⟩ := c.def_ 17 (d := defM "Table" "nearest" "Table.nearest" s_Table_nearest) rfl
  have b_Table_nearest := F_Table_nearest.bindsN (ps := ["self", "target", "many"]) (fun _ _ _ _ _ _ us hl => match us, hl with | [_, _, _], _ => rfl)
  obtain ⟨fd_Search_run, F_Search_run⟩ := c.def_ 18 (d := defM "Search" "run" "Search.run" s_Search_run) rfl
  have b_Search_run := F_Search_run.bindsN (ps := ["self"]) (fun _ _ _ _ _ _ us hl => match us, hl with | [_], _ => rfl)
  obtain ⟨fd_Search___init__, F_Search___init__⟩ := c.def_ 19 (d := defM "Search" "__init__" "Search.__init__" s_Search___init__) rfl
  have b_Search___init__ := F_Search___init__.bindsN (ps := ["self", "net", "start", "target"]) (fun _ _ _ _ _ _ us hl => match us, hl with | [_, _, _, _], _ => rfl)
  obtain ⟨fd_lookup, F_lookup⟩ := c.def_ 20 (d := defD "lookup" s_lookup) rfl
  have g_lookup := He.glo_ok X G (c.fact 36 (f := .glo "lookup") rfl)
  have b_lookup := F_lookup.bindsN (ps := ["net", "start", "target"]) (fun _ _ _ _ _ _ us hl => match us, hl with | [_, _, _], _ => rfl)
  obtain ⟨fd__law_order, F__law_order⟩ := c.def_ 21 (d := defD "_law_order" s__law_order) rfl
  have g__law_order := He.glo_ok X G (c.fact 37 (f := .glo "_law_order") rfl)
  have b__law_order := F__law_order.bindsN (ps := ["names", "target"]) (fun _ _ _ _ _ _ us hl => match us, hl with | [_, _], _ => rfl)
  obtain ⟨fd__law_nearest, F__law_nearest⟩ := c.def_ 22 (d := defD "_law_nearest" s__law_nearest) rfl
  have g__law_nearest := He.glo_ok X G (c.fact 38 (f := .glo "_law_nearest") rfl)
  have b__law_nearest := F__law_nearest.bindsN (ps := ["net", "bits", "start", "target"]) (fun _ _ _ _ _ _ us hl => match us, hl with | [_, _, _, _], _ => rfl)
  obtain ⟨fd__law_is_filled, F__law_is_filled⟩ := c.def_ 23 (d := defD "_law_is_filled" s__law_is_filled) rfl
  have g__law_is_filled := He.glo_ok X G (c.fact 39 (f := .glo "_law_is_filled") rfl)
  have b__law_is_filled := F__law_is_filled.bindsN (ps := ["net", "bits"]) (fun _ _ _ _ _ _ us hl => match us, hl with | [_, _], _ => rfl)
  obtain ⟨fd_Table_silent, F_Table_silent⟩ := c.def_ 24 (d := defM "Table" "silent" "Table.silent" s_Table_silent) rfl
  have b_Table_silent := F_Table_silent.bindsN (ps := ["self", "name"]) (fun _ _ _ _ _ _ us hl => match us, hl with | [_, _], _ => rfl)
  obtain ⟨fd__law_spoilt, F__law_spoilt⟩ := c.def_ 25 (d := defD "_law_spoilt" s__law_spoilt) rfl
  have g__law_spoilt := He.glo_ok X G (c.fact 40 (f := .glo "_law_spoilt") rfl)
  have b__law_spoilt := F__law_spoilt.bindsN (ps := ["tape", "net", "bits"]) (fun _ _ _ _ _ _ us hl => match us, hl with | [_, _, _], _ => rfl)
  obtain ⟨fd_law, F_law⟩ := c.def_ 26 (d := defD "law" s_law) rfl
  have g_law := He.glo_ok X G (c.fact 41 (f := .glo "law") rfl)
  have e := hfa.symm.trans g_law
  cases e
  have b_law := fun (s : Shared) (us : List Value) (hl : us.length = 1) => FunD.bindsA (ps := ["script"]) F_law (fun _ _ _ _ _ _ us hl => match us, hl with | [_], _ => rfl) s us hl
  refine ⟨_, fun s v => b_law s [v] rfl, fun base X0 G0 => ?_⟩
  have c__law_tape : Cl l w K mg base (TT K) 1 "_law_tape" 1 sp__law_tape := cl_mk (k__law_tape (PR := l) (w := w) (base := base) (T := TT K) rfl M F__law_tape ) (fun ds Om Q R hl h => m__law_tape ds Om Q R hl h) g__law_tape F__law_tape.kp b__law_tape
  have c__law_draw : Cl l w K mg base (TT K) 1 "_law_draw" 2 sp_draw := ⟨_, _, _, ((k__law_draw (PR := l) (w := w) (base := base) (T := TT K) rfl M F__law_draw ).imp (toSp_imp fun ds Om Q R hl h => m__law_draw ds Om Q R hl h)).imp draw_open, g__law_draw, F__law_draw.kp, b__law_draw⟩
  have c__law_shelf : Cl l w K mg base (TT K) 1 "_law_shelf" 2 sp__law_shelf := cl_mk (k__law_shelf (PR := l) (w := w) (base := base) (T := TT K) rfl M F__law_shelf ) (fun ds Om Q R hl h => m__law_shelf ds Om Q R hl h) g__law_shelf F__law_shelf.kp b__law_shelf
  have c__law_pick : Cl l w K mg base (TT K) 2 "_law_pick" 2 sp__law_pick := cl_mk (k__law_pick (PR := l) (w := w) (base := base) (T := TT K) rfl M F__law_pick c__law_draw) (fun ds Om Q R hl h => m__law_pick ds Om Q R hl h) g__law_pick F__law_pick.kp b__law_pick
  have c_is_integer : Cl l w K mg base (TT K) 1 "is_integer" 1 sp_is_integer := cl_mk (k_is_integer (PR := l) (w := w) (base := base) (T := TT K) rfl M F_is_integer ) (fun ds Om Q R hl h => m_is_integer ds Om Q R hl h) g_is_integer F_is_integer.kp b_is_integer
  have c_is_name : Cl l w K mg base (TT K) 2 "is_name" 2 sp_is_nameT := cl_mk (k_is_name (PR := l) (w := w) (base := base) (T := TT K) rfl M F_is_name c_is_integer) (fun ds Om Q R hl h => m_is_nameT ds Om Q R hl h) g_is_name F_is_name.kp b_is_name
  have i_Table : ClI l w K mg base (TT K) 3 24 "Table" 4 sp_Table___init__ := clI_mk (k_Table___init__ (PR := l) (w := w) (base := base) (T := TT K) rfl M F_Table___init__ c_is_integer c_is_name) (fun ds Om Q R hl h => m_Table0 ds Om Q R hl h) (He.glo_ok X G (c.fact 42 (f := .glo "Table") rfl)) (He.mkr_ok (c.fact 43 (f := .mkr "Table") rfl)) b_Table___init__
  have c_shelf_of : Cl l w K mg base (TT K) 1 "shelf_of" 2 sp_shelf_of := cl_mk (k_shelf_of (PR := l) (w := w) (base := base) (T := TT K) rfl M F_shelf_of ) (fun ds Om Q R hl h => m_shelf_of ds Om Q R hl h) g_shelf_of F_shelf_of.kp b_shelf_of
  have c_Table_check : ClM l w K mg base (TT K) 3 24 "check" 2 sp_Table_check := clM_mk (k_Table_check (PR := l) (w := w) (base := base) (T := TT K) rfl M F_Table_check c_is_name) (fun ds Om Q R hl h => m_Table_check ds Om Q R hl h) (He.cls_ok (c.fact 14 (f := .cls "Table") rfl)) (He.meth_ok (c.fact 44 (f := .meth "Table" "check") rfl)) b_Table_check
  have c_Table_see : ClM l w K mg base (TT K) 4 24 "see" 2 sp_Table_see := clM_mk (k_Table_see (PR := l) (w := w) (base := base) (T := TT K) rfl M F_Table_see c_shelf_of c_Table_check) (fun ds Om Q R hl h => m_Table_see ds Om Q R hl h) (He.cls_ok (c.fact 14 (f := .cls "Table") rfl)) (He.meth_ok (c.fact 45 (f := .meth "Table" "see") rfl)) b_Table_see
  have c__law_net : Cl l w K mg base (TT K) 5 "_law_net" 2 sp__law_net := cl_mk (k__law_net (PR := l) (w := w) (base := base) (T := TT K) rfl M F__law_net c__law_draw c__law_shelf c__law_pick i_Table c_Table_see) (fun ds Om Q R hl h => m__law_net ds Om Q R hl h) g__law_net F__law_net.kp b__law_net
  have c_Table_names : ClM l w K mg base (TT K) 1 24 "names" 1 sp_Table_names := clM_mk (k_Table_names (PR := l) (w := w) (base := base) (T := TT K) rfl M F_Table_names ) (fun ds Om Q R hl h => m_Table_names ds Om Q R hl h) (He.cls_ok (c.fact 14 (f := .cls "Table") rfl)) (He.meth_ok (c.fact 46 (f := .meth "Table" "names") rfl)) b_Table_names
  have c_Table_shelf : ClM l w K mg base (TT K) 1 24 "shelf" 2 sp_Table_shelf := clM_mk (k_Table_shelf (PR := l) (w := w) (base := base) (T := TT K) rfl M F_Table_shelf ) (fun ds Om Q R hl h => m_Table_shelf ds Om Q R hl h) (He.cls_ok (c.fact 14 (f := .cls "Table") rfl)) (He.meth_ok (c.fact 47 (f := .meth "Table" "shelf") rfl)) b_Table_shelf
  have c_is_filled : Cl l w K mg base (TT K) 2 "is_filled" 1 sp_is_filled := cl_mk (k_is_filled (PR := l) (w := w) (base := base) (T := TT K) rfl M F_is_filled c_shelf_of c_Table_names c_Table_shelf) (fun ds Om Q R hl h => m_is_filled ds Om Q R hl h) g_is_filled F_is_filled.kp b_is_filled
  have c_in_order : Cl l w K mg base (TT K) 1 "in_order" 2 sp_in_order := cl_mk (k_in_order (PR := l) (w := w) (base := base) (T := TT K) rfl M F_in_order ) (fun ds Om Q R hl h => m_in_order ds Om Q R hl h) g_in_order F_in_order.kp b_in_order
  have c_Search_best : ClM l w K mg base (TT K) 2 25 "best" 1 sp_Search_best := clM_mk (k_Search_best (PR := l) (w := w) (base := base) (T := TT K) rfl M F_Search_best c_in_order) (fun ds Om Q R hl h => m_Search_best ds Om Q R hl h) (He.cls_ok (c.fact 19 (f := .cls "Search") rfl)) (He.meth_ok (c.fact 48 (f := .meth "Search" "best") rfl)) b_Search_best
  have c_Search_hear : ClM l w K mg base (TT K) 1 25 "hear" 2 sp_Search_hear := clM_mk (k_Search_hear (PR := l) (w := w) (base := base) (T := TT K) rfl M F_Search_hear ) (fun ds Om Q R hl h => m_Search_hear ds Om Q R hl h) (He.cls_ok (c.fact 19 (f := .cls "Search") rfl)) (He.meth_ok (c.fact 49 (f := .meth "Search" "hear") rfl)) b_Search_hear
  have c_Table_nearest : ClM l w K mg base (TT K) 4 24 "nearest" 3 sp_Table_nearest := clM_mk (k_Table_nearest (PR := l) (w := w) (base := base) (T := TT K) rfl M F_Table_nearest c_in_order c_Table_check c_Table_names) (fun ds Om Q R hl h => m_Table_nearest ds Om Q R hl h) (He.cls_ok (c.fact 14 (f := .cls "Table") rfl)) (He.meth_ok (c.fact 50 (f := .meth "Table" "nearest") rfl)) b_Table_nearest
  have c_Search_run : ClM l w K mg base (TT K) 5 25 "run" 1 sp_Search_run := clM_mk (k_Search_run (PR := l) (w := w) (base := base) (T := TT K) rfl M F_Search_run c_Search_best c_Search_hear c_Table_nearest) (fun ds Om Q R hl h => m_Search_run ds Om Q R hl h) (He.cls_ok (c.fact 19 (f := .cls "Search") rfl)) (He.meth_ok (c.fact 51 (f := .meth "Search" "run") rfl)) b_Search_run
  have i_Search : ClI l w K mg base (TT K) 5 25 "Search" 4 sp_Search___init__ := clI_mk (k_Search___init__ (PR := l) (w := w) (base := base) (T := TT K) rfl M F_Search___init__ c_Search_hear c_Table_nearest) (fun ds Om Q R hl h => m_Search___init__ ds Om Q R hl h) (He.glo_ok X G (c.fact 52 (f := .glo "Search") rfl)) (He.mkr_ok (c.fact 53 (f := .mkr "Search") rfl)) b_Search___init__
  have c_lookup : Cl l w K mg base (TT K) 7 "lookup" 3 sp_lookup := cl_mk (k_lookup (PR := l) (w := w) (base := base) (T := TT K) rfl M F_lookup c_is_name c_Search_run i_Search) (fun ds Om Q R hl h => m_lookup ds Om Q R hl h) g_lookup F_lookup.kp b_lookup
  have c__law_order : Cl l w K mg base (TT K) 1 "_law_order" 2 sp__law_orderK := cl_mk (k__law_order (PR := l) (w := w) (base := base) (T := TT K) rfl M F__law_order ) (fun ds Om Q R hl h => m__law_orderK ds Om Q R hl h) g__law_order F__law_order.kp b__law_order
  have c__law_nearest : Cl l w K mg base (TT K) 8 "_law_nearest" 4 sp__law_nearest := cl_mk (k__law_nearest (PR := l) (w := w) (base := base) (T := TT K) rfl M F__law_nearest c_lookup c__law_order) (fun ds Om Q R hl h => m__law_nearest ds Om Q R hl h) g__law_nearest F__law_nearest.kp b__law_nearest
  have c__law_is_filled : Cl l w K mg base (TT K) 2 "_law_is_filled" 2 sp__law_is_filled := cl_mk (k__law_is_filled (PR := l) (w := w) (base := base) (T := TT K) rfl M F__law_is_filled c__law_shelf c_Table_shelf) (fun ds Om Q R hl h => m__law_is_filled ds Om Q R hl h) g__law_is_filled F__law_is_filled.kp b__law_is_filled
  have c_Table_silent : ClM l w K mg base (TT K) 4 24 "silent" 2 sp_Table_silent := clM_mk (k_Table_silent (PR := l) (w := w) (base := base) (T := TT K) rfl M F_Table_silent c_shelf_of c_Table_check) (fun ds Om Q R hl h => m_Table_silent ds Om Q R hl h) (He.cls_ok (c.fact 14 (f := .cls "Table") rfl)) (He.meth_ok (c.fact 54 (f := .meth "Table" "silent") rfl)) b_Table_silent
  have c__law_spoilt : Cl l w K mg base (TT K) 5 "_law_spoilt" 3 sp__law_spoilt := cl_mk (k__law_spoilt (PR := l) (w := w) (base := base) (T := TT K) rfl M F__law_spoilt c__law_pick c__law_draw c_is_filled c__law_is_filled c_Table_names c_Table_silent c_Table_see) (fun ds Om Q R hl h => m__law_spoilt ds Om Q R hl h) g__law_spoilt F__law_spoilt.kp b__law_spoilt
  exact (k_law (PR := l) (w := w) (base := base) (T := TT K) rfl M F_law c__law_tape c__law_draw c__law_net c_is_filled c__law_nearest c__law_spoilt).imp (toSp_imp fun ds Om Q R hl h => m_law ds Om Q R hl h)
abbrev Rw : PySem.W.OpenRow := PySem.W.OpenLaw.row PySem.Challenge.rw_anyenough_k31_whole_lookups_in_filled_ne
abbrev hk : PySem.W.Hook := He.hookD 6 fa fn
def ob (s : PySem.W.SharedT) : He.AlD := He.obsDG 6 fa fn (HandSHeadRun.getT s)
theorem ob_eq (s : PySem.W.SharedT) : ob s = hk.obs s.abs := He.obsDG_eq (HandSHeadRun.getT_eq s)
def names0 : List PySem.Str := ["SwarmError", "BadNet", "is_integer", "MOST_BITS", "MOST_ROOM", "shelf_of", "is_name", "in_order", "Table", "Search", "lookup", "is_filled", "_law_tape", "_law_draw", "_law_pick", "_law_order", "_law_shelf", "_law_net", "_law_is_filled", "_law_nearest"]
def names1 : List PySem.Str := ["_law_spoilt"]
def names : List PySem.Str := names0 ++ names1
theorem run (w : World) : HandSHeadRun.RunEq Rw (PySem.W.view Rw.prog [26]) hk ob 20000 names w := by
  intro os
  kernel_rfl
end K31
open PySem PySem.W PySem.Calls PyProof.Rows
set_option maxHeartbeats 0 in
theorem PySem.Challenge.cw_anyenough_k31_whole_lookups_in_filled_ne_holds : PySem.Challenge.rw_anyenough_k31_whole_lookups_in_filled_ne.Holds := by
  w_on; o_law
  refine HandSHeadRun.head_any (r := OpenLaw.row PySem.Challenge.rw_anyenough_k31_whole_lookups_in_filled_ne) (q := view (OpenLaw.row PySem.Challenge.rw_anyenough_k31_whole_lookups_in_filled_ne).prog [26]) (H := K31.hk) (ob := K31.ob) (M := 20000) (loose := K31.names) (d := HandSHeadRun.topDef (OpenLaw.row PySem.Challenge.rw_anyenough_k31_whole_lookups_in_filled_ne).prog 26) (kwd := []) K31.ob_eq
    (by kernel_rfl) (fun s => by kernel_rfl) K31.run (by kernel_rfl) (by kernel_rfl) (by kernel_rfl) (by rfl) (by first | assumption | decide +kernel) (by decide +kernel) ⟨rfl, rfl, rfl, rfl, rfl, by decide +kernel⟩ ?hw ?hc
  case hw => w_witness2
  case hc =>
    refine N.walk_of (l := PySem.Challenge.rw_anyenough_k31_whole_lookups_in_filled_ne) (n := 63) (k := 9) (x := "script") rfl (by decide) (by kernel_rfl) ⟨rfl, by decide, by decide⟩ ?F
    intro w mg fa h Y G hmg0
    obtain ⟨K, KX, c⟩ := Y
    have hmg : mg ("law" : PySem.Str) = some (.ref fa) := by
      have e : (HandSHeadRun.topDef (OpenLaw.row PySem.Challenge.rw_anyenough_k31_whole_lookups_in_filled_ne).prog 26).name = ("law" : PySem.Str) := by kernel_rfl
      rw [← e]
      exact hmg0
    obtain ⟨fd, hb, hF⟩ := K31.facts (l := (PySem.Challenge.rw_anyenough_k31_whole_lookups_in_filled_ne).prog) (w := w) KX G hmg c
    exact ⟨K31.TT K, fd, K31.sp_law, KX, hb, fun ns hl hbits => ⟨ns, rfl, hl, fun _ => rfl⟩, hF⟩
