import PyProof.Rows.All
import Wide.All
import OpenK.AllK
import Wide.FinOn
import HandS.ForMost
import HandS.ForExc
import HandS.Walk
import HandS.WideBits
import HandS.TupAny
import HandS.TupMul
import HandS.TupLe
import HandS.IsInst
import HandS.CallSlots
import HandS.Style
import HandS.Defaults
import HandS.Head0
import HandS.Head1
import HandS.Head2
import HandS.HeadHook1
import HandS.HeadHook2
import HandS.EndBits
import PySem.Challenge.RW_anyenough_k09_padding_and_rings
set_option Elab.async false
set_option linter.all false
set_option maxRecDepth 100000
/-! NA: values as data, what represents them, the ghost world, steps, the state of a frame -/
namespace N
open PySem PySem.Spec PyProof.Rows L2

/-- a branch -/
def br : Bool → Prop → Prop → Prop
  | true, A, _ => A
  | false, _, B => B

inductive D where
  | non | bl (b : Bool) | int (i : Int) | str (x : Str) | ty (n : String) | ref (a : Addr)
  | tup (xs : List D) | lst (xs : List D) | dct (ks : List Key) (vs : List D) | ins (c : Nat) (ns : List Str) (vs : List D)
  /-- the law's script -/
  | scr (ns : List Int)

/-- the law's fixed things: the written part, the classes' places -/
structure Th where
  K : PySem.W.Frag
  cm : Nat → Addr

/-- what lies in the written part -/
def KT (K : PySem.W.Frag) (a : Addr) (vs : List V) : Prop := SqT K (fun _ => none) a vs
def KL (K : PySem.W.Frag) (a : Addr) (vs : List V) : Prop := SqL K (fun _ => none) a vs
theorem KT.to {K : PySem.W.Frag} {a : Addr} {vs : List V} {H : Hp} (h : KT K a vs) : SqT K H a vs := by
  rcases h with (h | ⟨_, h⟩) | h
  · cases h
  · cases h
  · exact .inr h
theorem KL.to {K : PySem.W.Frag} {a : Addr} {vs : List V} {H : Hp} (h : KL K a vs) : SqL K H a vs := by
  rcases h with (h | ⟨_, h⟩) | h
  · cases h
  · cases h
  · exact .inr h

mutual
/-- v stands for d; F: the addresses that may change -/
def Rep (T : Th) (F : Addr → Prop) (H : Hp) : D → V → Prop
  | .non, v => v = .non
  | .bl b, v => v = .bl b
  | .int i, v => v = .int i
  | .str x, v => v = .str x
  | .ty n, v => v = .ty n
  | .ref a, v => v = .ref a
  | .tup xs, v => ∃ a vs, v = .ref a ∧ ((H a = some (.tup vs) ∧ ¬ F a) ∨ KT T.K a vs) ∧ Reps T F H xs vs
  | .scr ns, v => ∃ a, v = .ref a ∧ ((Rd H a (.lst (ns.map V.int)) ∧ ¬ F a) ∨ KL T.K a (ns.map V.int))
  | .lst xs, v => ∃ a vs, v = .ref a ∧ H a = some (.lst vs) ∧ ¬ F a ∧ Reps T F H xs vs
  | .dct ks xs, v => ∃ a vs, v = .ref a ∧ H a = some (.dK (ks.zip vs)) ∧ ¬ F a ∧ ks.length = xs.length ∧ Reps T F H xs vs
  | .ins c ns xs, v => ∃ a dx vs, v = .ref a ∧ H a = some (.ins (T.cm c) dx (ns.zip vs)) ∧ ¬ F a ∧ ns.length = xs.length ∧ Reps T F H xs vs
def Reps (T : Th) (F : Addr → Prop) (H : Hp) : List D → List V → Prop
  | [], vs => vs = []
  | d :: ds, vs => ∃ v r, vs = v :: r ∧ Rep T F H d v ∧ Reps T F H ds r
end

/-- what is kept: all tracked that is not of F; what is new to F was untracked -/
structure Kp (F : Addr → Prop) (H : Hp) (F' : Addr → Prop) (H' : Hp) : Prop where
  same : ∀ b o, H b = some o → ¬ F b → H' b = some o
  fnew : ∀ b, F' b → F b ∨ H b = none
theorem Kp.rd {F F' : Addr → Prop} {H H' : Hp} {a : Addr} {u : HO} (k : Kp F H F' H') (h : Rd H a u) (hF : ¬ F a) : Rd H' a u ∧ ¬ F' a := by
  rcases h with h | ⟨o, h⟩
  · exact ⟨.inl (k.same _ _ h hF), fun z => (k.fnew _ z).elim hF fun n => by rw [h] at n; cases n⟩
  · exact ⟨.inr ⟨o, k.same _ _ h hF⟩, fun z => (k.fnew _ z).elim hF fun n => by rw [h] at n; cases n⟩
theorem Kp.refl {F : Addr → Prop} {H : Hp} : Kp F H F H := ⟨fun _ _ h _ => h, fun _ h => .inl h⟩

mutual
theorem Rep.kp {T : Th} {F F' : Addr → Prop} {H H' : Hp} (k : Kp F H F' H') : ∀ (d : D) (v : V), Rep T F H d v → Rep T F' H' d v
  | .non, v, h => h
  | .bl b, v, h => h
  | .int i, v, h => h
  | .str x, v, h => h
  | .ty n, v, h => h
  | .ref a, v, h => h
  | .tup xs, v, h => by
    simp only [Rep] at h ⊢
    obtain ⟨a, vs, e, h, r⟩ := h
    exact ⟨a, vs, e, h.imp (fun h => ⟨k.same _ _ h.1 h.2, (k.rd (.inl h.1) h.2).2⟩) id, Reps.kp k xs vs r⟩
  | .scr ns, v, h => by
    simp only [Rep] at h ⊢
    obtain ⟨a, e, h⟩ := h
    exact ⟨a, e, h.imp (fun h => k.rd h.1 h.2) id⟩
  | .lst xs, v, h => by
    simp only [Rep] at h ⊢
    obtain ⟨a, vs, e, h, n, r⟩ := h
    exact ⟨a, vs, e, k.same _ _ h n, (k.rd (.inl h) n).2, Reps.kp k xs vs r⟩
  | .dct ks xs, v, h => by
    simp only [Rep] at h ⊢
    obtain ⟨a, vs, e, h, n, l, r⟩ := h
    exact ⟨a, vs, e, k.same _ _ h n, (k.rd (.inl h) n).2, l, Reps.kp k xs vs r⟩
  | .ins c ns xs, v, h => by
    simp only [Rep] at h ⊢
    obtain ⟨a, dx, vs, e, h, n, l, r⟩ := h
    exact ⟨a, dx, vs, e, k.same _ _ h n, (k.rd (.inl h) n).2, l, Reps.kp k xs vs r⟩
theorem Reps.kp {T : Th} {F F' : Addr → Prop} {H H' : Hp} (k : Kp F H F' H') : ∀ (ds : List D) (vs : List V), Reps T F H ds vs → Reps T F' H' ds vs
  | [], vs, h => by simpa [Reps] using h
  | d :: ds, vs, h => by
    simp only [Reps] at h ⊢
    obtain ⟨v, r, e, h1, h2⟩ := h
    exact ⟨v, r, e, Rep.kp k d v h1, Reps.kp k ds r h2⟩
end
section
variable {T : Th} {F : Addr → Prop} {H : Hp}
theorem Reps.len : ∀ {ds : List D} {vs : List V}, Reps T F H ds vs → vs.length = ds.length
  | [], vs, h => by simp only [Reps] at h; simp [h]
  | d :: ds, vs, h => by
    simp only [Reps] at h
    obtain ⟨v, r, e, _, h2⟩ := h
    subst e
    simp [Reps.len h2]
theorem Reps.get : ∀ {ds : List D} {vs : List V} {i : Nat} {d : D}, Reps T F H ds vs → ds[i]? = some d → ∃ v, vs[i]? = some v ∧ Rep T F H d v
  | [], _, _, _, _, e => by simp at e
  | d :: ds, vs, i, x, h, e => by
    simp only [Reps] at h
    obtain ⟨v, r, q, h1, h2⟩ := h
    subst q
    cases i with
    | zero => simp at e; subst e; exact ⟨v, rfl, h1⟩
    | succ i => exact Reps.get (i := i) h2 (by simpa using e)
theorem Reps.nil : Reps T F H [] [] := by simp [Reps]
theorem Reps.cons {d : D} {v : V} {ds : List D} {vs : List V} (h : Rep T F H d v) (r : Reps T F H ds vs) : Reps T F H (d :: ds) (v :: vs) := by
  simp only [Reps]; exact ⟨v, vs, rfl, h, r⟩
theorem Reps.app : ∀ {ds es : List D} {vs ws : List V}, Reps T F H ds vs → Reps T F H es ws → Reps T F H (ds ++ es) (vs ++ ws)
  | [], es, vs, ws, h, q => by simp only [Reps] at h; subst h; exact q
  | d :: ds, es, vs, ws, h, q => by
    simp only [Reps] at h
    obtain ⟨v, r, e, h1, h2⟩ := h
    subst e
    exact .cons h1 (Reps.app h2 q)
theorem Reps.take : ∀ {ds : List D} {vs : List V} (n : Nat), Reps T F H ds vs → Reps T F H (ds.take n) (vs.take n)
  | _, _, 0, _ => by simp [Reps]
  | [], vs, n + 1, h => by simp only [Reps] at h; subst h; simp [Reps]
  | d :: ds, vs, n + 1, h => by
    simp only [Reps] at h
    obtain ⟨v, r, e, h1, h2⟩ := h
    subst e
    exact .cons h1 (Reps.take n h2)
theorem Reps.drop : ∀ {ds : List D} {vs : List V} (n : Nat), Reps T F H ds vs → Reps T F H (ds.drop n) (vs.drop n)
  | _, _, 0, h => h
  | [], vs, n + 1, h => by simp only [Reps] at h; subst h; simp [Reps]
  | d :: ds, vs, n + 1, h => by
    simp only [Reps] at h
    obtain ⟨v, r, e, h1, h2⟩ := h
    subst e
    exact Reps.drop n h2
theorem Reps.set {d : D} {v : V} (q : Rep T F H d v) : ∀ {ds : List D} {vs : List V} (i : Nat), Reps T F H ds vs → Reps T F H (ds.set i d) (vs.set i v)
  | [], vs, i, h => by simp only [Reps] at h; subst h; simp [Reps]
  | e :: ds, vs, 0, h => by
    simp only [Reps] at h
    obtain ⟨v', r, e', h1, h2⟩ := h
    subst e'
    exact .cons q h2
  | e :: ds, vs, i + 1, h => by
    simp only [Reps] at h
    obtain ⟨v', r, e', h1, h2⟩ := h
    subst e'
    exact .cons h1 (Reps.set q i h2)
theorem Reps.rep {ds : List D} {vs : List V} (h : Reps T F H ds vs) : ∀ n : Nat, Reps T F H (List.replicate n ds).flatten (List.replicate n vs).flatten
  | 0 => by simp [Reps]
  | n + 1 => by
    rw [List.replicate_succ, List.replicate_succ, List.flatten_cons, List.flatten_cons]
    exact h.app (Reps.rep h n)
theorem Reps.ints : ∀ ns : List Int, Reps T F H (ns.map D.int) (ns.map V.int)
  | [] => by simp [Reps]
  | n :: ns => by
    rw [List.map_cons, List.map_cons]
    exact .cons (by simp [Rep]) (Reps.ints ns)
theorem Reps.ofInts : ∀ {ns : List Int} {vs : List V}, Reps T F H (ns.map D.int) vs → vs = ns.map V.int
  | [], vs, h => by simpa [Reps] using h
  | n :: ns, vs, h => by
    rw [List.map_cons] at h
    simp only [Reps, Rep] at h
    obtain ⟨v, r, e, h1, h2⟩ := h
    rw [e, h1, Reps.ofInts h2, List.map_cons]
theorem Reps.ofBls : ∀ {bs : List Bool} {vs : List V}, Reps T F H (bs.map D.bl) vs → vs = bs.map V.bl
  | [], vs, h => by simpa [Reps] using h
  | n :: ns, vs, h => by
    rw [List.map_cons] at h
    simp only [Reps, Rep] at h
    obtain ⟨v, r, e, h1, h2⟩ := h
    rw [e, h1, Reps.ofBls h2, List.map_cons]
end

/-! ### shared and own mutable things -/
inductive MO where
  | lst (xs : List D) | dct (ks : List Key) (vs : List D) | ins (c : Nat) (ns : List Str) (vs : List D)
  /-- a thing whose inside is not told: 0 a tape -/
  | abs (n : Nat)
abbrev Om := Addr → Option MO
/-- a tape: a list of a list of ints and an int -/
def TapeR (fp : Addr → Prop) (H : Hp) (a : Addr) : Prop := ∃ (c : Addr) (cs : List Int) (s : Int), a ≠ c ∧ (∀ b, fp b ↔ b = a ∨ b = c) ∧ H a = some (.lst [.ref c, .int s]) ∧ H c = some (.lst (cs.map V.int)) ∧ (∀ n ∈ cs, 0 ≤ n) ∧ cs.length ≤ 63 ∧ 0 ≤ s
def MRep (T : Th) (F fp : Addr → Prop) (H : Hp) (a : Addr) : MO → Prop
  | .lst ds => ∃ vs, H a = some (.lst vs) ∧ Reps T F H ds vs
  | .dct ks ds => ∃ vs, H a = some (.dK (ks.zip vs)) ∧ ks.length = ds.length ∧ Reps T F H ds vs
  | .ins c ns ds => ∃ dx vs, H a = some (.ins (T.cm c) dx (ns.zip vs)) ∧ ns.length = ds.length ∧ Reps T F H ds vs
  | .abs 0 => TapeR fp H a
  | .abs _ => False
theorem MRep.kp {T : Th} {F F' fp : Addr → Prop} {H H' : Hp} {a : Addr} (k : Kp F H F' H') (hfp : ∀ b, fp b → H' b = H b) (ha : fp a) : ∀ {m : MO}, MRep T F fp H a m → MRep T F' fp H' a m
  | .lst ds, ⟨vs, h, r⟩ => ⟨vs, (hfp a ha).trans h, Reps.kp k _ _ r⟩
  | .dct ks ds, ⟨vs, h, l, r⟩ => ⟨vs, (hfp a ha).trans h, l, Reps.kp k _ _ r⟩
  | .ins c ns ds, ⟨dx, vs, h, l, r⟩ => ⟨dx, vs, (hfp a ha).trans h, l, Reps.kp k _ _ r⟩
  | .abs 0, ⟨c, cs, s, h1, h2, h3, h4, h5⟩ => ⟨c, cs, s, h1, h2, (hfp a ha).trans h3, (hfp c ((h2 c).mpr (.inr rfl))).trans h4, h5⟩
  | .abs (_ + 1), h => h.elim

/-- the ghost world: the shared mutable things, their places, all places that may change -/
structure Wd where
  Om : Om
  fp : Addr → Addr → Prop
  F : Addr → Prop
/-- b is a place of a shared thing -/
def Wd.pm (W : Wd) (b : Addr) : Prop := ∃ a, W.Om a ≠ none ∧ W.fp a b
structure WOk (T : Th) (W : Wd) (H : Hp) : Prop where
  at_ : ∀ a m, W.Om a = some m → MRep T W.F (W.fp a) H a m ∧ W.fp a a
  sub : ∀ b, W.pm b → W.F b
  dis : ∀ a a' b, W.Om a ≠ none → W.Om a' ≠ none → W.fp a b → W.fp a' b → a = a'
  trk : ∀ b, W.F b → H b ≠ none
structure Step (T : Th) (W : Wd) (H : Hp) (W' : Wd) (H' : Hp) : Prop where
  ok : WOk T W' H'
  keep : ∀ b o, H b = some o → ¬ W.pm b → H' b = some o
  trk : ∀ b, H b ≠ none → H' b ≠ none
  sub : ∀ b, W.F b → W'.F b
  fnew : ∀ b, W'.F b → W.F b ∨ H b = none
  om : ∀ a, W.Om a ≠ none → W'.Om a ≠ none ∧ W'.fp a = W.fp a
  new : ∀ a b, W.Om a = none → W'.Om a ≠ none → W'.fp a b → H b = none
section
variable {T : Th} {W W1 W2 W' : Wd} {H H1 H2 H' : Hp}
theorem Step.kp (s : Step T W H W' H') (ok : WOk T W H) : Kp W.F H W'.F H' := ⟨fun b o h n => s.keep b o h fun z => n (ok.sub b z), s.fnew⟩
theorem Step.refl (ok : WOk T W H) : Step T W H W H := ⟨ok, fun _ _ h _ => h, fun _ h => h, fun _ h => h, fun _ h => .inl h, fun _ h => ⟨h, rfl⟩, fun a b h h' => (h' h).elim⟩
theorem Step.trans (a : Step T W H W1 H1) (b : Step T W1 H1 W2 H2) : Step T W H W2 H2 where
  ok := b.ok
  keep := fun c o h n => b.keep c o (a.keep c o h n) fun ⟨x, hx, hf⟩ => by
    by_cases q : W.Om x = none
    · have := a.new x c q hx hf
      rw [h] at this; cases this
    · exact n ⟨x, q, by rw [← (a.om x q).2]; exact hf⟩
  trk := fun c h => b.trk c (a.trk c h)
  sub := fun c h => b.sub c (a.sub c h)
  fnew := fun c h => (b.fnew c h).elim (a.fnew c) fun n => .inr (by
    cases q : H c with
    | none => rfl
    | some o => exact absurd n (a.trk c (by rw [q]; simp)))
  om := fun x h => ⟨(b.om x (a.om x h).1).1, (b.om x (a.om x h).1).2.trans (a.om x h).2⟩
  new := fun x c h h' hf => by
    by_cases q : W1.Om x = none
    · have n := b.new x c q h' hf
      cases q2 : H c with
      | none => rfl
      | some o => exact absurd n (a.trk c (by rw [q2]; simp))
    · rw [(b.om x q).2] at hf
      exact a.new x c h q hf
/-- new things were laid, nothing changed -/
theorem WOk.ext (ok : WOk T W H) (h : ∀ b o, H b = some o → H' b = some o) : WOk T W H' where
  at_ := fun a m e => by
    obtain ⟨r, f⟩ := ok.at_ a m e
    refine ⟨MRep.kp ⟨fun b o q _ => h b o q, fun b q => .inl q⟩ (fun b hb => ?_) f r, f⟩
    cases q : H b with
    | none => exact absurd q (ok.trk b (ok.sub b ⟨a, by rw [e]; simp, hb⟩))
    | some o => exact h b o q
  sub := ok.sub
  dis := ok.dis
  trk := fun b hb z => by
    cases q : H b with
    | none => exact ok.trk b hb q
    | some o => rw [h b o q] at z; cases z
theorem Step.ext (ok : WOk T W H) (h : ∀ b o, H b = some o → H' b = some o) : Step T W H W H' :=
  ⟨ok.ext h, fun b o q _ => h b o q, fun b q z => (by
    cases e : H b with
    | none => exact q e
    | some o => (rw [h b o e] at z; cases z)), fun _ q => q, fun _ q => .inl q, fun _ q => ⟨q, rfl⟩, fun a b q q' => (q' q).elim⟩
theorem ext_upd {p : Addr} {o : HO} (h : H p = none) : ∀ b u, H b = some u → (upd H p o) b = some u := fun b u e => by
  rw [upd_ne (ne_of_none e h)]; exact e
theorem Step.new1 (ok : WOk T W H) {p : Addr} {o : HO} (h : H p = none) : Step T W H W (upd H p o) := Step.ext ok (ext_upd h)
theorem nF (ok : WOk T W H) {p : Addr} (h : H p = none) : ¬ W.F p := fun z => ok.trk p z h
end

def Wd.add (W : Wd) (p : Addr) : Wd := { W with F := fun b => W.F b ∨ b = p }
def Wd.del (W : Wd) (p : Addr) : Wd := { W with F := fun b => W.F b ∧ b ≠ p }
section
variable {T : Th} {W W1 : Wd} {H H1 : Hp} {p : Addr} {o : HO}
theorem Kp.mut {F : Addr → Prop} (h : F p) : Kp F H F (upd H p o) := ⟨fun b u e n => by rw [upd_ne fun z => n (by rw [z]; exact h)]; exact e, fun _ h => .inl h⟩
theorem Kp.less {F F' : Addr → Prop} (h : ∀ b, F' b → F b) : Kp F H F' H := ⟨fun _ _ e _ => e, fun b q => .inl (h b q)⟩
theorem Step.newOwn (ok : WOk T W H) (hp : H p = none) : Step T W H (W.add p) (upd H p o) := by
  have kp : Kp W.F H (W.add p).F (upd H p o) := ⟨fun b u e _ => ext_upd hp b u e, fun b h => h.imp _root_.id (fun e => by rw [e]; exact hp)⟩
  refine ⟨⟨fun a m e => ?_, fun b h => .inl (ok.sub b h), ok.dis, fun b h => ?_⟩, fun b u e _ => ext_upd hp b u e, fun b h => ?_, fun b h => .inl h, kp.fnew, fun a h => ⟨h, rfl⟩, fun a b h h' => (h' h).elim⟩
  · obtain ⟨r, f⟩ := ok.at_ a m e
    refine ⟨MRep.kp kp (fun b hb => ?_) f r, f⟩
    have e' : W.Om a = some m := e
    refine upd_ne fun z => ok.trk b (ok.sub b ⟨a, by rw [e']; simp, hb⟩) (by rw [z]; exact hp)
  · rcases h with h | h
    · by_cases z : b = p
      · rw [z, upd_same]; simp
      · rw [upd_ne z]; exact ok.trk b h
    · rw [h, upd_same]; simp
  · by_cases z : b = p
    · rw [z, upd_same]; simp
    · rw [upd_ne z]; exact h
theorem Step.mutO (s : Step T W1 H1 W H) (hn : H1 p = none) (hF : W.F p) (hpm : ¬ W.pm p) : Step T W1 H1 W (upd H p o) := by
  refine ⟨⟨fun a m e => ?_, s.ok.sub, s.ok.dis, fun b h => ?_⟩, fun b u e n => ?_, fun b h => ?_, s.sub, s.fnew, s.om, s.new⟩
  · obtain ⟨r, f⟩ := s.ok.at_ a m e
    exact ⟨MRep.kp (Kp.mut hF) (fun b hb => upd_ne fun z => hpm ⟨a, by rw [e]; simp, z ▸ hb⟩) f r, f⟩
  · by_cases z : b = p
    · rw [z, upd_same]; simp
    · rw [upd_ne z]; exact s.ok.trk b h
  · rw [upd_ne (ne_of_none e hn)]; exact s.keep b u e n
  · by_cases z : b = p
    · rw [z, upd_same]; simp
    · rw [upd_ne z]; exact s.trk b h
theorem Step.del (s : Step T W1 H1 W H) (ok : WOk T W1 H1) (hn : H1 p = none) (hpm : ¬ W.pm p) : Step T W1 H1 (W.del p) H := by
  refine ⟨⟨fun a m e => ?_, fun b h => ⟨s.ok.sub b h, fun z => hpm (z ▸ h)⟩, s.ok.dis, fun b h => s.ok.trk b h.1⟩, s.keep, s.trk, fun b h => ⟨s.sub b h, fun z => ok.trk b h (by rw [z]; exact hn)⟩, fun b h => s.fnew b h.1, s.om, s.new⟩
  obtain ⟨r, f⟩ := s.ok.at_ a m e
  exact ⟨MRep.kp (Kp.less fun b h => h.1) (fun b _ => rfl) f r, f⟩
theorem Step.back (s : Step T W1 H1 W H) (h : H p = none) : H1 p = none := by
  cases q : H1 p with
  | none => rfl
  | some o => exact absurd h (s.trk p (by rw [q]; simp))
end
/-- v stands for d just now: the thing itself may be one's own; Pm: the shared places -/
def RepT (T : Th) (F Pm : Addr → Prop) (H : Hp) : D → V → Prop
  | .lst xs, v => ∃ a vs, v = .ref a ∧ H a = some (.lst vs) ∧ ¬ Pm a ∧ Reps T F H xs vs
  | .dct ks xs, v => ∃ a vs, v = .ref a ∧ H a = some (.dK (ks.zip vs)) ∧ ¬ Pm a ∧ ks.length = xs.length ∧ Reps T F H xs vs
  | .ins c ns xs, v => ∃ a dx vs, v = .ref a ∧ H a = some (.ins (T.cm c) dx (ns.zip vs)) ∧ ¬ Pm a ∧ ns.length = xs.length ∧ Reps T F H xs vs
  | .non, v => v = .non
  | .bl b, v => v = .bl b
  | .int i, v => v = .int i
  | .str x, v => v = .str x
  | .ty n, v => v = .ty n
  | .ref a, v => v = .ref a
  | .tup xs, v => Rep T F H (.tup xs) v
  | .scr ns, v => Rep T F H (.scr ns) v
section
variable {T : Th} {W W' : Wd} {H H' : Hp}
theorem Rep.t {F Pm : Addr → Prop} (s : ∀ b, Pm b → F b) : ∀ {d : D} {v : V}, Rep T F H d v → RepT T F Pm H d v
  | .non, v, h => by simp only [Rep] at h; exact h
  | .bl b, v, h => by simp only [Rep] at h; exact h
  | .int i, v, h => by simp only [Rep] at h; exact h
  | .str x, v, h => by simp only [Rep] at h; exact h
  | .ty n, v, h => by simp only [Rep] at h; exact h
  | .ref a, v, h => by simp only [Rep] at h; exact h
  | .tup xs, v, h => h
  | .scr xs, v, h => h
  | .lst xs, v, h => by
    simp only [Rep] at h
    obtain ⟨a, vs, e, h, n, r⟩ := h
    exact ⟨a, vs, e, h, fun z => n (s _ z), r⟩
  | .dct ks xs, v, h => by
    simp only [Rep] at h
    obtain ⟨a, vs, e, h, n, l, r⟩ := h
    exact ⟨a, vs, e, h, fun z => n (s _ z), l, r⟩
  | .ins c ns xs, v, h => by
    simp only [Rep] at h
    obtain ⟨a, dx, vs, e, h, n, l, r⟩ := h
    exact ⟨a, dx, vs, e, h, fun z => n (s _ z), l, r⟩
theorem Step.pm (s : Step T W H W' H') {b : Addr} {o : HO} (h : H b = some o) (n : ¬ W.pm b) : ¬ W'.pm b := fun ⟨x, hx, hf⟩ => by
  by_cases q : W.Om x = none
  · have := s.new x b q hx hf
    rw [h] at this; cases this
  · exact n ⟨x, q, by rw [← (s.om x q).2]; exact hf⟩
theorem RepT.step (s : Step T W H W' H') (ok : WOk T W H) : ∀ {d : D} {v : V}, RepT T W.F W.pm H d v → RepT T W'.F W'.pm H' d v
  | .non, v, h => h
  | .bl b, v, h => h
  | .int i, v, h => h
  | .str x, v, h => h
  | .ty n, v, h => h
  | .ref a, v, h => h
  | .tup xs, v, h => Rep.kp (s.kp ok) _ _ h
  | .scr xs, v, h => Rep.kp (s.kp ok) _ _ h
  | .lst xs, v, ⟨a, vs, e, h, n, r⟩ => ⟨a, vs, e, s.keep _ _ h n, s.pm h n, Reps.kp (s.kp ok) _ _ r⟩
  | .dct ks xs, v, ⟨a, vs, e, h, n, l, r⟩ => ⟨a, vs, e, s.keep _ _ h n, s.pm h n, l, Reps.kp (s.kp ok) _ _ r⟩
  | .ins c ns xs, v, ⟨a, dx, vs, e, h, n, l, r⟩ => ⟨a, dx, vs, e, s.keep _ _ h n, s.pm h n, l, Reps.kp (s.kp ok) _ _ r⟩
end

/-! ### a frame's state -/
inductive Sl where
  | no | val (d : D) | own (m : MO)
abbrev Gam := List Sl
/-- a def's fixed things: the entry's world and heap, the wish about exceptions -/
structure Pm where
  T : Th
  W : WX
  W0 : Wd
  H0 : Hp
abbrev Pm.noW (P : Pm) : Pm := { P with W := fun _ _ _ _ => False }
structure OwnAt (P : Pm) (W : Wd) (H : Hp) (a : Addr) (m : MO) : Prop where
  f : W.F a
  o : W.Om a = none
  p : ¬ W.pm a
  n : P.H0 a = none
  r : MRep P.T W.F (fun _ => False) H a m
def SlR (P : Pm) (W : Wd) (H : Hp) : Sl → Option (Option V) → Prop
  | .no, _ => True
  | .val d, o => ∃ v, o = some (some v) ∧ Rep P.T W.F H d v
  | .own m, o => ∃ a, o = some (some (.ref a)) ∧ OwnAt P W H a m
structure Sta (P : Pm) (G : Gam) (W : Wd) (σ : L2.St) (H : Hp) : Prop where
  st : Step P.T P.W0 P.H0 W H
  len : G.length = σ.length
  sl : ∀ (i : Nat) s, G[i]? = some s → SlR P W H s σ[i]?
  ap : ∀ (i j : Nat) m m' a, G[i]? = some (.own m) → G[j]? = some (.own m') → σ[i]? = some (some (.ref a)) → σ[j]? = some (some (.ref a)) → i = j
theorem noFp {T : Th} {F F' fp : Addr → Prop} {H H' : Hp} {a : Addr} (k : Kp F H F' H') (e : H' a = H a) : ∀ {m : MO}, MRep T F (fun _ => False) H a m → MRep T F' (fun _ => False) H' a m
  | .lst ds, ⟨vs, h, r⟩ => ⟨vs, e.trans h, Reps.kp k _ _ r⟩
  | .dct ks ds, ⟨vs, h, l, r⟩ => ⟨vs, e.trans h, l, Reps.kp k _ _ r⟩
  | .ins c ns ds, ⟨dx, vs, h, l, r⟩ => ⟨dx, vs, e.trans h, l, Reps.kp k _ _ r⟩
  | .abs 0, ⟨c, cs, s, h1, h2, _⟩ => (((h2 a).mpr (.inl rfl))).elim
  | .abs (_ + 1), h => h.elim
section
variable {P : Pm} {G : Gam} {W W' : Wd} {σ : L2.St} {H H' : Hp} {m : MO} {a : Addr}
theorem OwnAt.there (h : OwnAt P W H a m) (ok : WOk P.T W H) : ∃ o, H a = some o := by
  cases q : H a with
  | none => exact absurd q (ok.trk a h.f)
  | some o => exact ⟨o, rfl⟩
theorem OwnAt.step (h : OwnAt P W H a m) (ok : WOk P.T W H) (s : Step P.T W H W' H') : OwnAt P W' H' a m := by
  obtain ⟨o, e⟩ := h.there ok
  have np : ¬ W'.pm a := fun ⟨x, hx, hf⟩ => by
    by_cases q : W.Om x = none
    · have := s.new x a q hx hf
      rw [e] at this; cases this
    · exact h.p ⟨x, q, by rw [← (s.om x q).2]; exact hf⟩
  refine ⟨s.sub _ h.f, ?_, np, h.n, noFp (fp := fun _ => False) (s.kp ok) ((s.keep a o e h.p).trans e.symm) h.r⟩
  cases q : W'.Om a with
  | none => rfl
  | some m' => exact (np ⟨a, by rw [q]; simp, (s.ok.at_ a m' q).2⟩).elim
theorem Sta.ok (S : Sta P G W σ H) : WOk P.T W H := S.st.ok
theorem Sta.step (S : Sta P G W σ H) (s : Step P.T W H W' H') : Sta P G W' σ H' := by
  refine ⟨S.st.trans s, S.len, fun i x e => ?_, S.ap⟩
  have q := S.sl i x e
  cases x with
  | no => trivial
  | val d =>
    obtain ⟨v, e1, r⟩ := q
    exact ⟨v, e1, Rep.kp (s.kp S.ok) d v r⟩
  | own m =>
    obtain ⟨a, e1, r⟩ := q
    exact ⟨a, e1, r.step S.ok s⟩
/-- another wish -/
theorem Sta.noW (S : Sta P G W σ H) : Sta P.noW G W σ H :=
  ⟨S.st, S.len, fun i x e => by
    have q := S.sl i x e
    cases x with
    | no => trivial
    | val d => exact q
    | own m => obtain ⟨a, e, o⟩ := q; exact ⟨a, e, ⟨o.f, o.o, o.p, o.n, o.r⟩⟩, S.ap⟩
end
end N

set_option Elab.async false
set_option linter.all false
set_option maxRecDepth 100000
/-! NB: what is wanted, told over data; the judgements; names, operators, tests, displays -/
namespace N
open PySem PySem.Spec PyProof.Rows L2

/-- an exception of an own class -/
structure Exn where
  c : Nat
  ns : List Str
  vs : List D
def XRep (T : Th) (F : Addr → Prop) (H : Hp) (x : Exn) (cls : Value) (dd : Option Addr) : Prop :=
  cls = .ref (T.cm x.c) ∧ ((x.ns = [] ∧ dd = none) ∨ ∃ d ws, dd = some d ∧ x.ns ≠ [] ∧ H d = some (.xd (x.ns.zip ws)) ∧ ¬ F d ∧ x.ns.length = x.vs.length ∧ Reps T F H x.vs ws)
abbrev RX := Exn → Om → Prop
abbrev WE := Gam → Om → (D → Om → Prop) → RX → Prop
abbrev WT := Gam → Om → (Bool → Om → Prop) → RX → Prop
abbrev WA := Gam → Om → (List D → Om → Prop) → RX → Prop

def exOk (P : Pm) (W : Wd) (H : Hp) (σ : L2.St) (R : RX) : Prop := ∀ x Om', R x Om' → ∀ cls dd H' W', Step P.T W H W' H' → W'.Om = Om' → XRep P.T W'.F H' x cls dd → P.W cls dd σ H'
theorem exOk.step {P : Pm} {W W' : Wd} {H H' : Hp} {σ : L2.St} {R : RX} (e : exOk P W H σ R) (s : Step P.T W H W' H') : exOk P W' H' σ R :=
  fun x o h cls dd H2 W2 s2 q r => e x o h cls dd H2 W2 (s.trans s2) q r

def tE (P : Pm) (w : WE) : TE := fun σ H Q => ∃ G W Q0 R0, Sta P G W σ H ∧ w G W.Om Q0 R0 ∧ exOk P W H σ R0 ∧ ∀ d Om', Q0 d Om' → ∀ v H' W', Step P.T W H W' H' → W'.Om = Om' → Rep P.T W'.F H' d v → Q v H'
def tB (P : Pm) (w : WE) : TE := fun σ H Q => ∃ G W Q0 R0, Sta P G W σ H ∧ w G W.Om Q0 R0 ∧ exOk P W H σ R0 ∧ ∀ d Om', Q0 d Om' → ∀ v H' W', Step P.T W H W' H' → W'.Om = Om' → RepT P.T W'.F W'.pm H' d v → Q v H'
def tT (P : Pm) (w : WT) : TT := fun σ H Q => ∃ G W Q0 R0, Sta P G W σ H ∧ w G W.Om Q0 R0 ∧ exOk P W H σ R0 ∧ ∀ b Om', Q0 b Om' → ∀ H' W', Step P.T W H W' H' → W'.Om = Om' → Q b H'
def tA (P : Pm) (w : WA) : TA := fun σ H Q => ∃ G W Q0 R0, Sta P G W σ H ∧ w G W.Om Q0 R0 ∧ exOk P W H σ R0 ∧ ∀ ds Om', Q0 ds Om' → ∀ vs H' W', Step P.T W H W' H' → W'.Om = Om' → Reps P.T W'.F H' ds vs → Q vs H'
/-- .. arguments that may be own things -/
def RepsT (T : Th) (F Pm : Addr → Prop) (H : Hp) : List D → List V → Prop
  | [], vs => vs = []
  | d :: ds, vs => ∃ v r, vs = v :: r ∧ RepT T F Pm H d v ∧ RepsT T F Pm H ds r
def tAB (P : Pm) (w : WA) : TA := fun σ H Q => ∃ G W Q0 R0, Sta P G W σ H ∧ w G W.Om Q0 R0 ∧ exOk P W H σ R0 ∧ ∀ ds Om', Q0 ds Om' → ∀ vs H' W', Step P.T W H W' H' → W'.Om = Om' → RepsT P.T W'.F W'.pm H' ds vs → Q vs H'

structure DE (X : Cx) (P : Pm) (e : Expr) (w : WE) : Prop where
  pe : PE X e (tE P w)
structure DB (X : Cx) (P : Pm) (e : Expr) (w : WE) : Prop where
  pe : PE X e (tB P w)
structure DT (X : Cx) (P : Pm) (e : Expr) (w : WT) : Prop where
  pt : PT X e (tT P w)
structure DA (X : Cx) (P : Pm) (es : List Expr) (w : WA) : Prop where
  pa : PA X es (tA P w)
structure DAB (X : Cx) (P : Pm) (es : List Expr) (w : WA) : Prop where
  pa : PA X es (tAB P w)

section
variable {X : Cx} {P : Pm} {e a b c : Expr} {es : List Expr} {wa wb wc w : WE} {pos : Pos}
theorem pe_imp {t t' : TE} (h : PE X e t) (i : ∀ σ H Q, t' σ H Q → t σ H Q) : PE X e t' := ⟨fun pins s σ H Q I q => h.run pins s σ H Q I (i σ H Q q)⟩
theorem pt_imp {t t' : TT} (h : PT X e t) (i : ∀ σ H Q, t' σ H Q → t σ H Q) : PT X e t' := ⟨fun pins s σ H Q I q => h.run pins s σ H Q I (i σ H Q q)⟩
theorem pw_imp {t t' : TT} (h : PW X e t) (i : ∀ σ H Q, t' σ H Q → t σ H Q) : PW X e t' := ⟨fun wh pins s σ H Q I q => h.run wh pins s σ H Q I (i σ H Q q)⟩
theorem pa_imp {t t' : TA} (h : PA X es t) (i : ∀ σ H Q, t' σ H Q → t σ H Q) : PA X es t' := ⟨fun pos pins s σ H Q I q => h.run pos pins s σ H Q I (i σ H Q q)⟩
/-- every value may be looked at -/
theorem DE.br (h : DE X P e w) : DB X P e w := ⟨pe_imp h.pe fun σ H Q ⟨G, W, Q0, R0, S, hw, ex, q⟩ => ⟨G, W, Q0, R0, S, hw, ex, fun d o h0 v H' W' s eq r => q d o h0 v H' W' s eq (r.t s.ok.sub)⟩⟩

/-! ### names and constants -/
def getSl : Gam → Nat → Sl
  | [], _ => .no
  | s :: _, 0 => s
  | _ :: r, i + 1 => getSl r i
theorem getSl_get : ∀ (G : Gam) (i : Nat), getSl G i ≠ .no → G[i]? = some (getSl G i)
  | [], _, h => (h rfl).elim
  | s :: _, 0, _ => rfl
  | _ :: r, i + 1, h => by
    show (_ :: r)[i + 1]? = some (getSl r i)
    rw [List.getElem?_cons_succ]
    exact getSl_get r i h
/-- what is seen of an own thing -/
def MO.see : MO → D
  | .lst xs => .lst xs
  | .dct ks vs => .dct ks vs
  | .ins c ns vs => .ins c ns vs
  | .abs _ => .non
def wVar (i : Nat) : WE := fun G Om Q _ => match getSl G i with | .val d => Q d Om | _ => False
def wVarB (i : Nat) : WE := fun G Om Q _ => match getSl G i with | .val d => Q d Om | .own m => Q m.see Om | _ => False
def wC (d : D) : WE := fun _ Om Q _ => Q d Om
theorem de_var (i : Nat) {x : Str} {pos : Pos} (hN : X.N[i]? = some x := by rfl) (hv : Vis X.env.scope x := by first | exact Or.inl rfl | exact Or.inr (Or.inl rfl) | exact Or.inr (Or.inr rfl)) (hd : (x == ("__debug__" : Str)) = false := by decide)
    (hcd : (x == ("__classdict__" : Str)) = false := by decide) : DE X P (.Name x pos) (wVar i) := by
  refine ⟨pe_imp (pe_var hN hv hd hcd) fun σ H Q ⟨G, W, Q0, R0, S, hw, ex, q⟩ => ?_⟩
  unfold wVar at hw
  split at hw
  · rename_i d e
    have g := getSl_get G i (by rw [e]; intro z; cases z)
    rw [e] at g
    obtain ⟨v, e1, r⟩ := S.sl i _ g
    exact ⟨v, e1, q d _ hw v H W (Step.refl S.ok) rfl r⟩
  · exact hw.elim
theorem db_var (i : Nat) {x : Str} {pos : Pos} (hN : X.N[i]? = some x := by rfl) (hv : Vis X.env.scope x := by first | exact Or.inl rfl | exact Or.inr (Or.inl rfl) | exact Or.inr (Or.inr rfl)) (hd : (x == ("__debug__" : Str)) = false := by decide)
    (hcd : (x == ("__classdict__" : Str)) = false := by decide) : DB X P (.Name x pos) (wVarB i) := by
  refine ⟨pe_imp (pe_var hN hv hd hcd) fun σ H Q ⟨G, W, Q0, R0, S, hw, ex, q⟩ => ?_⟩
  unfold wVarB at hw
  split at hw
  · rename_i d e
    have g := getSl_get G i (by rw [e]; intro z; cases z)
    rw [e] at g
    obtain ⟨v, e1, r⟩ := S.sl i _ g
    exact ⟨v, e1, q d _ hw v H W (Step.refl S.ok) rfl (r.t S.ok.sub)⟩
  · rename_i m e
    have g := getSl_get G i (by rw [e]; intro z; cases z)
    rw [e] at g
    obtain ⟨a, e1, o⟩ := S.sl i _ g
    refine ⟨.ref a, e1, q m.see _ hw _ H W (Step.refl S.ok) rfl ?_⟩
    cases m with
    | lst ds =>
      obtain ⟨vs, h, r⟩ := o.r
      exact ⟨a, vs, rfl, h, o.p, r⟩
    | dct ks ds =>
      obtain ⟨vs, h, l, r⟩ := o.r
      exact ⟨a, vs, rfl, h, o.p, l, r⟩
    | ins c ns ds =>
      obtain ⟨dx, vs, h, l, r⟩ := o.r
      exact ⟨a, dx, vs, rfl, h, o.p, l, r⟩
    | abs n =>
      cases n with
      | zero => obtain ⟨c, cs, s, h1, h2, _⟩ := o.r; exact (((h2 a).mpr (.inl rfl))).elim
      | succ n => exact o.r.elim
  · exact hw.elim
theorem de_c {v : V} {d : D} (h : PE X e (tC v)) (hr : ∀ T F H, Rep T F H d v) : DE X P e (wC d) :=
  ⟨pe_imp h fun σ H Q ⟨G, W, Q0, R0, S, hw, ex, q⟩ => q d _ hw v H W (Step.refl S.ok) rfl (hr _ _ _)⟩
theorem de_int {i : Int} {j pos} : DE X P (.Constant (.int i) j pos) (wC (.int i)) := de_c pe_int fun _ _ _ => by simp [Rep]
theorem de_bl {i : Bool} {j pos} : DE X P (.Constant (.bool i) j pos) (wC (.bl i)) := de_c pe_bl fun _ _ _ => by simp [Rep]
theorem de_non {j pos} : DE X P (.Constant .none j pos) (wC .non) := de_c pe_non fun _ _ _ => by simp [Rep]
theorem de_str {x : Str} {j pos} : DE X P (.Constant (.str x) j pos) (wC (.str x)) := de_c pe_str fun _ _ _ => by simp [Rep]
/-- a module's int, text -/
theorem de_gint {x : Str} {i : Int} {t : Tok} {pos : Pos} (hm : X.mg x = some (.int i t)) (hg : Gl X x := by rfl) (hd : (x == ("__debug__" : Str)) = false := by decide) : DE X P (.Name x pos) (wC (.int i)) := de_c (pe_glob hg hm (v := .int i) ⟨t, rfl⟩ hd) fun _ _ _ => by simp [Rep]
theorem de_gstr {x s : Str} {t : Tok} {pos : Pos} (hm : X.mg x = some (.str s t)) (hg : Gl X x := by rfl) (hd : (x == ("__debug__" : Str)) = false := by decide) : DE X P (.Name x pos) (wC (.str s)) := de_c (pe_glob hg hm (v := .str s) ⟨t, rfl⟩ hd) fun _ _ _ => by simp [Rep]
/-- a built-in class as a value -/
theorem de_ty {x : Str} {n : String} {pos : Pos} (hm : X.mg x = none) (hg : Gl X x := by rfl) (hv : bootBuiltins x = some (.type n) := by decide +kernel) (hn : x ≠ "__name__" := by decide) (hd : (x == ("__debug__" : Str)) = false := by decide) : DE X P (.Name x pos) (wC (.ty n)) :=
  de_c (pe_bltn hg hm hv (v := .ty n) rfl hn hd) fun _ _ _ => by simp [Rep]
/-- an own class as a value -/
theorem de_cls {x : Str} {C : Addr} {pos : Pos} (hm : X.mg x = some (.ref C)) (hg : Gl X x := by rfl) (hd : (x == ("__debug__" : Str)) = false := by decide) : DE X P (.Name x pos) (wC (.ref C)) := de_c (pe_glob hg hm (v := .ref C) rfl hd) fun _ _ _ => by simp [Rep]
/-- code that is never come to -/
def wNever : WE := fun _ _ _ _ => False
theorem de_never : DE X P e wNever := ⟨⟨fun _ _ _ _ _ _ ⟨_, _, _, _, _, h, _⟩ => h.elim⟩⟩
theorem db_never : DB X P e wNever := de_never.br

/-! ### operators -/
abbrev GD := D → D → (D → Prop) → Prop
/-- new things may have come, nothing else -/
abbrev Nw (H H' : Hp) : Prop := ∀ b o, H b = some o → H' b = some o
def rD (T : Th) (g : GD) : R2 := fun x y H Q => ∃ (F Pm : Addr → Prop) (dx dy : D) (Qd : D → Prop), RepT T F Pm H dx x ∧ RepT T F Pm H dy y ∧ (∀ b, F b → H b ≠ none) ∧ g dx dy Qd ∧ ∀ z, Qd z → ∀ v H', Nw H H' → Rep T F H' z v → Q v H'
def OpD (X : Cx) (T : Th) (f : Value → Value → Sem Value) (g : GD) : Prop := OpR X f (rD T g)
def wBin (g : GD) (wa wb : WE) : WE := fun G Om Q R => wa G Om (fun x O1 => wb G O1 (fun y O2 => g x y fun z => Q z O2) R) R
theorem bin_imp {g : GD} {wa wb : WE} : ∀ σ H Q, tE P (wBin g wa wb) σ H Q → tOp (rD P.T g) (tB P wa) (tB P wb) σ H Q := fun σ H Q h => by
  obtain ⟨G, W, Q0, R0, S, h, ex, hq⟩ := h
  refine ⟨G, W, _, R0, S, h, ex, fun dx O1 h1 x H1 W1 s1 e1 rx => ?_⟩
  subst e1
  refine ⟨G, W1, _, R0, S.step s1, h1, ex.step s1, fun dy O2 h2 y H2 W2 s2 e2 ry => ?_⟩
  refine ⟨W2.F, W2.pm, dx, dy, _, rx.step s2 s1.ok, ry, s2.ok.trk, h2, fun z hz v H3 xt r => ?_⟩
  exact hq z O2 hz v H3 W2 ((s1.trans s2).trans (Step.ext s2.ok xt)) e2 r
theorem de_bin {op : Operator} {g : GD} (ho : OpD X P.T (binaryOp op) g) (ha : DB X P a wa) (hb : DB X P b wb) : DE X P (.BinOp a op b pos) (wBin g wa wb) := ⟨pe_imp (pe_op ho ha.pe hb.pe) bin_imp⟩
theorem de_cmp {op : CmpOp} {g : GD} (ho : OpD X P.T (compareOp op) g) (ha : DB X P a wa) (hb : DB X P b wb) (hm : behindInMarks op b = false := by first | exact nomark _ | rfl) : DE X P (.Compare a [op] [b] pos) (wBin g wa wb) :=
  ⟨pe_imp (pe_cmpR ho ha.pe hb.pe hm) bin_imp⟩
/-- a value as a test -/
def wTst (w : WE) : WT := fun G Om Q R => w G Om (fun d O => match d with | .bl b => Q b O | _ => False) R
theorem tst_imp {t : TE} (h : ∀ σ H Q, tE P w σ H Q → t σ H Q) : ∀ σ H Q, tT P (wTst w) σ H Q → tTest t σ H Q := fun σ H Q q => by
  obtain ⟨G, W, Q0, R0, S, q, ex, hq⟩ := q
  refine h σ H _ ⟨G, W, _, R0, S, q, ex, fun d O h1 v H1 W1 s1 e1 r => ?_⟩
  cases d with
  | bl b =>
    simp only [Rep] at r
    exact ⟨b, r, hq b O h1 H1 W1 s1 e1⟩
  | _ => exact h1.elim
theorem dt_cmp {op : CmpOp} {g : GD} (ho : OpD X P.T (compareOp op) g) (ha : DB X P a wa) (hb : DB X P b wb) (hm : behindInMarks op b = false := by first | exact nomark _ | rfl) : DT X P (.Compare a [op] [b] pos) (wTst (wBin g wa wb)) :=
  ⟨pt_imp (pt_cmpR ho ha.pe hb.pe hm) (tst_imp bin_imp)⟩
theorem dt_val (h : DE X P e w) (he : ∀ whole, isTrue e X.env whole = (do let v ← whole; standAt e.pos; holding [v] (truthy v)) := by intro _; rfl) : DT X P e (wTst w) :=
  ⟨pt_imp (pt_val h.pe he) fun σ H Q q => tst_imp (t := tE P w) (fun _ _ _ z => z) σ H Q q⟩
/-- one-place -/
def wUn (g : D → (D → Prop) → Prop) (wa : WE) : WE := fun G Om Q R => wa G Om (fun x O => g x fun z => Q z O) R
def UnD (X : Cx) (T : Th) (f : Value → Sem Value) (g : D → (D → Prop) → Prop) : Prop :=
  UnR X f fun x H Q => ∃ (F Pm : Addr → Prop) (dx : D) (Qd : D → Prop), RepT T F Pm H dx x ∧ g dx Qd ∧ ∀ z, Qd z → ∀ v H', Nw H H' → Rep T F H' z v → Q v H'
theorem de_un {op : UnaryOp} {g : D → (D → Prop) → Prop} (ho : UnD X P.T (unaryOp op) g) (ha : DB X P a wa) : DE X P (.UnaryOp op a pos) (wUn g wa) := by
  refine ⟨pe_imp (pe_un ho ha.pe) fun σ H Q q => ?_⟩
  obtain ⟨G, W, Q0, R0, S, q, ex, hq⟩ := q
  refine ⟨G, W, _, R0, S, q, ex, fun d O h1 v H1 W1 s1 e1 r => ⟨W1.F, W1.pm, d, _, r, h1, fun z hz u H2 xt r2 => ?_⟩⟩
  exact hq z O hz u H2 W1 (s1.trans (Step.ext s1.ok xt)) e1 r2

/-! ### and, or, not, a if t else b -/
def wtAnd (t u : WT) : WT := fun G Om Q R => t G Om (fun b O => br b (u G O Q R) (Q false O)) R
def wtOr (t u : WT) : WT := fun G Om Q R => t G Om (fun b O => br b (Q true O) (u G O Q R)) R
def wtNot (t : WT) : WT := fun G Om Q R => t G Om (fun b O => Q (!b) O) R
structure DW (X : Cx) (P : Pm) (e : Expr) (w : WT) : Prop where
  pw : PW X e (tT P w)
theorem DW.t {w : WT} (h : DW X P e w) : DT X P e w := ⟨h.pw.pt⟩
variable {ta tb tc : WT} {rest : List Expr}
theorem dw_and1 (h : DT X P a ta) : DW X P (.BoolOp .And [a] pos) ta := ⟨pw_and1 h.pt⟩
theorem dw_or1 (h : DT X P a ta) : DW X P (.BoolOp .Or [a] pos) ta := ⟨pw_or1 h.pt⟩
theorem dw_and (h : DT X P a ta) (k : DW X P (.BoolOp .And (b :: rest) pos) tb) : DW X P (.BoolOp .And (a :: b :: rest) pos) (wtAnd ta tb) := by
  refine ⟨pw_imp (pw_and h.pt k.pw) fun σ H Q q => ?_⟩
  obtain ⟨G, W, Q0, R0, S, q, ex, hq⟩ := q
  refine ⟨G, W, _, R0, S, q, ex, fun d O h1 H1 W1 s1 e1 => ?_⟩
  subst e1
  cases d with
  | true => exact ⟨G, W1, Q0, R0, S.step s1, h1, ex.step s1, fun d' O' h' H' W' s' e' => hq d' O' h' H' W' (s1.trans s') e'⟩
  | false => exact hq false _ h1 H1 W1 s1 rfl
theorem dw_or (h : DT X P a ta) (k : DW X P (.BoolOp .Or (b :: rest) pos) tb) : DW X P (.BoolOp .Or (a :: b :: rest) pos) (wtOr ta tb) := by
  refine ⟨pw_imp (pw_or h.pt k.pw) fun σ H Q q => ?_⟩
  obtain ⟨G, W, Q0, R0, S, q, ex, hq⟩ := q
  refine ⟨G, W, _, R0, S, q, ex, fun d O h1 H1 W1 s1 e1 => ?_⟩
  subst e1
  cases d with
  | false => exact ⟨G, W1, Q0, R0, S.step s1, h1, ex.step s1, fun d' O' h' H' W' s' e' => hq d' O' h' H' W' (s1.trans s') e'⟩
  | true => exact hq true _ h1 H1 W1 s1 rfl
theorem dt_not (h : DT X P a ta) : DT X P (.UnaryOp .Not a pos) (wtNot ta) := by
  refine ⟨pt_imp (pt_not h.pt) fun σ H Q q => ?_⟩
  obtain ⟨G, W, Q0, R0, S, q, ex, hq⟩ := q
  exact ⟨G, W, _, R0, S, q, ex, fun d O h1 H1 W1 s1 e1 => hq _ O h1 H1 W1 s1 e1⟩
/-- .. as values: all but the last True or False -/
def wAnd (t u : WE) : WE := fun G Om Q R => t G Om (fun b O => match b with | .bl b => br b (u G O Q R) (Q (.bl false) O) | _ => False) R
def wOr (t u : WE) : WE := fun G Om Q R => t G Om (fun b O => match b with | .bl b => br b (Q (.bl true) O) (u G O Q R) | _ => False) R
def wNot (t : WE) : WE := fun G Om Q R => t G Om (fun b O => match b with | .bl b => Q (.bl (!b)) O | _ => False) R
theorem de_one {op} (h : DE X P a w) : DE X P (.BoolOp op [a] pos) w := ⟨pe_one h.pe⟩
theorem de_and (h : DE X P a wa) (k : DE X P (.BoolOp .And (b :: rest) pos) wb) : DE X P (.BoolOp .And (a :: b :: rest) pos) (wAnd wa wb) := by
  refine ⟨pe_imp (pe_and h.pe k.pe) fun σ H Q q => ?_⟩
  obtain ⟨G, W, Q0, R0, S, q, ex, hq⟩ := q
  refine ⟨G, W, _, R0, S, q, ex, fun d O h1 v H1 W1 s1 e1 r => ?_⟩
  subst e1
  cases d with
  | bl b =>
    simp only [Rep] at r
    refine ⟨b, r, ?_⟩
    cases b with
    | true => exact ⟨G, W1, Q0, R0, S.step s1, h1, ex.step s1, fun d' O' h' v' H' W' s' e' r' => hq d' O' h' v' H' W' (s1.trans s') e' r'⟩
    | false => exact hq _ _ h1 _ H1 W1 s1 rfl (by simp [Rep])
  | _ => exact h1.elim
theorem de_or (h : DE X P a wa) (k : DE X P (.BoolOp .Or (b :: rest) pos) wb) : DE X P (.BoolOp .Or (a :: b :: rest) pos) (wOr wa wb) := by
  refine ⟨pe_imp (pe_or h.pe k.pe) fun σ H Q q => ?_⟩
  obtain ⟨G, W, Q0, R0, S, q, ex, hq⟩ := q
  refine ⟨G, W, _, R0, S, q, ex, fun d O h1 v H1 W1 s1 e1 r => ?_⟩
  subst e1
  cases d with
  | bl b =>
    simp only [Rep] at r
    refine ⟨b, r, ?_⟩
    cases b with
    | false => exact ⟨G, W1, Q0, R0, S.step s1, h1, ex.step s1, fun d' O' h' v' H' W' s' e' r' => hq d' O' h' v' H' W' (s1.trans s') e' r'⟩
    | true => exact hq _ _ h1 _ H1 W1 s1 rfl (by simp [Rep])
  | _ => exact h1.elim
theorem de_not (h : DE X P a wa) : DE X P (.UnaryOp .Not a pos) (wNot wa) := by
  refine ⟨pe_imp (pe_not h.pe) fun σ H Q q => ?_⟩
  obtain ⟨G, W, Q0, R0, S, q, ex, hq⟩ := q
  refine ⟨G, W, _, R0, S, q, ex, fun d O h1 v H1 W1 s1 e1 r => ?_⟩
  cases d with
  | bl b =>
    simp only [Rep] at r
    exact ⟨b, r, hq _ _ h1 _ H1 W1 s1 e1 (by simp [Rep])⟩
  | _ => exact h1.elim
def wIf (t : WT) (u v : WE) : WE := fun G Om Q R => t G Om (fun b O => br b (u G O Q R) (v G O Q R)) R
theorem de_if (hc : DT X P c tc) (ha : DE X P a wa) (hb : DE X P b wb) : DE X P (.IfExp c a b pos) (wIf tc wa wb) := by
  refine ⟨pe_imp (pe_ifExp hc.pt ha.pe hb.pe) fun σ H Q q => ?_⟩
  obtain ⟨G, W, Q0, R0, S, q, ex, hq⟩ := q
  refine ⟨G, W, _, R0, S, q, ex, fun d O h1 H1 W1 s1 e1 => ?_⟩
  subst e1
  cases d with
  | true => exact ⟨G, W1, Q0, R0, S.step s1, h1, ex.step s1, fun d' O' h' v' H' W' s' e' r' => hq d' O' h' v' H' W' (s1.trans s') e' r'⟩
  | false => exact ⟨G, W1, Q0, R0, S.step s1, h1, ex.step s1, fun d' O' h' v' H' W' s' e' r' => hq d' O' h' v' H' W' (s1.trans s') e' r'⟩

/-! ### arguments, displays -/
def waNil : WA := fun _ Om Q _ => Q [] Om
def waCons (w : WE) (r : WA) : WA := fun G Om Q R => w G Om (fun d O => r G O (fun ds O' => Q (d :: ds) O') R) R
theorem da_nil : DA X P [] waNil := ⟨pa_imp pa_nil fun σ H Q ⟨G, W, Q0, R0, S, q, ex, hq⟩ => hq [] _ q [] H W (Step.refl S.ok) rfl .nil⟩
theorem da_cons {wr : WA} (h : DE X P e w) (r : DA X P es wr) (hs : starEach (e :: es) X.env = (false, eval e X.env) :: starEach es X.env := by rfl) : DA X P (e :: es) (waCons w wr) := by
  refine ⟨pa_imp (pa_cons h.pe r.pa hs) fun σ H Q q => ?_⟩
  obtain ⟨G, W, Q0, R0, S, q, ex, hq⟩ := q
  refine ⟨G, W, _, R0, S, q, ex, fun d O h1 v H1 W1 s1 e1 r1 => ?_⟩
  subst e1
  refine ⟨G, W1, _, R0, S.step s1, h1, ex.step s1, fun ds O' h' vs H' W' s' e' r' => ?_⟩
  exact hq _ O' h' _ H' W' (s1.trans s') e' (.cons (Rep.kp (s'.kp s1.ok) _ _ r1) r')
theorem dab_nil : DAB X P [] waNil := ⟨pa_imp pa_nil fun σ H Q ⟨G, W, Q0, R0, S, q, ex, hq⟩ => hq [] _ q [] H W (Step.refl S.ok) rfl rfl⟩
theorem dab_cons {wr : WA} (h : DB X P e w) (r : DAB X P es wr) (hs : starEach (e :: es) X.env = (false, eval e X.env) :: starEach es X.env := by rfl) : DAB X P (e :: es) (waCons w wr) := by
  refine ⟨pa_imp (pa_cons h.pe r.pa hs) fun σ H Q q => ?_⟩
  obtain ⟨G, W, Q0, R0, S, q, ex, hq⟩ := q
  refine ⟨G, W, _, R0, S, q, ex, fun d O h1 v H1 W1 s1 e1 r1 => ?_⟩
  subst e1
  refine ⟨G, W1, _, R0, S.step s1, h1, ex.step s1, fun ds O' h' vs H' W' s' e' r' => ?_⟩
  exact hq _ O' h' _ H' W' (s1.trans s') e' ⟨v, vs, rfl, r1.step s' s1.ok, r'⟩
theorem sz16 {n : Nat} (h : n ≤ 16777216) : n ≤ sizeLine := Nat.le_trans h (by decide)
/-- a tuple -/
def wTup (w : WA) : WE := fun G Om Q R => w G Om (fun ds O => ds.length ≤ 16777216 ∧ Q (.tup ds) O) R
theorem de_tup {w : WA} {x1} (h : DA X P es w) : DE X P (.Tuple es x1 pos) (wTup w) := by
  refine ⟨pe_imp (pe_tup h.pa) fun σ H Q q => ?_⟩
  obtain ⟨G, W, Q0, R0, S, q, ex, hq⟩ := q
  refine ⟨G, W, _, R0, S, q, ex, fun ds O h1 vs H1 W1 s1 e1 r1 => ⟨sz16 (by rw [r1.len]; exact h1.1), fun p hp => ?_⟩⟩
  refine hq _ O h1.2 _ _ W1 (s1.trans (Step.new1 s1.ok hp)) e1 ?_
  simp only [Rep]
  exact ⟨p, vs, rfl, .inl ⟨upd_same, nF s1.ok hp⟩, Reps.kp ((Step.new1 s1.ok hp).kp s1.ok) _ _ r1⟩

/-! ### new things: frozen at once, or for an own name -/
/-- the value is a new thing that nobody else knows; it may be changed -/
def tF (P : Pm) (w : Gam → Om → (MO → Om → Prop) → RX → Prop) : TE := fun σ H Q => ∃ G W Q0 R0, Sta P G W σ H ∧ w G W.Om Q0 R0 ∧ exOk P W H σ R0 ∧
  ∀ m Om', Q0 m Om' → ∀ p H' W', Step P.T W H W' H' → W'.Om = Om' → H p = none → W'.F p → ¬ W'.pm p → W'.Om p = none → MRep P.T W'.F (fun _ => False) H' p m → Q (.ref p) H'
abbrev WF := Gam → Om → (MO → Om → Prop) → RX → Prop
structure DF (X : Cx) (P : Pm) (e : Expr) (w : WF) : Prop where
  pe : PE X e (tF P w)
def wFrz (w : WF) : WE := fun G Om Q R => w G Om (fun m O => Q m.see O) R
theorem rep_see {T : Th} {F : Addr → Prop} {H : Hp} {p : Addr} (n : ¬ F p) : ∀ {m : MO}, MRep T F (fun _ => False) H p m → Rep T F H m.see (.ref p)
  | .lst ds, ⟨vs, h, r⟩ => by simp only [MO.see, Rep]; exact ⟨p, vs, rfl, h, n, r⟩
  | .dct ks ds, ⟨vs, h, l, r⟩ => by simp only [MO.see, Rep]; exact ⟨p, vs, rfl, h, n, l, r⟩
  | .ins c ns ds, ⟨dx, vs, h, l, r⟩ => by simp only [MO.see, Rep]; exact ⟨p, dx, vs, rfl, h, n, l, r⟩
  | .abs 0, ⟨c, cs, s, h1, h2, _⟩ => (((h2 p).mpr (.inl rfl))).elim
  | .abs (_ + 1), h => h.elim
theorem DF.fz {w : WF} (h : DF X P e w) : DE X P e (wFrz w) := by
  refine ⟨pe_imp h.pe fun σ H Q q => ?_⟩
  obtain ⟨G, W, Q0, R0, S, q, ex, hq⟩ := q
  refine ⟨G, W, _, R0, S, q, ex, fun m O h1 p H1 W1 s1 e1 n1 n2 n3 n4 r => ?_⟩
  exact hq _ O h1 _ H1 (W1.del p) (s1.del S.ok n1 n3) e1 (rep_see (fun z => z.2 rfl) (noFp (fp := fun _ => False) (Kp.less fun b h => h.1) rfl r))
theorem DF.br {w : WF} (h : DF X P e w) : DB X P e (wFrz w) := h.fz.br
/-- what is laid at a new place -/
def MRo (T : Th) (F : Addr → Prop) (H : Hp) : MO → HO → Prop
  | .lst ds, .lst vs => Reps T F H ds vs
  | .dct ks ds, .dK kvs => ∃ vs, kvs = ks.zip vs ∧ ks.length = ds.length ∧ Reps T F H ds vs
  | _, _ => False
theorem MRo.at_ {T : Th} {F F' : Addr → Prop} {H : Hp} {p : Addr} {m : MO} {o : HO} (h : MRo T F H m o) (k : Kp F H F' (upd H p o)) : MRep T F' (fun _ => False) (upd H p o) p m := by
  cases m <;> cases o <;> first | exact h.elim | skip
  · exact ⟨_, upd_same, Reps.kp k _ _ h⟩
  · obtain ⟨vs, e, l, r⟩ := h
    subst e
    exact ⟨vs, upd_same, l, Reps.kp k _ _ r⟩
/-- the end of a rule that lays one new thing -/
theorem newOwn_fin {W : Wd} {H : Hp} {p : Addr} {o : HO} {m : MO} (ok : WOk P.T W H) (hp : H p = none) (r : MRo P.T W.F H m o) :
    Step P.T W H (W.add p) (upd H p o) ∧ (W.add p).F p ∧ ¬ (W.add p).pm p ∧ (W.add p).Om p = none ∧ MRep P.T (W.add p).F (fun _ => False) (upd H p o) p m := by
  have s : Step P.T W H (W.add p) (upd H p o) := Step.newOwn ok hp
  have np : ¬ W.pm p := fun z => ok.trk p (ok.sub p z) hp
  refine ⟨s, .inr rfl, np, ?_, r.at_ (s.kp ok)⟩
  cases q : W.Om p with
  | none => exact q
  | some m' => exact (np ⟨p, by rw [q]; simp, (ok.at_ p m' q).2⟩).elim
def wLst (w : WA) : WF := fun G Om Q R => w G Om (fun ds O => ds.length ≤ 16777216 ∧ Q (.lst ds) O) R
theorem df_lst {w : WA} (h : DA X P es w) : DF X P (.List es pos) (wLst w) := by
  refine ⟨pe_imp (pe_lst h.pa) fun σ H Q q => ?_⟩
  obtain ⟨G, W, Q0, R0, S, q, ex, hq⟩ := q
  refine ⟨G, W, _, R0, S, q, ex, fun ds O h1 vs H1 W1 s1 e1 r1 => ⟨sz16 (by rw [r1.len]; exact h1.1), fun p hp => ?_⟩⟩
  obtain ⟨s2, a1, a2, a3, a4⟩ := newOwn_fin (o := .lst vs) (m := .lst ds) s1.ok hp r1
  exact hq _ O h1.2 p _ (W1.add p) (s1.trans s2) e1 (s1.back hp) a1 a2 a3 a4
end
end N

set_option Elab.async false
set_option linter.all false
set_option maxRecDepth 100000
set_option maxHeartbeats 0
/-! NC: the operators over data -/
namespace N
open PySem PySem.Spec PyProof.Rows L2
section
variable {X : Cx} {T : Th}
/-- ints under a condition -/
def gI (C : Int → Int → Prop) (f : Int → Int → Int) : GD
  | .int i, .int j, Q => C i j ∧ Q (.int (f i j))
  | _, _, _ => False
def gI0 (f : Int → Int → Int) : GD
  | .int i, .int j, Q => Q (.int (f i j))
  | _, _, _ => False
def gB0 (f : Int → Int → Bool) : GD
  | .int i, .int j, Q => Q (.bl (f i j))
  | _, _, _ => False
theorem od_I {f : Value → Value → Sem Value} {C : Int → Int → Prop} {g : Int → Int → Int} (h : OpR X f (rI C fun i j => .int (g i j))) : OpD X T f (gI C g) := by
  intro pins s σ H x y v u Q I rx ry ⟨F, Pm, dx, dy, Qd, hx, hy, hF, hg, hq⟩
  cases dx <;> try exact hg.elim
  cases dy <;> try exact hg.elim
  exact h pins s σ H x y v u Q I rx ry ⟨_, _, hx, hy, hg.1, hq _ hg.2 _ H (fun _ _ z => z) (by simp [Rep])⟩
theorem od_I0 {f : Value → Value → Sem Value} {g : Int → Int → Int} (h : OpR X f (rI0 fun i j => .int (g i j))) : OpD X T f (gI0 g) := by
  intro pins s σ H x y v u Q I rx ry ⟨F, Pm, dx, dy, Qd, hx, hy, hF, hg, hq⟩
  cases dx <;> try exact hg.elim
  cases dy <;> try exact hg.elim
  exact h pins s σ H x y v u Q I rx ry ⟨_, _, hx, hy, hq _ hg _ H (fun _ _ z => z) (by simp [Rep])⟩
theorem od_B0 {f : Value → Value → Sem Value} {g : Int → Int → Bool} (h : OpR X f (rI0 fun i j => .bl (g i j))) : OpD X T f (gB0 g) := by
  intro pins s σ H x y v u Q I rx ry ⟨F, Pm, dx, dy, Qd, hx, hy, hF, hg, hq⟩
  cases dx <;> try exact hg.elim
  cases dy <;> try exact hg.elim
  exact h pins s σ H x y v u Q I rx ry ⟨_, _, hx, hy, hq _ hg _ H (fun _ _ z => z) (by simp [Rep])⟩
abbrev gSub : GD := gI0 fun i j => i - j
abbrev gAnd : GD := gI0 Builtin.bitAnd
abbrev gOr : GD := gI0 Builtin.bitOr
abbrev gXor : GD := gI0 Builtin.bitXor
abbrev gMod : GD := gI (fun _ j => 0 < j) fun i j => i % j
abbrev gShr : GD := gI (fun _ j => 0 ≤ j) fun i j => i / 2 ^ j.toNat
abbrev gShl : GD := gI CShl fun i j => i * 2 ^ j.toNat
abbrev gPow : GD := gI CPow fun i j => i ^ j.toNat
/-- a divisor that the model takes -/
def CDv (i j : Int) : Prop := CDiv i j ∨ CDivW i j
abbrev gDiv : GD := gI CDv fun i j => i / j
theorem od_sub : OpD X T (binaryOp .Sub) gSub := od_I0 op_sub
theorem od_and : OpD X T (binaryOp .BitAnd) gAnd := od_I0 op_and
theorem od_or : OpD X T (binaryOp .BitOr) gOr := od_I0 op_or
theorem od_xor : OpD X T (binaryOp .BitXor) gXor := od_I0 op_xor
theorem od_mod : OpD X T (binaryOp .Mod) gMod := od_I op_mod
theorem od_shr : OpD X T (binaryOp .RShift) gShr := od_I op_shr
theorem od_shl : OpD X T (binaryOp .LShift) gShl := od_I op_shlW
theorem od_pow : OpD X T (binaryOp .Pow) gPow := od_I op_pow
theorem op_dv : OpR X (binaryOp .FloorDiv) (rI CDv fun i j => .int (i / j)) := by
  intro pins s σ H x y v u Q I rx ry ⟨i, j, e1, e2, h, q⟩
  rcases h with h | h
  · exact op_fdiv pins s σ H x y v u Q I rx ry ⟨i, j, e1, e2, h, q⟩
  · exact op_fdivW pins s σ H x y v u Q I rx ry ⟨i, j, e1, e2, h, q⟩
theorem od_div : OpD X T (binaryOp .FloorDiv) gDiv := od_I op_dv
abbrev gLt : GD := gB0 fun i j => decide (i < j)
abbrev gLe : GD := gB0 fun i j => decide (i ≤ j)
abbrev gGt : GD := gB0 fun i j => decide (j < i)
abbrev gGe : GD := gB0 fun i j => decide (j ≤ i)
theorem od_lt : OpD X T (compareOp .Lt) gLt := od_B0 op_lt
theorem od_le : OpD X T (compareOp .LtE) gLe := od_B0 op_le
theorem od_gt : OpD X T (compareOp .Gt) gGt := od_B0 op_gt
theorem od_ge : OpD X T (compareOp .GtE) gGe := od_B0 op_ge
/-- in place, at a name -/
theorem id_sub : OpD X T (inplaceOp .Sub) gSub := od_I0 iop_sub
theorem id_and : OpD X T (inplaceOp .BitAnd) gAnd := od_I0 iop_and
theorem id_or : OpD X T (inplaceOp .BitOr) gOr := od_I0 iop_or
theorem id_xor : OpD X T (inplaceOp .BitXor) gXor := od_I0 iop_xor
theorem id_mod : OpD X T (inplaceOp .Mod) gMod := od_I iop_mod
theorem id_shr : OpD X T (inplaceOp .RShift) gShr := od_I iop_shr
theorem id_shl : OpD X T (inplaceOp .LShift) gShl := od_I iop_shlW
theorem id_addI : OpD X T (inplaceOp .Add) (gI0 fun i j => i + j) := od_I0 iop_add

/-! ### + -/
def gAdd : GD
  | .int i, .int j, Q => Q (.int (i + j))
  | .tup a, .tup b, Q => a.length + b.length ≤ 16777216 ∧ Q (.tup (a ++ b))
  | .lst a, .lst b, Q => a.length + b.length ≤ 16777216 ∧ Q (.lst (a ++ b))
  | .str a, .str b, Q => a.length + b.length ≤ 16777216 ∧ Q (.str (a ++ b))
  | _, _, _ => False
theorem upN {F : Addr → Prop} {H : Hp} (hF : ∀ b, F b → H b ≠ none) {p : Addr} (hp : H p = none) {o : HO} : Kp F H F (upd H p o) ∧ ¬ F p :=
  ⟨⟨fun b u e _ => ext_upd hp b u e, fun _ h => .inl h⟩, fun z => hF p z hp⟩
theorem tupAt {K : PySem.W.Frag} {F : Addr → Prop} {H : Hp} {a : Addr} {vs : List V} (h : (H a = some (.tup vs) ∧ ¬ F a) ∨ KT K a vs) : SqT K H a vs := h.elim (fun h => .of h.1) KT.to
theorem od_add (hK : T.K = X.K) : OpD X T (binaryOp .Add) gAdd := by
  intro pins s σ H x y v u Q I rx ry ⟨F, Pm, dx, dy, Qd, hx, hy, hF, hg, hq⟩
  cases dx <;> try exact hg.elim
  · cases dy <;> try exact hg.elim
    exact op_add pins s σ H x y v u Q I rx ry ⟨_, _, hx, hy, hq _ hg _ H (fun _ _ z => z) (by simp [Rep])⟩
  · cases dy <;> try exact hg.elim
    exact op_add_str pins s σ H x y v u Q I rx ry ⟨_, _, hx, hy, sz16 hg.1, hq _ hg.2 _ H (fun _ _ z => z) (by simp [Rep])⟩
  · rename_i xs
    cases dy <;> try exact hg.elim
    rename_i ys
    simp only [RepT, Rep] at hx hy
    obtain ⟨a, vs, rfl, ha, ra⟩ := hx
    obtain ⟨b, ws, rfl, hb, rb⟩ := hy
    have h1 : SqT X.K H a vs := hK ▸ tupAt ha
    have h2 : SqT X.K H b ws := hK ▸ tupAt hb
    have l1 := ra.len
    have l2 := rb.len
    refine op_catA pins s σ H _ _ v u Q I rx ry ⟨a, b, vs, ws, rfl, rfl, h1, h2, sz16 (by rw [l1, l2]; exact hg.1), fun e => ?_, fun _ e => ?_, fun _ _ p hp => ?_⟩
    · refine hq _ hg.2 _ H (fun _ _ z => z) ?_
      have e2 : xs = [] := List.eq_nil_of_length_eq_zero (by rw [← l1, e]; rfl)
      subst e2
      simp only [Rep, List.nil_append]
      exact ⟨b, ws, rfl, hb, rb⟩
    · refine hq _ hg.2 _ H (fun _ _ z => z) ?_
      have e2 : ys = [] := List.eq_nil_of_length_eq_zero (by rw [← l2, e]; rfl)
      subst e2
      simp only [Rep, List.append_nil]
      exact ⟨a, vs, rfl, ha, ra⟩
    · obtain ⟨k, n⟩ := upN hF hp (o := .tup (vs ++ ws))
      refine hq _ hg.2 _ _ (ext_upd hp) ?_
      simp only [Rep]
      exact ⟨p, _, rfl, .inl ⟨upd_same, n⟩, Reps.kp k _ _ (ra.app rb)⟩
  · cases dy <;> try exact hg.elim
    obtain ⟨a, vs, rfl, ha, _, ra⟩ := hx
    obtain ⟨b, ws, rfl, hb, _, rb⟩ := hy
    refine op_cat pins s σ H _ _ v u Q I rx ry ⟨a, b, vs, ws, rfl, rfl, ha, hb, sz16 (by rw [ra.len, rb.len]; exact hg.1), fun p hp => ?_⟩
    obtain ⟨k, n⟩ := upN hF hp (o := .lst (vs ++ ws))
    refine hq _ hg.2 _ _ (ext_upd hp) ?_
    simp only [Rep]
    exact ⟨p, _, rfl, upd_same, n, Reps.kp k _ _ (ra.app rb)⟩

/-! ### * -/
theorem tuple_mul_one (l : Addr) (items : Array Value) (n : Nat) (dd : Option Addr) (sl : Array (Option Value)) (x : Int) (u : Tok) (c0 : (decide (x < -(2 ^ 63)) || decide (x ≥ 2 ^ 63)) = false) (c1 : (items.isEmpty || x == 1) = true) :
    Meets (Builtin.«tuple.__mul__» ⟨[.ref l, .int x u], []⟩) (fun _ R s => s.heap.get? l = some { cls := .type "tuple", dict := dd, data := .seq items n, slots := sl } ∧ R (.ok (.ret (Value.ref l))) s) :=
  .of_wp fun prog w A R s h => by
    obtain ⟨hp, g, d, tk, os⟩ := s
    obtain ⟨hl, h⟩ := h
    have f1 := AutoSeq1.idx_int
    wp_walk using wpAny_loadPart' hl
    repeat (first
      | (refine wpAny_ite_false (decide_eq_false (by rw [c0]; exact Bool.false_ne_true)) ?_; wp_walk using wpAny_loadPart' hl)
      | (refine wpAny_ite_true (decide_eq_true c1) ?_; wp_walk using wpAny_loadPart' hl))
    exact ⟨_, rfl, h⟩
theorem tuple_mul_nil (l : Addr) (items : Array Value) (n : Nat) (dd : Option Addr) (sl : Array (Option Value)) (x : Int) (u : Tok) (c0 : (decide (x < -(2 ^ 63)) || decide (x ≥ 2 ^ 63)) = false) (c1 : (items.isEmpty || x == 1) = false) (c2 : (decide (x ≤ 0) || items.isEmpty) = true) :
    Meets (Builtin.«tuple.__mul__» ⟨[.ref l, .int x u], []⟩) (fun _ R s => s.heap.get? l = some { cls := .type "tuple", dict := dd, data := .seq items n, slots := sl } ∧
      R (.ok (.ret (Value.ref s.heap.objs.size))) { s with heap := s.heap.push { cls := Value.type "tuple", data := Data.seq #[] }, toks := s.toks }) :=
  .of_wp fun prog w A R s h => by
    obtain ⟨hp, g, d, tk, os⟩ := s
    obtain ⟨hl, h⟩ := h
    have f1 := AutoSeq1.idx_int
    wp_walk using wpAny_loadPart' hl
    repeat (first
      | (refine wpAny_ite_false (decide_eq_false (by rw [c0]; exact Bool.false_ne_true)) ?_; wp_walk using wpAny_loadPart' hl)
      | (refine wpAny_ite_false (decide_eq_false (by rw [c1]; exact Bool.false_ne_true)) ?_; wp_walk using wpAny_loadPart' hl)
      | (refine wpAny_ite_true (decide_eq_true c2) ?_; wp_walk using wpAny_loadPart' hl))
    exact ⟨_, rfl, h⟩
end
end N

set_option Elab.async false
set_option linter.all false
set_option maxRecDepth 100000
set_option maxHeartbeats 0
/-! NC2: *, ==, is, in, items, slices over data -/
namespace N
open PySem PySem.Spec PyProof.Rows L2
section
variable {X : Cx} {T : Th}
/-- tuple * int, any -/
def rRepN (K : PySem.W.Frag) : R2 := fun x y H Q => ∃ l k xs, x = .ref l ∧ y = .int k ∧ SqT K H l xs ∧ -(2 ^ 63) ≤ k ∧ k < 2 ^ 40 ∧ xs.length * k.toNat ≤ 16777216 ∧
  (xs = [] ∨ k = 1 → Q (.ref l) H) ∧ (xs ≠ [] → k ≠ 1 → ∀ p, H p = none → Q (.ref p) (upd H p (.tup (List.replicate k.toNat xs).flatten)))
theorem op_repN : OpR X (binaryOp .Mult) (rRepN X.K) := by
  intro pins s σ H x y v u Q I rx ry h
  obtain ⟨l, k, xs, rfl, rfl, hT, h1, h2, hz, q1, q2⟩ := h
  cases rx
  obtain ⟨t, rfl⟩ := ry
  obtain ⟨its, r, ⟨⟨cls, dd, data, sl⟩, ho, hc, n, hd⟩, hs⟩ := I.tuple hT
  simp only at hc hd
  subst hc hd
  have hle : its.length = xs.length := r.length.symm
  have hsz0 : its.toArray.size = xs.length := by rw [List.size_toArray, hle]
  have c0 : (decide (k < -(2 ^ 63)) || decide (k ≥ 2 ^ 63)) = false := by
    rw [decide_eq_false (by omega), decide_eq_false (by omega)] <;> rfl
  have go : ∀ {Q' : Value → Shared → Prop}, wpAny (model X.prog X.w) X.A (call (.builtin "tuple.__mul__") [.ref l, .int k t]) Q' X.xe s → wpAny (model X.prog X.w) X.A (binaryOp .Mult (.ref l) (.int k t)) Q' X.xe s := fun hc =>
    wpAny_binaryOp_repeat_ref (T := "tuple") (U := "int") (by decide) ⟨_, ho, rfl⟩ (fun s' => typeIs_int s' k t) noFill_tuple_mul F.fills_int_mul F.slot_int_rmul repeat_tuple F.slot_int_index.lookup
      (call_meets F.slot_int_rmul (typeIs_int s k t) F.entry_int_rmul (F.args_int_rmul_2 _ _) (int_rmul_tuple k t l its.toArray n dd sl) ⟨ho, rfl, ⟨_, ho, rfl⟩, hc⟩)
  refine go ?_
  by_cases e1 : xs = [] ∨ k = 1
  · have c1 : (its.toArray.isEmpty || k == 1) = true := by
      rcases e1 with e | e
      · have : its = [] := List.eq_nil_of_length_eq_zero (by rw [hle, e]; rfl)
        simp [this]
      · simp [e]
    exact call_meets F.slot_tuple_mul ⟨_, ho, rfl⟩ F.entry_tuple_mul (F.args_tuple_mul_2 _ _) (tuple_mul_one l its.toArray n dd sl k t c0 c1) ⟨ho, .ref l, H, I, rfl, q1 e1⟩
  · have hne : xs ≠ [] := fun e => e1 (.inl e)
    have hk : k ≠ 1 := fun e => e1 (.inr e)
    have hi : its.toArray.isEmpty = false := by
      cases its with
      | nil => exact absurd (List.eq_nil_of_length_eq_zero (by rw [← hle]; rfl)) hne
      | cons a b => rfl
    have c1 : (its.toArray.isEmpty || k == 1) = false := by
      rw [hi, Bool.false_or]
      exact beq_eq_false_iff_ne.mpr hk
    by_cases h0 : k ≤ 0
    · have c2 : (decide (k ≤ 0) || its.toArray.isEmpty) = true := by simp [h0]
      have e0 : k.toNat = 0 := by omega
      refine call_meets F.slot_tuple_mul ⟨_, ho, rfl⟩ F.entry_tuple_mul (F.args_tuple_mul_2 _ _) (tuple_mul_nil l its.toArray n dd sl k t c0 c1 c2) ⟨ho, ?_⟩
      refine ⟨.ref s.heap.objs.size, _, I.laid (t' := s.toks) (o := .tup []) (fun b ob q => Heap.get?_push_of_some _ q) (Nat.le_refl _) ?_, rfl, ?_⟩
      · exact ⟨Nat.zero_le _, [], .nil, IsTup.new _ _⟩
      · have := q2 hne hk _ (I.hok.fresh (Nat.le_refl _))
        rw [e0] at this
        exact this
    · have hm : ((its.toArray.size : Nat) : Int) * k ≤ 16777216 := by
        rw [hsz0]
        have e : (k.toNat : Int) = k := by omega
        rw [← e]
        have := Int.ofNat_le.mpr hz
        simpa using this
      have flen : (List.replicate k.toNat its).flatten.length ≤ sizeLine := by
        rw [PyProof.Rows.lm_len_rep_flat, hle, sizeLine_eq, Nat.mul_comm]
        exact hz
      have c2 : (decide (k ≤ 0) || its.toArray.isEmpty) = false := by
        rw [hi, Bool.or_false]
        exact decide_eq_false (by omega)
      have c4 : Builtin.Tuple.tupleTooMany (((its.toArray.size : Nat) : Int) * k) = false := by
        unfold Builtin.Tuple.tupleTooMany
        rw [sizeLine_eq]
        exact decide_eq_false (by omega)
      refine call_meets F.slot_tuple_mul ⟨_, ho, rfl⟩ F.entry_tuple_mul (F.args_tuple_mul_2 _ _) (tuple_mulW l its.toArray n dd sl k t c0 c1 c2 (by omega) c4 (by rw [size_rep, List.size_toArray]; exact flen)) ⟨ho, ?_⟩
      rw [size_rep]
      refine ⟨.ref s.heap.objs.size, _, I.laid (t' := s.toks) (o := .tup (List.replicate k.toNat xs).flatten) (fun b ob q => Heap.get?_push_of_some _ q) (Nat.le_refl _) ?_, rfl, q2 hne hk _ (I.hok.fresh (Nat.le_refl _))⟩
      exact ⟨by rw [PyProof.Rows.lm_len_rep_flat, sizeLine_eq, Nat.mul_comm]; exact hz, _, r.rep k.toNat, IsTup.new _ _⟩
def gMul : GD
  | .int i, .int j, Q => IntMulOk i j ∧ Q (.int (i * j))
  | .tup xs, .int k, Q => (-(2 ^ 63) ≤ k ∧ k < 2 ^ 40 ∧ xs.length * k.toNat ≤ 16777216) ∧ Q (.tup (List.replicate k.toNat xs).flatten)
  | .lst xs, .int k, Q => (-(2 ^ 63) ≤ k ∧ k < 2 ^ 40 ∧ xs.length * k.toNat ≤ 16777216) ∧ Q (.lst (List.replicate k.toNat xs).flatten)
  | _, _, _ => False
theorem op_mulA : OpR X (binaryOp .Mult) (rI IntMulOk fun i j => .int (i * j)) := opI fun _ _ _ _ _ _ _ hc q => mul_int q hc
theorem od_mul (hK : T.K = X.K) : OpD X T (binaryOp .Mult) gMul := by
  intro pins s σ H x y v u Q I rx ry ⟨F, Pm, dx, dy, Qd, hx, hy, hF, hg, hq⟩
  cases dx <;> try exact hg.elim
  · cases dy <;> try exact hg.elim
    exact op_mulA pins s σ H x y v u Q I rx ry ⟨_, _, hx, hy, hg.1, hq _ hg.2 _ H (fun _ _ z => z) (by simp [Rep])⟩
  · rename_i xs
    cases dy <;> try exact hg.elim
    rename_i k
    simp only [RepT, Rep] at hx hy
    obtain ⟨a, vs, rfl, ha, ra⟩ := hx
    have l1 := ra.len
    obtain ⟨⟨h1, h2, h3⟩, hg⟩ := hg
    refine op_repN pins s σ H _ _ v u Q I rx ry ⟨a, k, vs, rfl, hy, hK ▸ tupAt ha, h1, h2, by rw [l1]; exact h3, fun e => ?_, fun _ _ p hp => ?_⟩
    · refine hq _ hg _ H (fun _ _ z => z) ?_
      simp only [Rep]
      refine ⟨a, vs, rfl, ha, ?_⟩
      rcases e with e | e
      · have : xs = [] := List.eq_nil_of_length_eq_zero (by rw [← l1, e]; rfl)
        subst this
        rw [show (List.replicate k.toNat ([] : List D)).flatten = [] by simp]
        exact ra
      · subst e
        simpa using ra
    · obtain ⟨kk, n⟩ := upN hF hp (o := .tup (List.replicate k.toNat vs).flatten)
      refine hq _ hg _ _ (ext_upd hp) ?_
      simp only [Rep]
      exact ⟨p, _, rfl, .inl ⟨upd_same, n⟩, Reps.kp kk _ _ (ra.rep _)⟩
  · rename_i xs
    cases dy <;> try exact hg.elim
    rename_i k
    obtain ⟨a, vs, rfl, ha, _, ra⟩ := hx
    have l1 := ra.len
    obtain ⟨⟨h1, h2, h3⟩, hg⟩ := hg
    refine op_rep pins s σ H _ _ v u Q I rx ry ⟨a, k, vs, rfl, hy, ha, h1, by omega, sz16 (by rw [l1]; exact h3), fun p hp => ?_⟩
    obtain ⟨kk, n⟩ := upN hF hp (o := .lst (List.replicate k.toNat vs).flatten)
    refine hq _ hg _ _ (ext_upd hp) ?_
    simp only [Rep]
    exact ⟨p, _, rfl, upd_same, n, Reps.kp kk _ _ (ra.rep _)⟩
theorem id_mulI : OpD X T (inplaceOp .Mult) (gI CMul fun i j => i * j) := od_I iop_mul

/-! ### == over data -/
mutual
def toPy : D → PyData
  | .non => .none
  | .bl b => .bool b
  | .int i => .int i
  | .str x => .str x
  | .tup xs => .tuple (toPys xs)
  | .lst xs => .list (toPys xs)
  | _ => .dict []
def toPys : List D → List PyData
  | [] => []
  | d :: ds => toPy d :: toPys ds
end
/-- == is told of it: no objects, no dicts, not too deep -/
def shp (d : D) : Bool := SeqAt.shaped (toPy d)
def deq (x y : D) : Bool := PyData.eqv (toPy x) (toPy y)
mutual
theorem rep_dp {F Pm : Addr → Prop} {H : Hp} : ∀ (d : D) (v : V), Rep T F H d v → (toPy d).canLay0 = true → Dp T.K H v (toPy d)
  | .non, v, h, _ => by simp only [Rep] at h; subst h; exact .non
  | .bl b, v, h, _ => by simp only [Rep] at h; subst h; exact .bl b
  | .int i, v, h, _ => by simp only [Rep] at h; subst h; exact .int i
  | .str x, v, h, _ => by simp only [Rep] at h; subst h; exact .str x
  | .tup xs, v, h, c => by
    simp only [Rep] at h
    obtain ⟨a, vs, e, h, r⟩ := h
    subst e
    have c : (PyData.tuple (toPys xs)).canLay0 = true := by simpa only [toPy] using c
    have c : PyData.canLayAll0 (toPys xs) = true := by simpa only [PyData.canLay0] using c
    simp only [toPy]
    exact .tup (tupAt h) (reps_dp (Pm := Pm) xs vs r c)
  | .lst xs, v, h, c => by
    simp only [Rep] at h
    obtain ⟨a, vs, e, h, _, r⟩ := h
    subst e
    have c : (PyData.list (toPys xs)).canLay0 = true := by simpa only [toPy] using c
    have c : PyData.canLayAll0 (toPys xs) = true := by simpa only [PyData.canLay0] using c
    simp only [toPy]
    exact .lst (.of h) (reps_dp (Pm := Pm) xs vs r c)
  | .ty n, v, h, c => by simp [toPy, PyData.canLay0] at c
  | .ref a, v, h, c => by simp [toPy, PyData.canLay0] at c
  | .dct _ _, v, h, c => by simp [toPy, PyData.canLay0] at c
  | .ins _ _ _, v, h, c => by simp [toPy, PyData.canLay0] at c
  | .scr _, v, h, c => by simp [toPy, PyData.canLay0] at c
theorem reps_dp {F Pm : Addr → Prop} {H : Hp} : ∀ (ds : List D) (vs : List V), Reps T F H ds vs → PyData.canLayAll0 (toPys ds) = true → DpAll T.K H vs (toPys ds)
  | [], vs, h, _ => by simp only [Reps] at h; subst h; simp only [toPys]; exact .nil
  | d :: ds, vs, h, c => by
    simp only [Reps] at h
    obtain ⟨v, r, e, h1, h2⟩ := h
    subst e
    simp only [toPys, PyData.canLayAll0, Bool.and_eq_true] at c ⊢
    exact .cons (rep_dp (Pm := Pm) d v h1 c.1) (reps_dp (Pm := Pm) ds r h2 c.2)
end
theorem shp_lay {d : D} (h : shp d = true) : (toPy d).canLay0 = true := (Bool.and_eq_true_iff.mp h).1
theorem repT_dp {F Pm : Addr → Prop} {H : Hp} {d : D} {v : V} (h : RepT T F Pm H d v) (c : shp d = true) : Dp T.K H v (toPy d) := by
  have c' := shp_lay c
  cases d with
  | lst xs =>
    obtain ⟨a, vs, e, h, _, r⟩ := h
    subst e
    have c2 : (PyData.list (toPys xs)).canLay0 = true := by simpa only [toPy] using c'
    have c2 : PyData.canLayAll0 (toPys xs) = true := by simpa only [PyData.canLay0] using c2
    simp only [toPy]
    exact .lst (.of h) (reps_dp (Pm := Pm) xs vs r c2)
  | tup xs => exact rep_dp (Pm := Pm) _ v h c'
  | scr xs => exact rep_dp (Pm := Pm) _ v h c'
  | non => exact rep_dp (F := F) (Pm := Pm) .non v (by simp only [Rep]; exact h) c'
  | bl b => exact rep_dp (F := F) (Pm := Pm) (.bl b) v (by simp only [Rep]; exact h) c'
  | int i => exact rep_dp (F := F) (Pm := Pm) (.int i) v (by simp only [Rep]; exact h) c'
  | str x => exact rep_dp (F := F) (Pm := Pm) (.str x) v (by simp only [Rep]; exact h) c'
  | ty n => simp [toPy, PyData.canLay0] at c'
  | ref a => simp [toPy, PyData.canLay0] at c'
  | dct _ _ => simp [toPy, PyData.canLay0] at c'
  | ins _ _ _ => simp [toPy, PyData.canLay0] at c'
def gEq : GD := fun x y Q => shp x = true ∧ shp y = true ∧ Q (.bl (deq x y))
def gNe : GD := fun x y Q => shp x = true ∧ shp y = true ∧ Q (.bl (!deq x y))
theorem od_eq (hK : T.K = X.K) (hu : X.A.units + 64 < cLine) : OpD X T (compareOp .Eq) gEq := by
  intro pins s σ H x y v u Q I rx ry ⟨F, Pm, dx, dy, Qd, hx, hy, hF, hg, hq⟩
  exact op_eqD hu pins s σ H x y v u Q I rx ry ⟨_, _, hK ▸ repT_dp hx hg.1, hK ▸ repT_dp hy hg.2.1, hg.1, hg.2.1, hq _ hg.2.2 _ H (fun _ _ z => z) (by simp [Rep, deq])⟩
theorem od_ne (hK : T.K = X.K) (hu : X.A.units + 64 < cLine) : OpD X T (compareOp .NotEq) gNe := by
  intro pins s σ H x y v u Q I rx ry ⟨F, Pm, dx, dy, Qd, hx, hy, hF, hg, hq⟩
  exact op_neD hu pins s σ H x y v u Q I rx ry ⟨_, _, hK ▸ repT_dp hx hg.1, hK ▸ repT_dp hy hg.2.1, hg.1, hg.2.1, hq _ hg.2.2 _ H (fun _ _ z => z) (by simp [Rep, deq])⟩

/-! ### is -/
def isNon : D → Bool
  | .non => true
  | _ => false
def gIs : GD
  | x, .non, Q => Q (.bl (isNon x))
  | .bl a, .bl b, Q => Q (.bl (decide (a = b)))
  | _, _, _ => False
def gIsNot : GD
  | x, .non, Q => Q (.bl (!isNon x))
  | .bl a, .bl b, Q => Q (.bl (!decide (a = b)))
  | _, _, _ => False
theorem isNon_rep {F Pm : Addr → Prop} {H : Hp} {d : D} {v : V} (h : RepT T F Pm H d v) : decide (v = .non) = isNon d := by
  cases d <;> simp only [RepT, Rep, isNon] at h ⊢
  case non => simp [h]
  case bl => simp [h]
  case int => simp [h]
  case str => simp [h]
  case ty => simp [h]
  case ref => simp [h]
  case tup => obtain ⟨a, vs, rfl, _⟩ := h; simp
  case lst => obtain ⟨a, vs, rfl, _⟩ := h; simp
  case dct => obtain ⟨a, vs, rfl, _⟩ := h; simp
  case ins => obtain ⟨a, dx, vs, rfl, _⟩ := h; simp
  case scr => obtain ⟨a, rfl, _⟩ := h; simp
theorem od_is : OpD X T (compareOp .Is) gIs := by
  intro pins s σ H x y v u Q I rx ry ⟨F, Pm, dx, dy, Qd, hx, hy, hF, hg, hq⟩
  by_cases e : dy = .non
  · subst e
    have hg : Qd (.bl (isNon dx)) := by simpa only [gIs] using hg
    exact op_isN pins s σ H x y v u Q I rx ry ⟨hy, hq _ hg _ H (fun _ _ z => z) (by simp [Rep, isNon_rep hx])⟩
  · cases dx <;> cases dy <;> first | exact (e rfl).elim | (simp only [gIs] at hg) | skip
    exact op_is_bl pins s σ H x y v u Q I rx ry ⟨_, _, hx, hy, hq _ hg _ H (fun _ _ z => z) (by simp [Rep])⟩
theorem od_isnot : OpD X T (compareOp .IsNot) gIsNot := by
  intro pins s σ H x y v u Q I rx ry ⟨F, Pm, dx, dy, Qd, hx, hy, hF, hg, hq⟩
  by_cases e : dy = .non
  · subst e
    have hg : Qd (.bl (!isNon dx)) := by simpa only [gIsNot] using hg
    exact op_notN pins s σ H x y v u Q I rx ry ⟨hy, hq _ hg _ H (fun _ _ z => z) (by simp [Rep, isNon_rep hx])⟩
  · cases dx <;> cases dy <;> first | exact (e rfl).elim | (simp only [gIsNot] at hg) | skip
    exact op_isnot_bl pins s σ H x y v u Q I rx ry ⟨_, _, hx, hy, hq _ hg _ H (fun _ _ z => z) (by simp [Rep])⟩
end
end N

set_option Elab.async false
set_option linter.all false
set_option maxRecDepth 100000
set_option maxHeartbeats 0
/-! NC3: in, items, slices, calls of built-ins over data -/
namespace N
open PySem PySem.Spec PyProof.Rows L2
section
variable {X : Cx} {T : Th}
/-! ### in -/
def flD : D → Bool
  | .non => true
  | .bl _ => true
  | .int _ => true
  | .str _ => true
  | _ => false
def vOf : D → V
  | .non => .non
  | .bl b => .bl b
  | .int i => .int i
  | .str x => .str x
  | _ => .non
theorem flD_rep {F : Addr → Prop} {H : Hp} {d : D} {v : V} (h : Rep T F H d v) (f : flD d = true) : v = vOf d ∧ flatV v = true := by
  cases d <;> simp only [Rep, flD, vOf] at h f ⊢ <;> first | (subst h; exact ⟨rfl, rfl⟩) | (cases f)
theorem flD_repT {F Pm : Addr → Prop} {H : Hp} {d : D} {v : V} (h : RepT T F Pm H d v) (f : flD d = true) : v = vOf d ∧ flatV v = true := by
  cases d <;> simp only [RepT, Rep, flD, vOf] at h f ⊢ <;> first | (subst h; exact ⟨rfl, rfl⟩) | (cases f)
theorem flD_reps {F : Addr → Prop} {H : Hp} : ∀ {ds : List D} {vs : List V}, Reps T F H ds vs → ds.all flD = true → vs = ds.map vOf ∧ vs.all flatV = true
  | [], vs, h, _ => by simp only [Reps] at h; subst h; exact ⟨rfl, rfl⟩
  | d :: ds, vs, h, f => by
    simp only [Reps] at h
    obtain ⟨v, r, e, h1, h2⟩ := h
    subst e
    simp only [List.all_cons, Bool.and_eq_true] at f ⊢
    obtain ⟨e1, f1⟩ := flD_rep h1 f.1
    obtain ⟨e2, f2⟩ := flD_reps h2 f.2
    rw [List.map_cons, ← e1, ← e2]
    exact ⟨rfl, f1, f2⟩
/-- is x among ys -/
def inD (x : D) (ys : List D) : Bool := inV (vOf x) (ys.map vOf)
def keyD : D → Option Key
  | .int i => some (.inl i)
  | .str x => some (.inr x)
  | _ => none
theorem keyD_rep {F Pm : Addr → Prop} {H : Hp} {d : D} {v : V} {k : Key} (h : RepT T F Pm H d v) (e : keyD d = some k) : v = kV k := by
  cases d <;> simp only [keyD, RepT] at e h <;> first | (cases e; rw [h]; rfl) | (cases e)
/-- the value at a key -/
def getD : List Key → List D → Key → Option D
  | k :: ks, d :: ds, x => if k = x then some d else getD ks ds x
  | _, _, _ => none
theorem getD_rep {F : Addr → Prop} {H : Hp} {x : Key} : ∀ {ks : List Key} {ds : List D} {vs : List V}, ks.length = ds.length → Reps T F H ds vs →
    (∀ d, getD ks ds x = some d → ∃ v, valV (ks.zip vs) x = some v ∧ Rep T F H d v) ∧ (getD ks ds x = none → valV (ks.zip vs) x = none)
  | [], ds, vs, l, r => ⟨fun d e => by simp [getD] at e, fun _ => rfl⟩
  | k :: ks, [], vs, l, r => by simp at l
  | k :: ks, d :: ds, vs, l, r => by
    simp only [Reps] at r
    obtain ⟨v, w, e, h1, h2⟩ := r
    subst e
    have ih := getD_rep (x := x) (by simpa using l) h2 (ks := ks)
    rw [List.zip_cons_cons]
    by_cases q : k = x
    · rw [valV_pos q]
      simp only [getD, if_pos q]
      exact ⟨fun d' e => ⟨v, rfl, by cases e; exact h1⟩, fun e => by cases e⟩
    · rw [valV_neg q]
      simp only [getD, if_neg q]
      exact ih
def gIn (neg : Bool) : GD
  | x, .tup ys, Q => flD x = true ∧ ys.all flD = true ∧ Q (.bl (if neg then !inD x ys else inD x ys))
  | x, .lst ys, Q => flD x = true ∧ ys.all flD = true ∧ Q (.bl (if neg then !inD x ys else inD x ys))
  | x, .dct ks ds, Q => match keyD x with
    | some k => Q (.bl (if neg then !(getD ks ds k).isSome else (getD ks ds k).isSome))
    | none => False
  | _, _, _ => False
theorem repT_seq (hK : T.K = X.K) {F Pm : Addr → Prop} {H : Hp} {v : V} : ∀ {d : D} {ys : List D}, d = .tup ys ∨ d = .lst ys → RepT T F Pm H d v → ∃ p vs, v = .ref p ∧ (SqL X.K H p vs ∨ SqT X.K H p vs) ∧ Reps T F H ys vs
  | _, ys, .inl rfl, h => by
    simp only [RepT, Rep] at h
    obtain ⟨a, vs, e, h, r⟩ := h
    exact ⟨a, vs, e, .inr (hK ▸ tupAt h), r⟩
  | _, ys, .inr rfl, h => by
    obtain ⟨a, vs, e, h, _, r⟩ := h
    exact ⟨a, vs, e, .inl (.of h), r⟩
theorem od_inX (hK : T.K = X.K) (hu : X.A.units + 1 < cLine) (neg : Bool) {op : CmpOp} (hs : OpR X (compareOp op) (rIn X.K neg))
    (hd : OpR X (compareOp op) (fun y x H Q => ∃ a o, x = .ref a ∧ DGet H a y o ∧ Q (.bl (if neg then !o.isSome else o.isSome)) H)) : OpD X T (compareOp op) (gIn neg) := by
  intro pins s σ H x y v u Q I rx ry ⟨F, Pm, dx, dy, Qd, hx, hy, hF, hg, hq⟩
  have go : ∀ ys, dy = .tup ys ∨ dy = .lst ys → (flD dx = true ∧ ys.all flD = true ∧ Qd (.bl (if neg then !inD dx ys else inD dx ys))) → wpAny (model X.prog X.w) X.A (compareOp op v u) (EP X pins σ Q) X.xe s := fun ys e hg => by
    obtain ⟨p, vs, rfl, h, r⟩ := repT_seq hK e hy
    obtain ⟨e1, f1⟩ := flD_repT hx hg.1
    obtain ⟨e2, f2⟩ := flD_reps r hg.2.1
    refine hs pins s σ H _ _ v u Q I rx ry ⟨p, vs, rfl, h, f1, f2, hq _ hg.2.2 _ H (fun _ _ z => z) ?_⟩
    simp only [Rep, inD, e1, e2]
  cases dy <;> try exact hg.elim
  · exact go _ (.inl rfl) hg
  · exact go _ (.inr rfl) hg
  · rename_i ks ds
    simp only [gIn] at hg
    split at hg
    · rename_i k ek
      obtain ⟨a, vs, rfl, h, _, l, r⟩ := hy
      have ex := keyD_rep hx ek
      subst ex
      refine hd pins s σ H _ _ v u Q I rx ry ⟨a, _, rfl, DGet.k h, hq _ hg _ H (fun _ _ z => z) ?_⟩
      obtain ⟨g1, g2⟩ := getD_rep (x := k) l r
      simp only [Rep]
      cases q : getD ks ds k with
      | none => rw [g2 q]; rfl
      | some d => obtain ⟨z, e, _⟩ := g1 d q; rw [e]; rfl
    · exact hg.elim
theorem or_din (hu : X.A.units + 1 < cLine) : OpR X (compareOp .In) (fun y x H Q => ∃ a o, x = .ref a ∧ DGet H a y o ∧ Q (.bl (if false then !o.isSome else o.isSome)) H) := by
  intro pins s σ H y x iv u Q I ry rx ⟨a, ov, ex, g, q2⟩
  subst ex
  obtain rfl : u = Value.ref a := rx
  exact d_in hu I g ry fun s3 I3 => ⟨.bl ov.isSome, H, I3, rfl, q2⟩
theorem or_dnotin (hu : X.A.units + 1 < cLine) : OpR X (compareOp .NotIn) (fun y x H Q => ∃ a o, x = .ref a ∧ DGet H a y o ∧ Q (.bl (if true then !o.isSome else o.isSome)) H) := by
  intro pins s σ H y x iv u Q I ry rx ⟨a, ov, ex, g, q2⟩
  subst ex
  obtain rfl : u = Value.ref a := rx
  exact d_notIn hu I g ry fun s3 I3 => ⟨.bl (!ov.isSome), H, I3, rfl, q2⟩
theorem od_in (hK : T.K = X.K) (hu : X.A.units + 64 < cLine) : OpD X T (compareOp .In) (gIn false) := od_inX hK (by omega) false op_in_seq (or_din (by omega))
theorem od_notin (hK : T.K = X.K) (hu : X.A.units + 64 < cLine) : OpD X T (compareOp .NotIn) (gIn true) := od_inX hK (by omega) true op_notIn_seq (or_dnotin (by omega))

/-! ### items -/
def gIx : GD
  | .tup xs, .int i, Q => match atI xs i with | some d => Q d | none => False
  | .lst xs, .int i, Q => match atI xs i with | some d => Q d | none => False
  | .scr xs, .int i, Q => match atI xs i with | some d => Q (.int d) | none => False
  | .str z, .int i, Q => z.length ≤ 16777216 ∧ match atI z.cps.toList i with | some c => Q (.str ⟨#[c]⟩) | none => False
  | .dct ks ds, k, Q => match keyD k with
    | some k => (match getD ks ds k with | some d => Q d | none => False)
    | none => False
  | _, _, _ => False
theorem atI_rep {F : Addr → Prop} {H : Hp} {ds : List D} {vs : List V} {i : Int} {d : D} (r : Reps T F H ds vs) (h : atI ds i = some d) : ∃ v, atI vs i = some v ∧ Rep T F H d v := by
  unfold atI at h ⊢
  rw [r.len]
  cases e : ixN ds.length i with
  | none => rw [e] at h; cases h
  | some j =>
    rw [e] at h
    exact r.get h
def IxD (X : Cx) (T : Th) (g : GD) : Prop := IxR X (rD T g)
theorem ix_dict (hu : X.A.units + 1 < cLine) : IxR X (fun x y H Q => ∃ a v, x = .ref a ∧ DGet H a y (some v) ∧ Q v H) := by
  intro value slice pins s σ H x y v u Q I rx ry ⟨a, z, ex, g, q⟩ hs
  subst ex
  obtain rfl : v = Value.ref a := rx
  exact tail_any (dict_typeIs I g) PySem.F.slot_dict_getitem.lookup (d_getItem hu I g ry fun w' s3 I3 rw' => ⟨z, H, I3, rw', q⟩) hs
theorem id_ix (hK : T.K = X.K) (hu : X.A.units + 64 < cLine) : IxD X T gIx := by
  intro value slice pins s σ H x y v u Q I rx ry ⟨F, Pm, dx, dy, Qd, hx, hy, hF, hg, hq⟩ hs
  have fin : ∀ {d : D} {z : V}, Qd d → Rep T F H d z → Q z H := fun h r => hq _ h _ H (fun _ _ z => z) r
  have go : ∀ xs i, dx = .tup xs ∨ dx = .lst xs → dy = .int i → (match atI xs i with | some d => Qd d | none => False) → wpAny (model X.prog X.w) X.A (subscriptTail value slice v u) (EP X pins σ Q) X.xe s := fun xs i e ei hg2 => by
    subst ei
    obtain ⟨p, vs, rfl, h, r⟩ := repT_seq hK e hx
    cases ed : atI xs i with
    | some d =>
      rw [ed] at hg2
      obtain ⟨z, ez, rz⟩ := atI_rep r ed
      rcases h with h | h
      · exact ix_list value slice pins s σ H _ _ v u Q I rx ry ⟨p, vs, i, z, rfl, hy, h, ez, fin hg2 rz⟩ hs
      · exact ix_tup value slice pins s σ H _ _ v u Q I rx ry ⟨p, vs, i, z, rfl, hy, h, ez, fin hg2 rz⟩ hs
    | none => rw [ed] at hg2; exact hg2.elim
  cases dx <;> try exact hg.elim
  · cases dy <;> try exact hg.elim
    obtain ⟨hz, hg⟩ := hg
    split at hg
    · rename_i c ec
      exact ix_str value slice pins s σ H _ _ v u Q I rx ry ⟨_, _, c, hx, hy, sz16 hz, ec, fin hg (by simp [Rep])⟩ hs
    · exact hg.elim
  · cases dy <;> try exact hg.elim
    exact go _ _ (.inl rfl) rfl hg
  · cases dy <;> try exact hg.elim
    exact go _ _ (.inr rfl) rfl hg
  · rename_i ks ds
    simp only [gIx] at hg
    split at hg
    · rename_i k ek
      split at hg
      · rename_i d ed
        obtain ⟨a, vs, rfl, h, _, l, r⟩ := hx
        have ex := keyD_rep hy ek
        subst ex
        obtain ⟨z, ez, rz⟩ := (getD_rep (x := k) l r).1 d ed
        exact ix_dict (by omega) value slice pins s σ H _ _ v u Q I rx ry ⟨a, z, rfl, ez ▸ DGet.k h, fin hg rz⟩ hs
      · exact hg.elim
    · exact hg.elim
  · cases dy <;> try exact hg.elim
    rename_i ns i
    simp only [RepT, Rep] at hx
    obtain ⟨a, rfl, h⟩ := hx
    simp only [gIx] at hg
    split at hg
    · rename_i n en
      have hl : SqL X.K H a (ns.map V.int) := h.elim (fun h => .inl h.1) (fun h => hK ▸ h.to)
      refine ix_list value slice pins s σ H _ _ v u Q I rx ry ⟨a, _, i, .int n, rfl, hy, hl, ?_, fin hg (by simp [Rep])⟩ hs
      unfold atI at en ⊢
      rw [List.length_map]
      cases e : ixN ns.length i with
      | none => rw [e] at en; cases en
      | some j =>
        rw [e] at en
        show (ns.map V.int)[j]? = _
        rw [List.getElem?_map, show ns[j]? = some n from en]
        rfl
    · exact hg.elim
theorem de_ix {P : Pm} {a b : Expr} {wa wb : WE} {pos : Pos} {g : GD} (ho : IxD X P.T g) (ha : DB X P a wa) (hb : DB X P b wb) (hs : PlainIx b := by exact fun _ _ => rfl) : DE X P (.Subscript a b pos) (wBin g wa wb) :=
  ⟨pe_imp (pe_ix ho ha.pe hb.pe hs) bin_imp⟩

/-! ### slices -/
abbrev WO := Gam → Om → (Option Int → Om → Prop) → RX → Prop
def tPo (P : Pm) (w : WO) : TO := fun σ H Q => ∃ G W Q0 R0, Sta P G W σ H ∧ w G W.Om Q0 R0 ∧ exOk P W H σ R0 ∧ ∀ b Om', Q0 b Om' → ∀ H' W', Step P.T W H W' H' → W'.Om = Om' → Q b H'
structure DO (X : Cx) (P : Pm) (e : Option Expr) (w : WO) : Prop where
  po : PO X e (tPo P w)
def woNone : WO := fun _ Om Q _ => Q none Om
def woSome (w : WE) : WO := fun G Om Q R => w G Om (fun d O => match d with | .int i => Q (some i) O | _ => False) R
variable {P : Pm} {e a b : Expr} {wa wb w : WE} {pos : Pos}
theorem po_imp {t t' : TO} {e : Option Expr} (h : PO X e t) (i : ∀ σ H Q, t' σ H Q → t σ H Q) : PO X e t' := ⟨fun pins s σ H Q I q => h.run pins s σ H Q I (i σ H Q q)⟩
theorem do_none : DO X P none woNone := ⟨po_imp po_none fun σ H Q ⟨G, W, Q0, R0, S, q, ex, hq⟩ => hq none _ q H W (Step.refl S.ok) rfl⟩
theorem do_some (h : DE X P e w) : DO X P (some e) (woSome w) := by
  refine ⟨po_imp (po_some h.pe) fun σ H Q q => ?_⟩
  obtain ⟨G, W, Q0, R0, S, q, ex, hq⟩ := q
  refine ⟨G, W, _, R0, S, q, ex, fun d O h1 v H1 W1 s1 e1 r => ?_⟩
  cases d <;> try exact h1.elim
  simp only [Rep] at r
  exact ⟨_, r, hq _ O h1 H1 W1 s1 e1⟩
def cutD {α : Type} (xs : List α) (lo hi : Option Int) : List α := (xs.drop (HT.sIx xs.length 0 lo)).take (HT.sIx xs.length xs.length hi - HT.sIx xs.length 0 lo)
def gSl : D → Option Int → Option Int → (D → Prop) → Prop
  | .tup xs, lo, hi, Q => Q (.tup (cutD xs lo hi))
  | .lst xs, lo, hi, Q => Q (.lst (cutD xs lo hi))
  | .str z, lo, hi, Q => z.length ≤ 16777216 ∧ Q (.str (cutS z lo hi))
  | _, _, _, _ => False
theorem cut_rep {F : Addr → Prop} {H : Hp} {ds : List D} {vs : List V} {lo hi : Option Int} (r : Reps T F H ds vs) : Reps T F H (cutD ds lo hi) (cutV vs lo hi) := by
  unfold cutD cutV
  rw [r.len]
  exact (r.drop _).take _
def rSlD (T : Th) : V → Option Int → Option Int → Hp → VK → Prop := fun x lo hi H Q => ∃ (F Pm : Addr → Prop) (dx : D) (Qd : D → Prop), RepT T F Pm H dx x ∧ (∀ b, F b → H b ≠ none) ∧ gSl dx lo hi Qd ∧ ∀ z, Qd z → ∀ v H', Nw H H' → Rep T F H' z v → Q v H'
theorem sl_D (hK : T.K = X.K) : L2.SlR X (rSlD T) := by
  intro pins s σ H x v vl vu lo hi sl Q I rx hs pl pu ⟨F, Pm, dx, Qd, hx, hF, hg, hq⟩
  cases dx <;> try exact hg.elim
  · exact sl_str pins s σ H x v vl vu lo hi sl Q I rx hs pl pu ⟨_, hx, sz16 hg.1, hq _ hg.2 _ H (fun _ _ z => z) (by simp [Rep])⟩
  · rename_i xs
    simp only [RepT, Rep] at hx
    obtain ⟨p, vs, rfl, h, r⟩ := hx
    have c := cut_rep (lo := lo) (hi := hi) r
    refine sl_tupA pins s σ H _ v vl vu lo hi sl Q I rx hs pl pu ⟨p, vs, rfl, hK ▸ tupAt h, fun e => ?_, fun e q hp => ?_⟩
    · refine hq _ hg _ H (fun _ _ z => z) ?_
      simp only [Rep]
      refine ⟨p, vs, rfl, h, ?_⟩
      have : cutV vs lo hi = vs := by
        unfold cutV
        rw [e.1, e.2]
        simp
      rw [this] at c
      exact c
    · obtain ⟨k, n⟩ := upN hF hp (o := .tup (cutV vs lo hi))
      refine hq _ hg _ _ (ext_upd hp) ?_
      simp only [Rep]
      exact ⟨q, _, rfl, .inl ⟨upd_same, n⟩, Reps.kp k _ _ c⟩
  · obtain ⟨p, vs, rfl, h, _, r⟩ := hx
    have c := cut_rep (lo := lo) (hi := hi) r
    refine sl_list pins s σ H _ v vl vu lo hi sl Q I rx hs pl pu ⟨p, vs, rfl, .of h, fun q hp => ?_⟩
    obtain ⟨k, n⟩ := upN hF hp (o := .lst (cutV vs lo hi))
    refine hq _ hg _ _ (ext_upd hp) ?_
    simp only [Rep]
    exact ⟨q, _, rfl, upd_same, n, Reps.kp k _ _ c⟩
def wSl (w : WE) (lo hi : WO) : WE := fun G Om Q R => w G Om (fun x O => lo G O (fun l O1 => hi G O1 (fun h O2 => gSl x l h fun z => Q z O2) R) R) R
theorem de_sl {lo hi : Option Expr} {wl wh : WO} {p2 : Pos} (hK : P.T.K = X.K) (he : DB X P e w) (hl : DO X P lo wl) (hh : DO X P hi wh) : DE X P (.Subscript e (.Slice lo hi none p2) pos) (wSl w wl wh) := by
  refine ⟨pe_imp (pe_slice (sl_D hK) he.pe hl.po hh.po) fun σ H Q q => ?_⟩
  obtain ⟨G, W, Q0, R0, S, q, ex, hq⟩ := q
  refine ⟨G, W, _, R0, S, q, ex, fun d O h1 v H1 W1 s1 e1 r => ?_⟩
  subst e1
  refine ⟨G, W1, _, R0, S.step s1, h1, ex.step s1, fun l O2 h2 H2 W2 s2 e2 => ?_⟩
  subst e2
  refine ⟨G, W2, _, R0, (S.step s1).step s2, h2, (ex.step s1).step s2, fun h O3 h3 H3 W3 s3 e3 => ?_⟩
  refine ⟨W3.F, W3.pm, d, _, (r.step s2 s1.ok).step s3 s2.ok, s3.ok.trk, h3, fun z hz u H4 xt r4 => ?_⟩
  exact hq z O3 hz u H4 W3 (((s1.trans s2).trans s3).trans (Step.ext s3.ok xt)) e3 r4
end
end N

set_option Elab.async false
set_option linter.all false
set_option maxRecDepth 100000
set_option maxHeartbeats 0
/-! ND: calls of built-ins; what is walked; targets; comprehensions -/
namespace N
open PySem PySem.Spec PyProof.Rows L2
section
variable {X : Cx} {T : Th} {P : Pm}
abbrev GC := List D → (D → Prop) → Prop
def rC (T : Th) (g : GC) : List V → Hp → VK → Prop := fun xs H Q => ∃ (F Pm : Addr → Prop) (ds : List D) (Qd : D → Prop), RepsT T F Pm H ds xs ∧ (∀ b, F b → H b ≠ none) ∧ g ds Qd ∧ ∀ z, Qd z → ∀ v H', Nw H H' → Rep T F H' z v → Q v H'
def CallD (X : Cx) (T : Th) (f : Value) (g : GC) : Prop := CallR X f (rC T g)
abbrev GCF := List D → (MO → Prop) → Prop
def rCF (T : Th) (g : GCF) : List V → Hp → VK → Prop := fun xs H Q => ∃ (F Pm : Addr → Prop) (ds : List D) (Qd : MO → Prop), RepsT T F Pm H ds xs ∧ (∀ b, F b → H b ≠ none) ∧ g ds Qd ∧ ∀ z, Qd z → ∀ p o, H p = none → MRo T F H z o → Q (.ref p) (upd H p o)
def CallF (X : Cx) (T : Th) (f : Value) (g : GCF) : Prop := CallR X f (rCF T g)
def wCall (g : GC) (wa : WA) : WE := fun G Om Q R => wa G Om (fun ds O => g ds fun z => Q z O) R
def wCallF (g : GCF) (wa : WA) : WF := fun G Om Q R => wa G Om (fun ds O => g ds fun z => Q z O) R
variable {e a b c : Expr} {es : List Expr} {w wa wb : WE} {wl : WA} {pos p : Pos} {x : Str} {id TT : String}
theorem call_imp {g : GC} : ∀ σ H Q, tE P (wCall g wl) σ H Q → tCB (rC P.T g) (tAB P wl) σ H Q := fun σ H Q h => by
  obtain ⟨G, W, Q0, R0, S, q, ex, hq⟩ := h
  refine ⟨G, W, _, R0, S, q, ex, fun ds O h1 vs H1 W1 s1 e1 r => ⟨W1.F, W1.pm, ds, _, r, s1.ok.trk, h1, fun z hz u H2 xt r2 => ?_⟩⟩
  exact hq z O hz u H2 W1 (s1.trans (Step.ext s1.ok xt)) e1 r2
theorem callF_imp {g : GCF} : ∀ σ H Q, tF P (wCallF g wl) σ H Q → tCB (rCF P.T g) (tAB P wl) σ H Q := fun σ H Q h => by
  obtain ⟨G, W, Q0, R0, S, q, ex, hq⟩ := h
  refine ⟨G, W, _, R0, S, q, ex, fun ds O h1 vs H1 W1 s1 e1 r => ⟨W1.F, W1.pm, ds, _, r, s1.ok.trk, h1, fun z hz p o hp r2 => ?_⟩⟩
  obtain ⟨s2, a1, a2, a3, a4⟩ := newOwn_fin (o := o) (m := z) s1.ok hp r2
  exact hq z O hz p _ (W1.add p) (s1.trans s2) e1 (s1.back hp) a1 a2 a3 a4
theorem de_callB {g : GC} (hc : CallD X P.T (.builtin id) g) (hm : X.mg x = none) (ha : DAB X P (e :: es) wl) (hv : bootBuiltins x = some (.builtin id) := by decide +kernel) (hg : Gl X x := by rfl) (hn : x ≠ "__name__" := by decide) (hdb : (x == ("__debug__" : Str)) = false := by decide)
    (he : starEach (e :: es) X.env = (false, eval e X.env) :: starEach es X.env := by rfl) (hpl : (backTo pos (starEach es X.env)).any (·.1) = false := by rfl) : DE X P (.Call (.Name x p) (e :: es) [] pos) (wCall g wl) :=
  ⟨pe_imp (pe_callB hc hg hm hv ha.pa hn hdb he hpl) call_imp⟩
theorem de_callT {g : GC} (hc : CallD X P.T (.type TT) g) (hm : X.mg x = none) (ha : DAB X P (e :: es) wl) (hv : bootBuiltins x = some (.type TT) := by decide +kernel) (hg : Gl X x := by rfl) (hn : x ≠ "__name__" := by decide) (hdb : (x == ("__debug__" : Str)) = false := by decide)
    (he : starEach (e :: es) X.env = (false, eval e X.env) :: starEach es X.env := by rfl) (hpl : (backTo pos (starEach es X.env)).any (·.1) = false := by rfl) : DE X P (.Call (.Name x p) (e :: es) [] pos) (wCall g wl) :=
  ⟨pe_imp (pe_callTy hc hg hm hv ha.pa hn hdb he hpl) call_imp⟩
theorem df_callB {g : GCF} (hc : CallF X P.T (.builtin id) g) (hm : X.mg x = none) (ha : DAB X P (e :: es) wl) (hv : bootBuiltins x = some (.builtin id) := by decide +kernel) (hg : Gl X x := by rfl) (hn : x ≠ "__name__" := by decide) (hdb : (x == ("__debug__" : Str)) = false := by decide)
    (he : starEach (e :: es) X.env = (false, eval e X.env) :: starEach es X.env := by rfl) (hpl : (backTo pos (starEach es X.env)).any (·.1) = false := by rfl) : DF X P (.Call (.Name x p) (e :: es) [] pos) (wCallF g wl) :=
  ⟨pe_imp (pe_callB hc hg hm hv ha.pa hn hdb he hpl) callF_imp⟩
theorem df_callT {g : GCF} (hc : CallF X P.T (.type TT) g) (hm : X.mg x = none) (ha : DAB X P (e :: es) wl) (hv : bootBuiltins x = some (.type TT) := by decide +kernel) (hg : Gl X x := by rfl) (hn : x ≠ "__name__" := by decide) (hdb : (x == ("__debug__" : Str)) = false := by decide)
    (he : starEach (e :: es) X.env = (false, eval e X.env) :: starEach es X.env := by rfl) (hpl : (backTo pos (starEach es X.env)).any (·.1) = false := by rfl) : DF X P (.Call (.Name x p) (e :: es) [] pos) (wCallF g wl) :=
  ⟨pe_imp (pe_callTy hc hg hm hv ha.pa hn hdb he hpl) callF_imp⟩

/-! ### the built-ins -/
theorem reps1 {F Pm : Addr → Prop} {H : Hp} {d : D} {xs : List V} (h : RepsT T F Pm H [d] xs) : ∃ v, xs = [v] ∧ RepT T F Pm H d v := by
  obtain ⟨v, r, e, h1, h2⟩ := h
  have h2 : r = [] := h2
  subst h2
  exact ⟨v, e, h1⟩
theorem reps2 {F Pm : Addr → Prop} {H : Hp} {d d' : D} {xs : List V} (h : RepsT T F Pm H [d, d'] xs) : ∃ v v', xs = [v, v'] ∧ RepT T F Pm H d v ∧ RepT T F Pm H d' v' := by
  obtain ⟨v, r, e, h1, h2⟩ := h
  obtain ⟨v', r', e', h3, h4⟩ := h2
  have h4 : r' = [] := h4
  subst h4
  subst e'
  exact ⟨v, v', e, h1, h3⟩
def gLen : GC
  | [.tup xs], Q => Q (.int xs.length)
  | [.lst xs], Q => Q (.int xs.length)
  | [.scr xs], Q => Q (.int xs.length)
  | [.str z], Q => z.length ≤ 16777216 ∧ Q (.int z.length)
  | [.dct ks _], Q => Q (.int ks.length)
  | _, _ => False
theorem cd_len (hK : T.K = X.K) : CallD X T (.builtin "len") gLen := by
  intro pins s σ H xs us Q I r ⟨F, Pm, ds, Qd, hx, hF, hg, hq⟩
  match ds, hg with
  | [.tup xs], hg =>
    obtain ⟨v, rfl, h⟩ := reps1 hx
    obtain ⟨p, vs, rfl, h, r2⟩ := repT_seq hK (.inl rfl) h
    exact call_len_seq pins s σ H _ us Q I r ⟨p, vs, rfl, h, hq _ hg _ H (fun _ _ z => z) (by simp [Rep, r2.len])⟩
  | [.lst xs], hg =>
    obtain ⟨v, rfl, h⟩ := reps1 hx
    obtain ⟨p, vs, rfl, h, r2⟩ := repT_seq hK (.inr rfl) h
    exact call_len_seq pins s σ H _ us Q I r ⟨p, vs, rfl, h, hq _ hg _ H (fun _ _ z => z) (by simp [Rep, r2.len])⟩
  | [.scr ns], hg =>
    obtain ⟨v, rfl, h⟩ := reps1 hx
    simp only [RepT, Rep] at h
    obtain ⟨p, rfl, h⟩ := h
    have hl : SqL X.K H p (ns.map V.int) := h.elim (fun h => .inl h.1) (fun h => hK ▸ h.to)
    exact call_len_seq pins s σ H _ us Q I r ⟨p, _, rfl, .inl hl, hq _ hg _ H (fun _ _ z => z) (by simp [Rep])⟩
  | [.str z], hg =>
    obtain ⟨v, rfl, h⟩ := reps1 hx
    exact call_len_str pins s σ H _ us Q I r ⟨z, by rw [show v = .str z from h], sz16 hg.1, hq _ hg.2 _ H (fun _ _ z => z) (by simp [Rep])⟩
  | [.dct ks vs], hg =>
    obtain ⟨v, rfl, h⟩ := reps1 hx
    obtain ⟨a, ws, rfl, h, _, l, r2⟩ := h
    refine call_lenD pins s σ H _ us Q I r ⟨a, _, rfl, h, hq _ hg _ H (fun _ _ z => z) ?_⟩
    simp only [Rep, List.length_zip, r2.len, l, Nat.min_self]
def gInt : GC
  | [.int i], Q => Q (.int i)
  | [.bl b], Q => Q (.int (if b then 1 else 0))
  | _, _ => False
theorem cd_int : CallD X T (.type "int") gInt := by
  intro pins s σ H xs us Q I r ⟨F, Pm, ds, Qd, hx, hF, hg, hq⟩
  match ds, hg with
  | [.int i], hg =>
    obtain ⟨v, rfl, h⟩ := reps1 hx
    exact call_int1 pins s σ H _ us Q I r (.inl ⟨i, by rw [show v = .int i from h], hq _ hg _ H (fun _ _ z => z) (by simp [Rep])⟩)
  | [.bl i], hg =>
    obtain ⟨v, rfl, h⟩ := reps1 hx
    exact call_int1 pins s σ H _ us Q I r (.inr ⟨i, by rw [show v = .bl i from h], hq _ hg _ H (fun _ _ z => z) (by simp [Rep])⟩)
def gAbs : GC
  | [.int i], Q => Q (.int (if i < 0 then -i else i))
  | _, _ => False
theorem cd_abs : CallD X T (.builtin "abs") gAbs := by
  intro pins s σ H xs us Q I r ⟨F, Pm, ds, Qd, hx, hF, hg, hq⟩
  match ds, hg with
  | [.int i], hg =>
    obtain ⟨v, rfl, h⟩ := reps1 hx
    exact call_abs pins s σ H _ us Q I r ⟨i, by rw [show v = .int i from h], hq _ hg _ H (fun _ _ z => z) (by simp [Rep])⟩
def isL : List D → Option (List Int)
  | [] => some []
  | .int i :: r => (isL r).map (i :: ·)
  | _ :: _ => none
def bsL : List D → Option (List Bool)
  | [] => some []
  | .bl i :: r => (bsL r).map (i :: ·)
  | _ :: _ => none
theorem isL_map : ∀ {ds : List D} {ns : List Int}, isL ds = some ns → ds = ns.map D.int
  | [], ns, h => by simp only [isL] at h; cases h; rfl
  | d :: r, ns, h => by
    cases d <;> simp only [isL] at h <;> try cases h
    cases e : isL r with
    | none => rw [e] at h; cases h
    | some ms =>
      rw [e] at h
      cases h
      rw [isL_map e, List.map_cons]
theorem bsL_map : ∀ {ds : List D} {ns : List Bool}, bsL ds = some ns → ds = ns.map D.bl
  | [], ns, h => by simp only [bsL] at h; cases h; rfl
  | d :: r, ns, h => by
    cases d <;> simp only [bsL] at h <;> try cases h
    cases e : bsL r with
    | none => rw [e] at h; cases h
    | some ms =>
      rw [e] at h
      cases h
      rw [bsL_map e, List.map_cons]
theorem isL_ints : ∀ ns : List Int, isL (ns.map D.int) = some ns
  | [] => rfl
  | n :: r => by simp [isL, isL_ints r]
theorem bsL_bls : ∀ ns : List Bool, bsL (ns.map D.bl) = some ns
  | [] => rfl
  | n :: r => by simp [bsL, bsL_bls r]
/-- a list of ints, of bools -/
def gLI (f : List Int → (D → Prop) → Prop) : GC
  | [.lst ds], Q => match isL ds with | some ns => f ns Q | none => False
  | _, _ => False
def gLB (f : List Bool → Bool) : GC
  | [.lst ds], Q => match bsL ds with | some ns => Q (.bl (f ns)) | none => False
  | _, _ => False
theorem lst_ints {F Pm : Addr → Prop} {H : Hp} {ds : List D} {ns : List Int} {v : V} (h : RepT T F Pm H (.lst ds) v) (e : isL ds = some ns) : ∃ p, v = .ref p ∧ H p = some (.lst (ns.map V.int)) := by
  obtain ⟨p, vs, rfl, h, _, r⟩ := h
  rw [isL_map e] at r
  rw [r.ofInts] at h
  exact ⟨p, rfl, h⟩
theorem lst_bls {F Pm : Addr → Prop} {H : Hp} {ds : List D} {ns : List Bool} {v : V} (h : RepT T F Pm H (.lst ds) v) (e : bsL ds = some ns) : ∃ p, v = .ref p ∧ H p = some (.lst (ns.map V.bl)) := by
  obtain ⟨p, vs, rfl, h, _, r⟩ := h
  rw [bsL_map e] at r
  rw [r.ofBls] at h
  exact ⟨p, rfl, h⟩
abbrev gAll : GC := gLB fun bs => bs.all _root_.id
abbrev gAny : GC := gLB fun bs => bs.any _root_.id
theorem cd_all (hc : X.calm = true) : CallD X T (.builtin "all") gAll := by
  intro pins s σ H xs us Q I r ⟨F, Pm, ds, Qd, hx, hF, hg, hq⟩
  match ds, hg with
  | [.lst ds], hg =>
    obtain ⟨v, rfl, h⟩ := reps1 hx
    simp only [gAll, gLB] at hg
    split at hg
    · rename_i ns e
      obtain ⟨p, rfl, h9⟩ := lst_bls h e
      exact cr_all hc pins s σ H _ us Q I r ⟨p, ns, rfl, .of h9, hq _ hg _ H (fun _ _ z => z) (by simp [Rep])⟩
    · exact hg.elim
theorem cd_any (hc : X.calm = true) : CallD X T (.builtin "any") gAny := by
  intro pins s σ H xs us Q I r ⟨F, Pm, ds, Qd, hx, hF, hg, hq⟩
  match ds, hg with
  | [.lst ds], hg =>
    obtain ⟨v, rfl, h⟩ := reps1 hx
    simp only [gAny, gLB] at hg
    split at hg
    · rename_i ns e
      obtain ⟨p, rfl, h9⟩ := lst_bls h e
      exact cr_any hc pins s σ H _ us Q I r ⟨p, ns, rfl, .of h9, hq _ hg _ H (fun _ _ z => z) (by simp [Rep])⟩
    · exact hg.elim
abbrev gSum : GC := gLI fun ns Q => Q (.int ns.sum)
theorem cd_sum (hc : X.calm = true) : CallD X T (.builtin "sum") gSum := by
  intro pins s σ H xs us Q I r ⟨F, Pm, ds, Qd, hx, hF, hg, hq⟩
  match ds, hg with
  | [.lst ds], hg =>
    obtain ⟨v, rfl, h⟩ := reps1 hx
    simp only [gSum, gLI] at hg
    split at hg
    · rename_i ns e
      obtain ⟨p, rfl, h9⟩ := lst_ints h e
      exact cr_sum hc pins s σ H _ us Q I r ⟨p, ns, rfl, .of h9, hq _ hg _ H (fun _ _ z => z) (by simp [Rep])⟩
    · exact hg.elim
def gMax : GC
  | [.lst ds], Q => match isL ds with | some ns => 0 < ns.length ∧ ∀ m, m ∈ ns → (∀ y, y ∈ ns → y ≤ m) → Q (.int m) | none => False
  | [.int i, .int j], Q => Q (.int (if j > i then j else i))
  | _, _ => False
def gMin : GC
  | [.lst ds], Q => match isL ds with | some ns => 0 < ns.length ∧ ∀ m, m ∈ ns → (∀ y, y ∈ ns → m ≤ y) → Q (.int m) | none => False
  | [.int i, .int j], Q => Q (.int (if j < i then j else i))
  | _, _ => False
theorem cd_max (hc : X.calm = true) : CallD X T (.builtin "max") gMax := by
  intro pins s σ H xs us Q I r ⟨F, Pm, ds, Qd, hx, hF, hg, hq⟩
  match ds, hg with
  | [.lst ds], hg =>
    obtain ⟨v, rfl, h⟩ := reps1 hx
    simp only [gMax] at hg
    split at hg
    · rename_i ns e
      obtain ⟨p, rfl, h9⟩ := lst_ints h e
      exact cr_max hc pins s σ H _ us Q I r ⟨p, ns, rfl, .of h9, hg.1, fun m h1 h2 => hq _ (hg.2 m h1 h2) _ H (fun _ _ z => z) (by simp [Rep])⟩
    · exact hg.elim
  | [.int i, .int j], hg =>
    obtain ⟨v, v', rfl, h, h'⟩ := reps2 hx
    exact call_max2 hc pins s σ H _ us Q I r ⟨i, j, by rw [show v = .int i from h, show v' = .int j from h'], hq _ hg _ H (fun _ _ z => z) (by simp [Rep])⟩
theorem cd_min (hc : X.calm = true) : CallD X T (.builtin "min") gMin := by
  intro pins s σ H xs us Q I r ⟨F, Pm, ds, Qd, hx, hF, hg, hq⟩
  match ds, hg with
  | [.lst ds], hg =>
    obtain ⟨v, rfl, h⟩ := reps1 hx
    simp only [gMin] at hg
    split at hg
    · rename_i ns e
      obtain ⟨p, rfl, h9⟩ := lst_ints h e
      exact cr_min hc pins s σ H _ us Q I r ⟨p, ns, rfl, .of h9, hg.1, fun m h1 h2 => hq _ (hg.2 m h1 h2) _ H (fun _ _ z => z) (by simp [Rep])⟩
    · exact hg.elim
  | [.int i, .int j], hg =>
    obtain ⟨v, v', rfl, h, h'⟩ := reps2 hx
    exact call_min2 hc pins s σ H _ us Q I r ⟨i, j, by rw [show v = .int i from h, show v' = .int j from h'], hq _ hg _ H (fun _ _ z => z) (by simp [Rep])⟩
/-- tuple(list), tuple(tuple); list(list), list(tuple) -/
def gTuple : GC
  | [.tup xs], Q => Q (.tup xs)
  | [.lst xs], Q => Q (.tup xs)
  | _, _ => False
theorem cd_tuple (hK : T.K = X.K) : CallD X T (.type "tuple") gTuple := by
  intro pins s σ H xs us Q I r ⟨F, Pm, ds, Qd, hx, hF, hg, hq⟩
  match ds, hg with
  | [.tup xs], hg =>
    obtain ⟨v, rfl, h⟩ := reps1 hx
    simp only [RepT, Rep] at h
    obtain ⟨p, vs, rfl, h, r2⟩ := h
    refine call_tuple_of pins s σ H _ us Q I r ⟨p, vs, rfl, .inr ⟨hK ▸ tupAt h, hq _ hg _ H (fun _ _ z => z) ?_⟩⟩
    simp only [Rep]
    exact ⟨p, vs, rfl, h, r2⟩
  | [.lst xs], hg =>
    obtain ⟨v, rfl, h⟩ := reps1 hx
    obtain ⟨p, vs, rfl, h, _, r2⟩ := h
    refine call_tuple_of pins s σ H _ us Q I r ⟨p, vs, rfl, .inl ⟨.of h, fun q hp => ?_⟩⟩
    obtain ⟨k, n⟩ := upN hF hp (o := .tup vs)
    refine hq _ hg _ _ (ext_upd hp) ?_
    simp only [Rep]
    exact ⟨q, _, rfl, .inl ⟨upd_same, n⟩, Reps.kp k _ _ r2⟩
def gList : GCF
  | [.tup xs], Q => Q (.lst xs)
  | [.lst xs], Q => Q (.lst xs)
  | [.scr xs], Q => Q (.lst (xs.map D.int))
  | _, _ => False
theorem cf_list (hK : T.K = X.K) : CallF X T (.type "list") gList := by
  intro pins s σ H xs us Q I r ⟨F, Pm, ds, Qd, hx, hF, hg, hq⟩
  have go : ∀ p vs ys, (SqL X.K H p vs ∨ SqT X.K H p vs) → Reps T F H ys vs → xs = [.ref p] → Qd (.lst ys) → wpAny (model X.prog X.w) X.A (call (.type "list") us) (EP X pins σ Q) X.xe s := fun p vs ys h r2 e hg =>
    call_list_of pins s σ H _ us Q I r ⟨p, vs, e, h, fun l hl => hq (.lst ys) hg l (.lst vs) hl r2⟩
  match ds, hg with
  | [.tup xs], hg =>
    obtain ⟨v, rfl, h⟩ := reps1 hx
    obtain ⟨p, vs, rfl, h, r2⟩ := repT_seq hK (.inl rfl) h
    exact go p vs _ h r2 rfl hg
  | [.lst xs], hg =>
    obtain ⟨v, rfl, h⟩ := reps1 hx
    obtain ⟨p, vs, rfl, h, r2⟩ := repT_seq hK (.inr rfl) h
    exact go p vs _ h r2 rfl hg
  | [.scr ns], hg =>
    obtain ⟨v, rfl, h⟩ := reps1 hx
    simp only [RepT, Rep] at h
    obtain ⟨p, rfl, h⟩ := h
    exact go p _ _ (.inl (h.elim (fun h => .inl h.1) (fun h => hK ▸ h.to))) (Reps.ints ns) rfl hg
/-- isinstance -/
def tyS : D → Option String
  | .non => some "NoneType"
  | .bl _ => some "bool"
  | .int _ => some "int"
  | .str _ => some "str"
  | .tup _ => some "tuple"
  | .lst _ => some "list"
  | .dct _ _ => some "dict"
  | _ => none
def isiS (a b : String) : Bool := a == b || (a == "bool" && b == "int")
def okTy (b : String) : Bool := ["bool", "int", "str", "tuple", "list", "dict"].contains b
theorem kit_tab : (["NoneType", "bool", "int", "str", "tuple", "list", "dict"].all fun a => ["bool", "int", "str", "tuple", "list", "dict"].all fun b => kitB a b == some (isiS a b)) = true := by decide +kernel
theorem kit_at {K : PySem.W.Frag} {d : D} {a b : String} (h : tyS d = some a) (hb : okTy b = true) : PySem.W.kitOne K (.type a) (.type b) = some (isiS a b) := by
  refine kit_ty ?_
  have ha : a ∈ ["NoneType", "bool", "int", "str", "tuple", "list", "dict"] := by
    cases d <;> simp only [tyS] at h <;> cases h <;> simp
  have hb' : b ∈ ["bool", "int", "str", "tuple", "list", "dict"] := by simpa [okTy] using hb
  have t := kit_tab
  rw [List.all_eq_true] at t
  have t2 := t a ha
  rw [List.all_eq_true] at t2
  simpa using t2 b hb'
theorem ty_at (hK : T.K = X.K) {F Pm : Addr → Prop} {H : Hp} {d : D} {v : V} {a : String} (h : RepT T F Pm H d v) (e : tyS d = some a) : TyX X.K H v (.type a) := by
  cases d <;> simp only [tyS] at e <;> cases e
  case non => rw [show v = .non from h]; exact .base .non
  case bl => rw [show v = .bl _ from h]; exact .base (.bl _)
  case int => rw [show v = .int _ from h]; exact .base (.int _)
  case str => rw [show v = .str _ from h]; exact .base (.str _)
  case tup =>
    simp only [RepT, Rep] at h
    obtain ⟨p, vs, rfl, h, _⟩ := h
    rcases h with h | h
    · exact .base (.tup h.1)
    · rcases h with (h | ⟨_, h⟩) | ⟨o, its, n, h1, h2, _⟩
      · cases h
      · cases h
      · exact .kTuple (hK ▸ h1) h2
  case lst =>
    obtain ⟨p, vs, rfl, h, _⟩ := h
    exact .base (.lst h)
  case dct =>
    obtain ⟨p, vs, rfl, h, _⟩ := h
    exact .base (.dK h)
def tyL : List D → Option (List String)
  | [] => some []
  | .ty n :: r => if okTy n then (tyL r).map (n :: ·) else none
  | _ :: _ => none
def gIsi : GC
  | [d, .ty b], Q => okTy b = true ∧ match tyS d with | some a => Q (.bl (isiS a b)) | none => False
  | [d, .tup ts], Q => match tyS d with | some a => (match tyL ts with | some bs => Q (.bl (bs.any (isiS a))) | none => False) | none => False
  | _, _ => False
theorem tyL_any {K : PySem.W.Frag} {d : D} {a : String} (h : tyS d = some a) : ∀ {ts : List D} {bs : List String}, tyL ts = some bs → PySem.W.kitAny K (.type a) (bs.map Value.type) = some (bs.any (isiS a))
  | [], bs, e => by simp only [tyL] at e; cases e; rfl
  | t :: ts, bs, e => by
    cases t <;> simp only [tyL] at e <;> try cases e
    split at e
    · rename_i n hn
      cases e2 : tyL ts with
      | none => rw [e2] at e; cases e
      | some cs =>
        rw [e2] at e
        cases e
        have ih := tyL_any (K := K) h e2
        rw [List.map_cons]
        refine kitAny_cons (kit_at h hn) (fun z => ?_) (fun z => ?_)
        · rw [ih]; simp [z]
        · simp [z]
    · cases e
theorem tyL_vals {F : Addr → Prop} {H : Hp} : ∀ {ts : List D} {vs : List V} {bs : List String}, Reps T F H ts vs → tyL ts = some bs → vs = bs.map V.ty
  | [], vs, bs, h, e => by simp only [tyL] at e; cases e; simpa [Reps] using h
  | t :: ts, vs, bs, h, e => by
    cases t <;> simp only [tyL] at e <;> try cases e
    split at e
    · cases e2 : tyL ts with
      | none => rw [e2] at e; cases e
      | some cs =>
        rw [e2] at e
        cases e
        simp only [Reps, Rep] at h
        obtain ⟨v, r, e3, h1, h2⟩ := h
        rw [e3, h1, tyL_vals h2 e2, List.map_cons]
    · cases e
theorem clsV_tys : ∀ bs : List String, Paired ClsV (bs.map V.ty) (bs.map Value.type)
  | [] => .nil
  | b :: r => .cons (.ty b) (clsV_tys r)
theorem vals_tys : ∀ {bs : List String} {us : List Value}, Vals (bs.map V.ty) us → us = bs.map Value.type
  | [], _, .nil => rfl
  | b :: r, _, .cons h t => by rw [show _ = Value.type b from h, vals_tys t]; rfl
theorem cd_isi (hK : T.K = X.K) : CallD X T (.builtin "isinstance") gIsi := by
  intro pins s σ H xs us Q I r ⟨F, Pm, ds, Qd, hx, hF, hg, hq⟩
  match ds, hg with
  | [d, .ty b], hg =>
    obtain ⟨v, v', rfl, h, h'⟩ := reps2 hx
    obtain ⟨hb, hg⟩ := hg
    split at hg
    · rename_i a e
      refine call_isi pins s σ H _ us Q I r ⟨v, v', .type a, .type b, isiS a b, rfl, by rw [show v' = .ty b from h']; exact .ty b, ty_at hK h e, kit_at e hb, hq _ hg _ H (fun _ _ z => z) (by simp [Rep])⟩
    · exact hg.elim
  | [d, .tup ts], hg =>
    obtain ⟨v, v', rfl, h, h'⟩ := reps2 hx
    simp only [gIsi] at hg
    split at hg
    · rename_i a e
      split at hg
      · rename_i bs e2
        simp only [RepT, Rep] at h'
        obtain ⟨q, vs, rfl, h3, r2⟩ := h'
        have ev := tyL_vals r2 e2
        subst ev
        rcases h3 with h3 | h3
        · exact call_isiT pins s σ H _ us Q I r ⟨v, q, _, .type a, bs.map Value.type, _, rfl, h3.1, clsV_tys bs, ty_at hK h e, tyL_any e e2, hq _ hg _ H (fun _ _ z => z) (by simp [Rep])⟩
        · rcases h3 with (h3 | ⟨_, h3⟩) | ⟨⟨oc, dd, od, sl⟩, its, n, h1, h2, h4, h5, h6⟩
          · cases h3
          · cases h3
          · simp only at h2 h4
            subst h2 h4
            have := vals_tys h6
            refine call_isiK pins s σ H _ us Q I r ⟨v, q, dd, bs.map Value.type, n, sl, .type a, _, rfl, ?_, ty_at hK h e, tyL_any e e2, hq _ hg _ H (fun _ _ z => z) (by simp [Rep])⟩
            rw [← this]
            exact hK ▸ h1
      · exact hg.elim
    · exact hg.elim
end
end N

set_option Elab.async false
set_option linter.all false
set_option maxRecDepth 100000
set_option maxHeartbeats 0
/-! NE: what is walked, targets, comprehensions -/
namespace N
open PySem PySem.Spec PyProof.Rows L2

/-! ### what is walked -/
abbrev Rl := Wd → Hp → Wd → Hp → Prop
def RF (T : Th) : Rl := fun W H W' H' => Kp W.F H W'.F H' ∧ WOk T W' H'
def RS (T : Th) : Rl := fun W H W' H' => Step T W H W' H'
theorem Kp.trans {F F1 F2 : Addr → Prop} {H H1 H2 : Hp} (a : Kp F H F1 H1) (b : Kp F1 H1 F2 H2) : Kp F H F2 H2 where
  same := fun c o h n => b.same c o (a.same c o h n) fun z => (a.fnew c z).elim n fun q => by rw [h] at q; cases q
  fnew := fun c h => by
    rcases b.fnew c h with h | h
    · exact a.fnew c h
    · by_cases q : H c = none
      · exact .inr q
      · refine .inl ?_
        cases e : H c with
        | none => exact absurd e q
        | some o =>
          by_cases f : F c
          · exact f
          · rw [a.same c o e f] at h; cases h
/-- the iterator J gives just the items, as long as Rl holds -/
def Wk (T : Th) (R : Rl) (W1 : Wd) (H1 : Hp) (items : List D) (J : It) : Prop := ∃ (Gd : Hp → Prop) (Y : Nat → Hp → V → Hp → Prop), Walk J items.length Gd Y ∧
  ∀ W2 H2, R W1 H1 W2 H2 → Gd H2 ∧ ∀ (i : Nat) d, items[i]? = some d → ∀ x H3, Y i H2 x H3 → Nw H2 H3 ∧ Rep T W2.F H3 d x
def tI (P : Pm) (R : Rl) (w : WA) : TI := fun σ H K => ∃ G W Q0 R0, Sta P G W σ H ∧ w G W.Om Q0 R0 ∧ exOk P W H σ R0 ∧
  ∀ items Om', Q0 items Om' → ∀ J H1 W1, Step P.T W H W1 H1 → W1.Om = Om' → Wk P.T R W1 H1 items J → K J H1
structure DI (X : Cx) (P : Pm) (R : Rl) (tg iter : Expr) (w : WA) : Prop where
  pi : PI X tg iter (tI P R w)
theorem pi_imp {X : Cx} {tg iter : Expr} {t t' : TI} (h : PI X tg iter t) (i : ∀ σ H Q, t' σ H Q → t σ H Q) : PI X tg iter t' := ⟨fun pins s σ H Q I q => h.run pins s σ H Q I (i σ H Q q)⟩
section
variable {X : Cx} {P : Pm} {tg iter a b c e e2 : Expr} {w : WE} {wl : WA} {pos p tpos : Pos}
/-- a list, a tuple, a text, whatever comes -/
def iAny (K : PySem.W.Frag) (t : TE) : TI := fun σ H R => t σ H fun x H1 => (∃ a, x = .ref a ∧ (∃ xs, SqL K H1 a xs) ∧ R (Itl K a) H1) ∨ (∃ a, x = .ref a ∧ (∃ xs, SqT K H1 a xs) ∧ R (Itt K a) H1) ∨ ∃ z, x = .str z ∧ R (Its z) H1
theorem pi_any {t : TE} (h : PE X iter t) : PI X tg iter (iAny X.K t) := by
  refine ⟨fun pins s σ H R I q => ?_⟩
  refine thn (h.run pins s σ H _ I q) fun v s1 ⟨x, H1, I1, r1, q1⟩ => ?_
  rcases q1 with ⟨a, e, ⟨xs, hq⟩, q⟩ | ⟨a, e, ⟨xs, hq⟩, q⟩ | ⟨z, e, q⟩
  · subst e
    cases r1
    obtain ⟨its, rv, pl, _⟩ := I1.list hq
    exact wpAny_pyIter_list pl.isList (pi_one (tk := s1.toks) I1 _ (turn_list a _) ⟨_, Heap.get?_push_size _ rfl, rfl, rfl⟩ q)
  · subst e
    cases r1
    obtain ⟨its, rv, pl, _⟩ := I1.tuple hq
    exact wpAny_pyIter_tuple (show s1.heap.IsTuple a its.toArray from pl) (pi_one (tk := s1.toks) I1 _ (turn_tuple a _) ⟨_, Heap.get?_push_size _ rfl, rfl, rfl⟩ q)
  · subst e
    obtain ⟨t, rfl⟩ := r1
    cases ha : z.cps.all (· < 128)
    · exact wpAny_pyIter_wide ha (pi_one (tk := s1.toks) I1 _ (turn_str _ z t "str_iterator" (.inr rfl)) ⟨_, Heap.get?_push_size _ rfl, rfl, rfl⟩ q)
    · exact wpAny_pyIter_ascii ha (pi_one (tk := s1.toks) I1 _ (turn_str _ z t "str_ascii_iterator" (.inl rfl)) ⟨_, Heap.get?_push_size _ rfl, rfl, rfl⟩ q)
def gIt : D → (List D → Prop) → Prop
  | .tup xs, Q => Q xs
  | .lst xs, Q => Q xs
  | .scr ns, Q => Q (ns.map D.int)
  | .str z, Q => Q (z.cps.toList.map fun c => D.str ⟨#[c]⟩)
  | _, _ => False
def wIt (w : WE) : WA := fun G Om Q R => w G Om (fun d O => gIt d fun xs => Q xs O) R
theorem wk_str {T : Th} {R : Rl} {W1 : Wd} {H1 : Hp} (z : Str) : Wk T R W1 H1 (z.cps.toList.map fun c => D.str ⟨#[c]⟩) (Its z) := by
  refine ⟨_, _, (by rw [List.length_map, Array.length_toList]; exact walk_str), fun W2 H2 _ => ⟨trivial, fun i d e x H3 y => ?_⟩⟩
  obtain ⟨rfl, c, ec, rfl⟩ := y
  refine ⟨fun _ _ z => z, ?_⟩
  rw [List.getElem?_map, Array.getElem?_toList, ec] at e
  cases e
  simp [Rep]
theorem wk_at {T : Th} {R : Rl} {W1 : Wd} {H1 : Hp} {ds : List D} {vs : List V} {J : It} {Gd : Hp → Prop} (l : vs.length = ds.length) (wk : Walk J vs.length Gd (YAt vs)) (h : ∀ W2 H2, R W1 H1 W2 H2 → Gd H2 ∧ Reps T W2.F H2 ds vs) : Wk T R W1 H1 ds J := by
  refine ⟨Gd, YAt vs, l ▸ wk, fun W2 H2 r => ⟨(h W2 H2 r).1, fun i d e x H3 y => ?_⟩⟩
  obtain ⟨rfl, ex⟩ := y
  obtain ⟨v, ev, rv⟩ := (h W2 _ r).2.get e
  rw [ex] at ev
  cases ev
  exact ⟨fun _ _ z => z, rv⟩
theorem seqL_kp {K : PySem.W.Frag} {F F' : Addr → Prop} {H H' : Hp} {a : Addr} {vs : List V} (k : Kp F H F' H') (h : (Rd H a (.lst vs) ∧ ¬ F a) ∨ KL K a vs) : SqL K H' a vs := h.elim (fun h => .inl (k.rd h.1 h.2).1) KL.to
theorem di_val (hK : P.T.K = X.K) (h : DE X P iter w) : DI X P (RF P.T) tg iter (wIt w) := by
  refine ⟨pi_imp (pi_any h.pe) fun σ H R q => ?_⟩
  obtain ⟨G, W, Q0, R0, S, q, ex, hq⟩ := q
  refine ⟨G, W, _, R0, S, q, ex, fun d O h1 v H1 W1 s1 e1 r => ?_⟩
  cases d <;> try exact h1.elim
  · simp only [Rep] at r
    exact .inr (.inr ⟨_, r, hq _ O h1 _ H1 W1 s1 e1 (wk_str _)⟩)
  · simp only [Rep] at r
    obtain ⟨a, vs, rfl, ha, r⟩ := r
    refine .inr (.inl ⟨a, rfl, ⟨vs, hK ▸ tupAt ha⟩, hq _ O h1 _ H1 W1 s1 e1 (wk_at r.len walk_tup fun W2 H2 k => ⟨?_, Reps.kp k.1 _ _ r⟩)⟩)
    exact hK ▸ tupAt (F := W2.F) (ha.imp (fun h => ⟨k.1.same _ _ h.1 h.2, (k.1.rd (.inl h.1) h.2).2⟩) id)
  · simp only [Rep] at r
    obtain ⟨a, vs, rfl, ha, n, r⟩ := r
    exact .inl ⟨a, rfl, ⟨vs, .of ha⟩, hq _ O h1 _ H1 W1 s1 e1 (wk_at r.len walk_list fun W2 H2 k => ⟨.of (k.1.same _ _ ha n), Reps.kp k.1 _ _ r⟩)⟩
  · simp only [Rep] at r
    obtain ⟨a, rfl, ha⟩ := r
    exact .inl ⟨a, rfl, ⟨_, hK ▸ seqL_kp Kp.refl ha⟩, hq _ O h1 _ H1 W1 s1 e1 (wk_at (by simp) walk_list fun W2 H2 k => ⟨hK ▸ seqL_kp k.1 ha, Reps.ints _⟩)⟩
/-- .. in a comprehension the list may be one's own -/
theorem di_valB (hK : P.T.K = X.K) (h : DB X P iter w) : DI X P (RS P.T) tg iter (wIt w) := by
  refine ⟨pi_imp (pi_any h.pe) fun σ H R q => ?_⟩
  obtain ⟨G, W, Q0, R0, S, q, ex, hq⟩ := q
  refine ⟨G, W, _, R0, S, q, ex, fun d O h1 v H1 W1 s1 e1 r => ?_⟩
  cases d <;> try exact h1.elim
  · exact .inr (.inr ⟨_, r, hq _ O h1 _ H1 W1 s1 e1 (wk_str _)⟩)
  · simp only [RepT, Rep] at r
    obtain ⟨a, vs, rfl, ha, r⟩ := r
    refine .inr (.inl ⟨a, rfl, ⟨vs, hK ▸ tupAt ha⟩, hq _ O h1 _ H1 W1 s1 e1 (wk_at r.len walk_tup fun W2 H2 k => ⟨?_, Reps.kp (Step.kp k s1.ok) _ _ r⟩)⟩)
    have k := Step.kp k s1.ok
    exact hK ▸ tupAt (F := W2.F) (ha.imp (fun h => ⟨k.same _ _ h.1 h.2, (k.rd (.inl h.1) h.2).2⟩) id)
  · obtain ⟨a, vs, rfl, ha, n, r⟩ := r
    exact .inl ⟨a, rfl, ⟨vs, .of ha⟩, hq _ O h1 _ H1 W1 s1 e1 (wk_at r.len walk_list fun W2 H2 k => ⟨.of (Step.keep k _ _ ha n), Reps.kp (Step.kp k s1.ok) _ _ r⟩)⟩
  · simp only [RepT, Rep] at r
    obtain ⟨a, rfl, ha⟩ := r
    exact .inl ⟨a, rfl, ⟨_, hK ▸ seqL_kp Kp.refl ha⟩, hq _ O h1 _ H1 W1 s1 e1 (wk_at (by simp) walk_list fun W2 H2 k => ⟨hK ▸ seqL_kp (Step.kp k s1.ok) ha, Reps.ints _⟩)⟩
/-- ranges -/
theorem wk_fn {T : Th} {R : Rl} {W1 : Wd} {H1 : Hp} {n : Nat} {J : It} {f : Nat → Int} (wk : Walk J n (fun _ => True) (YFn fun i => .int (f i))) : Wk T R W1 H1 ((List.range n).map fun i => .int (f i)) J := by
  refine ⟨_, _, (by rw [List.length_map, List.length_range]; exact wk), fun W2 H2 _ => ⟨trivial, fun i d e x H3 y => ?_⟩⟩
  obtain ⟨rfl, rfl⟩ := y
  refine ⟨fun _ _ z => z, ?_⟩
  rw [List.getElem?_map] at e
  cases q : (List.range n)[i]? with
  | none => rw [q] at e; cases e
  | some j =>
    rw [q] at e
    obtain ⟨hj, ej⟩ := List.getElem?_eq_some_iff.mp q
    rw [List.getElem_range] at ej
    cases e
    rw [ej]
    simp [Rep]
def rngL (lo : Int) (n : Nat) : List D := (List.range n).map fun (i : Nat) => .int (lo + (i : Int))
def rngC (lo c : Int) (n : Nat) : List D := (List.range n).map fun (i : Nat) => .int (lo + (i : Int) * c)
def gRng1 : List D → (List D → Prop) → Prop
  | [.int j], Q => (-(2 ^ 62) ≤ j ∧ j < 2 ^ 62) ∧ Q (rngL 0 j.toNat)
  | _, _ => False
def gRng2 : List D → (List D → Prop) → Prop
  | [.int i, .int j], Q => (-(2 ^ 62) ≤ i ∧ i < 2 ^ 62 ∧ -(2 ^ 62) ≤ j ∧ j < 2 ^ 62) ∧ Q (rngL i (j - i).toNat)
  | _, _ => False
def gRng3 : List D → (List D → Prop) → Prop
  | [.int i, .int j, .int c], Q => ∃ n, RgC i j c n ∧ Q (rngC i c n)
  | _, _ => False
def wRng (g : List D → (List D → Prop) → Prop) (w : WA) : WA := fun G Om Q R => w G Om (fun ds O => g ds fun xs => Q xs O) R
variable {R : Rl}
theorem di_rng1 (hm : X.mg "range" = none) (h : DA X P [a] wl) (hg : Gl X "range" := by rfl) (hs : starEach [a] X.env = [(false, eval a X.env)] := by rfl) : DI X P R tg (.Call (.Name "range" p) [a] [] pos) (wRng gRng1 wl) := by
  refine ⟨pi_imp (pi_range1 hg hm h.pa hs) fun σ H K q => ?_⟩
  obtain ⟨G, W, Q0, R0, S, q, ex, hq⟩ := q
  refine ⟨G, W, _, R0, S, q, ex, fun ds O h1 vs H1 W1 s1 e1 r => ?_⟩
  match ds, h1, r with
  | [.int j], h1, r =>
    have := Reps.ofInts (ns := [j]) r
    subst this
    exact ⟨j, rfl, h1.1.1, h1.1.2, hq _ O h1.2 _ H1 W1 s1 e1 (wk_fn (f := fun i => 0 + (i : Int)) walk_range)⟩
theorem di_rng2 (hm : X.mg "range" = none) (h : DA X P [a, b] wl) (hg : Gl X "range" := by rfl) (hs : starEach [a, b] X.env = [(false, eval a X.env), (false, eval b X.env)] := by rfl) (hs2 : starEach [b] X.env = [(false, eval b X.env)] := by rfl) :
    DI X P R tg (.Call (.Name "range" p) [a, b] [] pos) (wRng gRng2 wl) := by
  refine ⟨pi_imp (pi_range2 hg hm h.pa hs hs2) fun σ H K q => ?_⟩
  obtain ⟨G, W, Q0, R0, S, q, ex, hq⟩ := q
  refine ⟨G, W, _, R0, S, q, ex, fun ds O h1 vs H1 W1 s1 e1 r => ?_⟩
  match ds, h1, r with
  | [.int i, .int j], h1, r =>
    have := Reps.ofInts (ns := [i, j]) r
    subst this
    exact ⟨i, j, rfl, h1.1, hq _ O h1.2 _ H1 W1 s1 e1 (wk_fn (f := fun k => i + (k : Int)) walk_range)⟩
theorem di_rng3 (hm : X.mg "range" = none) (h : DA X P [a, b, c] wl) (hg : Gl X "range" := by rfl) (hs : starEach [a, b, c] X.env = (false, eval a X.env) :: starEach [b, c] X.env := by rfl) (hpl : (backTo pos (starEach [b, c] X.env)).any (·.1) = false := by rfl) :
    DI X P R tg (.Call (.Name "range" p) [a, b, c] [] pos) (wRng gRng3 wl) := by
  refine ⟨pi_imp (pi_range3 hg hm h.pa hs hpl) fun σ H K q => ?_⟩
  obtain ⟨G, W, Q0, R0, S, q, ex, hq⟩ := q
  refine ⟨G, W, _, R0, S, q, ex, fun ds O h1 vs H1 W1 s1 e1 r => ?_⟩
  match ds, h1, r with
  | [.int i, .int j, .int c], h1, r =>
    have := Reps.ofInts (ns := [i, j, c]) r
    subst this
    obtain ⟨n, hn, h1⟩ := h1
    exact ⟨i, j, c, n, rfl, hn, hq _ O h1 _ H1 W1 s1 e1 (wk_fn (f := fun k => i + (k : Int) * c) walk_rangeC)⟩
end

/-! ### targets -/
/-- all but the slots of is are as they were -/
def Ag (is : List Nat) (σ σ' : L2.St) : Prop := σ'.length = σ.length ∧ ∀ j, j ∉ is → σ'[j]? = σ[j]?
theorem Ag.refl {is : List Nat} {σ : L2.St} : Ag is σ σ := ⟨rfl, fun _ _ => rfl⟩
theorem Ag.trans {is is' : List Nat} {σ σ1 σ2 : L2.St} (a : Ag is σ σ1) (b : Ag is' σ1 σ2) : Ag (is ++ is') σ σ2 :=
  ⟨b.1.trans a.1, fun j h => by
    rw [List.mem_append, not_or] at h
    exact (b.2 j h.2).trans (a.2 j h.1)⟩
theorem wipe_get (σ : L2.St) (j : Nat) : ∀ vs : List Nat, (wipe σ vs)[j]? = if j ∈ vs then (if j < σ.length then some none else none) else σ[j]?
  | [] => by simp [wipe]
  | v :: vs => by
    unfold wipe
    by_cases e : v = j
    · subst e
      rw [List.getElem?_set, if_pos rfl, wipe_length, if_pos List.mem_cons_self]
    · rw [List.getElem?_set_ne e, wipe_get σ j vs]
      have : (j ∈ v :: vs) = (j ∈ vs) := by
        simp only [List.mem_cons, eq_iff_iff]
        exact ⟨fun h => h.elim (fun h => absurd h.symm e) _root_.id, .inr⟩
      simp only [this]
theorem Ag.wipe {is vs : List Nat} {σ σ' : L2.St} (a : Ag is (wipe σ vs) σ') (h : ∀ i ∈ is, i ∈ vs) : L2.wipe σ' vs = L2.wipe σ vs := by
  refine List.ext_getElem? fun j => ?_
  rw [wipe_get, wipe_get]
  have l : σ'.length = σ.length := a.1.trans (wipe_length σ vs)
  rw [l]
  by_cases q : j ∈ vs
  · rw [if_pos q, if_pos q]
  · rw [if_neg q, if_neg q, a.2 j fun z => q (h j z), wipe_get, if_neg q]
def wipeG (G : Gam) : List Nat → Gam
  | [] => G
  | v :: vs => (wipeG G vs).set v .no
theorem wipeG_length (G : Gam) : ∀ vs : List Nat, (wipeG G vs).length = G.length
  | [] => rfl
  | v :: vs => by unfold wipeG; rw [List.length_set, wipeG_length G vs]
theorem wipeG_get (G : Gam) (j : Nat) : ∀ vs : List Nat, (wipeG G vs)[j]? = if j ∈ vs then (if j < G.length then some .no else none) else G[j]?
  | [] => by simp [wipeG]
  | v :: vs => by
    unfold wipeG
    by_cases e : v = j
    · subst e
      rw [List.getElem?_set, if_pos rfl, wipeG_length, if_pos List.mem_cons_self]
    · rw [List.getElem?_set_ne e, wipeG_get G j vs]
      have : (j ∈ v :: vs) = (j ∈ vs) := by
        simp only [List.mem_cons, eq_iff_iff]
        exact ⟨fun h => h.elim (fun h => absurd h.symm e) _root_.id, .inr⟩
      simp only [this]
section
variable {P : Pm} {G : Gam} {W : Wd} {σ : L2.St} {H : Hp}
theorem Sta.wipe (S : Sta P G W σ H) (vs : List Nat) : Sta P (wipeG G vs) W (wipe σ vs) H := by
  have out : ∀ (j : Nat) s, (wipeG G vs)[j]? = some s → s ≠ .no → j ∉ vs ∧ G[j]? = some s := fun j s e n => by
    rw [wipeG_get] at e
    by_cases q : j ∈ vs
    · rw [if_pos q] at e
      split at e
      · cases e; exact absurd rfl n
      · cases e
    · rw [if_neg q] at e
      exact ⟨q, e⟩
  refine ⟨S.st, by rw [wipeG_length, wipe_length, S.len], fun i s e => ?_, fun i j m m' a e1 e2 h1 h2 => ?_⟩
  · by_cases n : s = .no
    · subst n; trivial
    · obtain ⟨q, e⟩ := out i s e n
      rw [wipe_get, if_neg q]
      exact S.sl i s e
  · obtain ⟨q1, e1⟩ := out i _ e1 (by intro z; cases z)
    obtain ⟨q2, e2⟩ := out j _ e2 (by intro z; cases z)
    rw [wipe_get, if_neg q1] at h1
    rw [wipe_get, if_neg q2] at h2
    exact S.ap i j m m' a e1 e2 h1 h2
theorem Sta.set (S : Sta P G W σ H) {i : Nat} {d : D} {v : V} (r : Rep P.T W.F H d v) : Sta P (G.set i (.val d)) W (σ.set i (some v)) H := by
  have out : ∀ (j : Nat) m, (G.set i (.val d))[j]? = some (.own m) → j ≠ i ∧ G[j]? = some (.own m) := fun j m e => by
    by_cases q : i = j
    · subst q
      rw [List.getElem?_set, if_pos rfl] at e
      split at e <;> cases e
    · rw [List.getElem?_set_ne q] at e
      exact ⟨Ne.symm q, e⟩
  refine ⟨S.st, by simp [S.len], fun j s e => ?_, fun j k m m' a e1 e2 h1 h2 => ?_⟩
  · by_cases q : i = j
    · subst q
      rw [List.getElem?_set, if_pos rfl] at e
      split at e
      · rename_i hl
        cases e
        rw [List.getElem?_set, if_pos rfl, if_pos (by rw [← S.len]; exact hl)]
        exact ⟨v, rfl, r⟩
      · cases e
    · rw [List.getElem?_set_ne q] at e
      rw [List.getElem?_set_ne q]
      exact S.sl j s e
  · obtain ⟨q1, e1⟩ := out j m e1
    obtain ⟨q2, e2⟩ := out k m' e2
    rw [List.getElem?_set_ne (Ne.symm q1)] at h1
    rw [List.getElem?_set_ne (Ne.symm q2)] at h2
    exact S.ap j k m m' a e1 e2 h1 h2
end
abbrev WG := D → Gam → (Gam → Prop) → Prop
def tG (P : Pm) (is : List Nat) (f : WG) : TG := fun v σ H Q => ∃ G W d Q0, Sta P G W σ H ∧ Rep P.T W.F H d v ∧ f d G Q0 ∧ ∀ G', Q0 G' → ∀ σ', Sta P G' W σ' H → Ag is σ σ' → Q σ' H
def tGs (P : Pm) (is : List Nat) (f : List D → Gam → (Gam → Prop) → Prop) : TGs := fun vs σ H Q => ∃ G W ds Q0, Sta P G W σ H ∧ Reps P.T W.F H ds vs ∧ f ds G Q0 ∧ ∀ G', Q0 G' → ∀ σ', Sta P G' W σ' H → Ag is σ σ' → Q σ' H
structure DG (X : Cx) (P : Pm) (e : Expr) (is : List Nat) (f : WG) : Prop where
  pg : PG X e (tG P is f)
structure DGs (X : Cx) (P : Pm) (es : List Expr) (is : List Nat) (f : List D → Gam → (Gam → Prop) → Prop) : Prop where
  pg : PGs X es (tGs P is f)
section
variable {X : Cx} {P : Pm} {e : Expr} {es : List Expr} {pos : Pos}
theorem pg_imp {t t' : TG} (h : PG X e t) (i : ∀ v σ H Q, t' v σ H Q → t v σ H Q) : PG X e t' := ⟨fun pins s σ H v u Q I r q => h.run pins s σ H v u Q I r (i v σ H Q q)⟩
theorem pgs_imp {t t' : TGs} (h : PGs X es t) (i : ∀ v σ H Q, t' v σ H Q → t v σ H Q) : PGs X es t' := ⟨fun pins s σ H v u Q I r q => h.run pins s σ H v u Q I r (i v σ H Q q)⟩
def fName (i : Nat) : WG := fun d G Q => Q (G.set i (.val d))
def fNil : List D → Gam → (Gam → Prop) → Prop
  | [], G, Q => Q G
  | _ :: _, _, _ => False
def fCons (f : WG) (r : List D → Gam → (Gam → Prop) → Prop) : List D → Gam → (Gam → Prop) → Prop
  | [], _, _ => False
  | d :: ds, G, Q => f d G fun G' => r ds G' Q
def fTup (n : Nat) (f : List D → Gam → (Gam → Prop) → Prop) : WG
  | .tup ds, G, Q => ds.length = n ∧ f ds G Q
  | _, _, _ => False
theorem dg_name (hN : X.N.Nodup) (i : Nat) {x : Str} (hi : X.N[i]? = some x := by rfl) (hx : Loc X.env.scope x := by first | exact Or.inl rfl | exact Or.inr rfl) (hf : X.fn x = true ∨ X.env.scope.names.lookup x = some .local := by first | exact .inl rfl | exact .inr rfl) :
    DG X P (.Name x pos) [i] (fName i) := by
  refine ⟨pg_imp (pg_name hN hi hx hf) fun v σ H Q ⟨G, W, d, Q0, S, r, f, hq⟩ => ?_⟩
  exact hq _ f _ (S.set r) ⟨List.length_set, fun j hj => List.getElem?_set_ne fun z => hj (by rw [z]; exact List.mem_cons_self)⟩
theorem dgs_nil : DGs X P [] [] fNil := by
  refine ⟨pgs_imp pgs_nil fun vs σ H Q ⟨G, W, ds, Q0, S, r, f, hq⟩ => ?_⟩
  cases ds with
  | nil => exact ⟨by simpa [Reps] using r, hq _ f _ S .refl⟩
  | cons d ds => exact f.elim
theorem dgs_cons {is js : List Nat} {f : WG} {g : List D → Gam → (Gam → Prop) → Prop} (h1 : DG X P e is f) (h2 : DGs X P es js g) (hs : (assignEach (e :: es) X.env).map (·.2) = assign e X.env :: (assignEach es X.env).map (·.2) := by rfl) : DGs X P (e :: es) (is ++ js) (fCons f g) := by
  refine ⟨pgs_imp (pgs_cons h1.pg h2.pg hs) fun vs σ H Q ⟨G, W, ds, Q0, S, r, q, hq⟩ => ?_⟩
  cases ds with
  | nil => exact q.elim
  | cons d ds =>
    simp only [Reps] at r
    obtain ⟨v, vr, e, r1, r2⟩ := r
    refine ⟨v, vr, e, G, W, d, _, S, r1, q, fun G1 q1 σ1 S1 a1 => ⟨G1, W, ds, _, S1, r2, q1, fun G2 q2 σ2 S2 a2 => hq _ q2 _ S2 (a1.trans a2)⟩⟩
theorem dg_tup {n k : Nat} {is : List Nat} {f : List D → Gam → (Gam → Prop) → Prop} (hK : P.T.K = X.K) (hc : X.calm = true) (h : DGs X P es is f) (hn : (assignEach es X.env).length = n := by rfl) (hst : (assignEach es X.env).findIdx? (·.1) = none := by rfl) : DG X P (.Tuple es k pos) is (fTup n f) := by
  refine ⟨pg_imp (pg_tup hc h.pg hn hst) fun v σ H Q ⟨G, W, d, Q0, S, r, q, hq⟩ => ?_⟩
  cases d <;> try exact q.elim
  simp only [Rep] at r
  obtain ⟨a, vs, rfl, ha, r⟩ := r
  exact ⟨a, vs, rfl, hK ▸ tupAt ha, r.len.trans q.1, G, W, _, Q0, S, r, q.2, hq⟩
end
end N

set_option Elab.async false
set_option linter.all false
set_option maxRecDepth 100000
set_option maxHeartbeats 0
/-! NF: comprehensions -/
namespace N
open PySem PySem.Spec PyProof.Rows L2
section
variable {X : Cx} {P : Pm}
structure DTs (X : Cx) (P : Pm) (ifs : List Expr) (w : WT) : Prop where
  pt : PTs X ifs (tT P w)
def wtYes : WT := fun _ Om Q _ => Q true Om
theorem dts_nil : DTs X P [] wtYes := ⟨⟨fun pins s σ H Q I ⟨G, W, Q0, R0, S, q, ex, hq⟩ => pts_nil.run pins s σ H Q I (hq true _ q H W (Step.refl S.ok) rfl)⟩⟩
theorem dts_one {c : Expr} {w : WT} (h : DT X P c w) : DTs X P [c] w := ⟨pts_one h.pt⟩
def noR : RX := fun _ _ => False
theorem exNo {P : Pm} {W : Wd} {H : Hp} {σ : L2.St} : exOk P W H σ noR := fun _ _ h => h.elim
/-- the turns of a comprehension -/
def wTurns (f : WG) (wt : WT) (we : WE) (G : Gam) : List D → List D → Om → (List D → Om → Prop) → Prop
  | [], acc, O, Q => Q acc O
  | d :: r, acc, O, Q => acc.length < 16777216 ∧ f d G fun G2 => wt G2 O (fun b O2 => br b (we G2 O2 (fun x O3 => wTurns f wt we G r (acc ++ [x]) O3 Q) noR) (wTurns f wt we G r acc O2 Q)) noR
def wComp (wi : WA) (f : WG) (wt : WT) (we : WE) (vs : List Nat) : WF := fun G Om Q R => wi G Om (fun items O1 => wTurns f wt we (wipeG G vs) items [] O1 fun ds O2 => Q (.lst ds) O2) R
theorem lc_imp {wi : WA} {f : WG} {wt : WT} {we : WE} {vs is : List Nat} (hsub : ∀ i ∈ is, i ∈ vs) :
    ∀ σ H Q, tF P (wComp wi f wt we vs) σ H Q → tLc (tI P (RS P.T) wi) (tG P.noW is f) (tT P.noW wt) (tE P.noW we) vs σ H Q := fun σ H Q q => by
  obtain ⟨G, W, Q0, R0, S, q, ex, hq⟩ := q
  refine ⟨G, W, _, R0, S, q, ex, fun items O h1 J H1 W1 s1 e1 wk D hD => ?_⟩
  subst e1
  obtain ⟨Gd, Y, wk, hy⟩ := wk
  have S1 := S.step s1
  have n0 : Step P.T W1 H1 (W1.add D) (upd H1 D (.lst [])) := Step.newOwn s1.ok hD
  have npm0 : ¬ W1.pm D := fun z => s1.ok.trk D (s1.ok.sub D z) hD
  refine lc_it wk (fun i Hc => ∃ Wt acc vacc, Step P.T W1 H1 Wt Hc ∧ Wt.F D ∧ ¬ Wt.pm D ∧ Hc D = some (.lst vacc) ∧ Reps P.T Wt.F Hc acc vacc ∧ wTurns f wt we (wipeG G vs) (items.drop i) acc Wt.Om fun ds O2 => Q0 (.lst ds) O2)
    ⟨W1.add D, [], [], n0, .inr rfl, npm0, upd_same, .nil, h1⟩ (fun i Hc _ ⟨Wt, acc, vacc, st, _⟩ => (hy Wt Hc st).1) (fun i x Hc H' hi ⟨Wt, acc, vacc, st, hF, hpm, hl, hr, ht⟩ hyx => ?_) (fun Hc ⟨Wt, acc, vacc, st, hF, hpm, hl, hr, ht⟩ => ?_)
  · obtain ⟨_, hy2⟩ := hy Wt Hc st
    have gi : items[i]? = some items[i] := List.getElem?_eq_getElem hi
    obtain ⟨nw, rx⟩ := hy2 i _ gi x H' hyx
    have dr : items.drop i = items[i] :: items.drop (i + 1) := List.drop_eq_getElem_cons hi
    rw [dr] at ht
    obtain ⟨hsz, ht⟩ := ht
    have st' : Step P.T W1 H1 Wt H' := st.trans (Step.ext st.ok nw)
    have S2 : Sta P.noW (wipeG G vs) Wt (wipe σ vs) H' := ((S1.step st').noW).wipe vs
    refine ⟨wipeG G vs, Wt, items[i], _, S2, rx, ht, fun G2 h2 σ2 S3 ag => ⟨ag.wipe hsub, ?_⟩⟩
    refine ⟨G2, Wt, _, noR, S3, h2, exNo, fun b O2 h3 H3 W3 s3 e3 => ?_⟩
    subst e3
    have hl3 : H3 D = some (.lst vacc) := s3.keep D _ (nw D _ hl) hpm
    have npm3 : ¬ W3.pm D := s3.pm (nw D _ hl) hpm
    have hr3 : Reps P.T W3.F H3 acc vacc := Reps.kp (s3.kp st'.ok) _ _ (Reps.kp ((Step.ext st.ok nw).kp st.ok) _ _ hr)
    have st3 := st'.trans s3
    cases b with
    | false => exact ⟨W3, acc, vacc, st3, s3.sub D hF, npm3, hl3, hr3, h3⟩
    | true =>
      rw [if_pos rfl]
      refine ⟨G2, W3, _, noR, S3.step s3, h3, exNo, fun d O4 h4 y H4 W4 s4 e4 ry => ?_⟩
      subst e4
      have hl4 : H4 D = some (.lst vacc) := s4.keep D _ hl3 npm3
      have npm4 : ¬ W4.pm D := s4.pm hl3 npm3
      have hF4 := s4.sub D (s3.sub D hF)
      have hr4 : Reps P.T W4.F H4 acc vacc := Reps.kp (s4.kp s3.ok) _ _ hr3
      refine ⟨vacc, hl4, Nat.lt_of_lt_of_le (by rw [hr4.len]; exact hsz) (by decide), W4, acc ++ [d], vacc ++ [y], (st3.trans s4).mutO hD hF4 npm4, hF4, npm4, upd_same, ?_, h4⟩
      exact Reps.kp (Kp.mut hF4) _ _ (hr4.app (.cons ry .nil))
  · rw [List.drop_length] at ht
    have nOm : Wt.Om D = none := by
      cases q : Wt.Om D with
      | none => rfl
      | some m => exact (hpm ⟨D, by rw [q]; simp, (st.ok.at_ D m q).2⟩).elim
    exact hq _ _ ht D Hc Wt (s1.trans st) rfl (s1.back hD) hF hpm nOm ⟨vacc, hl, hr⟩
variable {elt tg iter : Expr} {ifs : List Expr} {scope : Scope} {own : List (Str × Nat)} {pos : Pos} {wi : WA} {f : WG} {wt : WT} {we : WE} {is : List Nat}
theorem df_lc (hc : X.calm = true) (hN : X.N.Nodup) (own : List (Str × Nat)) (hi : DI X P (RS P.T) tg iter wi)
    (hg : ∀ (s : Shared) (H : Hp) (C : Addr) (cl : List (Str × Addr)) (fp : List Addr), DG (X.blk s H scope (compEnvC scope cl C X.env) fp) P.noW tg is f)
    (ht : ∀ (s : Shared) (H : Hp) (C : Addr) (cl : List (Str × Addr)) (fp : List Addr), DTs (X.blk s H scope (compEnvC scope cl C X.env) fp) P.noW ifs wt)
    (he : ∀ (s : Shared) (H : Hp) (C : Addr) (cl : List (Str × Addr)) (fp : List Addr), DE (X.blk s H scope (compEnvC scope cl C X.env) fp) P.noW elt we)
    (ok : blkC X.N X.env.scope scope own = true := by kernel_rfl) (hsub : ∀ i ∈ is, i ∈ own.map (·.2) := by decide) (hs : ∀ x, foldedSetIterable iter X.env x = pure x := by intro _; rfl) :
    DF X P (.ListComp elt [⟨tg, iter, ifs, 0⟩] scope pos) (wComp wi f wt we (own.map (·.2))) :=
  ⟨pe_imp (pe_lc hc hN hi.pi (blkOk_by ok) (fun s H C cl fp => (hg s H C cl fp).pg) (fun s H C cl fp => (ht s H C cl fp).pt) (fun s H C cl fp => (he s H C cl fp).pe) hs) (lc_imp hsub)⟩
end
end N

set_option Elab.async false
set_option linter.all false
set_option maxRecDepth 100000
set_option maxHeartbeats 0
/-! NG: statements, defs, calls -/
namespace N
open PySem PySem.Spec PyProof.Rows L2
structure Post where
  nx : Gam → Om → Prop
  rt : D → Om → Prop
  bk : Gam → Om → Prop
  ct : Gam → Om → Prop
  ex : Exn → Gam → Om → Prop
abbrev WS := Gam → Om → Post → Prop
structure PostOk (P : Pm) (W : Wd) (H : Hp) (Po : Post) (E : Ends) (rt : VK) (bk ct : L2.St → Hp → Prop) : Prop where
  nx : ∀ G' O, Po.nx G' O → ∀ σ' H' W', Kp W.F H W'.F H' → Sta P G' W' σ' H' → W'.Om = O → E.nx σ' H'
  rt : ∀ d O, Po.rt d O → ∀ v H' W', Step P.T P.W0 P.H0 W' H' → W'.Om = O → Rep P.T W'.F H' d v → rt v H'
  bk : ∀ G' O, Po.bk G' O → ∀ σ' H' W', Kp W.F H W'.F H' → Sta P G' W' σ' H' → W'.Om = O → bk σ' H'
  ct : ∀ G' O, Po.ct G' O → ∀ σ' H' W', Kp W.F H W'.F H' → Sta P G' W' σ' H' → W'.Om = O → ct σ' H'
  ex : ∀ x G' O, Po.ex x G' O → ∀ cls dd σ' H' W', Sta P G' W' σ' H' → W'.Om = O → XRep P.T W'.F H' x cls dd → P.W cls dd σ' H'
def tS (P : Pm) (w : WS) : TS := fun E σ H => ∃ G W Po, Sta P G W σ H ∧ w G W.Om Po ∧ PostOk P W H Po E E.rt E.bk E.ct
structure DS (X : Cx) (P : Pm) (s : Stmt) (w : WS) : Prop where
  ps : PS X s (tS P w)
structure DSs (X : Cx) (P : Pm) (s : List Stmt) (w : WS) : Prop where
  ps : PSs X s (tS P w)
theorem ps_imp {X : Cx} {s : Stmt} {t t' : TS} (h : PS X s t) (i : ∀ D σ H, t' D σ H → t D σ H) : PS X s t' := ⟨fun pins s σ H D I q => h.run pins s σ H D I (i D σ H q)⟩
theorem pss_imp {X : Cx} {s : List Stmt} {t t' : TS} (h : PSs X s t) (i : ∀ D σ H, t' D σ H → t D σ H) : PSs X s t' := ⟨fun pins s σ H D I q => h.run pins s σ H D I (i D σ H q)⟩
section
variable {P : Pm} {G : Gam} {W W' : Wd} {σ : L2.St} {H H' : Hp} {Po : Post} {E : Ends} {rt : VK} {bk ct : L2.St → Hp → Prop}
theorem PostOk.exE (h : PostOk P W H Po E rt bk ct) (S : Sta P G W σ H) : exOk P W H σ fun x O => Po.ex x G O :=
  fun x O q cls dd H' W' s e r => h.ex x G O q cls dd σ H' W' (S.step s) e r
/-- from a later state on -/
theorem PostOk.kp (h : PostOk P W H Po E rt bk ct) (k : Kp W.F H W'.F H') : PostOk P W' H' Po E rt bk ct :=
  ⟨fun G' O q σ' H2 W2 k2 => h.nx G' O q σ' H2 W2 (k.trans k2), h.rt, fun G' O q σ' H2 W2 k2 => h.bk G' O q σ' H2 W2 (k.trans k2), fun G' O q σ' H2 W2 k2 => h.ct G' O q σ' H2 W2 (k.trans k2), h.ex⟩
end
section
variable {X : Cx} {P : Pm} {s : Stmt} {rest : List Stmt} {e a b c : Expr} {w wa wb : WE} {u v : WS} {pos pos' : Pos}
def wSeq (u v : WS) : WS := fun G Om Po => u G Om { Po with nx := fun G' O => v G' O Po }
def wNext : WS := fun G Om Po => Po.nx G Om
theorem dss_nil : DSs X P [] wNext := ⟨pss_imp pss_nil fun D σ H ⟨G, W, Po, S, q, h⟩ => h.nx G _ q σ H W Kp.refl S rfl⟩
theorem dss_cons (h1 : DS X P s u) (h2 : DSs X P rest v) : DSs X P (s :: rest) (wSeq u v) := by
  refine ⟨pss_imp (pss_cons h1.ps h2.ps) fun D σ H ⟨G, W, Po, S, q, h⟩ => ?_⟩
  exact ⟨G, W, _, S, q, ⟨fun G' O q' σ' H' W' k S' e => ⟨G', W', Po, S', by rw [e]; exact q', h.kp k⟩, h.rt, h.bk, h.ct, h.ex⟩⟩
theorem dss_one (h1 : DS X P s u) : DSs X P [s] u := ⟨pss_one h1.ps⟩
theorem ds_pass : DS X P (.Pass pos) wNext := ⟨ps_imp ps_pass fun D σ H ⟨G, W, Po, S, q, h⟩ => h.nx G _ q σ H W Kp.refl S rfl⟩
def wBrk : WS := fun G Om Po => Po.bk G Om
def wCnt : WS := fun G Om Po => Po.ct G Om
theorem ds_brk : DS X P (.Break pos) wBrk := ⟨ps_imp ps_break fun D σ H ⟨G, W, Po, S, q, h⟩ => h.bk G _ q σ H W Kp.refl S rfl⟩
theorem ds_cnt : DS X P (.Continue pos) wCnt := ⟨ps_imp ps_continue fun D σ H ⟨G, W, Po, S, q, h⟩ => h.ct G _ q σ H W Kp.refl S rfl⟩
def wNev : WS := fun _ _ _ => False
theorem ds_never : DS X P s wNev := ⟨ps_imp ps_never fun D σ H ⟨G, W, Po, S, q, h⟩ => q⟩
theorem dss_never {st : List Stmt} : DSs X P st wNev := ⟨pss_imp pss_never fun D σ H ⟨G, W, Po, S, q, h⟩ => q⟩
/-- a value that is dropped -/
def wDrop (w : WE) : WS := fun G Om Po => w G Om (fun _ O => Po.nx G O) fun x O => Po.ex x G O
theorem ds_expr (h : DE X P e w) (hs : swapsWith e none pos.line X.env = pure false := by rfl) : DS X P (.Expr e pos) (wDrop w) :=
  ⟨ps_imp (ps_expr h.pe hs) fun D σ H ⟨G, W, Po, S, q, h⟩ => ⟨G, W, _, _, S, q, h.exE S, fun d O q' v H' W' s' e r => h.nx G O q' σ H' W' (s'.kp S.ok) (S.step s') e⟩⟩
def wRet (w : WE) : WS := fun G Om Po => w G Om Po.rt fun x O => Po.ex x G O
theorem ds_ret (h : DE X P e w) : DS X P (.Return (some e) pos) (wRet w) :=
  ⟨ps_imp (ps_ret h.pe) fun D σ H ⟨G, W, Po, S, q, h⟩ => ⟨G, W, _, _, S, q, h.exE S, fun d O q' v H' W' s' e r => h.rt d O q' v H' W' (S.st.trans s') e r⟩⟩
def wRetN : WS := fun _ Om Po => Po.rt .non Om
theorem ds_retN : DS X P (.Return none pos) wRetN := ⟨ps_imp ps_retN fun D σ H ⟨G, W, Po, S, q, h⟩ => h.rt _ _ q _ H W S.st rfl (by simp [Rep])⟩
/-- an own thing is handed back: it is own no more -/
def wRetO (i : Nat) : WS := fun G Om Po => match getSl G i with | .val d => Po.rt d Om | .own m => Po.rt m.see Om | .no => False
theorem own_out {G : Gam} {W : Wd} {σ : L2.St} {H : Hp} {a : Addr} {m : MO} (S : Sta P G W σ H) (o : OwnAt P W H a m) (ok0 : WOk P.T P.W0 P.H0) : Step P.T P.W0 P.H0 (W.del a) H ∧ Rep P.T (W.del a).F H m.see (.ref a) :=
  ⟨S.st.del ok0 o.n o.p, rep_see (fun z => z.2 rfl) (noFp (fp := fun _ => False) (Kp.less fun b h => h.1) rfl o.r)⟩
theorem ds_retO (i : Nat) {x : Str} {p2 : Pos} (ok0 : WOk P.T P.W0 P.H0) (hN : X.N[i]? = some x := by rfl) (hv : Vis X.env.scope x := by first | exact Or.inl rfl | exact Or.inr (Or.inl rfl) | exact Or.inr (Or.inr rfl)) (hd : (x == ("__debug__" : Str)) = false := by decide)
    (hcd : (x == ("__classdict__" : Str)) = false := by decide) : DS X P (.Return (some (.Name x p2)) pos) (wRetO i) := by
  refine ⟨ps_imp (ps_ret (pe_var hN hv hd hcd)) fun D σ H ⟨G, W, Po, S, q, h⟩ => ?_⟩
  unfold wRetO at q
  split at q
  · rename_i d e
    have g := getSl_get G i (by rw [e]; intro z; cases z)
    rw [e] at g
    obtain ⟨v, e1, r⟩ := S.sl i _ g
    exact ⟨v, e1, h.rt d _ q v H W S.st rfl r⟩
  · rename_i m e
    have g := getSl_get G i (by rw [e]; intro z; cases z)
    rw [e] at g
    obtain ⟨a, e1, o⟩ := S.sl i _ g
    obtain ⟨st, r⟩ := own_out S o ok0
    exact ⟨.ref a, e1, h.rt _ _ q _ H (W.del a) st rfl r⟩
  · exact q.elim
/-- name = value -/
def wSet (i : Nat) (w : WE) : WS := fun G Om Po => w G Om (fun d O => Po.nx (G.set i (.val d)) O) fun x O => Po.ex x G O
theorem set_imp {i : Nat} : ∀ D σ H, tS P (wSet i w) D σ H → tAsg (tE P w) (gName i) D σ H := fun D σ H ⟨G, W, Po, S, q, h⟩ =>
  ⟨G, W, _, _, S, q, h.exE S, fun d O q' v H' W' s' e r => h.nx _ O q' _ H' W' (s'.kp S.ok) ((S.step s').set r) e⟩
theorem ds_set (hN : X.N.Nodup) (i : Nat) {x : Str} (h : DE X P e w) (hi : X.N[i]? = some x := by rfl) (hx : Loc X.env.scope x := by first | exact Or.inl rfl | exact Or.inr rfl) (hs : swapsWith e (some (.Name x pos')) pos.line X.env = pure false := by rfl) (hf : X.fn x = true ∨ X.env.scope.names.lookup x = some .local := by first | exact .inl rfl | exact .inr rfl) :
    DS X P (.Assign [.Name x pos'] e pos) (wSet i w) := ⟨ps_imp (ps_set hN hi hx h.pe hs hf) set_imp⟩
/-- name = a new thing that is to be changed later -/
def wSetO (i : Nat) (w : WF) : WS := fun G Om Po => w G Om (fun m O => Po.nx (G.set i (.own m)) O) fun x O => Po.ex x G O
theorem Sta.setO {G : Gam} {W W' : Wd} {σ : L2.St} {H H' : Hp} (S : Sta P G W σ H) {i : Nat} {p : Addr} {m : MO} (s : Step P.T W H W' H') (n1 : H p = none) (a1 : W'.F p) (a2 : ¬ W'.pm p) (a3 : W'.Om p = none) (r : MRep P.T W'.F (fun _ => False) H' p m) :
    Sta P (G.set i (.own m)) W' (σ.set i (some (.ref p))) H' := by
  have S1 := S.step s
  have h0 : P.H0 p = none := S.st.back n1
  have ne : ∀ (j : Nat) m' a, G[j]? = some (.own m') → σ[j]? = some (some (.ref a)) → a ≠ p := fun j m' a e1 e2 z => by
    obtain ⟨b, e3, o⟩ := S.sl j _ e1
    rw [e2] at e3
    cases e3
    obtain ⟨u, q⟩ := o.there S.ok
    rw [z, n1] at q; cases q
  refine ⟨S1.st, by simp [S.len], fun j x e => ?_, fun j k m1 m2 a e1 e2 h1 h2 => ?_⟩
  · by_cases q : i = j
    · subst q
      rw [List.getElem?_set, if_pos rfl] at e
      split at e
      · rename_i hl
        cases e
        rw [List.getElem?_set, if_pos rfl, if_pos (by rw [← S.len]; exact hl)]
        exact ⟨p, rfl, ⟨a1, a3, a2, h0, r⟩⟩
      · cases e
    · rw [List.getElem?_set_ne q] at e
      rw [List.getElem?_set_ne q]
      exact S1.sl j x e
  · by_cases q : i = j <;> by_cases q2 : i = k
    · rw [← q, ← q2]
    · subst q
      rw [List.getElem?_set_ne q2] at e2 h2
      rw [List.getElem?_set, if_pos rfl] at h1
      split at h1
      · cases h1
        exact absurd rfl (ne k m2 _ e2 h2)
      · cases h1
    · subst q2
      rw [List.getElem?_set_ne q] at e1 h1
      rw [List.getElem?_set, if_pos rfl] at h2
      split at h2
      · cases h2
        exact absurd rfl (ne j m1 _ e1 h1)
      · cases h2
    · rw [List.getElem?_set_ne q] at e1 h1
      rw [List.getElem?_set_ne q2] at e2 h2
      exact S.ap j k m1 m2 a e1 e2 h1 h2
theorem setO_imp {i : Nat} {w : WF} : ∀ D σ H, tS P (wSetO i w) D σ H → tAsg (tF P w) (gName i) D σ H := fun D σ H ⟨G, W, Po, S, q, h⟩ =>
  ⟨G, W, _, _, S, q, h.exE S, fun m O q' p H' W' s' e n1 a1 a2 a3 r => h.nx _ O q' _ H' W' (s'.kp S.ok) (S.setO s' n1 a1 a2 a3 r) e⟩
theorem setF_imp {i : Nat} {w : WF} : ∀ D σ H, tS P (wSet i (wFrz w)) D σ H → tAsg (tF P w) (gName i) D σ H := fun D σ H ⟨G, W, Po, S, q, h⟩ =>
  ⟨G, W, _, _, S, q, h.exE S, fun m O q' p H' W' s' e n1 a1 a2 a3 r => h.nx _ O q' _ H' (W'.del p) ((s'.del S.ok n1 a2).kp S.ok) ((S.step (s'.del S.ok n1 a2)).set (rep_see (fun z => z.2 rfl) (noFp (fp := fun _ => False) (Kp.less fun b h => h.1) rfl r))) e⟩
theorem ds_setO (hN : X.N.Nodup) (i : Nat) {w : WF} {x : Str} (h : DF X P e w) (hi : X.N[i]? = some x := by rfl) (hx : Loc X.env.scope x := by first | exact Or.inl rfl | exact Or.inr rfl) (hs : swapsWith e (some (.Name x pos')) pos.line X.env = pure false := by rfl) (hf : X.fn x = true ∨ X.env.scope.names.lookup x = some .local := by first | exact .inl rfl | exact .inr rfl) :
    DS X P (.Assign [.Name x pos'] e pos) (wSetO i w) := ⟨ps_imp (ps_set hN hi hx h.pe hs hf) setO_imp⟩
/-- name = [.. for ..] on one line -/
theorem ps_lc {elt tg iter : Expr} {ifs : List Expr} {scope : Scope} {spos lpos : Pos} {wi : WA} {f : WG} {wt : WT} {we : WE} {is : List Nat} {y : Str} {py : Pos} (hc : X.calm = true) (hN : X.N.Nodup) (i : Nat) (own : List (Str × Nat)) (hi : DI X P (RS P.T) tg iter wi)
    (hg : ∀ (s : Shared) (H : Hp) (C : Addr) (cl : List (Str × Addr)) (fp : List Addr), DG (X.blk s H scope (compEnvC scope cl C X.env) fp) P.noW tg is f)
    (ht : ∀ (s : Shared) (H : Hp) (C : Addr) (cl : List (Str × Addr)) (fp : List Addr), DTs (X.blk s H scope (compEnvC scope cl C X.env) fp) P.noW ifs wt)
    (he : ∀ (s : Shared) (H : Hp) (C : Addr) (cl : List (Str × Addr)) (fp : List Addr), DE (X.blk s H scope (compEnvC scope cl C X.env) fp) P.noW elt we)
    (hy : X.N[i]? = some y) (hyl : X.env.scope.names.lookup y = some .local) (hsw : swapsWith (.ListComp elt [⟨tg, iter, ifs, 0⟩] scope lpos) (some (.Name y py)) spos.line X.env = pure true)
    (ok : blkC X.N X.env.scope scope own = true) (hsub : ∀ i ∈ is, i ∈ own.map (·.2)) (hs : ∀ x, foldedSetIterable iter X.env x = pure x) {t : TS} (himp : ∀ D σ H, t D σ H → tAsg (tF P (wComp wi f wt we (own.map (·.2)))) (gName i) D σ H) :
    PS X (.Assign [.Name y py] (.ListComp elt [⟨tg, iter, ifs, 0⟩] scope lpos) spos) t :=
  ps_imp (ps_setLc hc hN hy hyl hsw hi.pi (blkOk_by ok) (fun s H C cl fp => (hg s H C cl fp).pg) (fun s H C cl fp => (ht s H C cl fp).pt) (fun s H C cl fp => (he s H C cl fp).pe) hs) fun D σ H q => lc_imp hsub σ H _ (himp D σ H q)
theorem ds_setLc {elt tg iter : Expr} {ifs : List Expr} {scope : Scope} {spos lpos : Pos} {wi : WA} {f : WG} {wt : WT} {we : WE} {is : List Nat} {y : Str} {py : Pos} (hc : X.calm = true) (hN : X.N.Nodup) (i : Nat) (own : List (Str × Nat)) (hi : DI X P (RS P.T) tg iter wi)
    (hg : ∀ (s : Shared) (H : Hp) (C : Addr) (cl : List (Str × Addr)) (fp : List Addr), DG (X.blk s H scope (compEnvC scope cl C X.env) fp) P.noW tg is f)
    (ht : ∀ (s : Shared) (H : Hp) (C : Addr) (cl : List (Str × Addr)) (fp : List Addr), DTs (X.blk s H scope (compEnvC scope cl C X.env) fp) P.noW ifs wt)
    (he : ∀ (s : Shared) (H : Hp) (C : Addr) (cl : List (Str × Addr)) (fp : List Addr), DE (X.blk s H scope (compEnvC scope cl C X.env) fp) P.noW elt we)
    (hy : X.N[i]? = some y := by rfl) (hyl : X.env.scope.names.lookup y = some .local := by rfl) (hsw : swapsWith (.ListComp elt [⟨tg, iter, ifs, 0⟩] scope lpos) (some (.Name y py)) spos.line X.env = pure true := by exact sw_true rfl rfl rfl (by decide +kernel))
    (ok : blkC X.N X.env.scope scope own = true := by kernel_rfl) (hsub : ∀ i ∈ is, i ∈ own.map (·.2) := by decide) (hs : ∀ x, foldedSetIterable iter X.env x = pure x := by intro _; rfl) :
    DS X P (.Assign [.Name y py] (.ListComp elt [⟨tg, iter, ifs, 0⟩] scope lpos) spos) (wSet i (wFrz (wComp wi f wt we (own.map (·.2))))) := ⟨ps_lc hc hN i own hi hg ht he hy hyl hsw ok hsub hs setF_imp⟩
theorem ds_setLcO {elt tg iter : Expr} {ifs : List Expr} {scope : Scope} {spos lpos : Pos} {wi : WA} {f : WG} {wt : WT} {we : WE} {is : List Nat} {y : Str} {py : Pos} (hc : X.calm = true) (hN : X.N.Nodup) (i : Nat) (own : List (Str × Nat)) (hi : DI X P (RS P.T) tg iter wi)
    (hg : ∀ (s : Shared) (H : Hp) (C : Addr) (cl : List (Str × Addr)) (fp : List Addr), DG (X.blk s H scope (compEnvC scope cl C X.env) fp) P.noW tg is f)
    (ht : ∀ (s : Shared) (H : Hp) (C : Addr) (cl : List (Str × Addr)) (fp : List Addr), DTs (X.blk s H scope (compEnvC scope cl C X.env) fp) P.noW ifs wt)
    (he : ∀ (s : Shared) (H : Hp) (C : Addr) (cl : List (Str × Addr)) (fp : List Addr), DE (X.blk s H scope (compEnvC scope cl C X.env) fp) P.noW elt we)
    (hy : X.N[i]? = some y := by rfl) (hyl : X.env.scope.names.lookup y = some .local := by rfl) (hsw : swapsWith (.ListComp elt [⟨tg, iter, ifs, 0⟩] scope lpos) (some (.Name y py)) spos.line X.env = pure true := by exact sw_true rfl rfl rfl (by decide +kernel))
    (ok : blkC X.N X.env.scope scope own = true := by kernel_rfl) (hsub : ∀ i ∈ is, i ∈ own.map (·.2) := by decide) (hs : ∀ x, foldedSetIterable iter X.env x = pure x := by intro _; rfl) :
    DS X P (.Assign [.Name y py] (.ListComp elt [⟨tg, iter, ifs, 0⟩] scope lpos) spos) (wSetO i (wComp wi f wt we (own.map (·.2)))) := ⟨ps_lc hc hN i own hi hg ht he hy hyl hsw ok hsub hs setO_imp⟩
/-- target = value, the target a tuple of names -/
def wAsg (w : WE) (f : WG) : WS := fun G Om Po => w G Om (fun d O => f d G fun G' => Po.nx G' O) fun x O => Po.ex x G O
theorem ds_asg {tg : Expr} {is : List Nat} {f : WG} (he : DE X P e w) (hg : DG X P tg is f) (hs : swapsWithSole [tg] e pos.line X.env = pure false := by rfl) (hw : swappedStores [tg] e X.env = pure none := by rfl) (h1 : (assignEach [tg] X.env).map (·.2) = [assign tg X.env] := by rfl) : DS X P (.Assign [tg] e pos) (wAsg w f) :=
  ⟨ps_imp (ps_asg he.pe hg.pg hs hw h1) fun D σ H ⟨G, W, Po, S, q, h⟩ => ⟨G, W, _, _, S, q, h.exE S, fun d O q' v H' W' s' e r => ⟨G, W', d, _, S.step s', r, q', fun G' q2 σ' S' _ => h.nx _ O q2 σ' H' W' (s'.kp S.ok) S' e⟩⟩⟩
/-- a, b = x, y -/
def wPar (i j : Nat) (w : WA) : WS := fun G Om Po => w G Om (fun ds O => match ds with | [d, d'] => Po.nx ((G.set i (.val d)).set j (.val d')) O | _ => False) fun x O => Po.ex x G O
theorem ds_par (i j : Nat) {x y : Str} {px py pt : Pos} {kt k2 pt2} {wl : WA} (hc : X.calm = true) (hN : X.N.Nodup) (ha : DA X P [a, b] wl) (hi : X.N[i]? = some x := by rfl) (hj : X.N[j]? = some y := by rfl) (hij : i ≠ j := by decide)
    (hx : X.env.scope.names.lookup x = some .local := by rfl) (hy : X.env.scope.names.lookup y = some .local := by rfl)
    (hw : swappedStores [.Tuple [.Name x px, .Name y py] kt pt] (.Tuple [a, b] k2 pt2) X.env = pure (some [x, y]) := by rfl)
    (hs : swapsWithSole [.Tuple [.Name x px, .Name y py] kt pt] (.Tuple [a, b] k2 pt2) pos.line X.env = pure false := by rfl) : DS X P (.Assign [.Tuple [.Name x px, .Name y py] kt pt] (.Tuple [a, b] k2 pt2) pos) (wPar i j wl) := by
  refine ⟨ps_imp (ps_par hc hN hi hj hij hx hy ha.pa hw hs) fun D σ H ⟨G, W, Po, S, q, h⟩ => ⟨G, W, _, _, S, q, h.exE S, fun ds O q' vs H' W' s' e r => ?_⟩⟩
  match ds, q' with
  | [d, d'], q' =>
    simp only [Reps] at r
    obtain ⟨v, _, e1, r1, v', _, e2, r2, e3⟩ := r
    subst e3 e2 e1
    exact ⟨v, v', rfl, h.nx _ O q' _ H' W' (s'.kp S.ok) (((S.step s').set r1).set r2) e⟩
/-- name op= value -/
def wAug (i : Nat) (g : GD) (w : WE) : WS := fun G Om Po => match getSl G i with
  | .val d => w G Om (fun y O => g d y fun z => Po.nx (G.set i (.val z)) O) fun x O => Po.ex x G O
  | _ => False
theorem ds_aug (hN : X.N.Nodup) (i : Nat) {x : Str} {op : Operator} {g : GD} (ho : OpD X P.T (inplaceOp op) g) (h : DE X P e w) (hi : X.N[i]? = some x := by rfl) (hx : Loc X.env.scope x := by first | exact Or.inl rfl | exact Or.inr rfl) (hf : X.fn x = true ∨ X.env.scope.names.lookup x = some .local := by first | exact .inl rfl | exact .inr rfl) :
    DS X P (.AugAssign (.Name x pos') op e pos) (wAug i g w) := by
  refine ⟨ps_imp (ps_aug hN hi hx h.pe ho hf) fun D σ H ⟨G, W, Po, S, q, h⟩ => ?_⟩
  unfold wAug at q
  split at q
  · rename_i d ed
    have gg := getSl_get G i (by rw [ed]; intro z; cases z)
    rw [ed] at gg
    obtain ⟨v, e1, r⟩ := S.sl i _ gg
    refine ⟨v, e1, G, W, _, _, S, q, h.exE S, fun y O q' u H' W' s' e ry => ?_⟩
    refine ⟨W'.F, W'.pm, d, y, _, (r.t S.ok.sub).step s' S.ok, ry.t s'.ok.sub, s'.ok.trk, q', fun z hz v2 H2 xt rz => ?_⟩
    exact h.nx _ O hz _ H2 W' ((s'.trans (Step.ext s'.ok xt)).kp S.ok) ((S.step (s'.trans (Step.ext s'.ok xt))).set rz) e
  · exact q.elim
def wIfS (c : WT) (u v : WS) : WS := fun G Om Po => c G Om (fun b O => br b (u G O Po) (v G O Po)) fun x O => Po.ex x G O
theorem ds_if {sa sb : List Stmt} {wc : WT} (hc : DT X P c wc) (ha : DSs X P sa u) (hb : DSs X P sb v) : DS X P (.If c sa sb pos) (wIfS wc u v) := by
  refine ⟨ps_imp (ps_if hc.pt ha.ps hb.ps) fun D σ H ⟨G, W, Po, S, q, h⟩ => ⟨G, W, _, _, S, q, h.exE S, fun k O q' H' W' s' e => ?_⟩⟩
  subst e
  cases k with
  | true => exact ⟨G, W', Po, S.step s', q', h.kp (s'.kp S.ok)⟩
  | false => exact ⟨G, W', Po, S.step s', q', h.kp (s'.kp S.ok)⟩
/-- while, by its number of turns -/
def wWhN (c : WT) (u : WS) : Nat → WS
  | 0 => fun _ _ _ => False
  | n + 1 => fun G Om Po => c G Om (fun b O => br b (u G O { Po with nx := fun G' O' => wWhN c u n G' O' Po, ct := fun G' O' => wWhN c u n G' O' Po, bk := Po.nx }) (Po.nx G O)) fun x O => Po.ex x G O
def wWh (c : WT) (u : WS) : WS := fun G Om Po => ∃ n, wWhN c u n G Om Po
theorem ds_while {sb : List Stmt} {wc : WT} (hp : PassesOwn (model X.prog X.w) X.A X.env X.xe) (hc : DT X P c wc) (hb : DSs X P sb u) : DS X P (.While c sb [] pos) (wWh wc u) := by
  refine ⟨ps_imp (ps_while hp hc.pt hb.ps) fun D σ H ⟨G, W, Po, S, ⟨n, q⟩, h⟩ => ?_⟩
  refine ⟨fun m σ' H' => ∃ G' W', Kp W.F H W'.F H' ∧ Sta P G' W' σ' H' ∧ wWhN wc u m G' W'.Om Po, ⟨n, G, W, Kp.refl, S, q⟩, fun m σ' H' ⟨G', W', k, S', q'⟩ => ?_⟩
  cases m with
  | zero => exact q'.elim
  | succ m =>
    have h' := h.kp k
    refine ⟨G', W', _, _, S', q', h'.exE S', fun b O q2 H2 W2 s2 e2 => ?_⟩
    subst e2
    have k2 := s2.kp S'.ok
    cases b with
    | false => exact h'.nx _ _ q2 _ H2 W2 k2 (S'.step s2) rfl
    | true =>
      refine ⟨fun σ3 H3 => ∃ G3 W3, Kp W.F H W3.F H3 ∧ Sta P G3 W3 σ3 H3 ∧ wWhN wc u m G3 W3.Om Po, fun σ3 H3 h3 => ⟨m, Nat.lt_succ_self m, h3⟩, ?_⟩
      have h2 := h'.kp k2
      refine ⟨G', W2, _, S'.step s2, q2, ⟨fun G3 O3 q3 σ3 H3 W3 k3 S3 e3 => ⟨G3, W3, (k.trans k2).trans k3, S3, by rw [e3]; exact q3⟩, h2.rt, fun G3 O3 q3 σ3 H3 W3 k3 S3 e3 => h2.nx G3 O3 q3 σ3 H3 W3 k3 S3 e3, fun G3 O3 q3 σ3 H3 W3 k3 S3 e3 => ⟨G3, W3, (k.trans k2).trans k3, S3, by rw [e3]; exact q3⟩, h2.ex⟩⟩
/-- for, item by item -/
def wForL (f : WG) (u : WS) : List D → WS
  | [] => fun G Om Po => Po.nx G Om
  | d :: r => fun G Om Po => f d G fun G' => u G' Om { Po with nx := fun G2 O2 => wForL f u r G2 O2 Po, ct := fun G2 O2 => wForL f u r G2 O2 Po, bk := Po.nx }
def wFor (wi : WA) (f : WG) (u : WS) : WS := fun G Om Po => wi G Om (fun items O => wForL f u items G O Po) fun x O => Po.ex x G O
theorem ds_for {tg iter : Expr} {sb : List Stmt} {wi : WA} {f : WG} {is : List Nat} (hp : PassesOwn (model X.prog X.w) X.A X.env X.xe) (hc : X.calm = true) (hi : DI X P (RF P.T) tg iter wi) (hg : DG X P tg is f) (hb : DSs X P sb u)
    (hs : ∀ x, foldedSetIterable iter X.env x = pure x := by intro _; rfl) : DS X P (.For tg iter sb [] pos) (wFor wi f u) := by
  refine ⟨ps_imp (ps_for hp hc hi.pi hg.pg hb.ps hs) fun D σ H ⟨G, W, Po, S, q, h⟩ => ?_⟩
  refine ⟨G, W, _, _, S, q, h.exE S, fun items O q1 J H1 W1 s1 e1 wk => ?_⟩
  subst e1
  obtain ⟨Gd, Y, wk, hy⟩ := wk
  have h1 := h.kp (s1.kp S.ok)
  refine for_it wk (fun i σ' H' => ∃ G' W', Kp W1.F H1 W'.F H' ∧ Sta P G' W' σ' H' ∧ wForL f u (items.drop i) G' W'.Om Po) ⟨G, W1, Kp.refl, S.step s1, q1⟩ (fun i σ' H' _ ⟨G', W', k, S', _⟩ => (hy W' H' ⟨k, S'.ok⟩).1)
    (fun i x σ' Hc H' hi ⟨G', W', k, S', q'⟩ hyx => ?_) (fun σ' H' ⟨G', W', k, S', q'⟩ => ?_)
  · have gi : items[i]? = some items[i] := List.getElem?_eq_getElem hi
    obtain ⟨nw, rx⟩ := (hy W' Hc ⟨k, S'.ok⟩).2 i _ gi x H' hyx
    rw [List.drop_eq_getElem_cons hi] at q'
    have sx : Step P.T W' Hc W' H' := Step.ext S'.ok nw
    have kx := k.trans (sx.kp S'.ok)
    refine ⟨G', W', _, _, S'.step sx, rx, q', fun G2 q2 σ2 S2 _ => ?_⟩
    have h2 := h1.kp kx
    exact ⟨G2, W', _, S2, q2, ⟨fun G3 O3 q3 σ3 H3 W3 k3 S3 e3 => ⟨G3, W3, kx.trans k3, S3, by rw [e3]; exact q3⟩, h2.rt, fun G3 O3 q3 σ3 H3 W3 k3 S3 e3 => h2.nx G3 O3 q3 σ3 H3 W3 k3 S3 e3, fun G3 O3 q3 σ3 H3 W3 k3 S3 e3 => ⟨G3, W3, kx.trans k3, S3, by rw [e3]; exact q3⟩, h2.ex⟩⟩
  · rw [List.drop_length] at q'
    exact h1.nx _ _ q' σ' H' W' k S' rfl

/-! ### an own thing is changed -/
theorem Sta.mut {G : Gam} {W : Wd} {σ : L2.St} {H : Hp} (S : Sta P G W σ H) {i : Nat} {a : Addr} {m m' : MO} {o : HO} (g : G[i]? = some (.own m)) (e : σ[i]? = some (some (.ref a))) (r : MRep P.T W.F (fun _ => False) (upd H a o) a m') :
    Sta P (G.set i (.own m')) W σ (upd H a o) ∧ Kp W.F H W.F (upd H a o) := by
  obtain ⟨a', e', oa⟩ := S.sl i _ g
  rw [e] at e'
  cases e'
  have kp : Kp W.F H W.F (upd H a o) := Kp.mut oa.f
  refine ⟨⟨S.st.mutO oa.n oa.f oa.p, by simp [S.len], fun j x ex => ?_, fun j k m1 m2 b e1 e2 h1 h2 => ?_⟩, kp⟩
  · by_cases q : i = j
    · subst q
      rw [List.getElem?_set, if_pos rfl] at ex
      split at ex
      · cases ex
        exact ⟨a, e, ⟨oa.f, oa.o, oa.p, oa.n, r⟩⟩
      · cases ex
    · rw [List.getElem?_set_ne q] at ex
      have z := S.sl j x ex
      cases x with
      | no => trivial
      | val d =>
        obtain ⟨v, e1, r1⟩ := z
        exact ⟨v, e1, Rep.kp kp d v r1⟩
      | own mm =>
        obtain ⟨b, e1, ob⟩ := z
        have hne : b ≠ a := fun z => q (S.ap i j m mm a g ex e (z ▸ e1))
        exact ⟨b, e1, ⟨ob.f, ob.o, ob.p, ob.n, noFp (fp := fun _ => False) kp (upd_ne hne) ob.r⟩⟩
  · have back : ∀ (j : Nat) mm, (G.set i (.own m'))[j]? = some (.own mm) → ∃ mm', G[j]? = some (.own mm') := fun j mm e => by
      by_cases q : i = j
      · subst q; exact ⟨m, g⟩
      · rw [List.getElem?_set_ne q] at e; exact ⟨mm, e⟩
    obtain ⟨_, e1⟩ := back j m1 e1
    obtain ⟨_, e2⟩ := back k m2 e2
    exact S.ap j k _ _ b e1 e2 h1 h2
/-- x.append(e) -/
def wApp (i : Nat) (w : WE) : WS := fun G Om Po => match getSl G i with
  | .own (.lst xs) => w G Om (fun d O => xs.length < 16777216 ∧ Po.nx (G.set i (.own (.lst (xs ++ [d])))) O) fun x O => Po.ex x G O
  | _ => False
theorem ds_app (hK : P.T.K = X.K) (i : Nat) {x : Str} {p1 p2 p3 p4 : Pos} (h : DE X P e w) (hN : X.N[i]? = some x := by rfl) (hv : Vis X.env.scope x := by first | exact Or.inl rfl | exact Or.inr (Or.inl rfl) | exact Or.inr (Or.inr rfl)) (hd : (x == ("__debug__" : Str)) = false := by decide)
    (hcd : (x == ("__classdict__" : Str)) = false := by decide)
    (hbase : attributeBase (.Name x p1) "append" X.env (eval (.Name x p1) X.env) = eval (.Name x p1) X.env := by rfl)
    (hfew : ((backTo p3 (starEach [e] X.env)).all (fun x => !x.1) && (backToKw p3 (keywordEach [] X.env)).all (fun x => x.1.isSome) && decide ([e].length + ([] : List Keyword).length + (if ([] : List Keyword).isEmpty then 0 else 1) < 30)) = true := by rfl)
    (hline : (p2.endLine == p3.line) = true := by rfl) (hs1 : starEach [e] X.env = (false, eval e X.env) :: starEach [] X.env := by rfl) (hplain : (backTo p3 (starEach [] X.env)).any (·.1) = false := by rfl)
    (hs : swapsWith (.Call (.Attribute (.Name x p1) "append" p2) [e] [] p3) none p4.line X.env = pure false := by rfl) :
    DS X P (.Expr (.Call (.Attribute (.Name x p1) "append" p2) [e] [] p3) p4) (wApp i w) := by
  refine ⟨ps_imp (ps_expr (pe_bm PySem.F.plainAttrs_list PySem.F.slot_list_append PySem.F.type_list_append mt_append (pe_var hN hv hd hcd) (pa_cons h.pe pa_nil hs1) hbase hfew hline hs1 hplain) hs) fun D σ H ⟨G, W, Po, S, q, h⟩ => ?_⟩
  unfold wApp at q
  split at q
  · rename_i xs ed
    have gg := getSl_get G i (by rw [ed]; intro z; cases z)
    rw [ed] at gg
    obtain ⟨a, e1, oa⟩ := S.sl i _ gg
    obtain ⟨vs, hl, rl⟩ := oa.r
    refine ⟨.ref a, e1, .inl ⟨rfl, vs, .of hl⟩, G, W, _, _, S, q, h.exE S, fun d O q' v H' W' s' e r => ?_⟩
    have S' := S.step s'
    obtain ⟨a2, e2, oa'⟩ := S'.sl i _ gg
    rw [e1] at e2; cases e2
    obtain ⟨ws, hl', rl'⟩ := oa'.r
    have hsz : ws.length < sizeLine := Nat.lt_of_lt_of_le (by rw [rl'.len]; exact q'.1) (by decide)
    obtain ⟨S2, k2⟩ := S'.mut (o := .lst (ws ++ [v])) (m' := .lst (xs ++ [d])) gg e1 ⟨ws ++ [v], upd_same, Reps.kp (Kp.mut oa'.f) _ _ (rl'.app (.cons r .nil))⟩
    exact ⟨a, ws, v, rfl, rfl, hl', hsz, h.nx _ O q'.2 _ _ W' ((s'.kp S.ok).trans k2) S2 e⟩
  · exact q.elim
end
end N

set_option Elab.async false
set_option linter.all false
set_option maxRecDepth 100000
set_option maxHeartbeats 0
/-! NH: defs and their calls -/
namespace N
open PySem PySem.Spec PyProof.Rows L2
abbrev DSp := List D → Om → (D → Om → Prop) → RX → Prop
/-- the promise of a def, told over data -/
def toSp (T : Th) (n : Nat) (S : DSp) : Sp := fun vs H Q E => ∃ ds W Q0 R0, ds.length = n ∧ Reps T W.F H ds vs ∧ WOk T W H ∧ S ds W.Om Q0 R0 ∧
  (∀ d O, Q0 d O → ∀ v H' W', Step T W H W' H' → W'.Om = O → Rep T W'.F H' d v → Q v H') ∧ (∀ x O, R0 x O → ∀ cls dd H' W', Step T W H W' H' → W'.Om = O → XRep T W'.F H' x cls dd → E cls dd H')
theorem toSp_imp {T : Th} {n : Nat} {S S' : DSp} (h : ∀ ds Om Q R, ds.length = n → S' ds Om Q R → S ds Om Q R) : ∀ vs H Q E, toSp T n S' vs H Q E → toSp T n S vs H Q E :=
  fun _ _ _ _ ⟨ds, W, Q0, R0, l, r, ok, s, a, b⟩ => ⟨ds, W, Q0, R0, l, r, ok, h _ _ _ _ l s, a, b⟩
def startG (n : Nat) (ds : List D) : Gam := ds.map .val ++ List.replicate (n - ds.length) .no
def wFn (n : Nat) (w : WS) : DSp := fun ds Om Q R => w (startG n ds) Om ⟨fun _ O => Q .non O, Q, fun _ _ => False, fun _ _ => False, fun x _ O => R x O⟩
abbrev pmOf (T : Th) (E : XK) (W : Wd) (H : Hp) : Pm := ⟨T, fun cls dd _ H => E cls dd H, W, H⟩
section
variable {PR : Program} {w : World} {K : PySem.W.Frag} {mg : Str → Option Value} {base : Heap}
theorem startG_len {N : Nat} {ds : List D} (h : ds.length ≤ N) : (startG N ds).length = N := by simp [startG]; omega
theorem sta_start {T : Th} {E : XK} {W : Wd} {H : Hp} {N : List Str} {ds : List D} {vs : List V} (ok : WOk T W H) (r : Reps T W.F H ds vs) (hl : ds.length ≤ N.length) : Sta (pmOf T E W H) (startG N.length ds) W (L2.start N vs) H := by
  have lv := r.len
  have noown : ∀ (i : Nat) m, (startG N.length ds)[i]? ≠ some (.own m) := fun i m e => by
    unfold startG at e
    by_cases hi : i < ds.length
    · rw [List.getElem?_append_left (by simpa using hi), List.getElem?_map] at e
      cases q : ds[i]? with
      | none => rw [q] at e; cases e
      | some d => rw [q] at e; cases e
    · rw [List.getElem?_append_right (by simpa using hi), List.getElem?_replicate] at e
      split at e <;> cases e
  refine ⟨Step.refl ok, ?_, fun i s e => ?_, fun i j m m' a e1 _ _ _ => absurd e1 (noown i m)⟩
  · rw [startG_len hl]
    unfold L2.start
    simp [lv]
    omega
  · cases s with
    | no => trivial
    | own m => exact absurd e (noown i m)
    | val d =>
      unfold startG at e
      by_cases hi : i < ds.length
      · rw [List.getElem?_append_left (by simpa using hi), List.getElem?_map] at e
        cases q : ds[i]? with
        | none => rw [q] at e; cases e
        | some d' =>
          rw [q] at e
          cases e
          obtain ⟨v, ev, rv⟩ := r.get q
          refine ⟨v, ?_, rv⟩
          unfold L2.start
          rw [List.getElem?_append_left (by rw [List.length_map, lv]; exact hi), List.getElem?_map, ev]
          rfl
      · rw [List.getElem?_append_right (by simpa using hi), List.getElem?_replicate] at e
        split at e <;> cases e
theorem toSp_len {T : Th} {n : Nat} {S : DSp} : ∀ vs H Q E, toSp T n S vs H Q E → vs.length = n := fun vs H Q E ⟨ds, W, Q0, R0, l, r, _⟩ => r.len.trans l
/-- THE RULE: a def by its body -/
theorem fn_ok {x qual : Str} {st : Stmt} {f : Addr} {fd : FuncData} {N ps : List Str} {k : Nat} (F : Fun K x qual st f fd) (S : FnScope N ps (defScope st)) (T : Th) (ws : WS)
    (body : ∀ (cdv : Value) (A : Around) (outer : List Env) (s : Shared) (H : Hp) (E : XK) (W : Wd), WOk T W H → Room k (A.deeper (envOfC qual (defScope st) s.heap.objs.size f cdv)) →
      Takes (cxOf (L2.CX PR w) PR w K mg base N qual (defScope st) f cdv A outer s H E) (pmOf T E W H).W →
      PassesOwn (model PR w) (A.deeper (envOfC qual (defScope st) s.heap.objs.size f cdv)) (envOfC qual (defScope st) s.heap.objs.size f cdv) (cxOf (L2.CX PR w) PR w K mg base N qual (defScope st) f cdv A outer s H E).xe →
      DSs (cxOf (L2.CX PR w) PR w K mg base N qual (defScope st) f cdv A outer s H E) (pmOf T E W H) (defBody st) ws) : FnOk PR w K mg base (L2.CX PR w) (k + 1) f fd ps (toSp T ps.length (wFn N.length ws)) := by
  have hpl : ps.length ≤ N.length := by have := congrArg List.length S.pre; rw [List.length_take] at this; omega
  refine F.okX S toSp_len fun cdv A outer s H vs Q E hr ⟨ds, W, Q0, R0, l, r, ok, hw, hq, he⟩ => ?_
  refine ⟨_, (body cdv A outer s H E W ok hr (takes_of rfl rfl rfl rfl) (passes_of (X := cxOf (L2.CX PR w) PR w K mg base N qual (defScope st) f cdv A outer s H E) rfl)).ps, startG N.length ds, W, _, sta_start ok r (by rw [l]; exact hpl), hw, ⟨fun G' O q σ' H' W' k S' e => ?_, fun d O q v H' W' s e r => ?_, fun _ _ z => z.elim, fun _ _ z => z.elim, fun x G' O q cls dd σ' H' W' S' e r => ?_⟩⟩
  · exact hq _ O q _ H' W' S'.st e (by simp [Rep])
  · exact hq d O q v H' W' s e r
  · exact he x O q cls dd H' W' S'.st e r
/-- .. of a def with defaults -/
theorem fn_okD {x qual : Str} {st : Stmt} {dvs : List V} {kws : List (Str × V)} {f : Addr} {fd : FuncData} {N ps : List Str} {k : Nat} (F : FunD K x qual (defArgs st) (defBody st) (defScope st) dvs kws f fd) (S : FnScope N ps (defScope st)) (T : Th) (ws : WS)
    (body : ∀ (cdv : Value) (A : Around) (outer : List Env) (s : Shared) (H : Hp) (E : XK) (W : Wd), WOk T W H → Room k (A.deeper (envOfC qual (defScope st) s.heap.objs.size f cdv)) →
      Takes (cxOf (L2.CX PR w) PR w K mg base N qual (defScope st) f cdv A outer s H E) (pmOf T E W H).W →
      PassesOwn (model PR w) (A.deeper (envOfC qual (defScope st) s.heap.objs.size f cdv)) (envOfC qual (defScope st) s.heap.objs.size f cdv) (cxOf (L2.CX PR w) PR w K mg base N qual (defScope st) f cdv A outer s H E).xe →
      DSs (cxOf (L2.CX PR w) PR w K mg base N qual (defScope st) f cdv A outer s H E) (pmOf T E W H) (defBody st) ws) : FnOk PR w K mg base (L2.CX PR w) (k + 1) f fd ps (toSp T ps.length (wFn N.length ws)) := by
  have hpl : ps.length ≤ N.length := by have := congrArg List.length S.pre; rw [List.length_take] at this; omega
  refine F.ok S toSp_len fun cdv A outer s H vs Q E hr ⟨ds, W, Q0, R0, l, r, ok, hw, hq, he⟩ => ?_
  refine ⟨_, (body cdv A outer s H E W ok hr (takes_of rfl rfl rfl rfl) (passes_of (X := cxOf (L2.CX PR w) PR w K mg base N qual (defScope st) f cdv A outer s H E) rfl)).ps, startG N.length ds, W, _, sta_start ok r (by rw [l]; exact hpl), hw, ⟨fun G' O q σ' H' W' k S' e => ?_, fun d O q v H' W' s e r => ?_, fun _ _ z => z.elim, fun _ _ z => z.elim, fun x G' O q cls dd σ' H' W' S' e r => ?_⟩⟩
  · exact hq _ O q _ H' W' S'.st e (by simp [Rep])
  · exact hq d O q v H' W' s e r
  · exact he x O q cls dd H' W' S'.st e r
end
section
variable {X : Cx} {P : Pm} {k : Nat} {f : Addr} {fd : FuncData} {ps : List Str} {x : Str} {p pos : Pos} {e : Expr} {es : List Expr} {wl wk : WA} {S : DSp} {n : Nat}
/-- a call's end -/
theorem sp_of {T : Th} {W0 W : Wd} {H0 H : Hp} {σ : L2.St} {ds : List D} {vs : List V} {Q0 : D → Om → Prop} {R0 : RX} {Q : VK} (hT : P.T = T) (ok0 : WOk T W0 H0) (s : Step T W0 H0 W H) (l : ds.length = n) (r : Reps T W.F H ds vs) (h : S ds W.Om Q0 R0) (ex : exOk P W0 H0 σ R0)
    (hq : ∀ d O, Q0 d O → ∀ v H' W', Step T W0 H0 W' H' → W'.Om = O → Rep T W'.F H' d v → Q v H') : toSp T n S vs H Q (fun cls dd H' => P.W cls dd σ H') := by
  subst hT
  exact ⟨ds, W, Q0, R0, l, r, s.ok, h, fun d O q v H' W' s' e r' => hq d O q v H' W' (s.trans s') e r', fun x O q cls dd H' W' s' e r' => ex x O q cls dd H' W' (s.trans s') e r'⟩
/-- f(e, ..); dds: the defaults that fill up -/
def wCallU (n : Nat) (S : DSp) (dds : List D) (wa : WA) : WE := fun G Om Q R => wa G Om (fun ds O => (ds ++ dds).length = n ∧ S (ds ++ dds) O Q R) R
theorem de_callD (dds : List D) {dvs : List V} {dvl : List Value} (F : FnOk X.prog X.w X.K X.mg X.base (L2.CX X.prog X.w) k f fd ps (toSp P.T n S)) (hr : Room k X.A) (hm : X.mg x = some (.ref f)) (hk : PySem.W.keepIn X.K (.ref f) = true) (hb : Binds X.K fd ps dvl) (hd : Vals dvs dvl) (hdd : ∀ T F H, Reps T F H dds dvs) (tk : Takes X P.W) (ha : DA X P (e :: es) wl)
    (hg : Gl X x := by rfl) (hdb : (x == ("__debug__" : Str)) = false := by decide) (he : starEach (e :: es) X.env = (false, eval e X.env) :: starEach es X.env := by rfl) (hpl : (backTo pos (starEach es X.env)).any (·.1) = false := by rfl) :
    DE X P (.Call (.Name x p) (e :: es) [] pos) (wCallU n S dds wl) := by
  refine ⟨pe_imp (pe_callSD F hr hg hm hk hb hd (fun σ => passAt tk σ) ha.pa hdb he hpl) fun σ H Q ⟨G, W, Q0, R0, S0, q, ex, hq⟩ => ?_⟩
  refine ⟨G, W, _, R0, S0, q, ex, fun ds O h1 vs H1 W1 s1 e1 r => ?_⟩
  subst e1
  exact sp_of rfl S0.ok s1 h1.1 (r.app (hdd _ _ _)) h1.2 ex hq
theorem de_call (F : FnOk X.prog X.w X.K X.mg X.base (L2.CX X.prog X.w) k f fd ps (toSp P.T n S)) (hr : Room k X.A) (hm : X.mg x = some (.ref f)) (hk : PySem.W.keepIn X.K (.ref f) = true) (hb : Binds X.K fd ps []) (tk : Takes X P.W) (ha : DA X P (e :: es) wl)
    (hg : Gl X x := by rfl) (hdb : (x == ("__debug__" : Str)) = false := by decide) (he : starEach (e :: es) X.env = (false, eval e X.env) :: starEach es X.env := by rfl) (hpl : (backTo pos (starEach es X.env)).any (·.1) = false := by rfl) :
    DE X P (.Call (.Name x p) (e :: es) [] pos) (wCallU n S [] wl) := de_callD [] F hr hm hk hb .nil (fun _ _ _ => .nil) tk ha hg hdb he hpl
/-- keywords -/
structure DK (X : Cx) (P : Pm) (kws : List Keyword) (w : WA) : Prop where
  pk : PK X kws (tA P w)
theorem pk_imp {kws : List Keyword} {t t' : TA} (h : PK X kws t) (i : ∀ σ H Q, t' σ H Q → t σ H Q) : PK X kws t' := ⟨fun pos pins s σ H Q I q => h.run pos pins s σ H Q I (i σ H Q q)⟩
theorem dk_nil : DK X P [] waNil := ⟨pk_imp pk_nil fun σ H Q ⟨G, W, Q0, R0, S, q, ex, hq⟩ => hq [] _ q [] H W (Step.refl S.ok) rfl .nil⟩
theorem dk_cons {kws : List Keyword} {w : WE} {wr : WA} {nm : Option Str} {kpos : Pos} (h : DE X P e w) (r : DK X P kws wr) : DK X P (⟨nm, e, kpos⟩ :: kws) (waCons w wr) := by
  refine ⟨pk_imp (pk_cons h.pe r.pk) fun σ H Q q => ?_⟩
  obtain ⟨G, W, Q0, R0, S, q, ex, hq⟩ := q
  refine ⟨G, W, _, R0, S, q, ex, fun d O h1 v H1 W1 s1 e1 r1 => ?_⟩
  subst e1
  refine ⟨G, W1, _, R0, S.step s1, h1, ex.step s1, fun ds O' h' vs H' W' s' e' r' => ?_⟩
  exact hq _ O' h' _ H' W' (s1.trans s') e' (.cons (Rep.kp (s'.kp s1.ok) _ _ r1) r')
/-- f(e, .., k = v, ..): the positional ones, then the keywords as they are written -/
structure KB (K : PySem.W.Frag) (fd : FuncData) (ps : List Str) (n : Nat) (ks : List Str) : Prop where
  to : ∀ (s : Shared) (us ws : List Value), K.In s.heap → us.length = n → ws.length = ks.length → BindsTo s fd ⟨us, ks.zip ws⟩ (ps.zip (us ++ ws))
theorem KB.of {K : PySem.W.Frag} {n : Nat} {ks : List Str} (h : ∀ us ws : List Value, us.length = n → ws.length = ks.length → bindArgs fd ⟨us, ks.zip ws⟩ = pure (ps.zip (us ++ ws))) : KB K fd ps n ks := ⟨fun s us ws _ h1 h2 => .of_eq (h us ws h1 h2)⟩
def wCallK (m n : Nat) (S : DSp) (wa wk : WA) : WE := fun G Om Q R => wa G Om (fun ds O => ds.length = m ∧ wk G O (fun es O' => (ds ++ es).length = n ∧ S (ds ++ es) O' Q R) R) R
theorem de_callK {kws : List Keyword} {ks : List Str} {m : Nat} (F : FnOk X.prog X.w X.K X.mg X.base (L2.CX X.prog X.w) k f fd ps (toSp P.T n S)) (hr : Room k X.A) (hm : X.mg x = some (.ref f)) (hk : PySem.W.keepIn X.K (.ref f) = true) (hb : KB X.K fd ps m ks) (tk : Takes X P.W) (ha : DA X P (e :: es) wl) (hkw : DK X P kws wk)
    (hnk : n = m + ks.length := by rfl) (hg : Gl X x := by rfl) (hall : (backToKw pos (keywordEach kws X.env)).all (·.1.isSome) = true := by rfl) (hks : (backToKw pos (keywordEach kws X.env)).filterMap (·.1) = ks := by rfl)
    (hdb : (x == ("__debug__" : Str)) = false := by decide) (he : starEach (e :: es) X.env = (false, eval e X.env) :: starEach es X.env := by rfl)
    (hpl : ((backTo pos (starEach (e :: es) X.env)).any (·.1) || (backToKw pos (keywordEach kws X.env)).any (·.1.isNone)) = false := by rfl) :
    DE X P (.Call (.Name x p) (e :: es) kws pos) (wCallK m n S wl wk) := by
  refine ⟨⟨fun pins s σ H Q I q => ?_⟩⟩
  obtain ⟨G, W, Q0, R0, S0, q, ex, hq⟩ := q
  refine wpAny_Call_Name_kw (ld_glob I hg hm ?_ hdb)
  refine PySem.W.callWith_KW (h₀ := X.base) I.ok.mod.kin hk hall (thn (ha.pa.run pos pins s σ H (fun vs H1 => ∃ ds W1, Step P.T W H W1 H1 ∧ Reps P.T W1.F H1 ds vs ∧ ds.length = m ∧ wk G W1.Om (fun es O' => (ds ++ es).length = n ∧ S (ds ++ es) O' Q0 R0) R0) I
    ⟨G, W, _, R0, S0, q, ex, fun ds O h1 vs H1 W1 s1 e1 r => ⟨ds, W1, s1, r, h1.1, by rw [e1]; exact h1.2⟩⟩) fun us s1 ⟨vs, H1, I1, r, ds, W1, st1, r1, l1, q1⟩ => ?_) hpl he
  refine thn (hkw.pk.run pos pins s1 σ H1 (fun zs H2 => ∃ es W2, Step P.T W H W2 H2 ∧ Reps P.T W2.F H2 (ds ++ es) (vs ++ zs) ∧ (ds ++ es).length = n ∧ S (ds ++ es) W2.Om Q0 R0) I1
    ⟨G, W1, _, R0, S0.step st1, q1, ex.step st1, fun es O h2 zs H2 W2 st2 e2 r2 => ⟨es, W2, st1.trans st2, (Reps.kp (st2.kp st1.ok) _ _ r1).app r2, h2.1, by rw [e2]; exact h2.2⟩⟩) fun ws s2 ⟨zs, H2, I2, rz, es, W2, st2, r2, l2, q2⟩ => ⟨I2.kIn, ?_⟩
  rw [hks]
  have lu : us.length = m := by rw [← r.length, r1.len, l1]
  have lw : ws.length = ks.length := by
    have h1 : (vs ++ zs).length = n := r2.len.trans l2
    rw [List.length_append, r.length, rz.length, lu] at h1
    omega
  have sp := sp_of (Q := Q) rfl S0.ok st2 l2 r2 q2 ex hq
  refine wpAny_call (codeAny_mono (F.run X.A X.stack s2 H2 ⟨us, ks.zip ws⟩ (us ++ ws) (vs ++ zs) Q _ hr I2.env0 (hb.to s2 us ws I2.kIn lu lw) (r.append rz) sp) fun rr s' hr' => ?_)
  cases rr with
  | error er => exact passAt tk σ pins H2 s2 er s' I2 hr'
  | ok fl =>
    cases fl with
    | ret u => exact I2.after hr'
    | next => exact False.elim hr'
    | brk => exact False.elim hr'
    | cont => exact False.elim hr'
end
end N

set_option Elab.async false
set_option linter.all false
set_option maxRecDepth 100000
set_option maxHeartbeats 0
/-! NI: callables in short; small further rules -/
namespace N
open PySem PySem.Spec PyProof.Rows L2
/-- the module's name x is a def of n parameters that keeps S -/
structure Cl (PR : Program) (w : World) (K : PySem.W.Frag) (mg : Str → Option Value) (base : Heap) (T : Th) (k : Nat) (x : Str) (n : Nat) (S : DSp) : Prop where
  ex : ∃ f fd ps, FnOk PR w K mg base (L2.CX PR w) k f fd ps (toSp T n S) ∧ mg x = some (.ref f) ∧ PySem.W.keepIn K (.ref f) = true ∧ Binds K fd ps []
structure ClK (PR : Program) (w : World) (K : PySem.W.Frag) (mg : Str → Option Value) (base : Heap) (T : Th) (k : Nat) (x : Str) (n m : Nat) (ks : List Str) (S : DSp) : Prop where
  ex : ∃ f fd ps, FnOk PR w K mg base (L2.CX PR w) k f fd ps (toSp T n S) ∧ mg x = some (.ref f) ∧ PySem.W.keepIn K (.ref f) = true ∧ KB K fd ps m ks ∧ n = m + ks.length
theorem Cl.imp {PR : Program} {w : World} {K : PySem.W.Frag} {mg : Str → Option Value} {base : Heap} {T : Th} {k : Nat} {x : Str} {n : Nat} {S S' : DSp} (c : Cl PR w K mg base T k x n S) (h : ∀ ds Om Q R, ds.length = n → S' ds Om Q R → S ds Om Q R) : Cl PR w K mg base T k x n S' :=
  let ⟨f, fd, ps, F, a, b, d⟩ := c.ex
  ⟨f, fd, ps, F.imp (toSp_imp h), a, b, d⟩
theorem Cl.mono {PR : Program} {w : World} {K : PySem.W.Frag} {mg : Str → Option Value} {base : Heap} {T : Th} {j k : Nat} {x : Str} {n : Nat} {S : DSp} (c : Cl PR w K mg base T j x n S) (h : j ≤ k) : Cl PR w K mg base T k x n S :=
  let ⟨f, fd, ps, F, a, b, d⟩ := c.ex
  ⟨f, fd, ps, F.mono h, a, b, d⟩
theorem ClK.imp {PR : Program} {w : World} {K : PySem.W.Frag} {mg : Str → Option Value} {base : Heap} {T : Th} {k : Nat} {x : Str} {n m : Nat} {ks : List Str} {S S' : DSp} (c : ClK PR w K mg base T k x n m ks S) (h : ∀ ds Om Q R, ds.length = n → S' ds Om Q R → S ds Om Q R) : ClK PR w K mg base T k x n m ks S' :=
  let ⟨f, fd, ps, F, a, b, d⟩ := c.ex
  ⟨f, fd, ps, F.imp (toSp_imp h), a, b, d⟩
section
variable {X : Cx} {P : Pm} {k : Nat} {x : Str} {p pos : Pos} {e a : Expr} {es : List Expr} {wl wk : WA} {w : WE} {S : DSp} {n m : Nat} {ks : List Str} {j}
theorem de_cl (c : Cl X.prog X.w X.K X.mg X.base P.T k x n S) (hr : Room k X.A) (tk : Takes X P.W) (ha : DA X P (e :: es) wl)
    (hg : Gl X x := by rfl) (hdb : (x == ("__debug__" : Str)) = false := by decide) (he : starEach (e :: es) X.env = (false, eval e X.env) :: starEach es X.env := by rfl) (hpl : (backTo pos (starEach es X.env)).any (·.1) = false := by rfl) :
    DE X P (.Call (.Name x p) (e :: es) [] pos) (wCallU n S [] wl) :=
  let ⟨_, _, _, F, hm, hk, hb⟩ := c.ex
  de_call F hr hm hk hb tk ha hg hdb he hpl
theorem de_clK {kws : List Keyword} (c : ClK X.prog X.w X.K X.mg X.base P.T k x n m ks S) (hr : Room k X.A) (tk : Takes X P.W) (ha : DA X P (e :: es) wl) (hkw : DK X P kws wk)
    (hg : Gl X x := by rfl) (hall : (backToKw pos (keywordEach kws X.env)).all (·.1.isSome) = true := by rfl) (hks : (backToKw pos (keywordEach kws X.env)).filterMap (·.1) = ks := by rfl)
    (hdb : (x == ("__debug__" : Str)) = false := by decide) (he : starEach (e :: es) X.env = (false, eval e X.env) :: starEach es X.env := by rfl)
    (hpl : ((backTo pos (starEach (e :: es) X.env)).any (·.1) || (backToKw pos (keywordEach kws X.env)).any (·.1.isNone)) = false := by rfl) : DE X P (.Call (.Name x p) (e :: es) kws pos) (wCallK m n S wl wk) :=
  let ⟨_, _, _, F, hm, hk, hb, hn⟩ := c.ex
  de_callK F hr hm hk hb tk ha hkw hn hg hall hks hdb he hpl
theorem de_gintE {i : Int} {pos : Pos} (hm : ∃ t, X.mg x = some (.int i t)) (hg : Gl X x := by rfl) (hd : (x == ("__debug__" : Str)) = false := by decide) : DE X P (.Name x pos) (wC (.int i)) := let ⟨_, h⟩ := hm; de_gint h hg hd
theorem de_gstrE {s : Str} {pos : Pos} (hm : ∃ t, X.mg x = some (.str s t)) (hg : Gl X x := by rfl) (hd : (x == ("__debug__" : Str)) = false := by decide) : DE X P (.Name x pos) (wC (.str s)) := let ⟨_, h⟩ := hm; de_gstr h hg hd
def gNeg : D → (D → Prop) → Prop
  | .int i, Q => Q (.int (-i))
  | _, _ => False
theorem ud_neg {T : Th} : UnD X T (unaryOp .USub) gNeg := by
  intro pins s σ H x v Q I rx ⟨F, Pm, dx, Qd, hx, hg, hq⟩
  cases dx <;> try exact hg.elim
  exact un_neg pins s σ H x v Q I rx ⟨_, hx, hq _ hg _ H (fun _ _ z => z) (by simp [Rep])⟩
end
end N

set_option Elab.async false
set_option linter.all false
set_option maxRecDepth 100000
/-! NS: lemmas for the plain side: frames, comprehensions, small facts -/
namespace N
open PySem PySem.Spec PyProof.Rows L2
theorem startG_c (n : Nat) (d : D) (ds : List D) : startG (n + 1) (d :: ds) = .val d :: startG n ds := by simp [startG]
theorem startG_n (n : Nat) : startG (n + 1) [] = .no :: startG n [] := by simp [startG, List.replicate_succ]
theorem startG_z : startG 0 [] = [] := rfl
theorem getSl_z (s : Sl) (r : Gam) : getSl (s :: r) 0 = s := rfl
theorem getSl_s (s : Sl) (r : Gam) (i : Nat) : getSl (s :: r) (i + 1) = getSl r i := rfl
theorem br_t {A B : Prop} : br true A B = A := rfl
theorem br_f {A B : Prop} : br false A B = B := rfl
theorem br_if {b : Bool} {A B : Prop} (h1 : b = true → A) (h2 : b = false → B) : br b A B := by
  cases b
  · exact h2 rfl
  · exact h1 rfl
theorem br_d {p : Prop} [Decidable p] {A B : Prop} (h1 : p → A) (h2 : ¬ p → B) : br (decide p) A B := br_if (fun e => h1 (of_decide_eq_true e)) (fun e => h2 (of_decide_eq_false e))
theorem br_dt {p : Prop} [Decidable p] {A B : Prop} (h : p) (h1 : A) : br (decide p) A B := by rw [decide_eq_true h]; exact h1
theorem br_df {p : Prop} [Decidable p] {A B : Prop} (h : ¬ p) (h1 : B) : br (decide p) A B := by rw [decide_eq_false h]; exact h1
section
variable {f : WG} {we : WE} {wt : WT} {G : Gam} {O : Om} {Q : List D → Om → Prop}
/-- a comprehension whose element is a function of the item -/
theorem turns_map (g : D → D) : ∀ (items acc : List D), acc.length + items.length ≤ 16777216 → (∀ d ∈ items, ∀ K : D → Om → Prop, K (g d) O → f d G fun G2 => we G2 O K noR) → Q (acc ++ items.map g) O → wTurns f wtYes we G items acc O Q
  | [], acc, _, _, q => by simpa [wTurns] using q
  | d :: r, acc, l, h, q => by
    rw [List.length_cons] at l
    refine ⟨by omega, h d List.mem_cons_self _ (turns_map g r (acc ++ [g d]) (by rw [List.length_append, List.length_singleton]; omega) (fun d' h' => h d' (List.mem_cons_of_mem _ h')) (by simpa using q))⟩
/-- .. with a test -/
theorem turns_filter (t : D → Bool) (g : D → D) : ∀ (items acc : List D), acc.length + items.length ≤ 16777216 →
    (∀ d ∈ items, ∀ (K1 : D → Om → Prop) (K2 : Om → Prop), (t d = true → K1 (g d) O) → (t d = false → K2 O) → f d G fun G2 => wt G2 O (fun b O2 => br b (we G2 O2 K1 noR) (K2 O2)) noR) → Q (acc ++ (items.filter t).map g) O → wTurns f wt we G items acc O Q
  | [], acc, _, _, q => by simpa [wTurns] using q
  | d :: r, acc, l, h, q => by
    rw [List.length_cons] at l
    refine ⟨by omega, h d List.mem_cons_self _ _ (fun e => turns_filter t g r (acc ++ [g d]) (by rw [List.length_append, List.length_singleton]; omega) (fun d' h' => h d' (List.mem_cons_of_mem _ h')) ?_) (fun e => turns_filter t g r acc (by omega) (fun d' h' => h d' (List.mem_cons_of_mem _ h')) ?_)⟩
    · rw [List.filter_cons, if_pos e] at q
      simpa using q
    · rw [List.filter_cons, if_neg (by rw [e]; decide)] at q
      exact q
/-- a comprehension whose element is told by a relation -/
theorem turns_rel (Pd : D → D → Prop) : ∀ (items acc : List D), acc.length + items.length ≤ 16777216 → (∀ d ∈ items, ∀ K : D → Om → Prop, (∀ x, Pd d x → K x O) → f d G fun G2 => we G2 O K noR) →
    (∀ ds : List D, ds.length = items.length → (∀ (i : Nat) d x, items[i]? = some d → ds[i]? = some x → Pd d x) → Q (acc ++ ds) O) → wTurns f wtYes we G items acc O Q
  | [], acc, _, _, q => by simpa [wTurns] using q [] rfl (by simp)
  | d :: r, acc, l, h, q => by
    rw [List.length_cons] at l
    refine ⟨by omega, h d List.mem_cons_self _ fun x hx => turns_rel Pd r (acc ++ [x]) (by rw [List.length_append, List.length_singleton]; omega) (fun d' h' => h d' (List.mem_cons_of_mem _ h')) fun ds hl hp => ?_⟩
    have := q (x :: ds) (by simp [hl]) fun i d' x' e1 e2 => by
      cases i with
      | zero => simp at e1 e2; subst e1 e2; exact hx
      | succ i => exact hp i d' x' (by simpa using e1) (by simpa using e2)
    simpa using this
end
/-! ### numbers -/
theorem mulL {i j : Int} (h : -(2 ^ 64) < i) (h2 : i < 2 ^ 64) : IntMulOk i j := .of_left (intBits_le_64 h h2)
theorem mulR {i j : Int} (h : -(2 ^ 64) < j) (h2 : j < 2 ^ 64) : IntMulOk i j := .of_right (intBits_le_64 h h2)
theorem shlI {i j : Int} {n : Nat} (h0 : 0 ≤ i) (h : i < 2 ^ n) (hj : 0 ≤ j) (hn : (n : Int) + j ≤ 134217728) : CShl i j := by
  have e : ((j.toNat : Nat) : Int) = j := by omega
  have := shl_ok (i := i) (j := j.toNat) (n := n) (by
    have : ((i.natAbs : Nat) : Int) = i := by omega
    have h2 : ((i.natAbs : Nat) : Int) < ((2 ^ n : Nat) : Int) := by rw [this]; simpa using h
    exact Int.ofNat_lt.mp h2) (by omega)
  rw [e] at this
  exact this
/-! ### equality of data -/
theorem shp_int (i : Int) : shp (.int i) = true := rfl
theorem shp_bl (i : Bool) : shp (.bl i) = true := rfl
theorem shp_non : shp .non = true := rfl
theorem deq_int (i j : Int) : deq (.int i) (.int j) = decide (i = j) := by
  show (i == j) = _
  exact Bool.beq_eq_decide_eq _ _
theorem toPys_map {α : Type} (f : α → D) (xs : List α) : toPys (xs.map f) = xs.map fun x => toPy (f x) := by
  induction xs with
  | nil => rfl
  | cons x r ih => simp only [List.map_cons, toPys, ih]
theorem lay_ints (ns : List Int) : PyData.canLayAll0 (toPys (ns.map D.int)) = true := by
  induction ns with
  | nil => rfl
  | cons n r ih => simp only [List.map_cons, toPys, toPy, PyData.canLayAll0, PyData.canLay0, ih, Bool.and_self]
theorem eqv_ints (ns ms : List Int) : PyData.eqvAll (toPys (ns.map D.int)) (toPys (ms.map D.int)) = decide (ns = ms) := by
  induction ns generalizing ms with
  | nil => cases ms <;> simp [toPys, PyData.eqvAll]
  | cons n r ih =>
    cases ms with
    | nil => simp [toPys, PyData.eqvAll]
    | cons m s =>
      simp only [List.map_cons, toPys, PyData.eqvAll, ih, toPy, PyData.eqv]
      by_cases h : n = m <;> by_cases h2 : r = s <;> simp [h, h2]
end N
namespace N
open PySem PySem.Spec PyProof.Rows L2
theorem depth_ints (ns : List Int) : PyData.depthAll (toPys (ns.map D.int)) = 0 := by
  induction ns with
  | nil => rfl
  | cons n r ih => simp [List.map_cons, toPys, toPy, PyData.depthAll, PyData.depth, ih]
theorem shp_tints (ns : List Int) : shp (.tup (ns.map D.int)) = true := by
  simp [shp, SeqAt.shaped, toPy, PyData.canLay0, PyData.depth, lay_ints, depth_ints]
theorem shp_lints (ns : List Int) : shp (.lst (ns.map D.int)) = true := by
  simp [shp, SeqAt.shaped, toPy, PyData.canLay0, PyData.depth, lay_ints, depth_ints]
theorem deq_tints (ns ms : List Int) : deq (.tup (ns.map D.int)) (.tup (ms.map D.int)) = decide (ns = ms) := by
  simp only [deq, toPy, PyData.eqv, eqv_ints]
theorem deq_lints (ns ms : List Int) : deq (.lst (ns.map D.int)) (.lst (ms.map D.int)) = decide (ns = ms) := by
  simp only [deq, toPy, PyData.eqv, eqv_ints]
end N

set_option Elab.async false
set_option linter.all false
set_option maxRecDepth 100000
/-! NW: more lemmas of the plain side -/
namespace N
open PySem PySem.Spec PyProof.Rows L2
theorem gIx_list {xs : List D} {i : Int} {j : Nat} {d : D} {Q : D → Prop} (hi : i = (j : Int)) (hd : xs[j]? = some d) (q : Q d) : gIx (.lst xs) (.int i) Q := by
  subst hi
  simp only [gIx, atI_nat hd]
  exact q
theorem gIx_tup {xs : List D} {i : Int} {j : Nat} {d : D} {Q : D → Prop} (hi : i = (j : Int)) (hd : xs[j]? = some d) (q : Q d) : gIx (.tup xs) (.int i) Q := by
  subst hi
  simp only [gIx, atI_nat hd]
  exact q
theorem gIx_scr {xs : List Int} {i : Int} {j : Nat} {d : Int} {Q : D → Prop} (hi : i = (j : Int)) (hd : xs[j]? = some d) (q : Q (.int d)) : gIx (.scr xs) (.int i) Q := by
  subst hi
  simp only [gIx, atI_nat hd]
  exact q
/-- an index within, whatever it is -/
theorem gIx_any {xs : List D} {i : Int} {Q : D → Prop} (h0 : 0 ≤ i) (h1 : i < xs.length) (q : ∀ d ∈ xs, Q d) : gIx (.lst xs) (.int i) Q := by
  have hj : i.toNat < xs.length := by omega
  exact gIx_list (j := i.toNat) (d := xs[i.toNat]) (by omega) (List.getElem?_eq_getElem hj) (q _ (List.getElem_mem hj))
theorem mem_rngL {d : D} {lo : Int} {n : Nat} (h : d ∈ rngL lo n) : ∃ i : Nat, i < n ∧ d = .int (lo + i) := by
  obtain ⟨i, hi, rfl⟩ := List.mem_map.mp h
  exact ⟨i, List.mem_range.mp hi, rfl⟩
theorem mem_rngC {d : D} {lo c : Int} {n : Nat} (h : d ∈ rngC lo c n) : ∃ i : Nat, i < n ∧ d = .int (lo + i * c) := by
  obtain ⟨i, hi, rfl⟩ := List.mem_map.mp h
  exact ⟨i, List.mem_range.mp hi, rfl⟩
theorem rngL_len {lo : Int} {n : Nat} : (rngL lo n).length = n := by simp [rngL]
theorem rngC_len {lo c : Int} {n : Nat} : (rngC lo c n).length = n := by simp [rngC]
theorem rngL_map {lo : Int} {n : Nat} (g : D → D) (h : Nat → D) (e : ∀ i < n, g (.int (lo + (i : Nat))) = h i) : (rngL lo n).map g = (List.range n).map h := by
  simp only [rngL, List.map_map]
  exact List.map_congr_left fun i hi => e i (List.mem_range.mp hi)
theorem rngC_map {lo c : Int} {n : Nat} (g : D → D) (h : Nat → D) (e : ∀ i < n, g (.int (lo + (i : Nat) * c)) = h i) : (rngC lo c n).map g = (List.range n).map h := by
  simp only [rngC, List.map_map]
  exact List.map_congr_left fun i hi => e i (List.mem_range.mp hi)
theorem cut_nat {α : Type} (xs : List α) (a b : Nat) : cutD xs (some (a : Int)) (some (b : Int)) = (xs.drop a).take (b - a) := by
  unfold cutD
  rw [HT.sIx_nat, HT.sIx_nat]
  by_cases ha : a ≤ xs.length
  · rw [Nat.min_eq_left ha]
    by_cases hb : b ≤ xs.length
    · rw [Nat.min_eq_left hb]
    · rw [Nat.min_eq_right (by omega), List.take_of_length_le (by simp), List.take_of_length_le (by simp; omega)]
  · rw [Nat.min_eq_right (show xs.length ≤ a by omega), List.drop_of_length_le (Nat.le_refl _), List.drop_of_length_le (by omega)]
    simp
theorem cut_to {α : Type} (xs : List α) (b : Nat) : cutD xs none (some (b : Int)) = xs.take b := by
  unfold cutD
  rw [HT.sIx_none, HT.sIx_nat, List.drop_zero, Nat.sub_zero]
  by_cases hb : b ≤ xs.length
  · rw [Nat.min_eq_left hb]
  · rw [Nat.min_eq_right (by omega), List.take_of_length_le (Nat.le_refl _), List.take_of_length_le (by omega)]
theorem cut_from {α : Type} (xs : List α) (a : Nat) : cutD xs (some (a : Int)) none = xs.drop a := by
  unfold cutD
  rw [HT.sIx_none, HT.sIx_nat]
  by_cases ha : a ≤ xs.length
  · rw [Nat.min_eq_left ha, List.take_of_length_le (by simp)]
  · rw [Nat.min_eq_right (by omega), List.drop_of_length_le (Nat.le_refl _), List.drop_of_length_le (by omega)]
    simp
/-- all ints -/
theorem all_ints {p : Int → Prop} : ∀ {ds : List D}, (∀ x ∈ ds, ∃ v, x = .int v ∧ p v) → ∃ os : List Int, ds = os.map D.int ∧ (∀ o ∈ os, p o)
  | [], _ => ⟨[], rfl, by simp⟩
  | d :: r, h => by
    obtain ⟨v, rfl, hv⟩ := h d List.mem_cons_self
    obtain ⟨os, e, ho⟩ := all_ints (ds := r) fun x hx => h x (List.mem_cons_of_mem _ hx)
    exact ⟨v :: os, by rw [e, List.map_cons], fun o h => (List.mem_cons.mp h).elim (fun e => e ▸ hv) (ho o)⟩
theorem bsL_map' {α : Type} (g : α → Bool) (xs : List α) : bsL (xs.map fun x => .bl (g x)) = some (xs.map g) := by
  rw [show (xs.map fun x => D.bl (g x)) = (xs.map g).map D.bl by rw [List.map_map]; rfl]
  exact bsL_bls _
theorem divOk {i j : Int} (h0 : 0 < j) (h1 : j < 1073741824) : CDv i j := .inl ⟨h0, h1⟩
end N
namespace N
open PySem PySem.Spec PyProof.Rows L2
section
variable {C : Int → Int → Prop} {f : Int → Int → Int} {p : Int → Int → Bool} {i j : Int} {Q : D → Prop} {xs ys : List D} {x y : D} {z z' : Str} {b b' : Bool} {QL : List D → Prop} {QM : MO → Prop}
theorem gI_i : gI C f (.int i) (.int j) Q = (C i j ∧ Q (.int (f i j))) := rfl
theorem gI0_i : gI0 f (.int i) (.int j) Q = Q (.int (f i j)) := rfl
theorem gB0_i : gB0 p (.int i) (.int j) Q = Q (.bl (p i j)) := rfl
theorem gAdd_i : gAdd (.int i) (.int j) Q = Q (.int (i + j)) := rfl
theorem gAdd_t : gAdd (.tup xs) (.tup ys) Q = (xs.length + ys.length ≤ 16777216 ∧ Q (.tup (xs ++ ys))) := rfl
theorem gAdd_l : gAdd (.lst xs) (.lst ys) Q = (xs.length + ys.length ≤ 16777216 ∧ Q (.lst (xs ++ ys))) := rfl
theorem gAdd_s : gAdd (.str z) (.str z') Q = (z.length + z'.length ≤ 16777216 ∧ Q (.str (z ++ z'))) := rfl
theorem gMul_i : gMul (.int i) (.int j) Q = (IntMulOk i j ∧ Q (.int (i * j))) := rfl
theorem gMul_t : gMul (.tup xs) (.int i) Q = ((-(2 ^ 63) ≤ i ∧ i < 2 ^ 40 ∧ xs.length * i.toNat ≤ 16777216) ∧ Q (.tup (List.replicate i.toNat xs).flatten)) := rfl
theorem gMul_l : gMul (.lst xs) (.int i) Q = ((-(2 ^ 63) ≤ i ∧ i < 2 ^ 40 ∧ xs.length * i.toNat ≤ 16777216) ∧ Q (.lst (List.replicate i.toNat xs).flatten)) := rfl
theorem gEq_ : gEq x y Q = (shp x = true ∧ shp y = true ∧ Q (.bl (deq x y))) := rfl
theorem gNe_ : gNe x y Q = (shp x = true ∧ shp y = true ∧ Q (.bl (!deq x y))) := rfl
theorem gIs_n : gIs x .non Q = Q (.bl (isNon x)) := by cases x <;> rfl
theorem gIs_b : gIs (.bl b) (.bl b') Q = Q (.bl (decide (b = b'))) := rfl
theorem gIsNot_n : gIsNot x .non Q = Q (.bl (!isNon x)) := by cases x <;> rfl
theorem gIsNot_b : gIsNot (.bl b) (.bl b') Q = Q (.bl (!decide (b = b'))) := rfl
theorem isNon_n : isNon .non = true := rfl
theorem isNon_i : isNon (.int i) = false := rfl
theorem isNon_b : isNon (.bl b) = false := rfl
theorem isNon_t : isNon (.tup xs) = false := rfl
theorem isNon_l : isNon (.lst xs) = false := rfl
theorem isNon_s : isNon (.str z) = false := rfl
theorem gNeg_i : gNeg (.int i) Q = Q (.int (-i)) := rfl
theorem gTuple_t : gTuple [.tup xs] Q = Q (.tup xs) := rfl
theorem gTuple_l : gTuple [.lst xs] Q = Q (.tup xs) := rfl
theorem gList_t : gList [.tup xs] QM = QM (.lst xs) := rfl
theorem gList_l : gList [.lst xs] QM = QM (.lst xs) := rfl
theorem gList_s {ns : List Int} : gList [.scr ns] QM = QM (.lst (ns.map D.int)) := rfl
theorem gLen_t : gLen [.tup xs] Q = Q (.int xs.length) := rfl
theorem gLen_l : gLen [.lst xs] Q = Q (.int xs.length) := rfl
theorem gLen_s {ns : List Int} : gLen [.scr ns] Q = Q (.int ns.length) := rfl
theorem gLen_d {ks : List Key} : gLen [.dct ks xs] Q = Q (.int ks.length) := rfl
theorem gInt_i : gInt [.int i] Q = Q (.int i) := rfl
theorem gInt_b : gInt [.bl b] Q = Q (.int (if b then 1 else 0)) := rfl
theorem gAbs_i : gAbs [.int i] Q = Q (.int (if i < 0 then -i else i)) := rfl
theorem gMax_i : gMax [.int i, .int j] Q = Q (.int (if j > i then j else i)) := rfl
theorem gMin_i : gMin [.int i, .int j] Q = Q (.int (if j < i then j else i)) := rfl
theorem gSl_t {lo hi : Option Int} : gSl (.tup xs) lo hi Q = Q (.tup (cutD xs lo hi)) := rfl
theorem gSl_l {lo hi : Option Int} : gSl (.lst xs) lo hi Q = Q (.lst (cutD xs lo hi)) := rfl
theorem gIt_t : gIt (.tup xs) QL = QL xs := rfl
theorem gIt_l : gIt (.lst xs) QL = QL xs := rfl
theorem gIt_s {ns : List Int} : gIt (.scr ns) QL = QL (ns.map D.int) := rfl
theorem gRng1_i : gRng1 [.int j] QL = ((-(2 ^ 62) ≤ j ∧ j < 2 ^ 62) ∧ QL (rngL 0 j.toNat)) := rfl
theorem gRng2_i : gRng2 [.int i, .int j] QL = ((-(2 ^ 62) ≤ i ∧ i < 2 ^ 62 ∧ -(2 ^ 62) ≤ j ∧ j < 2 ^ 62) ∧ QL (rngL i (j - i).toNat)) := rfl
theorem gRng3_i {c : Int} : gRng3 [.int i, .int j, .int c] QL = ∃ n, RgC i j c n ∧ QL (rngC i c n) := rfl
theorem gAll_b {bs : List Bool} : gAll [.lst (bs.map D.bl)] Q = Q (.bl (bs.all _root_.id)) := by simp only [gAll, gLB, bsL_bls]
theorem gAny_b {bs : List Bool} : gAny [.lst (bs.map D.bl)] Q = Q (.bl (bs.any _root_.id)) := by simp only [gAny, gLB, bsL_bls]
theorem gSum_i {ns : List Int} : gSum [.lst (ns.map D.int)] Q = Q (.int ns.sum) := by simp only [gSum, gLI, isL_ints]
theorem gIsi_1 {t : String} {a : String} (h : okTy t = true) (h2 : tyS x = some a) (q : Q (.bl (isiS a t))) : gIsi [x, .ty t] Q := ⟨h, by rw [h2]; exact q⟩
theorem gIsi_i {t : String} : gIsi [.int i, .ty t] Q = (okTy t = true ∧ Q (.bl (isiS "int" t))) := rfl
theorem gIsi_b {t : String} : gIsi [.bl b, .ty t] Q = (okTy t = true ∧ Q (.bl (isiS "bool" t))) := rfl
theorem gIsi_t {t : String} : gIsi [.tup xs, .ty t] Q = (okTy t = true ∧ Q (.bl (isiS "tuple" t))) := rfl
theorem gIsi_l {t : String} : gIsi [.lst xs, .ty t] Q = (okTy t = true ∧ Q (.bl (isiS "list" t))) := rfl
theorem gIsi_s {t : String} : gIsi [.str z, .ty t] Q = (okTy t = true ∧ Q (.bl (isiS "str" t))) := rfl
theorem gIsi_n {t : String} : gIsi [.non, .ty t] Q = (okTy t = true ∧ Q (.bl (isiS "NoneType" t))) := rfl
theorem gIsi_d {t : String} {ks : List Key} : gIsi [.dct ks xs, .ty t] Q = (okTy t = true ∧ Q (.bl (isiS "dict" t))) := rfl
theorem wVar_v {k : Nat} {G : Gam} {Om : N.Om} {QQ : D → N.Om → Prop} {R : RX} {d : D} (h : getSl G k = .val d) : wVar k G Om QQ R = QQ d Om := by unfold wVar; rw [h]
end
end N
namespace N
open PySem PySem.Spec PyProof.Rows L2
theorem isi_NoneType_bool : isiS "NoneType" "bool" = false := rfl
theorem isi_NoneType_int : isiS "NoneType" "int" = false := rfl
theorem isi_NoneType_str : isiS "NoneType" "str" = false := rfl
theorem isi_NoneType_tuple : isiS "NoneType" "tuple" = false := rfl
theorem isi_NoneType_list : isiS "NoneType" "list" = false := rfl
theorem isi_NoneType_dict : isiS "NoneType" "dict" = false := rfl
theorem isi_bool_bool : isiS "bool" "bool" = true := rfl
theorem isi_bool_int : isiS "bool" "int" = true := rfl
theorem isi_bool_str : isiS "bool" "str" = false := rfl
theorem isi_bool_tuple : isiS "bool" "tuple" = false := rfl
theorem isi_bool_list : isiS "bool" "list" = false := rfl
theorem isi_bool_dict : isiS "bool" "dict" = false := rfl
theorem isi_int_bool : isiS "int" "bool" = false := rfl
theorem isi_int_int : isiS "int" "int" = true := rfl
theorem isi_int_str : isiS "int" "str" = false := rfl
theorem isi_int_tuple : isiS "int" "tuple" = false := rfl
theorem isi_int_list : isiS "int" "list" = false := rfl
theorem isi_int_dict : isiS "int" "dict" = false := rfl
theorem isi_str_bool : isiS "str" "bool" = false := rfl
theorem isi_str_int : isiS "str" "int" = false := rfl
theorem isi_str_str : isiS "str" "str" = true := rfl
theorem isi_str_tuple : isiS "str" "tuple" = false := rfl
theorem isi_str_list : isiS "str" "list" = false := rfl
theorem isi_str_dict : isiS "str" "dict" = false := rfl
theorem isi_tuple_bool : isiS "tuple" "bool" = false := rfl
theorem isi_tuple_int : isiS "tuple" "int" = false := rfl
theorem isi_tuple_str : isiS "tuple" "str" = false := rfl
theorem isi_tuple_tuple : isiS "tuple" "tuple" = true := rfl
theorem isi_tuple_list : isiS "tuple" "list" = false := rfl
theorem isi_tuple_dict : isiS "tuple" "dict" = false := rfl
theorem isi_list_bool : isiS "list" "bool" = false := rfl
theorem isi_list_int : isiS "list" "int" = false := rfl
theorem isi_list_str : isiS "list" "str" = false := rfl
theorem isi_list_tuple : isiS "list" "tuple" = false := rfl
theorem isi_list_list : isiS "list" "list" = true := rfl
theorem isi_list_dict : isiS "list" "dict" = false := rfl
theorem isi_dict_bool : isiS "dict" "bool" = false := rfl
theorem isi_dict_int : isiS "dict" "int" = false := rfl
theorem isi_dict_str : isiS "dict" "str" = false := rfl
theorem isi_dict_tuple : isiS "dict" "tuple" = false := rfl
theorem isi_dict_list : isiS "dict" "list" = false := rfl
theorem isi_dict_dict : isiS "dict" "dict" = true := rfl
theorem okTy_bool : okTy "bool" = true := rfl
theorem okTy_int : okTy "int" = true := rfl
theorem okTy_str : okTy "str" = true := rfl
theorem okTy_tuple : okTy "tuple" = true := rfl
theorem okTy_list : okTy "list" = true := rfl
theorem okTy_dict : okTy "dict" = true := rfl
end N

set_option Elab.async false
set_option linter.all false
set_option maxRecDepth 100000
set_option maxHeartbeats 0
/-! NX: a law's end -/
namespace N
open PySem PySem.Spec PyProof.Rows L2
abbrev FnP (K : PySem.W.Frag) (x : Str) (st : Stmt) (f : Addr) (fd : FuncData) : Prop := FunD K x x (defArgs st) (defBody st) (defScope st) [] [] f fd
abbrev defD (x : Str) (st : Stmt) : He.DefD := ⟨(x, none), x, x, defArgs st, defBody st, defScope st, [], []⟩
theorem kb_of {K : PySem.W.Frag} {x qual : Str} {params : Arguments} {body : List Stmt} {scope : Scope} {kws : List (Str × V)} {f : Addr} {fd : FuncData} {ps : List Str} {n : Nat} {ks : List Str} (F : FunD K x qual params body scope [] kws f fd)
    (h : ∀ (kV doc pm : Value) (an : Option Addr) (cdv ct : Value) (us ws : List Value), us.length = n → ws.length = ks.length → bindArgs (PySem.W.fnOf x qual params body scope .none kV doc pm an cdv ct) ⟨us, ks.zip ws⟩ = pure (ps.zip (us ++ ws))) : KB K fd ps n ks := by
  obtain ⟨oc, od, dV, kV, doc, pm, an, cdv, ct, osl, rfl, lk, hcd, hD, hK⟩ := F.ex
  rcases hD with ⟨_, rfl⟩ | ⟨e, _⟩
  · exact .of (h kV doc pm an cdv ct)
  · exact absurd rfl e
/-- a callable of a lower level whose promise asks the impossible -/
theorem cl_mk {PR : Program} {w : World} {K : PySem.W.Frag} {mg : Str → Option Value} {base : Heap} {T : Th} {k : Nat} {x : Str} {n : Nat} {S S' : DSp} {f : Addr} {fd : FuncData} {ps : List Str} (F : FnOk PR w K mg base (L2.CX PR w) k f fd ps (toSp T n S')) (h : ∀ ds Om Q R, ds.length = n → S ds Om Q R → S' ds Om Q R)
    (g : mg x = some (.ref f)) (kp : PySem.W.keepIn K (.ref f) = true) (b : Binds K fd ps []) : Cl PR w K mg base T k x n S := ⟨_, _, _, F.imp (toSp_imp h), g, kp, b⟩
theorem clK_mk {PR : Program} {w : World} {K : PySem.W.Frag} {mg : Str → Option Value} {base : Heap} {T : Th} {k : Nat} {x : Str} {n m : Nat} {ks : List Str} {S S' : DSp} {f : Addr} {fd : FuncData} {ps : List Str} (F : FnOk PR w K mg base (L2.CX PR w) k f fd ps (toSp T n S')) (h : ∀ ds Om Q R, ds.length = n → S ds Om Q R → S' ds Om Q R)
    (g : mg x = some (.ref f)) (kp : PySem.W.keepIn K (.ref f) = true) (b : KB K fd ps m ks) (e : n = m + ks.length) : ClK PR w K mg base T k x n m ks S := ⟨_, _, _, F.imp (toSp_imp h), g, kp, b, e⟩
/-- a callable of which nothing is asked -/
theorem cl_no {PR : Program} {w : World} {K : PySem.W.Frag} {mg : Str → Option Value} {base : Heap} {T : Th} {k : Nat} {x : Str} {n : Nat} {f : Addr} {fd : FuncData} {ps : List Str}
    (g : mg x = some (.ref f)) (kp : PySem.W.keepIn K (.ref f) = true) (b : Binds K fd ps []) : Cl PR w K mg base T k x n (fun _ _ _ _ => False) :=
  have no : ∀ vs H Q E, toSp T n (fun _ _ _ _ => False) vs H Q E → False := fun _ _ _ _ ⟨_, _, _, _, _, _, _, z, _⟩ => z
  ⟨_, _, _, ⟨fun _ _ _ _ h => (no _ _ _ _ h).elim, fun _ _ _ _ _ _ _ _ _ _ _ _ _ h => (no _ _ _ _ h).elim⟩, g, kp, b⟩
/-- the law's own promise -/
theorem sp_start {T : Th} {S : DSp} {H : Hp} {a : Addr} {ns : List Int} (h : SqL T.K H a (ns.map V.int)) (hs : S [.scr ns] (fun _ => none) (fun d _ => d = .bl true) (fun _ _ => False)) : toSp T 1 S [.ref a] H (fun v _ => v = .bl true) fun _ _ _ => False := by
  refine ⟨[.scr ns], ⟨fun _ => none, fun _ _ => False, fun _ => False⟩, _, _, rfl, .cons ?_ .nil, ⟨fun _ _ e => (by cases e), fun b ⟨_, z, _⟩ => (z rfl).elim, fun _ _ _ z => (z rfl).elim, fun _ z => z.elim⟩, hs, fun d O q v H' W' s e r => ?_, fun x O z => z.elim⟩
  · simp only [Rep]
    refine ⟨a, rfl, ?_⟩
    rcases h with h | h
    · exact .inl ⟨h, fun z => z⟩
    · exact .inr (.inr h)
  · subst q
    simpa [Rep] using r
theorem walk_of {l : PySem.W.OpenLaw} {n k : Nat} {q : Program} {loose : List Str} {XP : (Str → Option Value) → Heap → Prop} {YP : World → Heap → Prop} {d : DefRec} {x : Str}
    (hn : l.most = some n) (hn2 : n ≤ sizeLine) (hdf : d.params.defaults = []) (hr : Room k callerA)
    (F : ∀ (w : World) (mg : Str → Option Value) (fa : Addr) (h : Heap), YP w h → h.Ns mainGlobals mg → mg d.name = some (.ref fa) →
      ∃ (T : Th) (fd : FuncData) (S : DSp), T.K.In h ∧ (∀ (s : Shared) (u : Value), BindsTo s fd ⟨[u], []⟩ [(x, u)]) ∧
        (∀ ns : List Int, ns.length ≤ n → (∀ z ∈ ns, Builtin.Int.intBits z ≤ 1048576) → S [.scr ns] (fun _ => none) (fun d _ => d = .bl true) (fun _ _ => False)) ∧
        ∀ base : Heap, T.K.In base → base.Ns mainGlobals mg → FnOk l.prog w T.K mg base (L2.CX l.prog w) k fa fd [x] (toSp T 1 S)) :
    PySem.W.WalkO q loose XP YP l.row.toRowW d [] (fun f vs => PySem.call f vs) := by
  refine Att.attach_callB hn hdf fun w s₀ s₁ mg mb fa o pm cd doc a vs ns G Y ho hd hcd hmg hobj hints hlen hbits hg => ?_
  obtain ⟨T, fd, S, KX, hb, hsp, hF⟩ := F w mg fa _ Y G.T.g hmg
  refine law_call (CX := L2.CX l.prog w) KX G.T.g G.T.b G.T.builtins G.T.nolimit hg hobj hints (Nat.le_trans hlen hn2) hr hF hb (fun H hO hS => sp_start hS (hsp ns hlen hbits)) fun H e s' h => ?_
  obtain ⟨_, _, h⟩ := h
  simp at h
end N

set_option Elab.async false
set_option linter.all false
set_option maxRecDepth 100000
namespace K09
open PySem PySem.Spec PyProof.Rows L2 N
/-- octets -/
def Oct (os : List Int) : Prop := ∀ o ∈ os, 0 ≤ o ∧ o < 256
abbrev iD (os : List Int) : List D := os.map D.int
def numOf (os : List Int) : Int := os.foldl (fun n o => n * 256 + o) 0
def octs (n : Int) (k : Nat) : List Int := (List.range k).map fun (i : Nat) => n / 2 ^ (8 * (k - 1 - i)) % 256
def rot (w : Int) (c : Nat) : Int := w / 2 ^ c + w % 2 ^ c * 2 ^ (32 - c)
def padL (os : List Int) : List Int := os ++ [128] ++ List.replicate ((55 - (os.length : Int)) % 64).toNat 0 ++ octs (8 * os.length) 8
def wordsL (os : List Int) : List Int := (List.range 16).map fun (i : Nat) => numOf ((os.drop (4 * i)).take 4)
def bitsL (w : Int) : List Int := (List.range 32).map fun (i : Nat) => w / 2 ^ i % 2
def sok : Nat → D → Prop
  | _, .int _ => True
  | n + 1, .tup xs => xs.length < 16777216 ∧ ∀ x ∈ xs, sok n x
  | _, _ => False
def sp_number_of : DSp := fun ds Om Q _ => ∃ os, ds = [.tup (iD os)] ∧ Oct os ∧ os.length ≤ 1000 ∧ Q (.int (numOf os)) Om
def sp_as_octets : DSp := fun ds Om Q _ => ∃ (n : Int) (k : Nat), ds = [.int n, .int k] ∧ 0 ≤ n ∧ n < 2 ^ (8 * k) ∧ k ≤ 1000 ∧ Q (.tup (iD (octs n k))) Om
def sp_rotated : DSp := fun ds Om Q _ => ∃ (w : Int) (c : Nat), ds = [.int w, .int c] ∧ 0 ≤ w ∧ w < 2 ^ 32 ∧ c ≤ 32 ∧ Q (.int (rot w c)) Om
def sp_padded : DSp := fun ds Om Q _ => ∃ os, ds = [.tup (iD os)] ∧ os.length ≤ 10000 ∧ Q (.tup (iD (padL os))) Om
def sp_block_words : DSp := fun ds Om Q _ => ∃ os, ds = [.tup (iD os)] ∧ Oct os ∧ os.length = 64 ∧ Q (.tup (iD (wordsL os))) Om
def sp__law_cell : DSp := fun ds Om Q _ => ∃ (ns : List Int) (k : Nat), ds = [.scr ns, .int k] ∧ ∀ c : Int, Q (.int c) Om
def sp__law_rich : DSp := fun ds Om Q _ => ∃ (c : Int) (k : Nat), ds = [.int c, .int k] ∧ k ≤ 1000 ∧ ∀ r : Int, 0 ≤ r → Q (.int r) Om
def sp__law_codes : DSp := fun ds Om Q _ => ∃ (r : Int) (n : Nat) (b : Int), ds = [.int r, .int n, .int b] ∧ n ≤ 1000 ∧ 0 < b ∧ b < 1073741824 ∧ ∀ cs : List Int, cs.length = n → (∀ c ∈ cs, 0 ≤ c ∧ c < b) → Q (.lst (iD cs)) Om
def sp__law_same (n : Nat) : DSp := fun ds Om Q _ => ∃ d, ds = [d, d] ∧ sok n d ∧ Q (.bl true) Om
def sp__law_octets : DSp := fun ds Om Q _ => ∃ (r : Int), ds = [.int r, .int 17] ∧ 0 ≤ r ∧ ∀ os : List Int, os.length = 17 → Oct os → Q (.tup (iD os)) Om
def sp__law_bits : DSp := fun ds Om Q _ => ∃ (w : Int), ds = [.int w] ∧ Q (.lst (iD (bitsL w))) Om
def sp__law_ring_right : DSp := fun ds Om Q _ => ∃ (w : Int) (c : Nat), ds = [.int w, .int c] ∧ 0 ≤ w ∧ w < 2 ^ 32 ∧ c ≤ 32 ∧ Q (.bl true) Om
def sp__law_padded_right : DSp := fun ds Om Q _ => ∃ os, ds = [.tup (iD os)] ∧ os.length ≤ 10000 ∧ Q (.bl true) Om
def sp_law : DSp := fun ds Om Q _ => ∃ ns : List Int, ds = [.scr ns] ∧ ns.length ≤ 63 ∧ Q (.bl true) Om
end K09

set_option Elab.async false
set_option linter.all false
set_option maxRecDepth 100000
set_option maxHeartbeats 0
namespace K09
open PySem PySem.Spec PyProof.Rows L2 N
def top (i : Nat) : Stmt := PySem.Challenge.pw_anyenough_k09_padding_and_rings.main.body.getD i (.Pass ⟨0, 0, 0, 0⟩)
structure Mg (mg : Str → Option Value) : Prop where
  n_MASK : ∃ t, mg "MASK" = some (.int 4294967295 t)
  n_all : mg "all" = none
  n_bool : mg "bool" = none
  n_int : mg "int" = none
  n_isinstance : mg "isinstance" = none
  n_len : mg "len" = none
  n_list : mg "list" = none
  n_max : mg "max" = none
  n_min : mg "min" = none
  n_range : mg "range" = none
  n_str : mg "str" = none
  n_tuple : mg "tuple" = none
abbrev s_number_of : Stmt := top 4
theorem sc_number_of : FnScope ["octets", "number", "octet"] ["octets"] (defScope s_number_of) := ⟨rfl, rfl, rfl, by decide +kernel, rfl, by decide +kernel, by decide +kernel⟩
abbrev w_number_of_b1 : WS := (wSet 1 (wBin (gOr) (wBin (gShl) (wVarB 1) (wC (.int 8))) (wVarB 2)))
def w_number_of : WS := (wSeq (wSet 1 (wC (.int 0)))
  (wSeq (wFor (wIt (wVar 0)) (fName 2) (w_number_of_b1))
  (wRet (wVar 1))))
theorem k_number_of {PR : Program} {w : World} {K : PySem.W.Frag} {mg : Str → Option Value} {base : Heap} {T : Th} {f : Addr} {fd : FuncData} (hT : T.K = K) (M : Mg mg) (F : FnP K "number_of" s_number_of f fd) :
    FnOk PR w K mg base (L2.CX PR w) 1 f fd ["octets"] (toSp T 1 (wFn 3 (w_number_of))) :=
  fn_okD F sc_number_of T (w_number_of) fun cdv A outer s H E W ok hr tk po =>
    have nd := sc_number_of.nd
    have hu := hr.units
    (dss_cons (ds_set nd 1 de_int)
      (dss_cons (ds_for po rfl (di_val hT (de_var 0)) (dg_name nd 2) (dss_one (ds_set nd 1 (de_bin (od_or) (de_bin (od_shl) (db_var 1) de_int.br).br (db_var 2)))))
      (dss_one (ds_ret (de_var 1)))))
abbrev s_as_octets : Stmt := top 5
theorem sc_as_octets : FnScope ["number", "size", "place"] ["number", "size"] (defScope s_as_octets) := ⟨rfl, rfl, rfl, by decide +kernel, rfl, by decide +kernel, by decide +kernel⟩
def w_as_octets : WS := (wSeq (wIfS (wtOr (wTst (wBin (gLt) (wVarB 0) (wC (.int 0)))) (wTst (wBin (gNe) (wBin (gShr) (wVarB 0) (wBin (gMul) (wC (.int 8)) (wVarB 1))) (wC (.int 0))))) wNev wNext)
  (wRet (wCall gTuple (waCons (wFrz (wComp (wRng gRng3 (waCons (wBin (gSub) (wVarB 1) (wC (.int 1))) (waCons (wUn gNeg (wC (.int 1))) (waCons (wUn gNeg (wC (.int 1))) waNil)))) (fName 2) wtYes (wBin (gAnd) (wBin (gShr) (wVarB 0) (wBin (gMul) (wC (.int 8)) (wVarB 2))) (wC (.int 255))) [2])) waNil))))
theorem k_as_octets {PR : Program} {w : World} {K : PySem.W.Frag} {mg : Str → Option Value} {base : Heap} {T : Th} {f : Addr} {fd : FuncData} (hT : T.K = K) (M : Mg mg) (F : FnP K "as_octets" s_as_octets f fd) :
    FnOk PR w K mg base (L2.CX PR w) 1 f fd ["number", "size"] (toSp T 2 (wFn 3 (w_as_octets))) :=
  fn_okD F sc_as_octets T (w_as_octets) fun cdv A outer s H E W ok hr tk po =>
    have nd := sc_as_octets.nd
    have hu := hr.units
    (dss_cons (ds_if (dw_or (dt_cmp (od_lt) (db_var 0) de_int.br) (dw_or1 (dt_cmp (od_ne hT hu) (de_bin (od_shr) (db_var 0) (de_bin (od_mul hT) de_int.br (db_var 1)).br).br de_int.br))).t (dss_one ds_never) dss_nil)
      (dss_one (ds_ret (de_callT (cd_tuple hT) M.n_tuple (dab_cons (df_lc rfl nd [("place", 2)] (di_rng3 M.n_range (da_cons (de_bin (od_sub) (db_var 1) de_int.br) (da_cons (de_un ud_neg de_int.br) (da_cons (de_un ud_neg de_int.br) da_nil)))) (fun _ _ _ _ _ => (dg_name nd 2)) (fun _ _ _ _ _ => dts_nil) (fun _ _ _ _ _ => (de_bin (od_and) (de_bin (od_shr) (db_var 0) (de_bin (od_mul hT) de_int.br (db_var 2)).br).br de_int.br))).br dab_nil)))))
abbrev s_rotated : Stmt := top 8
theorem sc_rotated : FnScope ["word", "count"] ["word", "count"] (defScope s_rotated) := ⟨rfl, rfl, rfl, by decide +kernel, rfl, by decide +kernel, by decide +kernel⟩
def w_rotated : WS := (wRet (wBin (gAnd) (wBin (gOr) (wBin (gShr) (wVarB 0) (wVarB 1)) (wBin (gShl) (wVarB 0) (wBin (gSub) (wC (.int 32)) (wVarB 1)))) (wC (.int 4294967295))))
theorem k_rotated {PR : Program} {w : World} {K : PySem.W.Frag} {mg : Str → Option Value} {base : Heap} {T : Th} {f : Addr} {fd : FuncData} (hT : T.K = K) (M : Mg mg) (F : FnP K "rotated" s_rotated f fd) :
    FnOk PR w K mg base (L2.CX PR w) 1 f fd ["word", "count"] (toSp T 2 (wFn 2 (w_rotated))) :=
  fn_okD F sc_rotated T (w_rotated) fun cdv A outer s H E W ok hr tk po =>
    have nd := sc_rotated.nd
    have hu := hr.units
    (dss_one (ds_ret (de_bin (od_and) (de_bin (od_or) (de_bin (od_shr) (db_var 0) (db_var 1)).br (de_bin (od_shl) (db_var 0) (de_bin (od_sub) de_int.br (db_var 1)).br).br).br (de_gintE M.n_MASK).br)))
abbrev s_padded : Stmt := top 9
theorem sc_padded : FnScope ["octets", "zeros"] ["octets"] (defScope s_padded) := ⟨rfl, rfl, rfl, by decide +kernel, rfl, by decide +kernel, by decide +kernel⟩
def w_padded : WS := (wSeq (wSet 1 (wBin (gMod) (wBin (gSub) (wC (.int 55)) (wCall gLen (waCons (wVarB 0) waNil))) (wC (.int 64))))
  (wRet (wBin (gAdd) (wBin (gAdd) (wBin (gAdd) (wVarB 0) (wTup (waCons (wC (.int 128)) waNil))) (wBin (gMul) (wTup (waCons (wC (.int 0)) waNil)) (wVarB 1))) (wCallK 1 2 sp_as_octets (waCons (wBin (gMul) (wC (.int 8)) (wCall gLen (waCons (wVarB 0) waNil))) waNil) (waCons (wC (.int 8)) waNil)))))
theorem k_padded {PR : Program} {w : World} {K : PySem.W.Frag} {mg : Str → Option Value} {base : Heap} {T : Th} {f : Addr} {fd : FuncData} (hT : T.K = K) (M : Mg mg) (F : FnP K "padded" s_padded f fd) (c_as_octets : ClK PR w K mg base T 1 "as_octets" 2 1 ["size"] sp_as_octets) :
    FnOk PR w K mg base (L2.CX PR w) 2 f fd ["octets"] (toSp T 1 (wFn 2 (w_padded))) :=
  fn_okD F sc_padded T (w_padded) fun cdv A outer s H E W ok hr tk po =>
    have nd := sc_padded.nd
    have hu := hr.units
    (dss_cons (ds_set nd 1 (de_bin (od_mod) (de_bin (od_sub) de_int.br (de_callB (cd_len hT) M.n_len (dab_cons (db_var 0) dab_nil)).br).br de_int.br))
      (dss_one (ds_ret (de_bin (od_add hT) (de_bin (od_add hT) (de_bin (od_add hT) (db_var 0) (de_tup (da_cons de_int da_nil)).br).br (de_bin (od_mul hT) (de_tup (da_cons de_int da_nil)).br (db_var 1)).br).br (de_clK c_as_octets (hr.mono (by decide)) tk (da_cons (de_bin (od_mul hT) de_int.br (de_callB (cd_len hT) M.n_len (dab_cons (db_var 0) dab_nil)).br) da_nil) (dk_cons de_int dk_nil)).br))))
abbrev s_block_words : Stmt := top 10
theorem sc_block_words : FnScope ["block", "at"] ["block"] (defScope s_block_words) := ⟨rfl, rfl, rfl, by decide +kernel, rfl, by decide +kernel, by decide +kernel⟩
def w_block_words : WS := (wRet (wCall gTuple (waCons (wFrz (wComp (wRng gRng3 (waCons (wC (.int 0)) (waCons (wC (.int 64)) (waCons (wC (.int 4)) waNil)))) (fName 1) wtYes (wCallU 1 sp_number_of [] (waCons (wSl (wVarB 0) (woSome (wVar 1)) (woSome (wBin (gAdd) (wVarB 1) (wC (.int 4))))) waNil)) [1])) waNil)))
theorem k_block_words {PR : Program} {w : World} {K : PySem.W.Frag} {mg : Str → Option Value} {base : Heap} {T : Th} {f : Addr} {fd : FuncData} (hT : T.K = K) (M : Mg mg) (F : FnP K "block_words" s_block_words f fd) (c_number_of : Cl PR w K mg base T 1 "number_of" 1 sp_number_of) :
    FnOk PR w K mg base (L2.CX PR w) 2 f fd ["block"] (toSp T 1 (wFn 2 (w_block_words))) :=
  fn_okD F sc_block_words T (w_block_words) fun cdv A outer s H E W ok hr tk po =>
    have nd := sc_block_words.nd
    have hu := hr.units
    (dss_one (ds_ret (de_callT (cd_tuple hT) M.n_tuple (dab_cons (df_lc rfl nd [("at", 1)] (di_rng3 M.n_range (da_cons de_int (da_cons de_int (da_cons de_int da_nil)))) (fun _ _ _ _ _ => (dg_name nd 1)) (fun _ _ _ _ _ => dts_nil) (fun _ _ _ _ _ => (de_cl c_number_of (hr.mono (by decide)) takes0 (da_cons (de_sl hT (db_var 0) (do_some (de_var 1)) (do_some (de_bin (od_add hT) (db_var 1) de_int.br))) da_nil)))).br dab_nil))))
abbrev s__law_cell : Stmt := top 12
theorem sc__law_cell : FnScope ["script", "k"] ["script", "k"] (defScope s__law_cell) := ⟨rfl, rfl, rfl, by decide +kernel, rfl, by decide +kernel, by decide +kernel⟩
def w__law_cell : WS := (wSeq (wIfS (wTst (wBin (gLt) (wVarB 1) (wCall gLen (waCons (wVarB 0) waNil)))) (wRet (wCall gInt (waCons (wBin gIx (wVarB 0) (wVarB 1)) waNil))) wNext)
  (wRet (wC (.int 0))))
theorem k__law_cell {PR : Program} {w : World} {K : PySem.W.Frag} {mg : Str → Option Value} {base : Heap} {T : Th} {f : Addr} {fd : FuncData} (hT : T.K = K) (M : Mg mg) (F : FnP K "_law_cell" s__law_cell f fd) :
    FnOk PR w K mg base (L2.CX PR w) 1 f fd ["script", "k"] (toSp T 2 (wFn 2 (w__law_cell))) :=
  fn_okD F sc__law_cell T (w__law_cell) fun cdv A outer s H E W ok hr tk po =>
    have nd := sc__law_cell.nd
    have hu := hr.units
    (dss_cons (ds_if (dt_cmp (od_lt) (db_var 1) (de_callB (cd_len hT) M.n_len (dab_cons (db_var 0) dab_nil)).br) (dss_one (ds_ret (de_callT (cd_int) M.n_int (dab_cons (de_ix (id_ix hT hu) (db_var 0) (db_var 1)).br dab_nil)))) dss_nil)
      (dss_one (ds_ret de_int)))
abbrev s__law_rich : Stmt := top 13
theorem sc__law_rich : FnScope ["cell", "k", "rich", "mixed", "turn"] ["cell", "k"] (defScope s__law_rich) := ⟨rfl, rfl, rfl, by decide +kernel, rfl, by decide +kernel, by decide +kernel⟩
abbrev w__law_rich_b1 : WS := (wSeq (wSet 3 (wBin (gMod) (wCall gInt (waCons (wBin (gAdd) (wBin (gAdd) (wBin (gAdd) (wBin (gMul) (wVarB 3) (wVarB 3)) (wBin (gMul) (wVarB 3) (wC (.int 16807)))) (wVarB 4)) (wC (.int 7))) waNil)) (wC (.int 2147483647))))
  (wSet 2 (wBin (gAdd) (wBin (gMul) (wVarB 2) (wC (.int 2147483647))) (wVarB 3))))
def w__law_rich : WS := (wSeq (wIfS (wTst (wBin (gGe) (wVarB 0) (wBin (gPow) (wC (.int 10)) (wC (.int 18))))) (wRet (wCall gInt (waCons (wVarB 0) waNil))) wNext)
  (wSeq (wSet 2 (wC (.int 0)))
  (wSeq (wSet 3 (wBin (gMod) (wCall gInt (waCons (wBin (gAdd) (wBin (gAdd) (wBin (gMul) (wVarB 0) (wC (.int 48271))) (wBin (gMul) (wVarB 1) (wC (.int 69621)))) (wC (.int 11))) waNil)) (wC (.int 2147483647))))
  (wSeq (wFor (wRng gRng1 (waCons (wC (.int 7)) waNil)) (fName 4) (w__law_rich_b1))
  (wRet (wVar 2))))))
theorem k__law_rich {PR : Program} {w : World} {K : PySem.W.Frag} {mg : Str → Option Value} {base : Heap} {T : Th} {f : Addr} {fd : FuncData} (hT : T.K = K) (M : Mg mg) (F : FnP K "_law_rich" s__law_rich f fd) :
    FnOk PR w K mg base (L2.CX PR w) 1 f fd ["cell", "k"] (toSp T 2 (wFn 5 (w__law_rich))) :=
  fn_okD F sc__law_rich T (w__law_rich) fun cdv A outer s H E W ok hr tk po =>
    have nd := sc__law_rich.nd
    have hu := hr.units
    (dss_cons (ds_if (dt_cmp (od_ge) (db_var 0) (de_bin (od_pow) de_int.br de_int.br).br) (dss_one (ds_ret (de_callT (cd_int) M.n_int (dab_cons (db_var 0) dab_nil)))) dss_nil)
      (dss_cons (ds_set nd 2 de_int)
      (dss_cons (ds_set nd 3 (de_bin (od_mod) (de_callT (cd_int) M.n_int (dab_cons (de_bin (od_add hT) (de_bin (od_add hT) (de_bin (od_mul hT) (db_var 0) de_int.br).br (de_bin (od_mul hT) (db_var 1) de_int.br).br).br de_int.br).br dab_nil)).br de_int.br))
      (dss_cons (ds_for po rfl (di_rng1 M.n_range (da_cons de_int da_nil)) (dg_name nd 4) (dss_cons (ds_set nd 3 (de_bin (od_mod) (de_callT (cd_int) M.n_int (dab_cons (de_bin (od_add hT) (de_bin (od_add hT) (de_bin (od_add hT) (de_bin (od_mul hT) (db_var 3) (db_var 3)).br (de_bin (od_mul hT) (db_var 3) de_int.br).br).br (db_var 4)).br de_int.br).br dab_nil)).br de_int.br))
      (dss_one (ds_set nd 2 (de_bin (od_add hT) (de_bin (od_mul hT) (db_var 2) de_int.br).br (db_var 3))))))
      (dss_one (ds_ret (de_var 2)))))))
abbrev s__law_codes : Stmt := top 14
theorem sc__law_codes : FnScope ["rich", "count", "base", "codes", "turn"] ["rich", "count", "base"] (defScope s__law_codes) := ⟨rfl, rfl, rfl, by decide +kernel, rfl, by decide +kernel, by decide +kernel⟩
abbrev w__law_codes_b1 : WS := (wSeq (wApp 3 (wBin (gMod) (wCall gInt (waCons (wVarB 0) waNil)) (wVarB 2)))
  (wSet 0 (wBin (gDiv) (wVarB 0) (wVarB 2))))
def w__law_codes : WS := (wSeq (wSetO 3 (wLst waNil))
  (wSeq (wFor (wRng gRng1 (waCons (wVar 1) waNil)) (fName 4) (w__law_codes_b1))
  (wRetO 3)))
theorem k__law_codes {PR : Program} {w : World} {K : PySem.W.Frag} {mg : Str → Option Value} {base : Heap} {T : Th} {f : Addr} {fd : FuncData} (hT : T.K = K) (M : Mg mg) (F : FnP K "_law_codes" s__law_codes f fd) :
    FnOk PR w K mg base (L2.CX PR w) 1 f fd ["rich", "count", "base"] (toSp T 3 (wFn 5 (w__law_codes))) :=
  fn_okD F sc__law_codes T (w__law_codes) fun cdv A outer s H E W ok hr tk po =>
    have nd := sc__law_codes.nd
    have hu := hr.units
    (dss_cons (ds_setO nd 3 (df_lst da_nil))
      (dss_cons (ds_for po rfl (di_rng1 M.n_range (da_cons (de_var 1) da_nil)) (dg_name nd 4) (dss_cons (ds_app hT 3 (de_bin (od_mod) (de_callT (cd_int) M.n_int (dab_cons (db_var 0) dab_nil)).br (db_var 2)))
      (dss_one (ds_set nd 0 (de_bin (od_div) (db_var 0) (db_var 2))))))
      (dss_one (ds_retO 3 ok))))
abbrev s__law_same : Stmt := top 15
theorem sc__law_same : FnScope ["actual", "due", "k"] ["actual", "due"] (defScope s__law_same) := ⟨rfl, rfl, rfl, by decide +kernel, rfl, by decide +kernel, by decide +kernel⟩
def w__law_same (S : DSp) : WS := (wSeq (wIfS (wTst (wCall gIsi (waCons (wVarB 1) (waCons (wC (.ty "tuple")) waNil)))) (wSeq (wIfS (wtOr (wtNot (wTst (wCall gIsi (waCons (wVarB 0) (waCons (wC (.ty "tuple")) waNil))))) (wTst (wBin (gNe) (wCall gLen (waCons (wVarB 0) waNil)) (wCall gLen (waCons (wVarB 1) waNil))))) (wRet (wC (.bl false))) wNext)
  (wRet (wCall gAll (waCons (wFrz (wComp (wRng gRng1 (waCons (wCall gLen (waCons (wVarB 1) waNil)) waNil)) (fName 2) wtYes (wCallU 2 S [] (waCons (wBin gIx (wVarB 0) (wVarB 2)) (waCons (wBin gIx (wVarB 1) (wVarB 2)) waNil))) [2])) waNil)))) wNext)
  (wSeq (wIfS (wTst (wCall gIsi (waCons (wVarB 1) (waCons (wC (.ty "list")) waNil)))) (wSeq (wIfS (wtOr (wtNot (wTst (wCall gIsi (waCons (wVarB 0) (waCons (wC (.ty "list")) waNil))))) (wTst (wBin (gNe) (wCall gLen (waCons (wVarB 0) waNil)) (wCall gLen (waCons (wVarB 1) waNil))))) (wRet (wC (.bl false))) wNext)
  (wRet (wCall gAll (waCons (wFrz (wComp (wRng gRng1 (waCons (wCall gLen (waCons (wVarB 1) waNil)) waNil)) (fName 2) wtYes (wCallU 2 S [] (waCons (wBin gIx (wVarB 0) (wVarB 2)) (waCons (wBin gIx (wVarB 1) (wVarB 2)) waNil))) [2])) waNil)))) wNext)
  (wSeq (wIfS (wTst (wBin (gIs) (wVarB 1) (wC .non))) (wRet (wBin (gIs) (wVarB 0) (wC .non))) wNext)
  (wSeq (wIfS (wTst (wCall gIsi (waCons (wVarB 1) (waCons (wC (.ty "str")) waNil)))) (wRet (wAnd (wCall gIsi (waCons (wVarB 0) (waCons (wC (.ty "str")) waNil))) (wBin (gEq) (wVarB 0) (wVarB 1)))) wNext)
  (wSeq (wIfS (wTst (wCall gIsi (waCons (wVarB 1) (waCons (wC (.ty "bool")) waNil)))) (wRet (wAnd (wCall gIsi (waCons (wVarB 0) (waCons (wC (.ty "bool")) waNil))) (wBin (gEq) (wVarB 0) (wVarB 1)))) wNext)
  (wRet (wAnd (wCall gIsi (waCons (wVarB 0) (waCons (wC (.ty "int")) waNil))) (wAnd (wNot (wCall gIsi (waCons (wVarB 0) (waCons (wC (.ty "bool")) waNil)))) (wBin (gEq) (wVarB 0) (wVarB 1))))))))))
theorem k__law_same {PR : Program} {w : World} {K : PySem.W.Frag} {mg : Str → Option Value} {base : Heap} {T : Th} {f : Addr} {fd : FuncData} {k : Nat} (S : DSp) (hT : T.K = K) (M : Mg mg) (F : FnP K "_law_same" s__law_same f fd) (c__law_same : Cl PR w K mg base T k "_law_same" 2 S) :
    FnOk PR w K mg base (L2.CX PR w) (k + 1) f fd ["actual", "due"] (toSp T 2 (wFn 3 (w__law_same S))) :=
  fn_okD F sc__law_same T (w__law_same S) fun cdv A outer s H E W ok hr tk po =>
    have nd := sc__law_same.nd
    have hu := hr.units
    (dss_cons (ds_if (dt_val (de_callB (cd_isi hT) M.n_isinstance (dab_cons (db_var 1) (dab_cons (de_ty M.n_tuple).br dab_nil)))) (dss_cons (ds_if (dw_or (dt_not (dt_val (de_callB (cd_isi hT) M.n_isinstance (dab_cons (db_var 0) (dab_cons (de_ty M.n_tuple).br dab_nil))))) (dw_or1 (dt_cmp (od_ne hT hu) (de_callB (cd_len hT) M.n_len (dab_cons (db_var 0) dab_nil)).br (de_callB (cd_len hT) M.n_len (dab_cons (db_var 1) dab_nil)).br))).t (dss_one (ds_ret de_bl)) dss_nil)
      (dss_one (ds_ret (de_callB (cd_all rfl) M.n_all (dab_cons (df_lc rfl nd [("k", 2)] (di_rng1 M.n_range (da_cons (de_callB (cd_len hT) M.n_len (dab_cons (db_var 1) dab_nil)) da_nil)) (fun _ _ _ _ _ => (dg_name nd 2)) (fun _ _ _ _ _ => dts_nil) (fun _ _ _ _ _ => (de_cl c__law_same hr takes0 (da_cons (de_ix (id_ix hT hu) (db_var 0) (db_var 2)) (da_cons (de_ix (id_ix hT hu) (db_var 1) (db_var 2)) da_nil))))).br dab_nil))))) dss_nil)
      (dss_cons (ds_if (dt_val (de_callB (cd_isi hT) M.n_isinstance (dab_cons (db_var 1) (dab_cons (de_ty M.n_list).br dab_nil)))) (dss_cons (ds_if (dw_or (dt_not (dt_val (de_callB (cd_isi hT) M.n_isinstance (dab_cons (db_var 0) (dab_cons (de_ty M.n_list).br dab_nil))))) (dw_or1 (dt_cmp (od_ne hT hu) (de_callB (cd_len hT) M.n_len (dab_cons (db_var 0) dab_nil)).br (de_callB (cd_len hT) M.n_len (dab_cons (db_var 1) dab_nil)).br))).t (dss_one (ds_ret de_bl)) dss_nil)
      (dss_one (ds_ret (de_callB (cd_all rfl) M.n_all (dab_cons (df_lc rfl nd [("k", 2)] (di_rng1 M.n_range (da_cons (de_callB (cd_len hT) M.n_len (dab_cons (db_var 1) dab_nil)) da_nil)) (fun _ _ _ _ _ => (dg_name nd 2)) (fun _ _ _ _ _ => dts_nil) (fun _ _ _ _ _ => (de_cl c__law_same hr takes0 (da_cons (de_ix (id_ix hT hu) (db_var 0) (db_var 2)) (da_cons (de_ix (id_ix hT hu) (db_var 1) (db_var 2)) da_nil))))).br dab_nil))))) dss_nil)
      (dss_cons (ds_if (dt_cmp (od_is) (db_var 1) de_non.br) (dss_one (ds_ret (de_cmp (od_is) (db_var 0) de_non.br))) dss_nil)
      (dss_cons (ds_if (dt_val (de_callB (cd_isi hT) M.n_isinstance (dab_cons (db_var 1) (dab_cons (de_ty M.n_str).br dab_nil)))) (dss_one (ds_ret (de_and (de_callB (cd_isi hT) M.n_isinstance (dab_cons (db_var 0) (dab_cons (de_ty M.n_str).br dab_nil))) (de_one (de_cmp (od_eq hT hu) (db_var 0) (db_var 1)))))) dss_nil)
      (dss_cons (ds_if (dt_val (de_callB (cd_isi hT) M.n_isinstance (dab_cons (db_var 1) (dab_cons (de_ty M.n_bool).br dab_nil)))) (dss_one (ds_ret (de_and (de_callB (cd_isi hT) M.n_isinstance (dab_cons (db_var 0) (dab_cons (de_ty M.n_bool).br dab_nil))) (de_one (de_cmp (od_eq hT hu) (db_var 0) (db_var 1)))))) dss_nil)
      (dss_one (ds_ret (de_and (de_callB (cd_isi hT) M.n_isinstance (dab_cons (db_var 0) (dab_cons (de_ty M.n_int).br dab_nil))) (de_and (de_not (de_callB (cd_isi hT) M.n_isinstance (dab_cons (db_var 0) (dab_cons (de_ty M.n_bool).br dab_nil)))) (de_one (de_cmp (od_eq hT hu) (db_var 0) (db_var 1))))))))))))
abbrev s__law_octets : Stmt := top 16
theorem sc__law_octets : FnScope ["rich", "count", "code"] ["rich", "count"] (defScope s__law_octets) := ⟨rfl, rfl, rfl, by decide +kernel, rfl, by decide +kernel, by decide +kernel⟩
def w__law_octets : WS := (wRet (wCall gTuple (waCons (wFrz (wComp (wIt (wCallU 3 sp__law_codes [] (waCons (wVar 0) (waCons (wVar 1) (waCons (wC (.int 1024)) waNil))))) (fName 2) wtYes (wBin (gMod) (wBin gIx (wFrz (wLst (waCons (wVar 2) (waCons (wBin (gMod) (wVarB 2) (wC (.int 4))) (waCons (wBin (gSub) (wC (.int 255)) (wBin (gMod) (wVarB 2) (wC (.int 3)))) (waCons (wVar 2) waNil)))))) (wBin (gMod) (wBin (gDiv) (wVarB 2) (wC (.int 256))) (wC (.int 4)))) (wC (.int 256))) [2])) waNil)))
theorem k__law_octets {PR : Program} {w : World} {K : PySem.W.Frag} {mg : Str → Option Value} {base : Heap} {T : Th} {f : Addr} {fd : FuncData} (hT : T.K = K) (M : Mg mg) (F : FnP K "_law_octets" s__law_octets f fd) (c__law_codes : Cl PR w K mg base T 1 "_law_codes" 3 sp__law_codes) :
    FnOk PR w K mg base (L2.CX PR w) 2 f fd ["rich", "count"] (toSp T 2 (wFn 3 (w__law_octets))) :=
  fn_okD F sc__law_octets T (w__law_octets) fun cdv A outer s H E W ok hr tk po =>
    have nd := sc__law_octets.nd
    have hu := hr.units
    (dss_one (ds_ret (de_callT (cd_tuple hT) M.n_tuple (dab_cons (df_lc rfl nd [("code", 2)] (di_valB hT (de_cl c__law_codes (hr.mono (by decide)) tk (da_cons (de_var 0) (da_cons (de_var 1) (da_cons de_int da_nil)))).br) (fun _ _ _ _ _ => (dg_name nd 2)) (fun _ _ _ _ _ => dts_nil) (fun _ _ _ _ _ => (de_bin (od_mod) (de_ix (id_ix hT hu) (df_lst (da_cons (de_var 2) (da_cons (de_bin (od_mod) (db_var 2) de_int.br) (da_cons (de_bin (od_sub) de_int.br (de_bin (od_mod) (db_var 2) de_int.br).br) (da_cons (de_var 2) da_nil))))).br (de_bin (od_mod) (de_bin (od_div) (db_var 2) de_int.br).br de_int.br).br).br de_int.br))).br dab_nil))))
abbrev s__law_bits : Stmt := top 17
theorem sc__law_bits : FnScope ["word", "place"] ["word"] (defScope s__law_bits) := ⟨rfl, rfl, rfl, by decide +kernel, rfl, by decide +kernel, by decide +kernel⟩
def w__law_bits : WS := (wRet (wFrz (wComp (wRng gRng1 (waCons (wC (.int 32)) waNil)) (fName 1) wtYes (wBin (gMod) (wCall gInt (waCons (wBin (gShr) (wVarB 0) (wVarB 1)) waNil)) (wC (.int 2))) [1])))
theorem k__law_bits {PR : Program} {w : World} {K : PySem.W.Frag} {mg : Str → Option Value} {base : Heap} {T : Th} {f : Addr} {fd : FuncData} (hT : T.K = K) (M : Mg mg) (F : FnP K "_law_bits" s__law_bits f fd) :
    FnOk PR w K mg base (L2.CX PR w) 1 f fd ["word"] (toSp T 1 (wFn 2 (w__law_bits))) :=
  fn_okD F sc__law_bits T (w__law_bits) fun cdv A outer s H E W ok hr tk po =>
    have nd := sc__law_bits.nd
    have hu := hr.units
    (dss_one (ds_ret (df_lc rfl nd [("place", 1)] (di_rng1 M.n_range (da_cons de_int da_nil)) (fun _ _ _ _ _ => (dg_name nd 1)) (fun _ _ _ _ _ => dts_nil) (fun _ _ _ _ _ => (de_bin (od_mod) (de_callT (cd_int) M.n_int (dab_cons (de_bin (od_shr) (db_var 0) (db_var 1)).br dab_nil)).br de_int.br))).fz))
abbrev s__law_ring_right : Stmt := top 18
theorem sc__law_ring_right : FnScope ["word", "count", "told", "before", "place"] ["word", "count"] (defScope s__law_ring_right) := ⟨rfl, rfl, rfl, by decide +kernel, rfl, by decide +kernel, by decide +kernel⟩
def w__law_ring_right : WS := (wSeq (wSet 2 (wCallU 2 sp_rotated [] (waCons (wVar 0) (waCons (wVar 1) waNil))))
  (wSeq (wIfS (wtOr (wtNot (wTst (wCall gIsi (waCons (wVarB 2) (waCons (wC (.ty "int")) waNil))))) (wtOr (wTst (wCall gIsi (waCons (wVarB 2) (waCons (wC (.ty "bool")) waNil)))) (wtOr (wTst (wBin (gLt) (wVarB 2) (wC (.int 0)))) (wTst (wBin (gGe) (wVarB 2) (wBin (gShl) (wC (.int 1)) (wC (.int 32)))))))) (wRet (wC (.bl false))) wNext)
  (wSeq (wSet 3 (wCallU 1 sp__law_bits [] (waCons (wVar 0) waNil)))
  (wSeq (wIfS (wTst (wBin (gNe) (wCallU 1 sp__law_bits [] (waCons (wVar 2) waNil)) (wFrz (wComp (wRng gRng1 (waCons (wC (.int 32)) waNil)) (fName 4) wtYes (wBin gIx (wVarB 3) (wBin (gMod) (wBin (gAdd) (wVarB 4) (wVarB 1)) (wC (.int 32)))) [4])))) (wRet (wC (.bl false))) wNext)
  (wRet (wCallU 2 (sp__law_same 1) [] (waCons (wCallU 2 sp_rotated [] (waCons (wVar 2) (waCons (wBin (gSub) (wC (.int 32)) (wVarB 1)) waNil))) (waCons (wVar 0) waNil))))))))
theorem k__law_ring_right {PR : Program} {w : World} {K : PySem.W.Frag} {mg : Str → Option Value} {base : Heap} {T : Th} {f : Addr} {fd : FuncData} (hT : T.K = K) (M : Mg mg) (F : FnP K "_law_ring_right" s__law_ring_right f fd) (c_rotated : Cl PR w K mg base T 1 "rotated" 2 sp_rotated) (c__law_bits : Cl PR w K mg base T 1 "_law_bits" 1 sp__law_bits) (c__law_same : Cl PR w K mg base T 2 "_law_same" 2 (sp__law_same 1)) :
    FnOk PR w K mg base (L2.CX PR w) 3 f fd ["word", "count"] (toSp T 2 (wFn 5 (w__law_ring_right))) :=
  fn_okD F sc__law_ring_right T (w__law_ring_right) fun cdv A outer s H E W ok hr tk po =>
    have nd := sc__law_ring_right.nd
    have hu := hr.units
    (dss_cons (ds_set nd 2 (de_cl c_rotated (hr.mono (by decide)) tk (da_cons (de_var 0) (da_cons (de_var 1) da_nil))))
      (dss_cons (ds_if (dw_or (dt_not (dt_val (de_callB (cd_isi hT) M.n_isinstance (dab_cons (db_var 2) (dab_cons (de_ty M.n_int).br dab_nil))))) (dw_or (dt_val (de_callB (cd_isi hT) M.n_isinstance (dab_cons (db_var 2) (dab_cons (de_ty M.n_bool).br dab_nil)))) (dw_or (dt_cmp (od_lt) (db_var 2) de_int.br) (dw_or1 (dt_cmp (od_ge) (db_var 2) (de_bin (od_shl) de_int.br de_int.br).br))))).t (dss_one (ds_ret de_bl)) dss_nil)
      (dss_cons (ds_set nd 3 (de_cl c__law_bits (hr.mono (by decide)) tk (da_cons (de_var 0) da_nil)))
      (dss_cons (ds_if (dt_cmp (od_ne hT hu) (de_cl c__law_bits (hr.mono (by decide)) tk (da_cons (de_var 2) da_nil)).br (df_lc rfl nd [("place", 4)] (di_rng1 M.n_range (da_cons de_int da_nil)) (fun _ _ _ _ _ => (dg_name nd 4)) (fun _ _ _ _ _ => dts_nil) (fun _ _ _ _ _ => (de_ix (id_ix hT hu) (db_var 3) (de_bin (od_mod) (de_bin (od_add hT) (db_var 4) (db_var 1)).br de_int.br).br))).br) (dss_one (ds_ret de_bl)) dss_nil)
      (dss_one (ds_ret (de_cl c__law_same (hr.mono (by decide)) tk (da_cons (de_cl c_rotated (hr.mono (by decide)) tk (da_cons (de_var 2) (da_cons (de_bin (od_sub) de_int.br (db_var 1)) da_nil))) (da_cons (de_var 0) da_nil)))))))))
abbrev s__law_padded_right : Stmt := top 19
theorem sc__law_padded_right : FnScope ["octets", "told", "zeros", "bits", "last", "k"] ["octets"] (defScope s__law_padded_right) := ⟨rfl, rfl, rfl, by decide +kernel, rfl, by decide +kernel, by decide +kernel⟩
def w__law_padded_right : WS := (wSeq (wSet 1 (wCallU 1 sp_padded [] (waCons (wVar 0) waNil)))
  (wSeq (wIfS (wtOr (wtNot (wTst (wCall gIsi (waCons (wVarB 1) (waCons (wC (.ty "tuple")) waNil))))) (wtOr (wTst (wBin (gNe) (wBin (gMod) (wCall gLen (waCons (wVarB 1) waNil)) (wC (.int 64))) (wC (.int 0)))) (wtOr (wTst (wBin (gLt) (wBin (gSub) (wCall gLen (waCons (wVarB 1) waNil)) (wCall gLen (waCons (wVarB 0) waNil))) (wC (.int 9)))) (wTst (wBin (gGt) (wBin (gSub) (wCall gLen (waCons (wVarB 1) waNil)) (wCall gLen (waCons (wVarB 0) waNil))) (wC (.int 72))))))) (wRet (wC (.bl false))) wNext)
  (wSeq (wSet 2 (wBin (gSub) (wBin (gSub) (wCall gLen (waCons (wVarB 1) waNil)) (wCall gLen (waCons (wVarB 0) waNil))) (wC (.int 9))))
  (wSeq (wSet 3 (wBin (gMul) (wC (.int 8)) (wCall gLen (waCons (wVarB 0) waNil))))
  (wSeq (wSet 4 (wCall gTuple (waCons (wFrz (wComp (wRng gRng1 (waCons (wC (.int 8)) waNil)) (fName 5) wtYes (wBin (gMod) (wCall gInt (waCons (wBin (gShr) (wVarB 3) (wBin (gMul) (wC (.int 8)) (wBin (gSub) (wC (.int 7)) (wVarB 5)))) waNil)) (wC (.int 256))) [5])) waNil)))
  (wRet (wCallU 2 (sp__law_same 1) [] (waCons (wVar 1) (waCons (wBin (gAdd) (wBin (gAdd) (wBin (gAdd) (wVarB 0) (wTup (waCons (wC (.int 128)) waNil))) (wBin (gMul) (wTup (waCons (wC (.int 0)) waNil)) (wVarB 2))) (wVarB 4)) waNil)))))))))
theorem k__law_padded_right {PR : Program} {w : World} {K : PySem.W.Frag} {mg : Str → Option Value} {base : Heap} {T : Th} {f : Addr} {fd : FuncData} (hT : T.K = K) (M : Mg mg) (F : FnP K "_law_padded_right" s__law_padded_right f fd) (c_padded : Cl PR w K mg base T 2 "padded" 1 sp_padded) (c__law_same : Cl PR w K mg base T 2 "_law_same" 2 (sp__law_same 1)) :
    FnOk PR w K mg base (L2.CX PR w) 3 f fd ["octets"] (toSp T 1 (wFn 6 (w__law_padded_right))) :=
  fn_okD F sc__law_padded_right T (w__law_padded_right) fun cdv A outer s H E W ok hr tk po =>
    have nd := sc__law_padded_right.nd
    have hu := hr.units
    (dss_cons (ds_set nd 1 (de_cl c_padded (hr.mono (by decide)) tk (da_cons (de_var 0) da_nil)))
      (dss_cons (ds_if (dw_or (dt_not (dt_val (de_callB (cd_isi hT) M.n_isinstance (dab_cons (db_var 1) (dab_cons (de_ty M.n_tuple).br dab_nil))))) (dw_or (dt_cmp (od_ne hT hu) (de_bin (od_mod) (de_callB (cd_len hT) M.n_len (dab_cons (db_var 1) dab_nil)).br de_int.br).br de_int.br) (dw_or (dt_cmp (od_lt) (de_bin (od_sub) (de_callB (cd_len hT) M.n_len (dab_cons (db_var 1) dab_nil)).br (de_callB (cd_len hT) M.n_len (dab_cons (db_var 0) dab_nil)).br).br de_int.br) (dw_or1 (dt_cmp (od_gt) (de_bin (od_sub) (de_callB (cd_len hT) M.n_len (dab_cons (db_var 1) dab_nil)).br (de_callB (cd_len hT) M.n_len (dab_cons (db_var 0) dab_nil)).br).br de_int.br))))).t (dss_one (ds_ret de_bl)) dss_nil)
      (dss_cons (ds_set nd 2 (de_bin (od_sub) (de_bin (od_sub) (de_callB (cd_len hT) M.n_len (dab_cons (db_var 1) dab_nil)).br (de_callB (cd_len hT) M.n_len (dab_cons (db_var 0) dab_nil)).br).br de_int.br))
      (dss_cons (ds_set nd 3 (de_bin (od_mul hT) de_int.br (de_callB (cd_len hT) M.n_len (dab_cons (db_var 0) dab_nil)).br))
      (dss_cons (ds_set nd 4 (de_callT (cd_tuple hT) M.n_tuple (dab_cons (df_lc rfl nd [("k", 5)] (di_rng1 M.n_range (da_cons de_int da_nil)) (fun _ _ _ _ _ => (dg_name nd 5)) (fun _ _ _ _ _ => dts_nil) (fun _ _ _ _ _ => (de_bin (od_mod) (de_callT (cd_int) M.n_int (dab_cons (de_bin (od_shr) (db_var 3) (de_bin (od_mul hT) de_int.br (de_bin (od_sub) de_int.br (db_var 5)).br).br).br dab_nil)).br de_int.br))).br dab_nil)))
      (dss_one (ds_ret (de_cl c__law_same (hr.mono (by decide)) tk (da_cons (de_var 1) (da_cons (de_bin (od_add hT) (de_bin (od_add hT) (de_bin (od_add hT) (db_var 0) (de_tup (da_cons de_int da_nil)).br).br (de_bin (od_mul hT) (de_tup (da_cons de_int da_nil)).br (db_var 2)).br).br (db_var 4)) da_nil))))))))))
abbrev s_law : Stmt := top 20
theorem sc_law : FnScope ["script", "rich", "k", "count", "octets", "word", "block", "due", "at", "one", "two", "three", "four"] ["script"] (defScope s_law) := ⟨rfl, rfl, rfl, by decide +kernel, rfl, by decide +kernel, by decide +kernel⟩
abbrev w_law_b1 : WS := (wSeq (wAsg (wSl (wVarB 6) (woSome (wBin (gMul) (wC (.int 4)) (wVarB 8))) (woSome (wBin (gAdd) (wBin (gMul) (wC (.int 4)) (wVarB 8)) (wC (.int 4))))) (fTup 4 (fCons (fName 9) (fCons (fName 10) (fCons (fName 11) (fCons (fName 12) fNil))))))
  (wApp 7 (wBin (gAdd) (wBin (gMul) (wBin (gAdd) (wBin (gMul) (wBin (gAdd) (wBin (gMul) (wVarB 9) (wC (.int 256))) (wVarB 10)) (wC (.int 256))) (wVarB 11)) (wC (.int 256))) (wVarB 12))))
abbrev w_law_b2 : WS := (wSeq (wSet 1 (wCallU 2 sp__law_rich [] (waCons (wCallU 2 sp__law_cell [] (waCons (wVar 0) (waCons (wVar 2) waNil))) (waCons (wVar 2) waNil))))
  (wSeq (wSet 3 (wBin gIx (wFrz (wLst (waCons (wBin (gMod) (wBin (gDiv) (wVarB 1) (wC (.int 9))) (wC (.int 20))) (waCons (wBin (gAdd) (wC (.int 54)) (wBin (gMod) (wBin (gDiv) (wVarB 1) (wC (.int 9))) (wC (.int 12)))) (waCons (wBin (gAdd) (wC (.int 118)) (wBin (gMod) (wBin (gDiv) (wVarB 1) (wC (.int 9))) (wC (.int 12)))) (waCons (wBin (gMod) (wBin (gDiv) (wVarB 1) (wC (.int 9))) (wC (.int 201))) waNil)))))) (wBin (gMod) (wVarB 1) (wC (.int 4)))))
  (wSeq (wSet 4 (wSl (wBin (gMul) (wCallU 2 sp__law_octets [] (waCons (wBin (gDiv) (wVarB 1) (wC (.int 77))) (waCons (wC (.int 17)) waNil))) (wC (.int 13))) woNone (woSome (wVar 3))))
  (wSeq (wIfS (wtNot (wTst (wCallU 1 sp__law_padded_right [] (waCons (wVar 4) waNil)))) (wRet (wC (.bl false))) wNext)
  (wSeq (wSet 5 (wBin gIx (wFrz (wLst (waCons (wBin (gMod) (wVarB 1) (wBin (gShl) (wC (.int 1)) (wC (.int 32)))) (waCons (wC (.int 0)) (waCons (wBin (gSub) (wBin (gShl) (wC (.int 1)) (wC (.int 32))) (wC (.int 1))) (waCons (wBin (gShl) (wC (.int 1)) (wBin (gMod) (wVarB 1) (wC (.int 32)))) (waCons (wC (.int 1)) waNil))))))) (wBin (gMod) (wBin (gDiv) (wVarB 1) (wC (.int 5))) (wC (.int 5)))))
  (wSeq (wIfS (wtOr (wtNot (wTst (wCallU 2 sp__law_ring_right [] (waCons (wVar 5) (waCons (wBin (gMod) (wBin (gDiv) (wVarB 1) (wC (.int 11))) (wC (.int 33))) waNil))))) (wtNot (wTst (wCallU 2 sp__law_ring_right [] (waCons (wVar 5) (waCons (wBin (gMod) (wVarB 2) (wC (.int 33))) waNil)))))) (wRet (wC (.bl false))) wNext)
  (wSeq (wSet 6 (wSl (wBin (gMul) (wCallU 2 sp__law_octets [] (waCons (wBin (gDiv) (wVarB 1) (wC (.int 31))) (waCons (wC (.int 17)) waNil))) (wC (.int 4))) woNone (woSome (wC (.int 64)))))
  (wSeq (wSetO 7 (wLst waNil))
  (wSeq (wFor (wRng gRng1 (waCons (wC (.int 16)) waNil)) (fName 8) (w_law_b1))
  (wIfS (wtNot (wTst (wCallU 2 (sp__law_same 1) [] (waCons (wCallU 1 sp_block_words [] (waCons (wVar 6) waNil)) (waCons (wCall gTuple (waCons (wVarB 7) waNil)) waNil))))) (wRet (wC (.bl false))) wNext))))))))))
def w_law : WS := (wSeq (wSet 1 (wCallU 2 sp__law_rich [] (waCons (wCallU 2 sp__law_cell [] (waCons (wVar 0) (waCons (wC (.int 0)) waNil))) (waCons (wC (.int 0)) waNil))))
  (wSeq (wIfS (wtNot (wTst (wCallU 1 sp__law_padded_right [] (waCons (wBin (gMul) (wTup (waCons (wBin (gMod) (wVarB 1) (wC (.int 256))) waNil)) (wBin (gAdd) (wC (.int 8188)) (wBin (gMod) (wBin (gDiv) (wVarB 1) (wC (.int 3))) (wC (.int 9))))) waNil)))) (wRet (wC (.bl false))) wNext)
  (wSeq (wFor (wRng gRng1 (waCons (wCall gMax (waCons (wC (.int 1)) (waCons (wCall gMin (waCons (wC (.int 24)) (waCons (wCall gLen (waCons (wVarB 0) waNil)) waNil))) waNil))) waNil)) (fName 2) (w_law_b2))
  (wRet (wC (.bl true))))))
theorem k_law {PR : Program} {w : World} {K : PySem.W.Frag} {mg : Str → Option Value} {base : Heap} {T : Th} {f : Addr} {fd : FuncData} (hT : T.K = K) (M : Mg mg) (F : FnP K "law" s_law f fd) (c__law_rich : Cl PR w K mg base T 1 "_law_rich" 2 sp__law_rich) (c__law_cell : Cl PR w K mg base T 1 "_law_cell" 2 sp__law_cell) (c__law_padded_right : Cl PR w K mg base T 3 "_law_padded_right" 1 sp__law_padded_right) (c__law_octets : Cl PR w K mg base T 2 "_law_octets" 2 sp__law_octets) (c__law_ring_right : Cl PR w K mg base T 3 "_law_ring_right" 2 sp__law_ring_right) (c__law_same : Cl PR w K mg base T 2 "_law_same" 2 (sp__law_same 1)) (c_block_words : Cl PR w K mg base T 2 "block_words" 1 sp_block_words) :
    FnOk PR w K mg base (L2.CX PR w) 4 f fd ["script"] (toSp T 1 (wFn 13 (w_law))) :=
  fn_okD F sc_law T (w_law) fun cdv A outer s H E W ok hr tk po =>
    have nd := sc_law.nd
    have hu := hr.units
    (dss_cons (ds_set nd 1 (de_cl c__law_rich (hr.mono (by decide)) tk (da_cons (de_cl c__law_cell (hr.mono (by decide)) tk (da_cons (de_var 0) (da_cons de_int da_nil))) (da_cons de_int da_nil))))
      (dss_cons (ds_if (dt_not (dt_val (de_cl c__law_padded_right (hr.mono (by decide)) tk (da_cons (de_bin (od_mul hT) (de_tup (da_cons (de_bin (od_mod) (db_var 1) de_int.br) da_nil)).br (de_bin (od_add hT) de_int.br (de_bin (od_mod) (de_bin (od_div) (db_var 1) de_int.br).br de_int.br).br).br) da_nil)))) (dss_one (ds_ret de_bl)) dss_nil)
      (dss_cons (ds_for po rfl (di_rng1 M.n_range (da_cons (de_callB (cd_max rfl) M.n_max (dab_cons de_int.br (dab_cons (de_callB (cd_min rfl) M.n_min (dab_cons de_int.br (dab_cons (de_callB (cd_len hT) M.n_len (dab_cons (db_var 0) dab_nil)).br dab_nil))).br dab_nil))) da_nil)) (dg_name nd 2) (dss_cons (ds_set nd 1 (de_cl c__law_rich (hr.mono (by decide)) tk (da_cons (de_cl c__law_cell (hr.mono (by decide)) tk (da_cons (de_var 0) (da_cons (de_var 2) da_nil))) (da_cons (de_var 2) da_nil))))
      (dss_cons (ds_set nd 3 (de_ix (id_ix hT hu) (df_lst (da_cons (de_bin (od_mod) (de_bin (od_div) (db_var 1) de_int.br).br de_int.br) (da_cons (de_bin (od_add hT) de_int.br (de_bin (od_mod) (de_bin (od_div) (db_var 1) de_int.br).br de_int.br).br) (da_cons (de_bin (od_add hT) de_int.br (de_bin (od_mod) (de_bin (od_div) (db_var 1) de_int.br).br de_int.br).br) (da_cons (de_bin (od_mod) (de_bin (od_div) (db_var 1) de_int.br).br de_int.br) da_nil))))).br (de_bin (od_mod) (db_var 1) de_int.br).br))
      (dss_cons (ds_set nd 4 (de_sl hT (de_bin (od_mul hT) (de_cl c__law_octets (hr.mono (by decide)) tk (da_cons (de_bin (od_div) (db_var 1) de_int.br) (da_cons de_int da_nil))).br de_int.br).br do_none (do_some (de_var 3))))
      (dss_cons (ds_if (dt_not (dt_val (de_cl c__law_padded_right (hr.mono (by decide)) tk (da_cons (de_var 4) da_nil)))) (dss_one (ds_ret de_bl)) dss_nil)
      (dss_cons (ds_set nd 5 (de_ix (id_ix hT hu) (df_lst (da_cons (de_bin (od_mod) (db_var 1) (de_bin (od_shl) de_int.br de_int.br).br) (da_cons de_int (da_cons (de_bin (od_sub) (de_bin (od_shl) de_int.br de_int.br).br de_int.br) (da_cons (de_bin (od_shl) de_int.br (de_bin (od_mod) (db_var 1) de_int.br).br) (da_cons de_int da_nil)))))).br (de_bin (od_mod) (de_bin (od_div) (db_var 1) de_int.br).br de_int.br).br))
      (dss_cons (ds_if (dw_or (dt_not (dt_val (de_cl c__law_ring_right (hr.mono (by decide)) tk (da_cons (de_var 5) (da_cons (de_bin (od_mod) (de_bin (od_div) (db_var 1) de_int.br).br de_int.br) da_nil))))) (dw_or1 (dt_not (dt_val (de_cl c__law_ring_right (hr.mono (by decide)) tk (da_cons (de_var 5) (da_cons (de_bin (od_mod) (db_var 2) de_int.br) da_nil))))))).t (dss_one (ds_ret de_bl)) dss_nil)
      (dss_cons (ds_set nd 6 (de_sl hT (de_bin (od_mul hT) (de_cl c__law_octets (hr.mono (by decide)) tk (da_cons (de_bin (od_div) (db_var 1) de_int.br) (da_cons de_int da_nil))).br de_int.br).br do_none (do_some de_int)))
      (dss_cons (ds_setO nd 7 (df_lst da_nil))
      (dss_cons (ds_for po rfl (di_rng1 M.n_range (da_cons de_int da_nil)) (dg_name nd 8) (dss_cons (ds_asg (de_sl hT (db_var 6) (do_some (de_bin (od_mul hT) de_int.br (db_var 8))) (do_some (de_bin (od_add hT) (de_bin (od_mul hT) de_int.br (db_var 8)).br de_int.br))) (dg_tup hT rfl (dgs_cons (dg_name nd 9) (dgs_cons (dg_name nd 10) (dgs_cons (dg_name nd 11) (dgs_cons (dg_name nd 12) dgs_nil))))))
      (dss_one (ds_app hT 7 (de_bin (od_add hT) (de_bin (od_mul hT) (de_bin (od_add hT) (de_bin (od_mul hT) (de_bin (od_add hT) (de_bin (od_mul hT) (db_var 9) de_int.br).br (db_var 10)).br de_int.br).br (db_var 11)).br de_int.br).br (db_var 12))))))
      (dss_one (ds_if (dt_not (dt_val (de_cl c__law_same (hr.mono (by decide)) tk (da_cons (de_cl c_block_words (hr.mono (by decide)) tk (da_cons (de_var 6) da_nil)) (da_cons (de_callT (cd_tuple hT) M.n_tuple (dab_cons (db_var 7) dab_nil)) da_nil))))) (dss_one (ds_ret de_bl)) dss_nil))))))))))))
      (dss_one (ds_ret de_bl)))))
end K09

set_option Elab.async false
set_option linter.all false
set_option maxRecDepth 100000
set_option maxHeartbeats 0
namespace K09
open PySem PySem.Spec PyProof.Rows L2 N
local macro_rules | `(tactic| tm_at "nw") => `(tactic| simp only [wFn, startG_c, startG_n, startG_z, wSeq, wSet, wC, wFor, wIt, wVar, wVarB, getSl_z, getSl_s, List.set_cons_zero, List.set_cons_succ, wRet, wBin, gI_i, gI0_i, gB0_i, gAdd_i, gAdd_t, gAdd_l, gAdd_s, gMul_i, gMul_t, gMul_l, gEq_, gNe_, gIs_n, gIs_b, gIsNot_n, gIsNot_b, isNon_n, isNon_i, isNon_b, isNon_t, isNon_l, isNon_s, wIfS, wtOr, wtAnd, wtNot, wTst, wNext, wNev, wCall, wCallF, wFrz, wLst, wTup, waNil, waCons, wComp, wRng, gRng1_i, gRng2_i, gRng3_i, wUn, gNeg_i, gTuple_t, gTuple_l, gList_t, gList_l, gList_s, gLen_t, gLen_l, gLen_s, gLen_d, gInt_i, gInt_b, gAbs_i, gMax_i, gMin_i, wipeG, MO.see, fName, wCallU, wCallK, List.append_nil, List.length_cons, List.length_nil, wSl, woNone, woSome, gSl_t, gSl_l, gIt_t, gIt_l, gIt_s, gIsi_i, gIsi_b, gIsi_t, gIsi_l, gIsi_s, gIsi_n, gIsi_d, wAsg, fTup, fCons, fNil, wAnd, wOr, wNot, wIf, wPar, wAug, wApp, wSetO, wRetO, br_t, br_f, shp_int, shp_bl, shp_non, deq_int, gAll_b, gAny_b, gSum_i, wDrop, wRetN, true_and, and_true, decide_true, decide_false, Bool.not_true, Bool.not_false, isi_NoneType_bool, isi_NoneType_int, isi_NoneType_str, isi_NoneType_tuple, isi_NoneType_list, isi_NoneType_dict, isi_bool_bool, isi_bool_int, isi_bool_str, isi_bool_tuple, isi_bool_list, isi_bool_dict, isi_int_bool, isi_int_int, isi_int_str, isi_int_tuple, isi_int_list, isi_int_dict, isi_str_bool, isi_str_int, isi_str_str, isi_str_tuple, isi_str_list, isi_str_dict, isi_tuple_bool, isi_tuple_int, isi_tuple_str, isi_tuple_tuple, isi_tuple_list, isi_tuple_dict, isi_list_bool, isi_list_int, isi_list_str, isi_list_tuple, isi_list_list, isi_list_dict, isi_dict_bool, isi_dict_int, isi_dict_str, isi_dict_tuple, isi_dict_list, isi_dict_dict, okTy_bool, okTy_int, okTy_str, okTy_tuple, okTy_list, okTy_dict])
local macro_rules | `(tactic| tm_at "nc") => `(tactic| first | exact True.intro | omega | exact mulL (by omega) (by omega) | exact mulR (by omega) (by omega) | exact divOk (by omega) (by omega) | (simp only [List.length_append, List.length_map, List.length_cons, List.length_nil, List.length_replicate, List.length_flatten, List.map_replicate, List.sum_replicate_nat, List.length_range, rngL_len, rngC_len, List.cons_append, List.nil_append]; first | done | omega))
local macro_rules | `(tactic| tm_at "ns") => `(tactic| repeat (with_reducible refine And.intro (by first | tm_at "nc" | exact ⟨by tm_at "nc", by tm_at "nc"⟩ | exact ⟨by tm_at "nc", by tm_at "nc", by tm_at "nc"⟩ | exact ⟨by tm_at "nc", by tm_at "nc", by tm_at "nc", by tm_at "nc"⟩) ?_))
abbrev body_number : WS := wSet 1 (wBin (gOr) (wBin (gShl) (wVarB 1) (wC (.int 8))) (wVarB 2))
theorem loop_number (Po : Post) (x : Sl) (Om : N.Om) : ∀ (os : List Int) (n : Int) (k : Nat) (y : Sl), Oct os → 0 ≤ n → n < 2 ^ k → k + 8 * os.length ≤ 100000 → (∀ y', Po.nx [x, .val (.int (os.foldl (fun n o => n * 256 + o) n)), y'] Om) → wForL (fName 2) body_number (iD os) [x, .val (.int n), y] Om Po
  | [], n, k, y, _, _, _, _, h => h y
  | o :: r, n, k, y, ho, h0, h1, hk, h => by
    rw [List.length_cons] at hk
    obtain ⟨o0, o1⟩ := ho o List.mem_cons_self
    have e : Builtin.bitOr (n * 2 ^ (8 : Int).toNat) o = n * 256 + o := by
      have := Bits.bitOr_join' (a := o) (b := n) (k := 8) o0 (by simpa using o1) h0
      rw [show ((8 : Int).toNat) = 8 from rfl, this]
      omega
    have ih := loop_number Po x Om r (n * 256 + o) (k + 8) (.val (.int o)) (fun o' h' => ho o' (List.mem_cons_of_mem _ h')) (by omega) (by rw [Int.pow_add]; omega) (by omega) h
    simp only [List.map_cons, wForL]
    unfold body_number
    tm_at "nw"
    rw [e]
    exact ⟨shlI (n := k) h0 h1 (by decide) (by omega), ih⟩
theorem m_number_of (ds : List D) (Om : N.Om) (Q : D → N.Om → Prop) (R : RX) (hl : ds.length = 1) (h : sp_number_of ds Om Q R) : wFn 3 w_number_of ds Om Q R := by
  obtain ⟨os, rfl, ho, hn, q⟩ := h
  unfold w_number_of
  tm_at "nw"
  exact loop_number _ _ _ os 0 0 _ ho (by decide) (by decide) (by omega) fun _ => q
theorem octs_le (n : Int) (k : Nat) : (octs n k).length = k := by simp [octs]
theorem m_as_octets (ds : List D) (Om : N.Om) (Q : D → N.Om → Prop) (R : RX) (hl : ds.length = 2) (h : sp_as_octets ds Om Q R) : wFn 3 w_as_octets ds Om Q R := by
  obtain ⟨n, k, rfl, h0, h1, hk, q⟩ := h
  unfold w_as_octets
  tm_at "nw"
  have e8 : (8 * (k : Int)).toNat = 8 * k := by omega
  have ez : n / 2 ^ (8 * (k : Int)).toNat = 0 := by rw [e8]; exact Int.ediv_eq_zero_of_lt h0 h1
  rw [ez]
  refine br_df (by omega) ⟨mulL (by decide) (by decide), by omega, k, ?_, ?_⟩
  · have := RgC.neg (i := (k : Int) - 1) (j := -1) (by omega) (by omega) (by decide) (by decide)
    rw [show ((k : Int) - 1 - -1).toNat = k by omega] at this
    exact this
  · refine turns_map (fun d => match d with | .int p => .int (n / 2 ^ (8 * p).toNat % 256) | _ => .non) _ _ (by simp [rngC]; omega) (fun d hd K hK => ?_) ?_
    · obtain ⟨i, hi, rfl⟩ := List.mem_map.mp hd
      have hi' := List.mem_range.mp hi
      tm_at "nw"
      refine ⟨mulL (by decide) (by decide), by omega, ?_⟩
      have := Bits.bitAnd_mask (x := n / 2 ^ (8 * ((k : Int) - 1 + (i : Int) * -1)).toNat) 8 (Int.ediv_nonneg h0 (by exact Int.le_of_lt (Int.pow_pos (by decide))))
      rw [show (2 : Int) ^ 8 - 1 = 255 by decide, show (2 : Int) ^ 8 = 256 by decide] at this
      rw [this]
      exact hK
    · have e : (rngC ((k : Int) - 1) (-1) k).map (fun d => match d with | .int p => D.int (n / 2 ^ (8 * p).toNat % 256) | _ => .non) = iD (octs n k) := by
        simp only [rngC, octs, iD, List.map_map]
        refine List.map_congr_left fun i hi => ?_
        have hi' := List.mem_range.mp hi
        show D.int (n / 2 ^ (8 * ((k : Int) - 1 + (i : Int) * -1)).toNat % 256) = D.int (n / 2 ^ (8 * (k - 1 - i)) % 256)
        rw [show (8 * ((k : Int) - 1 + (i : Int) * -1)).toNat = 8 * (k - 1 - i) by omega]
      rw [List.nil_append, e]
      exact q
end K09

set_option Elab.async false
set_option linter.all false
set_option maxRecDepth 100000
set_option maxHeartbeats 0
namespace K09
open PySem PySem.Spec PyProof.Rows L2 N
local macro_rules | `(tactic| tm_at "nw") => `(tactic| simp only [wFn, startG_c, startG_n, startG_z, wSeq, wSet, wC, wFor, wIt, wVar, wVarB, getSl_z, getSl_s, List.set_cons_zero, List.set_cons_succ, wRet, wBin, gI_i, gI0_i, gB0_i, gAdd_i, gAdd_t, gAdd_l, gAdd_s, gMul_i, gMul_t, gMul_l, gEq_, gNe_, gIs_n, gIs_b, gIsNot_n, gIsNot_b, isNon_n, isNon_i, isNon_b, isNon_t, isNon_l, isNon_s, wIfS, wtOr, wtAnd, wtNot, wTst, wNext, wNev, wCall, wCallF, wFrz, wLst, wTup, waNil, waCons, wComp, wRng, gRng1_i, gRng2_i, gRng3_i, wUn, gNeg_i, gTuple_t, gTuple_l, gList_t, gList_l, gList_s, gLen_t, gLen_l, gLen_s, gLen_d, gInt_i, gInt_b, gAbs_i, gMax_i, gMin_i, wipeG, MO.see, fName, wCallU, wCallK, List.append_nil, List.length_cons, List.length_nil, wSl, woNone, woSome, gSl_t, gSl_l, gIt_t, gIt_l, gIt_s, gIsi_i, gIsi_b, gIsi_t, gIsi_l, gIsi_s, gIsi_n, gIsi_d, wAsg, fTup, fCons, fNil, wAnd, wOr, wNot, wIf, wPar, wAug, wApp, wSetO, wRetO, br_t, br_f, shp_int, shp_bl, shp_non, deq_int, gAll_b, gAny_b, gSum_i, wDrop, wRetN, true_and, and_true, decide_true, decide_false, Bool.not_true, Bool.not_false, isi_NoneType_bool, isi_NoneType_int, isi_NoneType_str, isi_NoneType_tuple, isi_NoneType_list, isi_NoneType_dict, isi_bool_bool, isi_bool_int, isi_bool_str, isi_bool_tuple, isi_bool_list, isi_bool_dict, isi_int_bool, isi_int_int, isi_int_str, isi_int_tuple, isi_int_list, isi_int_dict, isi_str_bool, isi_str_int, isi_str_str, isi_str_tuple, isi_str_list, isi_str_dict, isi_tuple_bool, isi_tuple_int, isi_tuple_str, isi_tuple_tuple, isi_tuple_list, isi_tuple_dict, isi_list_bool, isi_list_int, isi_list_str, isi_list_tuple, isi_list_list, isi_list_dict, isi_dict_bool, isi_dict_int, isi_dict_str, isi_dict_tuple, isi_dict_list, isi_dict_dict, okTy_bool, okTy_int, okTy_str, okTy_tuple, okTy_list, okTy_dict])
local macro_rules | `(tactic| tm_at "nc") => `(tactic| first | exact True.intro | omega | exact mulL (by omega) (by omega) | exact mulR (by omega) (by omega) | exact divOk (by omega) (by omega) | (simp only [List.length_append, List.length_map, List.length_cons, List.length_nil, List.length_replicate, List.length_flatten, List.map_replicate, List.sum_replicate_nat, List.length_range, rngL_len, rngC_len, List.cons_append, List.nil_append]; first | done | omega))
local macro_rules | `(tactic| tm_at "ns") => `(tactic| repeat (with_reducible refine And.intro (by first | tm_at "nc" | exact ⟨by tm_at "nc", by tm_at "nc"⟩ | exact ⟨by tm_at "nc", by tm_at "nc", by tm_at "nc"⟩ | exact ⟨by tm_at "nc", by tm_at "nc", by tm_at "nc", by tm_at "nc"⟩) ?_))
theorem m_rotated (ds : List D) (Om : N.Om) (Q : D → N.Om → Prop) (R : RX) (hl : ds.length = 2) (h : sp_rotated ds Om Q R) : wFn 2 w_rotated ds Om Q R := by
  obtain ⟨w, c, rfl, h0, h1, hc, q⟩ := h
  unfold w_rotated
  tm_at "nw"
  have e1 : (32 - (c : Int)).toNat = 32 - c := by omega
  have ep : (2 : Int) ^ c * 2 ^ (32 - c) = 2 ^ 32 := by rw [← Int.pow_add]; congr 1; omega
  have p1 : (0 : Int) < 2 ^ c := Int.pow_pos (by decide)
  have p2 : (0 : Int) < 2 ^ (32 - c) := Int.pow_pos (by decide)
  refine ⟨by omega, shlI (n := 32) h0 h1 (by omega) (by omega), ?_⟩
  rw [e1, Int.toNat_natCast]
  have a1 : w / 2 ^ c < 2 ^ (32 - c) := Int.ediv_lt_of_lt_mul p1 (by rw [Int.mul_comm, ep]; exact h1)
  have a0 : 0 ≤ w / 2 ^ c := Int.ediv_nonneg h0 (Int.le_of_lt p1)
  rw [Bits.bitOr_join (k := 32 - c) a0 a1 h0]
  have nn : 0 ≤ w / 2 ^ c + w * 2 ^ (32 - c) := Int.add_nonneg a0 (Int.mul_nonneg h0 (Int.le_of_lt p2))
  have := Bits.bitAnd_mask (x := w / 2 ^ c + w * 2 ^ (32 - c)) 32 nn
  rw [show (2 : Int) ^ 32 - 1 = 4294967295 by decide] at this
  rw [this]
  have e : (w / 2 ^ c + w * 2 ^ (32 - c)) % 2 ^ 32 = rot w c := by
    have hw : w = w / 2 ^ c * 2 ^ c + w % 2 ^ c := by have := Int.mul_ediv_add_emod w (2 ^ c); rw [Int.mul_comm] at this; exact this.symm
    have b0 : 0 ≤ w % 2 ^ c := Int.emod_nonneg _ (Int.ne_of_gt p1)
    have b1 : w % 2 ^ c < 2 ^ c := Int.emod_lt_of_pos _ p1
    have e2 : w * 2 ^ (32 - c) = w % 2 ^ c * 2 ^ (32 - c) + 2 ^ 32 * (w / 2 ^ c) := by
      have : w * 2 ^ (32 - c) = (w / 2 ^ c * 2 ^ c + w % 2 ^ c) * 2 ^ (32 - c) := by rw [← hw]
      rw [this, Int.add_mul, Int.mul_assoc, ep, Int.mul_comm (w / 2 ^ c), Int.add_comm]
    rw [e2, ← Int.add_assoc, Int.add_mul_emod_self_left]
    refine Int.emod_eq_of_lt (Int.add_nonneg a0 (Int.mul_nonneg b0 (Int.le_of_lt p2))) ?_
    have : w % 2 ^ c * 2 ^ (32 - c) ≤ (2 ^ c - 1) * 2 ^ (32 - c) := Int.mul_le_mul_of_nonneg_right (by omega) (Int.le_of_lt p2)
    rw [Int.sub_mul, ep, Int.one_mul] at this
    omega
  rw [e]
  exact q
theorem m_padded (ds : List D) (Om : N.Om) (Q : D → N.Om → Prop) (R : RX) (hl : ds.length = 1) (h : sp_padded ds Om Q R) : wFn 2 w_padded ds Om Q R := by
  obtain ⟨os, rfl, hn, q⟩ := h
  unfold w_padded
  tm_at "nw"
  have l1 : (iD os).length = os.length := by simp
  simp only [l1]
  tm_at "ns"
  refine ⟨8 * os.length, 8, rfl, by omega, by have : (2 : Int) ^ (8 * 8) = 18446744073709551616 := by decide
                                              omega, by decide, ?_⟩
  tm_at "nw"
  refine ⟨by simp [octs]; omega, ?_⟩
  have e : iD os ++ [D.int 128] ++ (List.replicate ((55 - (os.length : Int)) % 64).toNat [D.int 0]).flatten ++ iD (octs (8 * os.length) 8) = iD (padL os) := by
    simp only [iD, padL, List.map_append, List.map_cons, List.map_nil, List.map_replicate]
    congr 2
    generalize ((55 - (os.length : Int)) % 64).toNat = n
    induction n with
    | zero => rfl
    | succ n ih => simp [List.replicate_succ, ih]
  rw [e]
  exact q
theorem Oct.take {os : List Int} (h : Oct os) (n : Nat) : Oct (os.take n) := fun o ho => h o (List.mem_of_mem_take ho)
theorem Oct.drop {os : List Int} (h : Oct os) (n : Nat) : Oct (os.drop n) := fun o ho => h o (List.mem_of_mem_drop ho)
theorem cut_4 (os : List Int) (i : Nat) : cutD (iD os) (some (0 + (i : Int) * 4)) (some (0 + (i : Int) * 4 + 4)) = iD ((os.drop (4 * i)).take 4) := by
  have := cut_nat (iD os) (4 * i) (4 * i + 4)
  rw [show ((4 * i : Nat) : Int) = 0 + (i : Int) * 4 by omega, show ((4 * i + 4 : Nat) : Int) = 0 + (i : Int) * 4 + 4 by omega, show 4 * i + 4 - 4 * i = 4 by omega] at this
  rw [this, iD, ← List.map_drop, ← List.map_take]
theorem m_block_words (ds : List D) (Om : N.Om) (Q : D → N.Om → Prop) (R : RX) (hl : ds.length = 1) (h : sp_block_words ds Om Q R) : wFn 2 w_block_words ds Om Q R := by
  obtain ⟨os, rfl, ho, hn, q⟩ := h
  unfold w_block_words
  tm_at "nw"
  refine ⟨16, ⟨by decide, by decide, by decide, by decide⟩, turns_map (fun d => match d with | .int a => .int (numOf ((os.drop a.toNat).take 4)) | _ => .non) _ _ (by simp [rngC]) (fun d hd K hK => ?_) ?_⟩
  · obtain ⟨i, hi, rfl⟩ := mem_rngC hd
    tm_at "nw"
    refine ⟨(os.drop (4 * i)).take 4, by rw [cut_4], (ho.drop _).take _, by simp; omega, ?_⟩
    have e : (0 + (i : Int) * 4).toNat = 4 * i := by omega
    simpa only [e] using hK
  · rw [rngC_map _ (fun i => .int (numOf ((os.drop (4 * i)).take 4))) fun i hi => by
      show D.int (numOf ((os.drop (0 + (i : Int) * 4).toNat).take 4)) = _
      rw [show (0 + (i : Int) * 4).toNat = 4 * i by omega]]
    simpa [wordsL, iD, List.map_map, Function.comp_def] using q
theorem m__law_cell (ds : List D) (Om : N.Om) (Q : D → N.Om → Prop) (R : RX) (hl : ds.length = 2) (h : sp__law_cell ds Om Q R) : wFn 2 w__law_cell ds Om Q R := by
  obtain ⟨ns, k, rfl, q⟩ := h
  unfold w__law_cell
  tm_at "nw"
  refine br_d (fun e => ?_) (fun e => q _)
  have hk : k < ns.length := by omega
  refine gIx_scr (j := k) rfl (List.getElem?_eq_getElem hk) ?_
  tm_at "nw"
  exact q _
end K09

set_option Elab.async false
set_option linter.all false
set_option maxRecDepth 100000
set_option maxHeartbeats 0
namespace K09
open PySem PySem.Spec PyProof.Rows L2 N
local macro_rules | `(tactic| tm_at "nw") => `(tactic| simp only [wFn, startG_c, startG_n, startG_z, wSeq, wSet, wC, wFor, wIt, wVar, wVarB, getSl_z, getSl_s, List.set_cons_zero, List.set_cons_succ, wRet, wBin, gI_i, gI0_i, gB0_i, gAdd_i, gAdd_t, gAdd_l, gAdd_s, gMul_i, gMul_t, gMul_l, gEq_, gNe_, gIs_n, gIs_b, gIsNot_n, gIsNot_b, isNon_n, isNon_i, isNon_b, isNon_t, isNon_l, isNon_s, wIfS, wtOr, wtAnd, wtNot, wTst, wNext, wNev, wCall, wCallF, wFrz, wLst, wTup, waNil, waCons, wComp, wRng, gRng1_i, gRng2_i, gRng3_i, wUn, gNeg_i, gTuple_t, gTuple_l, gList_t, gList_l, gList_s, gLen_t, gLen_l, gLen_s, gLen_d, gInt_i, gInt_b, gAbs_i, gMax_i, gMin_i, wipeG, MO.see, fName, wCallU, wCallK, List.append_nil, List.length_cons, List.length_nil, wSl, woNone, woSome, gSl_t, gSl_l, gIt_t, gIt_l, gIt_s, gIsi_i, gIsi_b, gIsi_t, gIsi_l, gIsi_s, gIsi_n, gIsi_d, wAsg, fTup, fCons, fNil, wAnd, wOr, wNot, wIf, wPar, wAug, wApp, wSetO, wRetO, br_t, br_f, shp_int, shp_bl, shp_non, deq_int, gAll_b, gAny_b, gSum_i, wDrop, wRetN, true_and, and_true, decide_true, decide_false, Bool.not_true, Bool.not_false, isi_NoneType_bool, isi_NoneType_int, isi_NoneType_str, isi_NoneType_tuple, isi_NoneType_list, isi_NoneType_dict, isi_bool_bool, isi_bool_int, isi_bool_str, isi_bool_tuple, isi_bool_list, isi_bool_dict, isi_int_bool, isi_int_int, isi_int_str, isi_int_tuple, isi_int_list, isi_int_dict, isi_str_bool, isi_str_int, isi_str_str, isi_str_tuple, isi_str_list, isi_str_dict, isi_tuple_bool, isi_tuple_int, isi_tuple_str, isi_tuple_tuple, isi_tuple_list, isi_tuple_dict, isi_list_bool, isi_list_int, isi_list_str, isi_list_tuple, isi_list_list, isi_list_dict, isi_dict_bool, isi_dict_int, isi_dict_str, isi_dict_tuple, isi_dict_list, isi_dict_dict, okTy_bool, okTy_int, okTy_str, okTy_tuple, okTy_list, okTy_dict])
local macro_rules | `(tactic| tm_at "nc") => `(tactic| first | exact True.intro | omega | exact mulL (by omega) (by omega) | exact mulR (by omega) (by omega) | exact divOk (by omega) (by omega) | (simp only [List.length_append, List.length_map, List.length_cons, List.length_nil, List.length_replicate, List.length_flatten, List.map_replicate, List.sum_replicate_nat, List.length_range, rngL_len, rngC_len, List.cons_append, List.nil_append]; first | done | omega))
local macro_rules | `(tactic| tm_at "ns") => `(tactic| repeat (with_reducible refine And.intro (by first | tm_at "nc" | exact ⟨by tm_at "nc", by tm_at "nc"⟩ | exact ⟨by tm_at "nc", by tm_at "nc", by tm_at "nc"⟩ | exact ⟨by tm_at "nc", by tm_at "nc", by tm_at "nc", by tm_at "nc"⟩) ?_))
abbrev body_rich : WS := (wSeq (wSet 3 (wBin (gMod) (wCall gInt (waCons (wBin (gAdd) (wBin (gAdd) (wBin (gAdd) (wBin (gMul) (wVarB 3) (wVarB 3)) (wBin (gMul) (wVarB 3) (wC (.int 16807)))) (wVarB 4)) (wC (.int 7))) waNil)) (wC (.int 2147483647)))) (wSet 2 (wBin (gAdd) (wBin (gMul) (wVarB 2) (wC (.int 2147483647))) (wVarB 3))))
theorem loop_rich (Po : Post) (x0 x1 : Sl) (Om : N.Om) : ∀ (ts : List D) (r m : Int) (y : Sl), (∀ t ∈ ts, ∃ n : Int, t = .int n) → 0 ≤ r → 0 ≤ m → m < 2147483647 → (∀ r' m' y', 0 ≤ r' → Po.nx [x0, x1, .val (.int r'), .val (.int m'), y'] Om) → wForL (fName 4) body_rich ts [x0, x1, .val (.int r), .val (.int m), y] Om Po
  | [], r, m, y, _, h0, _, _, h => h r m y h0
  | t :: ts, r, m, y, ht, h0, h1, h2, h => by
    obtain ⟨n, rfl⟩ := ht t List.mem_cons_self
    simp only [wForL]
    unfold body_rich
    tm_at "nw"
    have e0 := Int.emod_nonneg (m * m + m * 16807 + n + 7) (show (2147483647 : Int) ≠ 0 by decide)
    have e1 := Int.emod_lt_of_pos (m * m + m * 16807 + n + 7) (show (0 : Int) < 2147483647 by decide)
    tm_at "ns"
    exact loop_rich Po x0 x1 Om ts _ _ _ (fun t' h' => ht t' (List.mem_cons_of_mem _ h')) (by omega) e0 e1 h
theorem m__law_rich (ds : List D) (Om : N.Om) (Q : D → N.Om → Prop) (R : RX) (hl : ds.length = 2) (h : sp__law_rich ds Om Q R) : wFn 5 w__law_rich ds Om Q R := by
  obtain ⟨c, k, rfl, hk, q⟩ := h
  unfold w__law_rich
  tm_at "nw"
  refine ⟨⟨by decide, by decide, by decide⟩, br_d (fun e => ?_) (fun e => ?_)⟩
  · refine q _ ?_
    have : (10 : Int) ^ (18 : Int).toNat = 1000000000000000000 := by decide
    omega
  · have e0 := Int.emod_nonneg (c * 48271 + (k : Int) * 69621 + 11) (show (2147483647 : Int) ≠ 0 by decide)
    have e1 := Int.emod_lt_of_pos (c * 48271 + (k : Int) * 69621 + 11) (show (0 : Int) < 2147483647 by decide)
    tm_at "ns"
    refine loop_rich _ _ _ _ _ _ _ _ (fun t ht => ?_) (by decide) e0 e1 fun r' m' y' h' => ?_
    · obtain ⟨i, _, rfl⟩ := mem_rngL ht
      exact ⟨_, rfl⟩
    · exact q _ h'
abbrev body_codes : WS := (wSeq (wApp 3 (wBin (gMod) (wCall gInt (waCons (wVarB 0) waNil)) (wVarB 2))) (wSet 0 (wBin (gDiv) (wVarB 0) (wVarB 2))))
theorem loop_codes (Po : Post) (x1 : Sl) (b : Int) (hb : 0 < b) (hb2 : b < 1073741824) (Om : N.Om) : ∀ (ts : List D) (r : Int) (cs : List Int) (y : Sl), (∀ c ∈ cs, 0 ≤ c ∧ c < b) → cs.length + ts.length ≤ 1000 →
    (∀ r' cs' y', cs'.length = cs.length + ts.length → (∀ c ∈ cs', 0 ≤ c ∧ c < b) → Po.nx [.val (.int r'), x1, .val (.int b), .own (.lst (iD cs')), y'] Om) → wForL (fName 4) body_codes ts [.val (.int r), x1, .val (.int b), .own (.lst (iD cs)), y] Om Po
  | [], r, cs, y, hc, _, h => h r cs y (by simp) hc
  | t :: ts, r, cs, y, hc, hl, h => by
    rw [List.length_cons] at hl
    simp only [wForL]
    unfold body_codes
    tm_at "nw"
    have e0 := Int.emod_nonneg r (show b ≠ 0 by omega)
    have e1 := Int.emod_lt_of_pos r hb
    refine ⟨hb, by tm_at "nc", ⟨.inl ⟨hb, hb2⟩, ?_⟩⟩
    have e : iD cs ++ [D.int (r % b)] = iD (cs ++ [r % b]) := by simp [iD]
    rw [e]
    refine loop_codes Po x1 b hb hb2 Om ts _ _ _ (fun c hc' => ?_) (by rw [List.length_append, List.length_singleton]; omega) fun r' cs' y' l h' => h r' cs' y' (by rw [l]; simp; omega) h'
    rcases List.mem_append.mp hc' with z | z
    · exact hc c z
    · have := List.mem_singleton.mp z
      subst this
      exact ⟨e0, e1⟩
theorem m__law_codes (ds : List D) (Om : N.Om) (Q : D → N.Om → Prop) (R : RX) (hl : ds.length = 3) (h : sp__law_codes ds Om Q R) : wFn 5 w__law_codes ds Om Q R := by
  obtain ⟨r, n, b, rfl, hn, hb, hb2, q⟩ := h
  unfold w__law_codes
  tm_at "nw"
  tm_at "ns"
  refine loop_codes _ _ b hb hb2 _ _ _ [] _ (by simp) (by rw [rngL_len]; simp; omega) fun r' cs' y' l h' => ?_
  exact q cs' (by rw [l, rngL_len]; simp) h'
theorem m__law_same (n : Nat) (S : DSp) (hS : n = 0 ∨ S = sp__law_same (n - 1)) (ds : List D) (Om : N.Om) (Q : D → N.Om → Prop) (R : RX) (hl : ds.length = 2) (h : sp__law_same n ds Om Q R) : wFn 3 (w__law_same S) ds Om Q R := by
  obtain ⟨d, rfl, hd, q⟩ := h
  unfold w__law_same
  cases d with
  | int i =>
    tm_at "nw"
    exact q
  | tup xs =>
    cases n with
    | zero => exact hd.elim
    | succ n =>
      obtain ⟨hx, hs⟩ := hd
      rcases hS with e | e
      · cases e
      · subst e
        tm_at "nw"
        refine ⟨⟨by omega, by omega⟩, turns_map (fun _ => .bl true) _ _ (by simp [rngL]; omega) (fun d hd K hK => ?_) ?_⟩
        · obtain ⟨i, hi, rfl⟩ := mem_rngL hd
          have hi' : i < xs.length := by simpa using hi
          tm_at "nw"
          refine gIx_tup (j := i) (by omega) (List.getElem?_eq_getElem hi') ?_
          refine gIx_tup (j := i) (by omega) (List.getElem?_eq_getElem hi') ?_
          exact ⟨xs[i], rfl, hs _ (List.getElem_mem hi'), hK⟩
        · have e : List.map (fun _ => D.bl true) (rngL 0 (xs.length : Int).toNat) = (List.replicate xs.length true).map D.bl := by
            rw [List.map_replicate]
            simp [rngL, List.map_map, Function.comp_def, List.map_const']
          rw [List.nil_append, e]
          tm_at "nw"
          simpa using q
  | _ => cases n <;> exact hd.elim
theorem m__law_octets (ds : List D) (Om : N.Om) (Q : D → N.Om → Prop) (R : RX) (hl : ds.length = 2) (h : sp__law_octets ds Om Q R) : wFn 3 w__law_octets ds Om Q R := by
  obtain ⟨r, rfl, hr, q⟩ := h
  unfold w__law_octets
  tm_at "nw"
  refine ⟨r, 17, 1024, rfl, by decide, by decide, by decide, fun cs hc hcs => ?_⟩
  tm_at "nw"
  refine turns_rel (fun _ x => ∃ v : Int, x = .int v ∧ 0 ≤ v ∧ v < 256) _ _ (by simp [hc]) (fun d hd K hK => ?_) fun es he hp => ?_
  · obtain ⟨c, hc', rfl⟩ := List.mem_map.mp hd
    obtain ⟨c0, c1⟩ := hcs c hc'
    tm_at "nw"
    tm_at "ns"
    refine gIx_any (Int.emod_nonneg _ (by decide)) (Int.emod_lt_of_pos _ (by decide)) fun d hd => ?_
    have : ∃ v : Int, d = .int v := by
      simp only [List.mem_cons, List.not_mem_nil, or_false] at hd
      rcases hd with e | e | e | e <;> exact ⟨_, e⟩
    obtain ⟨v, rfl⟩ := this
    tm_at "nw"
    exact ⟨by decide, hK _ ⟨_, rfl, Int.emod_nonneg _ (by decide), Int.emod_lt_of_pos _ (by decide)⟩⟩
  · obtain ⟨os, e, ho⟩ := all_ints (ds := es) (p := fun v => 0 ≤ v ∧ v < 256) fun x hx => by
      obtain ⟨i, hi, rfl⟩ := List.getElem_of_mem hx
      exact hp i ((iD cs)[i]'(by rw [← he]; exact hi)) _ (List.getElem?_eq_getElem _) (List.getElem?_eq_getElem hi)
    subst e
    rw [List.nil_append]
    exact q os (by simpa [hc] using he) ho
theorem m__law_bits (ds : List D) (Om : N.Om) (Q : D → N.Om → Prop) (R : RX) (hl : ds.length = 1) (h : sp__law_bits ds Om Q R) : wFn 2 w__law_bits ds Om Q R := by
  obtain ⟨w, rfl, q⟩ := h
  unfold w__law_bits
  tm_at "nw"
  refine ⟨by tm_at "nc", turns_map (fun d => match d with | .int a => .int (w / 2 ^ a.toNat % 2) | _ => .non) _ _ (by simp [rngL]) (fun d hd K hK => ?_) ?_⟩
  · obtain ⟨i, hi, rfl⟩ := mem_rngL hd
    tm_at "nw"
    exact ⟨by omega, by omega, hK⟩
  · rw [List.nil_append, rngL_map _ (fun i => .int (w / 2 ^ i % 2)) fun i hi => by
      show D.int (w / 2 ^ (0 + (i : Int)).toNat % 2) = _
      rw [show (0 + (i : Int)).toNat = i by omega]]
    simpa [bitsL, iD, List.map_map, Function.comp_def] using q
end K09

set_option Elab.async false
set_option linter.all false
set_option maxRecDepth 100000
set_option maxHeartbeats 0
namespace K09
open PySem PySem.Spec PyProof.Rows L2 N
local macro_rules | `(tactic| tm_at "nw") => `(tactic| simp only [wFn, startG_c, startG_n, startG_z, wSeq, wSet, wC, wFor, wIt, wVar, wVarB, getSl_z, getSl_s, List.set_cons_zero, List.set_cons_succ, wRet, wBin, gI_i, gI0_i, gB0_i, gAdd_i, gAdd_t, gAdd_l, gAdd_s, gMul_i, gMul_t, gMul_l, gEq_, gNe_, gIs_n, gIs_b, gIsNot_n, gIsNot_b, isNon_n, isNon_i, isNon_b, isNon_t, isNon_l, isNon_s, wIfS, wtOr, wtAnd, wtNot, wTst, wNext, wNev, wCall, wCallF, wFrz, wLst, wTup, waNil, waCons, wComp, wRng, gRng1_i, gRng2_i, gRng3_i, wUn, gNeg_i, gTuple_t, gTuple_l, gList_t, gList_l, gList_s, gLen_t, gLen_l, gLen_s, gLen_d, gInt_i, gInt_b, gAbs_i, gMax_i, gMin_i, wipeG, MO.see, fName, wCallU, wCallK, List.append_nil, List.length_cons, List.length_nil, wSl, woNone, woSome, gSl_t, gSl_l, gIt_t, gIt_l, gIt_s, gIsi_i, gIsi_b, gIsi_t, gIsi_l, gIsi_s, gIsi_n, gIsi_d, wAsg, fTup, fCons, fNil, wAnd, wOr, wNot, wIf, wPar, wAug, wApp, wSetO, wRetO, br_t, br_f, shp_int, shp_bl, shp_non, deq_int, gAll_b, gAny_b, gSum_i, wDrop, wRetN, true_and, and_true, decide_true, decide_false, Bool.not_true, Bool.not_false, isi_NoneType_bool, isi_NoneType_int, isi_NoneType_str, isi_NoneType_tuple, isi_NoneType_list, isi_NoneType_dict, isi_bool_bool, isi_bool_int, isi_bool_str, isi_bool_tuple, isi_bool_list, isi_bool_dict, isi_int_bool, isi_int_int, isi_int_str, isi_int_tuple, isi_int_list, isi_int_dict, isi_str_bool, isi_str_int, isi_str_str, isi_str_tuple, isi_str_list, isi_str_dict, isi_tuple_bool, isi_tuple_int, isi_tuple_str, isi_tuple_tuple, isi_tuple_list, isi_tuple_dict, isi_list_bool, isi_list_int, isi_list_str, isi_list_tuple, isi_list_list, isi_list_dict, isi_dict_bool, isi_dict_int, isi_dict_str, isi_dict_tuple, isi_dict_list, isi_dict_dict, okTy_bool, okTy_int, okTy_str, okTy_tuple, okTy_list, okTy_dict])
local macro_rules | `(tactic| tm_at "nc") => `(tactic| first | exact True.intro | omega | exact mulL (by omega) (by omega) | exact mulR (by omega) (by omega) | exact divOk (by omega) (by omega) | (simp only [List.length_append, List.length_map, List.length_cons, List.length_nil, List.length_replicate, List.length_flatten, List.map_replicate, List.sum_replicate_nat, List.length_range, rngL_len, rngC_len, List.cons_append, List.nil_append]; first | done | omega))
local macro_rules | `(tactic| tm_at "ns") => `(tactic| repeat (with_reducible refine And.intro (by first | tm_at "nc" | exact ⟨by tm_at "nc", by tm_at "nc"⟩ | exact ⟨by tm_at "nc", by tm_at "nc", by tm_at "nc"⟩ | exact ⟨by tm_at "nc", by tm_at "nc", by tm_at "nc", by tm_at "nc"⟩) ?_))
theorem pw (c : Nat) : (0 : Int) < 2 ^ c := Int.pow_pos (by decide)
theorem two_mul_pow (c d : Nat) (h : c + d = 32) : (2 : Int) ^ c * 2 ^ d = 2 ^ 32 := by rw [← Int.pow_add, h]
theorem rot_bounds {w : Int} {c : Nat} (h0 : 0 ≤ w) (h1 : w < 2 ^ 32) (hc : c ≤ 32) : 0 ≤ w / 2 ^ c ∧ w / 2 ^ c < 2 ^ (32 - c) ∧ 0 ≤ w % 2 ^ c ∧ w % 2 ^ c < 2 ^ c ∧ 0 ≤ rot w c ∧ rot w c < 2 ^ 32 := by
  have ep := two_mul_pow c (32 - c) (by omega)
  have a1 : w / 2 ^ c < 2 ^ (32 - c) := Int.ediv_lt_of_lt_mul (pw c) (by rw [Int.mul_comm, ep]; exact h1)
  have a0 : 0 ≤ w / 2 ^ c := Int.ediv_nonneg h0 (Int.le_of_lt (pw c))
  have b0 : 0 ≤ w % 2 ^ c := Int.emod_nonneg _ (Int.ne_of_gt (pw c))
  have b1 : w % 2 ^ c < 2 ^ c := Int.emod_lt_of_pos _ (pw c)
  refine ⟨a0, a1, b0, b1, Int.add_nonneg a0 (Int.mul_nonneg b0 (Int.le_of_lt (pw _))), ?_⟩
  have : w % 2 ^ c * 2 ^ (32 - c) ≤ (2 ^ c - 1) * 2 ^ (32 - c) := Int.mul_le_mul_of_nonneg_right (by omega) (Int.le_of_lt (pw _))
  rw [Int.sub_mul, ep, Int.one_mul] at this
  unfold rot
  omega
theorem rot_back {w : Int} {c : Nat} (h0 : 0 ≤ w) (h1 : w < 2 ^ 32) (hc : c ≤ 32) : rot (rot w c) (32 - c) = w := by
  obtain ⟨a0, a1, b0, b1, r0, r1⟩ := rot_bounds h0 h1 hc
  have p2 := pw (32 - c)
  have e1 : rot w c / 2 ^ (32 - c) = w % 2 ^ c := by
    unfold rot
    rw [Int.add_mul_ediv_right _ _ (Int.ne_of_gt p2), Int.ediv_eq_zero_of_lt a0 a1, Int.zero_add]
  have e2 : rot w c % 2 ^ (32 - c) = w / 2 ^ c := by
    unfold rot
    rw [Int.add_mul_emod_self_right, Int.emod_eq_of_lt a0 a1]
  rw [rot, e1, e2, show 32 - (32 - c) = c by omega]
  have := Int.mul_ediv_add_emod w (2 ^ c)
  rw [Int.mul_comm] at this
  omega
theorem bit_low (b j c : Nat) (hj : j < c) (w : Int) : w % 2 ^ c / 2 ^ j % 2 = w / 2 ^ j % 2 := by
  have e : (2 : Int) ^ c = 2 ^ j * (2 * 2 ^ (c - j - 1)) := by
    rw [← Int.mul_assoc, ← Int.pow_succ, ← Int.pow_add]
    congr 1
    omega
  have hw := Int.mul_ediv_add_emod w (2 ^ c)
  have : w / 2 ^ j = w % 2 ^ c / 2 ^ j + 2 * (2 ^ (c - j - 1) * (w / 2 ^ c)) := by
    rw (occs := .pos [1]) [← hw]
    rw [e, Int.mul_assoc, Int.add_comm, Int.add_mul_ediv_left _ _ (Int.ne_of_gt (pw j)), Int.mul_assoc]
  rw [this]
  omega
theorem rot_bits {w : Int} {c : Nat} (h0 : 0 ≤ w) (h1 : w < 2 ^ 32) (hc : c ≤ 32) (p : Nat) (hp : p < 32) : rot w c / 2 ^ p % 2 = w / 2 ^ ((p + c) % 32) % 2 := by
  obtain ⟨a0, a1, b0, b1, r0, r1⟩ := rot_bounds h0 h1 hc
  by_cases h : p < 32 - c
  · rw [Nat.mod_eq_of_lt (show p + c < 32 by omega)]
    have e : (2 : Int) ^ (32 - c) = 2 ^ p * (2 * 2 ^ (32 - c - p - 1)) := by
      rw [← Int.mul_assoc, ← Int.pow_succ, ← Int.pow_add]
      congr 1
      omega
    have : rot w c / 2 ^ p = w / 2 ^ c / 2 ^ p + 2 * (2 ^ (32 - c - p - 1) * (w % 2 ^ c)) := by
      unfold rot
      rw [e, Int.mul_comm (w % 2 ^ c), Int.mul_assoc, Int.add_mul_ediv_left _ _ (Int.ne_of_gt (pw p)), Int.mul_assoc]
    rw [this, show p + c = c + p by omega, Int.pow_add, ← Int.ediv_ediv_of_nonneg (Int.le_of_lt (pw c))]
    omega
  · obtain ⟨j, rfl⟩ : ∃ j, p = 32 - c + j := ⟨p - (32 - c), by omega⟩
    have hj : j < c := by omega
    rw [show (32 - c + j + c) % 32 = j by omega, Int.pow_add, ← Int.ediv_ediv_of_nonneg (Int.le_of_lt (pw _))]
    have e1 : rot w c / 2 ^ (32 - c) = w % 2 ^ c := by
      unfold rot
      rw [Int.add_mul_ediv_right _ _ (Int.ne_of_gt (pw _)), Int.ediv_eq_zero_of_lt a0 a1, Int.zero_add]
    rw [e1, bit_low 0 j c hj]
theorem bits_len (w : Int) : (iD (bitsL w)).length = 32 := by simp [bitsL]
theorem m__law_ring_right (ds : List D) (Om : N.Om) (Q : D → N.Om → Prop) (R : RX) (hl : ds.length = 2) (h : sp__law_ring_right ds Om Q R) : wFn 5 w__law_ring_right ds Om Q R := by
  obtain ⟨w, c, rfl, h0, h1, hc, q⟩ := h
  obtain ⟨a0, a1, b0, b1, r0, r1⟩ := rot_bounds h0 h1 hc
  unfold w__law_ring_right
  tm_at "nw"
  refine ⟨w, c, rfl, h0, h1, hc, ?_⟩
  tm_at "nw"
  refine br_df (by omega) ⟨shlI (n := 1) (by decide) (by decide) (by decide) (by decide), br_df ?_ ?_⟩
  · rw [show (1 : Int) * 2 ^ (32 : Int).toNat = 4294967296 by decide]
    have : (2 : Int) ^ 32 = 4294967296 := by decide
    omega
  refine ⟨w, rfl, ?_⟩
  tm_at "nw"
  refine ⟨rot w c, rfl, ⟨by decide, by decide⟩, turns_map (fun d => match d with | .int a => .int (w / 2 ^ ((a.toNat + c) % 32) % 2) | _ => .non) _ _ (by simp [rngL]) (fun d hd K hK => ?_) ?_⟩
  · obtain ⟨i, hi, rfl⟩ := mem_rngL hd
    tm_at "nw"
    refine ⟨by decide, gIx_list (j := (i + c) % 32) (by omega) (d := .int (w / 2 ^ ((i + c) % 32) % 2)) ?_ ?_⟩
    · have : (i + c) % 32 < 32 := Nat.mod_lt _ (by decide)
      simp [bitsL, this]
    · simpa using hK
  · have e : (rngL 0 (32 : Int).toNat).map (fun d => match d with | .int a => D.int (w / 2 ^ ((a.toNat + c) % 32) % 2) | _ => .non) = iD (bitsL (rot w c)) := by
      rw [rngL_map _ (fun i => .int (rot w c / 2 ^ i % 2)) fun i hi => by
        show D.int (w / 2 ^ (((0 + (i : Int)).toNat + c) % 32) % 2) = _
        rw [rot_bits h0 h1 hc i (by simpa using hi), show (0 + (i : Int)).toNat = i by omega]]
      simp [bitsL, iD, List.map_map, Function.comp_def]
    rw [List.nil_append, e]
    refine ⟨shp_lints _, shp_lints _, ?_⟩
    rw [deq_lints, decide_eq_true rfl]
    tm_at "nw"
    refine ⟨rot w c, 32 - c, by simp; omega, r0, r1, by omega, ?_⟩
    rw [rot_back h0 h1 hc]
    exact ⟨.int w, rfl, trivial, q⟩
theorem pad_len (os : List Int) : ((padL os).length : Int) = os.length + 9 + (55 - (os.length : Int)) % 64 := by
  have := Int.emod_nonneg (55 - (os.length : Int)) (show (64 : Int) ≠ 0 by decide)
  simp only [padL, List.length_append, List.length_replicate, octs_le, List.length_singleton]
  omega
theorem m__law_padded_right (ds : List D) (Om : N.Om) (Q : D → N.Om → Prop) (R : RX) (hl : ds.length = 1) (h : sp__law_padded_right ds Om Q R) : wFn 6 w__law_padded_right ds Om Q R := by
  obtain ⟨os, rfl, hn, q⟩ := h
  have hp := pad_len os
  have lp : (iD (padL os)).length = (padL os).length := by simp
  have lo : (iD os).length = os.length := by simp
  unfold w__law_padded_right
  tm_at "nw"
  refine ⟨os, rfl, hn, ?_⟩
  tm_at "nw"
  simp only [lp, lo, hp]
  refine ⟨by decide, ?_⟩
  rw [decide_eq_true (show (os.length + 9 + (55 - (os.length : Int)) % 64) % 64 = 0 by omega)]
  tm_at "nw"
  refine br_df (by omega) (br_df (by omega) ?_)
  refine ⟨mulL (by decide) (by decide), ⟨by decide, by decide⟩, ?_⟩
  refine turns_map (fun d => match d with | .int a => .int (8 * os.length / 2 ^ (8 * (7 - a)).toNat % 256) | _ => .non) _ _ (by simp [rngL]) (fun d hd K hK => ?_) ?_
  · obtain ⟨i, hi, rfl⟩ := mem_rngL hd
    have : (i : Int) < 8 := by simp at hi; omega
    tm_at "nw"
    tm_at "ns"
    exact hK
  · have e : (rngL 0 (8 : Int).toNat).map (fun d => match d with | .int a => D.int (8 * (os.length : Int) / 2 ^ (8 * (7 - a)).toNat % 256) | _ => .non) = iD (octs (8 * os.length) 8) := by
      rw [rngL_map _ (fun i => .int (8 * (os.length : Int) / 2 ^ (8 * (8 - 1 - i)) % 256)) fun i hi => by
        show D.int (8 * (os.length : Int) / 2 ^ (8 * (7 - (0 + (i : Int)))).toNat % 256) = _
        have : i < 8 := by simpa using hi
        rw [show (8 * (7 - (0 + (i : Int)))).toNat = 8 * (8 - 1 - i) by omega]]
      simp [octs, iD, List.map_map, Function.comp_def]
    rw [List.nil_append, e]
    have z : (os.length : Int) + 9 + (55 - (os.length : Int)) % 64 - os.length - 9 = (55 - (os.length : Int)) % 64 := by omega
    rw [z]
    tm_at "ns"
    have e : iD os ++ [D.int 128] ++ (List.replicate ((55 - (os.length : Int)) % 64).toNat [D.int 0]).flatten ++ iD (octs (8 * os.length) 8) = iD (padL os) := by
      simp only [iD, padL, List.map_append, List.map_cons, List.map_nil, List.map_replicate]
      congr 2
      generalize ((55 - (os.length : Int)) % 64).toNat = n
      induction n with
      | zero => rfl
      | succ n ih => simp [List.replicate_succ, ih]
    rw [e]
    refine ⟨by simp [octs]; omega, .tup (iD (padL os)), rfl, ⟨by simp only [lp]; omega, fun x hx => ?_⟩, q⟩
    obtain ⟨n, _, rfl⟩ := List.mem_map.mp hx
    exact trivial
end K09

set_option Elab.async false
set_option linter.all false
set_option maxRecDepth 100000
set_option maxHeartbeats 0
namespace K09
open PySem PySem.Spec PyProof.Rows L2 N
local macro_rules | `(tactic| tm_at "nw") => `(tactic| try simp only [wFn, startG_c, startG_n, startG_z, wSeq, wSet, wC, wFor, wIt, wVar, wVarB, getSl_z, getSl_s, List.set_cons_zero, List.set_cons_succ, wRet, wBin, gI_i, gI0_i, gB0_i, gAdd_i, gAdd_t, gAdd_l, gAdd_s, gMul_i, gMul_t, gMul_l, gEq_, gNe_, gIs_n, gIs_b, gIsNot_n, gIsNot_b, isNon_n, isNon_i, isNon_b, isNon_t, isNon_l, isNon_s, wIfS, wtOr, wtAnd, wtNot, wTst, wNext, wNev, wCall, wCallF, wFrz, wLst, wTup, waNil, waCons, wComp, wRng, gRng1_i, gRng2_i, gRng3_i, wUn, gNeg_i, gTuple_t, gTuple_l, gList_t, gList_l, gList_s, gLen_t, gLen_l, gLen_s, gLen_d, gInt_i, gInt_b, gAbs_i, gMax_i, gMin_i, wipeG, MO.see, fName, wCallU, wCallK, List.append_nil, List.length_cons, List.length_nil, wSl, woNone, woSome, gSl_t, gSl_l, gIt_t, gIt_l, gIt_s, gIsi_i, gIsi_b, gIsi_t, gIsi_l, gIsi_s, gIsi_n, gIsi_d, wAsg, fTup, fCons, fNil, wAnd, wOr, wNot, wIf, wPar, wAug, wApp, wSetO, wRetO, br_t, br_f, shp_int, shp_bl, shp_non, deq_int, gAll_b, gAny_b, gSum_i, wDrop, wRetN, true_and, and_true, decide_true, decide_false, Bool.not_true, Bool.not_false, isi_NoneType_bool, isi_NoneType_int, isi_NoneType_str, isi_NoneType_tuple, isi_NoneType_list, isi_NoneType_dict, isi_bool_bool, isi_bool_int, isi_bool_str, isi_bool_tuple, isi_bool_list, isi_bool_dict, isi_int_bool, isi_int_int, isi_int_str, isi_int_tuple, isi_int_list, isi_int_dict, isi_str_bool, isi_str_int, isi_str_str, isi_str_tuple, isi_str_list, isi_str_dict, isi_tuple_bool, isi_tuple_int, isi_tuple_str, isi_tuple_tuple, isi_tuple_list, isi_tuple_dict, isi_list_bool, isi_list_int, isi_list_str, isi_list_tuple, isi_list_list, isi_list_dict, isi_dict_bool, isi_dict_int, isi_dict_str, isi_dict_tuple, isi_dict_list, isi_dict_dict, okTy_bool, okTy_int, okTy_str, okTy_tuple, okTy_list, okTy_dict])
local macro_rules | `(tactic| tm_at "nc") => `(tactic| first | exact True.intro | omega | exact mulL (by omega) (by omega) | exact mulR (by omega) (by omega) | exact divOk (by omega) (by omega) | (simp only [List.length_append, List.length_map, List.length_cons, List.length_nil, List.length_replicate, List.length_flatten, List.map_replicate, List.sum_replicate_nat, List.length_range, rngL_len, rngC_len, List.cons_append, List.nil_append]; first | done | omega))
local macro_rules | `(tactic| tm_at "ns") => `(tactic| repeat (with_reducible refine And.intro (by first | tm_at "nc" | exact ⟨by tm_at "nc", by tm_at "nc"⟩ | exact ⟨by tm_at "nc", by tm_at "nc", by tm_at "nc"⟩ | exact ⟨by tm_at "nc", by tm_at "nc", by tm_at "nc", by tm_at "nc"⟩) ?_))
theorem oct17 {os : List Int} (h : Oct os) (n : Nat) : Oct (List.replicate n os).flatten := fun o ho => by
  obtain ⟨l, hl, hm⟩ := List.mem_flatten.mp ho
  rw [List.mem_replicate] at hl
  rw [hl.2] at hm
  exact h o hm
theorem rep_iD (os : List Int) (n : Nat) : (List.replicate n (iD os)).flatten = iD (List.replicate n os).flatten := by
  induction n with
  | zero => rfl
  | succ n ih => rw [List.replicate_succ, List.flatten_cons, ih, List.replicate_succ, List.flatten_cons, iD, iD, iD, List.map_append]
theorem num4 (a b c d : Int) : numOf [a, b, c, d] = ((a * 256 + b) * 256 + c) * 256 + d := by simp [numOf]
theorem loop_due (Po : Post) (x0 x1 x2 x3 x4 x5 : Sl) (os : List Int) (ho : Oct os) (hl : os.length = 64) (Om : N.Om) : ∀ (n j : Nat) (y8 y9 y10 y11 y12 : Sl), j + n = 16 →
    (∀ z8 z9 z10 z11 z12, Po.nx [x0, x1, x2, x3, x4, x5, .val (.tup (iD os)), .own (.lst (iD (wordsL os))), z8, z9, z10, z11, z12] Om) →
    wForL (fName 8) w_law_b1 ((List.range' j n).map fun (i : Nat) => D.int i) [x0, x1, x2, x3, x4, x5, .val (.tup (iD os)), .own (.lst (iD ((wordsL os).take j))), y8, y9, y10, y11, y12] Om Po
  | 0, j, y8, y9, y10, y11, y12, e, h => by
    have : (wordsL os).take j = wordsL os := List.take_of_length_le (by simp [wordsL]; omega)
    rw [this]
    exact h _ _ _ _ _
  | n + 1, j, y8, y9, y10, y11, y12, e, h => by
    rw [List.range'_succ, List.map_cons]
    simp only [wForL]
    unfold w_law_b1
    tm_at "nw"
    refine ⟨mulL (by decide) (by decide), mulL (by decide) (by decide), ?_⟩
    have ec : cutD (iD os) (some (4 * (j : Int))) (some (4 * (j : Int) + 4)) = iD ((os.drop (4 * j)).take 4) := by
      have := cut_4 os j
      rw [show (0 : Int) + (j : Int) * 4 = 4 * (j : Int) by omega] at this
      exact this
    rw [ec]
    have h4 : ((os.drop (4 * j)).take 4).length = 4 := by rw [List.length_take, List.length_drop]; omega
    have ho4 : Oct ((os.drop (4 * j)).take 4) := (ho.drop _).take _
    have ew : (wordsL os)[j]? = some (numOf ((os.drop (4 * j)).take 4)) := by simp [wordsL, show j < 16 by omega]
    generalize (os.drop (4 * j)).take 4 = l at h4 ho4 ew
    match l, h4, ho4, ew with
    | [a, b, c, d], _, ho4, ew =>
      obtain ⟨a0, a1⟩ := ho4 a (by simp)
      obtain ⟨b0, b1⟩ := ho4 b (by simp)
      obtain ⟨c0, c1⟩ := ho4 c (by simp)
      obtain ⟨d0, d1⟩ := ho4 d (by simp)
      simp only [iD, List.map_cons, List.map_nil]
      refine ⟨rfl, ?_⟩
      tm_at "nw"
      refine ⟨mulR (by decide) (by decide), mulR (by decide) (by decide), mulR (by decide) (by decide), ?_, ?_⟩
      · simp [wordsL]; omega
      · have := loop_due Po x0 x1 x2 x3 x4 x5 os ho hl Om n (j + 1) (.val (.int j)) (.val (.int a)) (.val (.int b)) (.val (.int c)) (.val (.int d)) (by omega) h
        rw [List.take_add_one, ew, num4] at this
        simpa [iD] using this
theorem rng_range' (n : Nat) : rngL 0 n = (List.range' 0 n).map fun (i : Nat) => D.int i := by
  simp [rngL, List.range_eq_range']
theorem loop_law (Po : Post) (ns : List Int) (Om : N.Om) : ∀ (ts : List D) (y1 y2 y3 y4 y5 y6 y7 y8 y9 y10 y11 y12 : Sl), (∀ t ∈ ts, ∃ n : Nat, t = .int n ∧ n ≤ 100) →
    (∀ z1 z2 z3 z4 z5 z6 z7 z8 z9 z10 z11 z12, Po.nx [.val (.scr ns), z1, z2, z3, z4, z5, z6, z7, z8, z9, z10, z11, z12] Om) →
    wForL (fName 2) w_law_b2 ts [.val (.scr ns), y1, y2, y3, y4, y5, y6, y7, y8, y9, y10, y11, y12] Om Po
  | [], _, _, _, _, _, _, _, _, _, _, _, _, _, h => h _ _ _ _ _ _ _ _ _ _ _ _
  | t :: ts, y1, y2, y3, y4, y5, y6, y7, y8, y9, y10, y11, y12, ht, h => by
    obtain ⟨n, rfl, hn⟩ := ht t List.mem_cons_self
    simp only [wForL]
    unfold w_law_b2
    tm_at "nw"
    refine ⟨ns, n, rfl, fun c => ?_⟩
    tm_at "nw"
    refine ⟨c, n, rfl, by omega, fun r hr => ?_⟩
    tm_at "nw"
    tm_at "ns"
    have m4 := Int.emod_lt_of_pos r (show (0 : Int) < 4 by decide)
    refine gIx_any (Int.emod_nonneg _ (by decide)) (by simp; omega) fun d hd => ?_
    have : ∃ v : Nat, d = .int v ∧ v ≤ 200 := by
      simp only [List.mem_cons, List.not_mem_nil, or_false] at hd
      have h9 := Int.ediv_nonneg hr (show (0 : Int) ≤ 9 by decide)
      have q1 := Int.emod_nonneg (r / 9) (show (20 : Int) ≠ 0 by decide)
      have q2 := Int.emod_lt_of_pos (r / 9) (show (0 : Int) < 20 by decide)
      have q3 := Int.emod_nonneg (r / 9) (show (12 : Int) ≠ 0 by decide)
      have q4 := Int.emod_lt_of_pos (r / 9) (show (0 : Int) < 12 by decide)
      have q5 := Int.emod_nonneg (r / 9) (show (201 : Int) ≠ 0 by decide)
      have q6 := Int.emod_lt_of_pos (r / 9) (show (0 : Int) < 201 by decide)
      rcases hd with e | e | e | e
      · exact ⟨(r / 9 % 20).toNat, by rw [e]; congr 1; omega, by omega⟩
      · exact ⟨(54 + r / 9 % 12).toNat, by rw [e]; congr 1; omega, by omega⟩
      · exact ⟨(118 + r / 9 % 12).toNat, by rw [e]; congr 1; omega, by omega⟩
      · exact ⟨(r / 9 % 201).toNat, by rw [e]; congr 1; omega, by omega⟩
    obtain ⟨v, rfl, hv⟩ := this
    tm_at "nw"
    refine ⟨divOk (by decide) (by decide), r / 77, rfl, Int.ediv_nonneg hr (by decide), fun os hl ho => ?_⟩
    tm_at "nw"
    rw [rep_iD, cut_to, show (iD (List.replicate (13 : Int).toNat os).flatten).take v = iD ((List.replicate 13 os).flatten.take v) by rw [iD, iD, ← List.map_take]; rfl]
    refine ⟨⟨by decide, by decide, by simp [hl]⟩, _, rfl, by simp [hl]; omega, ?_⟩
    tm_at "nw"
    refine ⟨shlI (n := 1) (by decide) (by decide) (by decide) (by decide), by decide, shlI (n := 1) (by decide) (by decide) (by decide) (by decide), by decide, ?_⟩
    have m32 := Int.emod_nonneg r (show (32 : Int) ≠ 0 by decide)
    have m32' := Int.emod_lt_of_pos r (show (0 : Int) < 32 by decide)
    refine ⟨shlI (n := 1) (by decide) (by decide) m32 (by omega), by simp, divOk (by decide) (by decide), by decide, ?_⟩
    have m5 := Int.emod_lt_of_pos (r / 5) (show (0 : Int) < 5 by decide)
    have e32 : (1 : Int) * 2 ^ (32 : Int).toNat = 4294967296 := by decide
    refine gIx_any (Int.emod_nonneg _ (by decide)) (by simp; omega) fun d hd => ?_
    have : ∃ w : Int, d = .int w ∧ 0 ≤ w ∧ w < 2 ^ 32 := by
      have e2 : (2 : Int) ^ 32 = 4294967296 := by decide
      simp only [List.mem_cons, List.not_mem_nil, or_false] at hd
      rw [e32] at hd
      rcases hd with e | e | e | e | e
      · exact ⟨_, e, Int.emod_nonneg _ (by decide), by rw [e2]; exact Int.emod_lt_of_pos _ (by decide)⟩
      · exact ⟨_, e, by decide, by decide⟩
      · exact ⟨_, e, by decide, by decide⟩
      · refine ⟨_, e, ?_, ?_⟩
        · rw [Int.one_mul]; exact Int.le_of_lt (pw _)
        · rw [Int.one_mul]
          exact Int.pow_lt_pow_of_lt (by decide) (by omega)
      · exact ⟨_, e, by decide, by decide⟩
    obtain ⟨w, rfl, w0, w1⟩ := this
    have m33 := Int.emod_nonneg (r / 11) (show (33 : Int) ≠ 0 by decide)
    have m33' := Int.emod_lt_of_pos (r / 11) (show (0 : Int) < 33 by decide)
    tm_at "nw"
    refine ⟨divOk (by decide) (by decide), by decide, w, (r / 11 % 33).toNat, by congr 3; omega, w0, w1, by omega, ?_⟩
    tm_at "nw"
    refine ⟨by decide, w, (n % 33 : Nat), by simp, w0, w1, by omega, ?_⟩
    tm_at "nw"
    refine ⟨divOk (by decide) (by decide), r / 31, rfl, Int.ediv_nonneg hr (by decide), fun os2 hl2 ho2 => ?_⟩
    tm_at "nw"
    have ect : cutD (iD (List.replicate (4 : Int).toNat os2).flatten) none (some 64) = iD ((List.replicate 4 os2).flatten.take 64) := by
      have := cut_to (iD (List.replicate (4 : Int).toNat os2).flatten) 64
      rw [show ((64 : Nat) : Int) = 64 from rfl] at this
      rw [this, iD, iD, ← List.map_take]
      rfl
    rw [rep_iD, ect]
    have hl4 : ((List.replicate 4 os2).flatten.take 64).length = 64 := by simp [hl2]
    have ho4 : Oct ((List.replicate 4 os2).flatten.take 64) := (oct17 ho2 4).take _
    refine ⟨⟨by decide, by decide, by simp [hl2]⟩, by decide, ⟨by decide, by decide⟩, ?_⟩
    rw [show (16 : Int).toNat = 16 from rfl, rng_range']
    refine loop_due _ _ _ _ _ _ _ _ ho4 hl4 _ 16 0 _ _ _ _ _ rfl fun z8 z9 z10 z11 z12 => ?_
    tm_at "nw"
    refine ⟨_, rfl, ho4, hl4, ?_⟩
    tm_at "nw"
    refine ⟨.tup (iD (wordsL _)), rfl, ⟨by simp [wordsL], fun x hx => ?_⟩, ?_⟩
    · obtain ⟨k, _, rfl⟩ := List.mem_map.mp hx
      exact trivial
    · tm_at "nw"
      exact loop_law Po ns Om ts _ _ _ _ _ _ _ _ _ _ _ _ (fun t' h' => ht t' (List.mem_cons_of_mem _ h')) h
theorem m_law (ds : List D) (Om : N.Om) (Q : D → N.Om → Prop) (R : RX) (hl : ds.length = 1) (h : sp_law ds Om Q R) : wFn 13 w_law ds Om Q R := by
  obtain ⟨ns, rfl, hn, q⟩ := h
  unfold w_law
  tm_at "nw"
  refine ⟨ns, 0, rfl, fun c => ?_⟩
  tm_at "nw"
  refine ⟨c, 0, rfl, by decide, fun r hr => ?_⟩
  tm_at "nw"
  have m9 := Int.emod_nonneg (r / 3) (show (9 : Int) ≠ 0 by decide)
  have m9' := Int.emod_lt_of_pos (r / 3) (show (0 : Int) < 9 by decide)
  refine ⟨by decide, by decide, divOk (by decide) (by decide), by decide, ⟨by omega, by omega, by omega⟩, List.replicate (8188 + r / 3 % 9).toNat (r % 256), ?_, by simp; omega, ?_⟩
  · have : [D.int (r % 256)] = iD [r % 256] := rfl
    rw [this, rep_iD]
    congr 3
    generalize (8188 + r / 3 % 9).toNat = n
    induction n with
    | zero => rfl
    | succ n ih => simp [List.replicate_succ, ih]
  · tm_at "nw"
    refine ⟨by split <;> (split <;> omega), ?_⟩
    refine loop_law _ ns _ _ _ _ _ _ _ _ _ _ _ _ _ _ (fun t ht => ?_) fun _ _ _ _ _ _ _ _ _ _ _ _ => q
    obtain ⟨i, hi, rfl⟩ := mem_rngL ht
    refine ⟨i, by simp, ?_⟩
    split at hi <;> (split at hi <;> omega)
end K09

set_option Elab.async false
set_option linter.all false
set_option maxRecDepth 100000
set_option maxHeartbeats 0
namespace K09
open PySem PySem.Spec PyProof.Rows L2 N
def fn : List He.DefD := [defD "number_of" s_number_of, defD "as_octets" s_as_octets, defD "rotated" s_rotated, defD "padded" s_padded, defD "block_words" s_block_words, defD "_law_cell" s__law_cell, defD "_law_rich" s__law_rich, defD "_law_codes" s__law_codes, defD "_law_same" s__law_same, defD "_law_octets" s__law_octets, defD "_law_bits" s__law_bits, defD "_law_ring_right" s__law_ring_right, defD "_law_padded_right" s__law_padded_right, defD "law" s_law]
def fa : List He.Fa := [.int "MASK" 4294967295, .free "all", .free "bool", .free "int", .free "isinstance", .free "len", .free "list", .free "max", .free "min", .free "range", .free "str", .free "tuple", .glo "number_of", .glo "as_octets", .glo "rotated", .glo "padded", .glo "block_words", .glo "_law_cell", .glo "_law_rich", .glo "_law_codes", .glo "_law_same", .glo "_law_octets", .glo "_law_bits", .glo "_law_ring_right", .glo "_law_padded_right", .glo "law"]
theorem facts {l : Program} {w : World} {K : PySem.W.Frag} {h : Heap} {mg : Str → Option Value} {f : Addr} {T : Th} (hT : T.K = K) (X : K.In h) (G : h.Ns mainGlobals mg) (hfa : mg ("law" : Str) = some (.ref f)) (c : He.SaysD fa fn K) :
    ∃ fd : FuncData, (∀ (s : Shared) (v : Value), BindsTo s fd ⟨[v], []⟩ [("script", v)]) ∧ ∀ base : Heap, K.In base → base.Ns mainGlobals mg → FnOk l w K mg base (L2.CX l w) 4 f fd ["script"] (toSp T 1 sp_law) := by
  subst hT
  generalize hK : T.K = K at *
  have M : Mg mg := ⟨He.int_ok X G (c.fact 0 rfl), He.free_ok X G (c.fact 1 rfl), He.free_ok X G (c.fact 2 rfl), He.free_ok X G (c.fact 3 rfl), He.free_ok X G (c.fact 4 rfl), He.free_ok X G (c.fact 5 rfl), He.free_ok X G (c.fact 6 rfl), He.free_ok X G (c.fact 7 rfl), He.free_ok X G (c.fact 8 rfl), He.free_ok X G (c.fact 9 rfl), He.free_ok X G (c.fact 10 rfl), He.free_ok X G (c.fact 11 rfl)⟩
  obtain ⟨fd_number_of, F_number_of⟩ := c.def_ 0 (d := defD "number_of" s_number_of) rfl
  have g_number_of := He.glo_ok X G (c.fact 12 (f := .glo "number_of") rfl)
  have b_number_of := F_number_of.bindsN (ps := ["octets"]) (fun _ _ _ _ _ _ us hl => match us, hl with | [_], _ => rfl)
  obtain ⟨fd_as_octets, F_as_octets⟩ := c.def_ 1 (d := defD "as_octets" s_as_octets) rfl
  have g_as_octets := He.glo_ok X G (c.fact 13 (f := .glo "as_octets") rfl)
  have b_as_octets : KB K fd_as_octets ["number", "size"] 1 ["size"] := kb_of F_as_octets fun _ _ _ _ _ _ us ws hl hw => match us, hl, ws, hw with | [_], _, [_], _ => rfl
  obtain ⟨fd_rotated, F_rotated⟩ := c.def_ 2 (d := defD "rotated" s_rotated) rfl
  have g_rotated := He.glo_ok X G (c.fact 14 (f := .glo "rotated") rfl)
  have b_rotated := F_rotated.bindsN (ps := ["word", "count"]) (fun _ _ _ _ _ _ us hl => match us, hl with | [_, _], _ => rfl)
  obtain ⟨fd_padded, F_padded⟩ := c.def_ 3 (d := defD "padded" s_padded) rfl
  have g_padded := He.glo_ok X G (c.fact 15 (f := .glo "padded") rfl)
  have b_padded := F_padded.bindsN (ps := ["octets"]) (fun _ _ _ _ _ _ us hl => match us, hl with | [_], _ => rfl)
  obtain ⟨fd_block_words, F_block_words⟩ := c.def_ 4 (d := defD "block_words" s_block_words) rfl
  have g_block_words := He.glo_ok X G (c.fact 16 (f := .glo "block_words") rfl)
  have b_block_words := F_block_words.bindsN (ps := ["block"]) (fun _ _ _ _ _ _ us hl => match us, hl with | [_], _ => rfl)
  obtain ⟨fd__law_cell, F__law_cell⟩ := c.def_ 5 (d := defD "_law_cell" s__law_cell) rfl
  have g__law_cell := He.glo_ok X G (c.fact 17 (f := .glo "_law_cell") rfl)
  have b__law_cell := F__law_cell.bindsN (ps := ["script", "k"]) (fun _ _ _ _ _ _ us hl => match us, hl with | [_, _], _ => rfl)
  obtain ⟨fd__law_rich, F__law_rich⟩ := c.def_ 6 (d := defD "_law_rich" s__law_rich) rfl
  have g__law_rich := He.glo_ok X G (c.fact 18 (f := .glo "_law_rich") rfl)
  have b__law_rich := F__law_rich.bindsN (ps := ["cell", "k"]) (fun _ _ _ _ _ _ us hl => match us, hl with | [_, _], _ => rfl)
  obtain ⟨fd__law_codes, F__law_codes⟩ := c.def_ 7 (d := defD "_law_codes" s__law_codes) rfl
  have g__law_codes := He.glo_ok X G (c.fact 19 (f := .glo "_law_codes") rfl)
  have b__law_codes := F__law_codes.bindsN (ps := ["rich", "count", "base"]) (fun _ _ _ _ _ _ us hl => match us, hl with | [_, _, _], _ => rfl)
  obtain ⟨fd__law_same, F__law_same⟩ := c.def_ 8 (d := defD "_law_same" s__law_same) rfl
  have g__law_same := He.glo_ok X G (c.fact 20 (f := .glo "_law_same") rfl)
  have b__law_same := F__law_same.bindsN (ps := ["actual", "due"]) (fun _ _ _ _ _ _ us hl => match us, hl with | [_, _], _ => rfl)
  obtain ⟨fd__law_octets, F__law_octets⟩ := c.def_ 9 (d := defD "_law_octets" s__law_octets) rfl
  have g__law_octets := He.glo_ok X G (c.fact 21 (f := .glo "_law_octets") rfl)
  have b__law_octets := F__law_octets.bindsN (ps := ["rich", "count"]) (fun _ _ _ _ _ _ us hl => match us, hl with | [_, _], _ => rfl)
  obtain ⟨fd__law_bits, F__law_bits⟩ := c.def_ 10 (d := defD "_law_bits" s__law_bits) rfl
  have g__law_bits := He.glo_ok X G (c.fact 22 (f := .glo "_law_bits") rfl)
  have b__law_bits := F__law_bits.bindsN (ps := ["word"]) (fun _ _ _ _ _ _ us hl => match us, hl with | [_], _ => rfl)
  obtain ⟨fd__law_ring_right, F__law_ring_right⟩ := c.def_ 11 (d := defD "_law_ring_right" s__law_ring_right) rfl
  have g__law_ring_right := He.glo_ok X G (c.fact 23 (f := .glo "_law_ring_right") rfl)
  have b__law_ring_right := F__law_ring_right.bindsN (ps := ["word", "count"]) (fun _ _ _ _ _ _ us hl => match us, hl with | [_, _], _ => rfl)
  obtain ⟨fd__law_padded_right, F__law_padded_right⟩ := c.def_ 12 (d := defD "_law_padded_right" s__law_padded_right) rfl
  have g__law_padded_right := He.glo_ok X G (c.fact 24 (f := .glo "_law_padded_right") rfl)
  have b__law_padded_right := F__law_padded_right.bindsN (ps := ["octets"]) (fun _ _ _ _ _ _ us hl => match us, hl with | [_], _ => rfl)
  obtain ⟨fd_law, F_law⟩ := c.def_ 13 (d := defD "law" s_law) rfl
  have g_law := He.glo_ok X G (c.fact 25 (f := .glo "law") rfl)
  have e := hfa.symm.trans g_law
  cases e
  have b_law := fun (s : Shared) (us : List Value) (hl : us.length = 1) => FunD.bindsA (ps := ["script"]) F_law (fun _ _ _ _ _ _ us hl => match us, hl with | [_], _ => rfl) s us hl
  refine ⟨_, fun s v => b_law s [v] rfl, fun base X0 G0 => ?_⟩
  have c_number_of : Cl l w K mg base T 1 "number_of" 1 sp_number_of := cl_mk (k_number_of (PR := l) (w := w) (base := base) (T := T) hK M F_number_of ) (fun ds Om Q R hl h => m_number_of ds Om Q R hl h) g_number_of F_number_of.kp b_number_of
  have c_as_octets : ClK l w K mg base T 1 "as_octets" 2 1 ["size"] sp_as_octets := clK_mk (k_as_octets (PR := l) (w := w) (base := base) (T := T) hK M F_as_octets ) (fun ds Om Q R hl h => m_as_octets ds Om Q R hl h) g_as_octets F_as_octets.kp b_as_octets rfl
  have c_rotated : Cl l w K mg base T 1 "rotated" 2 sp_rotated := cl_mk (k_rotated (PR := l) (w := w) (base := base) (T := T) hK M F_rotated ) (fun ds Om Q R hl h => m_rotated ds Om Q R hl h) g_rotated F_rotated.kp b_rotated
  have c_padded : Cl l w K mg base T 2 "padded" 1 sp_padded := cl_mk (k_padded (PR := l) (w := w) (base := base) (T := T) hK M F_padded c_as_octets) (fun ds Om Q R hl h => m_padded ds Om Q R hl h) g_padded F_padded.kp b_padded
  have c_block_words : Cl l w K mg base T 2 "block_words" 1 sp_block_words := cl_mk (k_block_words (PR := l) (w := w) (base := base) (T := T) hK M F_block_words c_number_of) (fun ds Om Q R hl h => m_block_words ds Om Q R hl h) g_block_words F_block_words.kp b_block_words
  have c__law_cell : Cl l w K mg base T 1 "_law_cell" 2 sp__law_cell := cl_mk (k__law_cell (PR := l) (w := w) (base := base) (T := T) hK M F__law_cell ) (fun ds Om Q R hl h => m__law_cell ds Om Q R hl h) g__law_cell F__law_cell.kp b__law_cell
  have c__law_rich : Cl l w K mg base T 1 "_law_rich" 2 sp__law_rich := cl_mk (k__law_rich (PR := l) (w := w) (base := base) (T := T) hK M F__law_rich ) (fun ds Om Q R hl h => m__law_rich ds Om Q R hl h) g__law_rich F__law_rich.kp b__law_rich
  have c__law_codes : Cl l w K mg base T 1 "_law_codes" 3 sp__law_codes := cl_mk (k__law_codes (PR := l) (w := w) (base := base) (T := T) hK M F__law_codes ) (fun ds Om Q R hl h => m__law_codes ds Om Q R hl h) g__law_codes F__law_codes.kp b__law_codes
  have c0 : Cl l w K mg base T 1 "_law_same" 2 (sp__law_same 0) := cl_mk (k__law_same (PR := l) (w := w) (base := base) (T := T) (k := 0) (fun _ _ _ _ => False) hK M F__law_same (cl_no g__law_same F__law_same.kp b__law_same)) (fun ds Om Q R hl h => m__law_same 0 _ (.inl rfl) ds Om Q R hl h) g__law_same F__law_same.kp b__law_same
  have c__law_same : Cl l w K mg base T 2 "_law_same" 2 (sp__law_same 1) := cl_mk (k__law_same (PR := l) (w := w) (base := base) (T := T) (k := 1) (sp__law_same 0) hK M F__law_same c0) (fun ds Om Q R hl h => m__law_same 1 _ (.inr rfl) ds Om Q R hl h) g__law_same F__law_same.kp b__law_same
  have c__law_octets : Cl l w K mg base T 2 "_law_octets" 2 sp__law_octets := cl_mk (k__law_octets (PR := l) (w := w) (base := base) (T := T) hK M F__law_octets c__law_codes) (fun ds Om Q R hl h => m__law_octets ds Om Q R hl h) g__law_octets F__law_octets.kp b__law_octets
  have c__law_bits : Cl l w K mg base T 1 "_law_bits" 1 sp__law_bits := cl_mk (k__law_bits (PR := l) (w := w) (base := base) (T := T) hK M F__law_bits ) (fun ds Om Q R hl h => m__law_bits ds Om Q R hl h) g__law_bits F__law_bits.kp b__law_bits
  have c__law_ring_right : Cl l w K mg base T 3 "_law_ring_right" 2 sp__law_ring_right := cl_mk (k__law_ring_right (PR := l) (w := w) (base := base) (T := T) hK M F__law_ring_right c_rotated c__law_bits c__law_same) (fun ds Om Q R hl h => m__law_ring_right ds Om Q R hl h) g__law_ring_right F__law_ring_right.kp b__law_ring_right
  have c__law_padded_right : Cl l w K mg base T 3 "_law_padded_right" 1 sp__law_padded_right := cl_mk (k__law_padded_right (PR := l) (w := w) (base := base) (T := T) hK M F__law_padded_right c_padded c__law_same) (fun ds Om Q R hl h => m__law_padded_right ds Om Q R hl h) g__law_padded_right F__law_padded_right.kp b__law_padded_right
  exact (k_law (PR := l) (w := w) (base := base) (T := T) hK M F_law c__law_rich c__law_cell c__law_padded_right c__law_octets c__law_ring_right c__law_same c_block_words).imp (toSp_imp fun ds Om Q R hl h => m_law ds Om Q R hl h)
abbrev Rw : PySem.W.OpenRow := PySem.W.OpenLaw.row PySem.Challenge.rw_anyenough_k09_padding_and_rings
abbrev hk : PySem.W.Hook := He.hookD 4 fa fn
def ob (s : PySem.W.SharedT) : He.AlD := He.obsDG 4 fa fn (HandSHeadRun.getT s)
theorem ob_eq (s : PySem.W.SharedT) : ob s = hk.obs s.abs := He.obsDG_eq (HandSHeadRun.getT_eq s)
def names0 : List PySem.Str := ["SwarmError", "BadOctets", "number_of", "as_octets", "MASK", "rotated", "padded", "block_words", "_law_cell", "_law_rich", "_law_codes", "_law_same", "_law_octets", "_law_bits", "_law_ring_right", "_law_padded_right"]
def names : List PySem.Str := names0
theorem run (w : World) : HandSHeadRun.RunEq Rw (PySem.W.view Rw.prog [20]) hk ob 4000 names w := by
  intro os
  kernel_rfl
end K09
open PySem PySem.W PySem.Calls PyProof.Rows
set_option maxHeartbeats 0 in
theorem PySem.Challenge.cw_anyenough_k09_padding_and_rings_holds : PySem.Challenge.rw_anyenough_k09_padding_and_rings.Holds := by
  w_on; o_law
  refine HandSHeadRun.head_any (r := OpenLaw.row PySem.Challenge.rw_anyenough_k09_padding_and_rings) (q := view (OpenLaw.row PySem.Challenge.rw_anyenough_k09_padding_and_rings).prog [20]) (H := K09.hk) (ob := K09.ob) (M := 4000) (loose := K09.names) (d := HandSHeadRun.topDef (OpenLaw.row PySem.Challenge.rw_anyenough_k09_padding_and_rings).prog 20) (kwd := []) K09.ob_eq
    (by kernel_rfl) (fun s => by kernel_rfl) K09.run (by kernel_rfl) (by kernel_rfl) (by kernel_rfl) (by rfl) (by first | assumption | decide +kernel) (by decide +kernel) ⟨rfl, rfl, rfl, rfl, rfl, by decide +kernel⟩ ?hw ?hc
  case hw => w_witness2
  case hc =>
    refine N.walk_of (l := PySem.Challenge.rw_anyenough_k09_padding_and_rings) (n := 63) (k := 4) (x := "script") rfl (by decide) (by kernel_rfl) ⟨rfl, by decide, by decide⟩ ?F
    intro w mg fa h Y G hmg0
    obtain ⟨K, KX, c⟩ := Y
    have hmg : mg ("law" : PySem.Str) = some (.ref fa) := by
      have e : (HandSHeadRun.topDef (OpenLaw.row PySem.Challenge.rw_anyenough_k09_padding_and_rings).prog 20).name = ("law" : PySem.Str) := by kernel_rfl
      rw [← e]
      exact hmg0
    obtain ⟨fd, hb, hF⟩ := K09.facts (l := (PySem.Challenge.rw_anyenough_k09_padding_and_rings).prog) (w := w) (T := ⟨K, fun _ => 0⟩) rfl KX G hmg c
    exact ⟨⟨K, fun _ => 0⟩, fd, K09.sp_law, KX, hb, fun ns hl hbits => ⟨ns, rfl, hl, rfl⟩, hF⟩
