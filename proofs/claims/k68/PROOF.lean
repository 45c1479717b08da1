import PyProof.Rows.All
import Wide.All
import OpenK.AllK
import Wide.FinOn
import HandS.ForMost
import HandS.Exc
import HandS.ExcOwn
import HandS.TryOnly
import HandS.WordsExc
import HandS.Wide
import HandS.TupAny
import HandS.Defaults
import HandS.TupLe
import HandS.Style
import HandS.IsInst
import HandS.SortInts
import HandS.WordsDict
import HandS.More
import HandS.TupMul
import HandS.NoneIn
import HandS.CallSlots
import HandS.Small
import HandS.Conv
import HandS.Head0
import HandS.Head1
import HandS.Head2
import HandS.HeadHook1
import HandS.HeadHook2
import HandS.DictComp
import PyProof.ReprRoads
import PyProof.CallFns
import HandS.Ends
import HandS.HeadEnd
import OpenK.KMore
import KE.KTupSum
import HandS.ExcIs
import HandS.Lambda
import HandS.CallLocal
import HandS.EndTab
import HandS.HeadHook4
import KE.KStateDown
import HandS.Head3
import PyProof.FitsInt
import PySem.Challenge.RW_protestproof_k68_bids_fields_and_formula
set_option Elab.async false
set_option linter.all false
set_option maxRecDepth 100000
set_option maxHeartbeats 1000000
/-! Data without a heap, and what stands for it on the abstract heap. -/
namespace DL
open PySem L2

inductive D where
  | non | bl (b : Bool) | int (i : Int) | str (x : Str)
  | tup (xs : List D) | lst (xs : List D) | dct (kvs : List (D × D)) | st (xs : List D)
  | fn (x : Str) | exc (x : Str) (xs : List D) | tok

/-- an exception object of the class at C -/
def XO (C a : Addr) : HO := .ext fun h => ∃ (oe : Obj) (vs : Array Value), h.get? a = some oe ∧ Zc (.ref C) none oe ∧ oe.data = .fields vs
/-- what the module has -/
structure Wo where
  K : PySem.W.Frag
  mg : Str → Option Value

def kD : Key → D
  | .inl i => .int i
  | .inr x => .str x

mutual
def Rp (o : Wo) (F : Hp) : D → V → Prop
  | .non, v => v = .non
  | .bl b, v => v = .bl b
  | .int i, v => v = .int i
  | .str x, v => v = .str x
  | .tup xs, v => ∃ a vs, v = .ref a ∧ SqT o.K F a vs ∧ RpL o F xs vs
  | .lst xs, v => ∃ a vs, v = .ref a ∧ Rd F a (.lst vs) ∧ RpL o F xs vs
  | .dct kvs, v => ∃ a ks, v = .ref a ∧ F a = some (.dK ks) ∧ RpD o F kvs ks
  | .st xs, v => ∃ a vs, v = .ref a ∧ SqL o.K F a vs ∧ RpL o F xs vs
  | .fn x, v => ∃ a, v = .ref a ∧ o.mg x = some (.ref a)
  | .exc x _, v => ∃ a C, v = .ref a ∧ o.mg x = some (.ref C) ∧ F a = some (XO C a)
  | .tok, _ => False
def RpL (o : Wo) (F : Hp) : List D → List V → Prop
  | [], vs => vs = []
  | x :: xs, vs => ∃ v r, vs = v :: r ∧ Rp o F x v ∧ RpL o F xs r
def RpD (o : Wo) (F : Hp) : List (D × D) → List (Key × V) → Prop
  | [], ks => ks = []
  | (x, d) :: r, ks => ∃ k v s, ks = (k, v) :: s ∧ x = kD k ∧ Rp o F d v ∧ RpD o F r s
end

/-- all that was tracked is as it was -/
def Ex (H H' : Hp) : Prop := ∀ a o, H a = some o → H' a = some o
theorem Ex.refl (H : Hp) : Ex H H := fun _ _ h => h
theorem Ex.trans {H H1 H2 : Hp} (a : Ex H H1) (b : Ex H1 H2) : Ex H H2 := fun x o h => b x o (a x o h)
theorem Ex.new {H : Hp} {p : Addr} {o : HO} (h : H p = none) : Ex H (upd H p o) := fun a u e => by
  rw [upd_ne (ne_of_none e h)]; exact e
theorem Ex.none {H H' : Hp} (e : Ex H H') {a : Addr} (h : H' a = none) : H a = none := by
  cases h1 : H a with
  | none => rfl
  | some o => rw [e a o h1] at h; cases h
theorem Ex.rd {H H' : Hp} {a : Addr} {u : HO} (e : Ex H H') (h : Rd H a u) : Rd H' a u := by
  rcases h with h | ⟨o, h⟩
  · exact .inl (e a _ h)
  · exact .inr ⟨o, e a _ h⟩
theorem Ex.l {K : PySem.W.Frag} {H H' : Hp} {a : Addr} {xs : List V} (e : Ex H H') (h : SqL K H a xs) : SqL K H' a xs := by
  rcases h with h | h
  · exact .inl (e.rd h)
  · exact .inr h
theorem Ex.t {K : PySem.W.Frag} {H H' : Hp} {a : Addr} {xs : List V} (e : Ex H H') (h : SqT K H a xs) : SqT K H' a xs := by
  rcases h with h | h
  · exact .inl (e.rd h)
  · exact .inr h

mutual
theorem Rp.mono {o : Wo} {F F' : Hp} (e : Ex F F') : ∀ {d : D} {v : V}, Rp o F d v → Rp o F' d v
  | .non, _, h => h
  | .bl _, _, h => h
  | .int _, _, h => h
  | .str _, _, h => h
  | .tup _, _, ⟨a, vs, e1, e2, e3⟩ => ⟨a, vs, e1, e.t e2, RpL.mono e e3⟩
  | .lst _, _, ⟨a, vs, e1, e2, e3⟩ => ⟨a, vs, e1, e.rd e2, RpL.mono e e3⟩
  | .dct _, _, ⟨a, ks, e1, e2, e3⟩ => ⟨a, ks, e1, e _ _ e2, RpD.mono e e3⟩
  | .st _, _, ⟨a, vs, e1, e2, e3⟩ => ⟨a, vs, e1, e.l e2, RpL.mono e e3⟩
  | .fn _, _, h => h
  | .exc _ _, _, ⟨a, C, e1, e2, e3⟩ => ⟨a, C, e1, e2, e _ _ e3⟩
  | .tok, _, h => h
theorem RpL.mono {o : Wo} {F F' : Hp} (e : Ex F F') : ∀ {xs : List D} {vs : List V}, RpL o F xs vs → RpL o F' xs vs
  | [], _, h => h
  | _ :: _, _, ⟨v, r, e1, e2, e3⟩ => ⟨v, r, e1, Rp.mono e e2, RpL.mono e e3⟩
theorem RpD.mono {o : Wo} {F F' : Hp} (e : Ex F F') : ∀ {xs : List (D × D)} {vs : List (Key × V)}, RpD o F xs vs → RpD o F' xs vs
  | [], _, h => h
  | (_, _) :: _, _, ⟨k, v, s, e1, e2, e3, e4⟩ => ⟨k, v, s, e1, e2, Rp.mono e e3, RpD.mono e e4⟩
end

/-- a list that is read: it stands in H outside the footprint -/
def SqF (fp : List Addr) (H : Hp) (a : Addr) (vs : List V) : Prop := Rd H a (.lst vs) ∧ a ∉ fp
theorem SqF.l {K : PySem.W.Frag} {fp : List Addr} {H : Hp} {a : Addr} {vs : List V} (h : SqF fp H a vs) : SqL K H a vs := .inl h.1
/-- may be read: its own list or dict stands in H (not in the token's footprint), what is in it in F -/
def RpR (o : Wo) (fp : List Addr) (F H : Hp) : D → V → Prop
  | .lst xs, v => ∃ a vs, v = .ref a ∧ SqF fp H a vs ∧ RpL o F xs vs
  | .dct kvs, v => ∃ a ks, v = .ref a ∧ H a = some (.dK ks) ∧ a ∉ fp ∧ RpD o F kvs ks
  | d, v => Rp o F d v
theorem Rp.r {o : Wo} {fp : List Addr} {F H : Hp} (e : Ex F H) (hfp : ∀ a ∈ fp, F a = none) {d : D} {v : V} (h : Rp o F d v) : RpR o fp F H d v := by
  have nf : ∀ a, F a ≠ none → a ∉ fp := fun a h1 h2 => h1 (hfp a h2)
  cases d with
  | lst xs =>
    obtain ⟨a, vs, e1, e2, e3⟩ := h
    rcases e2 with e2 | ⟨ob, e2⟩
    · exact ⟨a, vs, e1, ⟨.inl (e _ _ e2), nf a (by rw [e2]; exact nofun)⟩, e3⟩
    · exact ⟨a, vs, e1, ⟨.inr ⟨ob, e _ _ e2⟩, nf a (by rw [e2]; exact nofun)⟩, e3⟩
  | dct xs => obtain ⟨a, vs, e1, e2, e3⟩ := h; exact ⟨a, vs, e1, e _ _ e2, nf a (by rw [e2]; exact nofun), e3⟩
  | _ => exact h
theorem RpR.mono {o : Wo} {fp : List Addr} {F F' H H' : Hp} (e : Ex F F') (eh : ∀ a u, H a = some u → a ∉ fp → H' a = some u) {d : D} {v : V} (h : RpR o fp F H d v) : RpR o fp F' H' d v := by
  cases d with
  | lst xs =>
    obtain ⟨a, vs, e1, e2, e3⟩ := h
    refine ⟨a, vs, e1, ?_, e3.mono e⟩
    rcases e2 with ⟨e2 | ⟨ob, e2⟩, e4⟩
    · exact ⟨.inl (eh _ _ e2 e4), e4⟩
    · exact ⟨.inr ⟨ob, eh _ _ e2 e4⟩, e4⟩
  | dct xs => obtain ⟨a, vs, e1, e2, e4, e3⟩ := h; exact ⟨a, vs, e1, eh _ _ e2 e4, e4, e3.mono e⟩
  | _ => exact Rp.mono e h
/-- the footprint forgotten -/
theorem RpR.all {o : Wo} {fp : List Addr} {F H : Hp} {d : D} {v : V} (h : RpR o fp F H d v) : RpR o [] F H d v := by
  cases d with
  | lst xs =>
    obtain ⟨a, vs, e1, ⟨e2, e4⟩, e3⟩ := h
    exact ⟨a, vs, e1, ⟨e2, by simp⟩, e3⟩
  | dct xs => obtain ⟨a, vs, e1, e2, e4, e3⟩ := h; exact ⟨a, vs, e1, e2, by simp, e3⟩
  | _ => exact h
/-- a list or dict of one's own -/
def OwnAt (o : Wo) (F H : Hp) : D → Addr → Prop
  | .lst xs, a => ∃ vs, H a = some (.lst vs) ∧ RpL o F xs vs
  | .dct kvs, a => ∃ ks, H a = some (.dK ks) ∧ RpD o F kvs ks
  | _, _ => False
theorem OwnAt.mono {o : Wo} {F F' H H' : Hp} {d : D} {a : Addr} (e : Ex F F') (eh : H a ≠ none → H' a = H a) (h : OwnAt o F H d a) : OwnAt o F' H' d a := by
  cases d with
  | lst xs => obtain ⟨vs, e2, e3⟩ := h; exact ⟨vs, by rw [eh (by rw [e2]; exact nofun)]; exact e2, e3.mono e⟩
  | dct xs => obtain ⟨vs, e2, e3⟩ := h; exact ⟨vs, by rw [eh (by rw [e2]; exact nofun)]; exact e2, e3.mono e⟩
  | _ => exact h.elim
theorem OwnAt.some {o : Wo} {F H : Hp} {d : D} {a : Addr} (h : OwnAt o F H d a) : H a ≠ none := by
  cases d with
  | lst xs => obtain ⟨vs, e2, e3⟩ := h; rw [e2]; exact nofun
  | dct xs => obtain ⟨vs, e2, e3⟩ := h; rw [e2]; exact nofun
  | _ => exact h.elim
theorem OwnAt.r {o : Wo} {fp : List Addr} {F H : Hp} {d : D} {a : Addr} (hf : a ∉ fp) (h : OwnAt o F H d a) : RpR o fp F H d (.ref a) := by
  cases d with
  | lst xs => obtain ⟨vs, e2, e3⟩ := h; exact ⟨a, vs, rfl, ⟨.inl e2, hf⟩, e3⟩
  | dct xs => obtain ⟨vs, e2, e3⟩ := h; exact ⟨a, vs, rfl, e2, hf, e3⟩
  | _ => exact h.elim
/-- frozen: from now on it stands still -/
theorem OwnAt.freeze {o : Wo} {F H : Hp} {d : D} {a : Addr} (hF : F a = none) (e : Ex F H) (h : OwnAt o F H d a) : ∃ u, H a = .some u ∧ Ex (upd F a u) H ∧ Rp o (upd F a u) d (.ref a) := by
  have go : ∀ u, H a = Option.some u → Ex (upd F a u) H := fun u hu b w q => by
    by_cases hb : b = a
    · subst hb; rw [upd_same] at q; rw [← q]; exact hu
    · rw [upd_ne hb] at q; exact e b w q
  cases d with
  | lst xs => obtain ⟨vs, e2, e3⟩ := h; exact ⟨_, e2, go _ e2, a, vs, rfl, .inl upd_same, e3.mono (Ex.new hF)⟩
  | dct xs => obtain ⟨vs, e2, e3⟩ := h; exact ⟨_, e2, go _ e2, a, vs, rfl, upd_same, e3.mono (Ex.new hF)⟩
  | _ => exact h.elim

theorem RpL.length {o : Wo} {F : Hp} : ∀ {xs : List D} {vs : List V}, RpL o F xs vs → xs.length = vs.length
  | [], _, h => by rw [show _ = _ from h]; rfl
  | _ :: xs, _, ⟨v, r, e1, _, e3⟩ => by rw [e1, List.length_cons, List.length_cons, RpL.length e3]
theorem RpL.get {o : Wo} {F : Hp} : ∀ {xs : List D} {vs : List V} {i : Nat} {d : D}, RpL o F xs vs → xs[i]? = some d → ∃ v, vs[i]? = some v ∧ Rp o F d v
  | [], _, i, _, _, e => by simp at e
  | x :: xs, _, 0, d, ⟨v, r, e1, e2, _⟩, e => by
    rw [e1]
    have : x = d := by simpa using e
    exact ⟨v, rfl, this ▸ e2⟩
  | x :: xs, _, i + 1, d, ⟨v, r, e1, _, e3⟩, e => by
    rw [e1]
    obtain ⟨w, q1, q2⟩ := RpL.get (i := i) (d := d) e3 (by simpa using e)
    exact ⟨w, by simpa using q1, q2⟩
theorem RpL.getV {o : Wo} {F : Hp} {xs : List D} {vs : List V} {i : Nat} {v : V} (h : RpL o F xs vs) (e : vs[i]? = some v) : ∃ d, xs[i]? = some d ∧ Rp o F d v := by
  have hi : i < vs.length := (List.getElem?_eq_some_iff.mp e).1
  have hi2 : i < xs.length := by rw [h.length]; exact hi
  obtain ⟨w, q1, q2⟩ := h.get (List.getElem?_eq_getElem hi2)
  rw [e] at q1; cases q1
  exact ⟨_, List.getElem?_eq_getElem hi2, q2⟩
theorem RpL.app {o : Wo} {F : Hp} : ∀ {xs ys : List D} {vs ws : List V}, RpL o F xs vs → RpL o F ys ws → RpL o F (xs ++ ys) (vs ++ ws)
  | [], _, _, _, h, h2 => by rw [show _ = _ from h]; exact h2
  | _ :: xs, _, _, _, ⟨v, r, e1, e2, e3⟩, h2 => by rw [e1]; exact ⟨v, _, rfl, e2, RpL.app e3 h2⟩
theorem RpL.one {o : Wo} {F : Hp} {d : D} {v : V} (h : Rp o F d v) : RpL o F [d] [v] := ⟨v, [], rfl, h, rfl⟩
theorem RpL.cons {o : Wo} {F : Hp} {d : D} {v : V} {xs : List D} {vs : List V} (h : Rp o F d v) (r : RpL o F xs vs) : RpL o F (d :: xs) (v :: vs) := ⟨v, vs, rfl, h, r⟩
theorem RpL.nil {o : Wo} {F : Hp} : RpL o F [] [] := rfl
theorem RpL.take {o : Wo} {F : Hp} : ∀ {xs : List D} {vs : List V} (n : Nat), RpL o F xs vs → RpL o F (xs.take n) (vs.take n)
  | _, _, 0, _ => rfl
  | [], _, n + 1, h => by rw [show _ = _ from h]; rfl
  | _ :: xs, _, n + 1, ⟨v, r, e1, e2, e3⟩ => by rw [e1]; exact ⟨v, _, rfl, e2, RpL.take n e3⟩
theorem RpL.drop {o : Wo} {F : Hp} : ∀ {xs : List D} {vs : List V} (n : Nat), RpL o F xs vs → RpL o F (xs.drop n) (vs.drop n)
  | _, _, 0, h => h
  | [], _, n + 1, h => by rw [show _ = _ from h]; rfl
  | _ :: xs, _, n + 1, ⟨v, r, e1, e2, e3⟩ => by rw [e1]; exact RpL.drop n e3
theorem RpL.set {o : Wo} {F : Hp} {d : D} {v : V} (q : Rp o F d v) : ∀ {xs : List D} {vs : List V} (n : Nat), RpL o F xs vs → RpL o F (xs.set n d) (vs.set n v)
  | [], _, n, h => by rw [show _ = _ from h]; rfl
  | _ :: xs, _, 0, ⟨w, r, e1, e2, e3⟩ => by rw [e1]; exact ⟨v, _, rfl, q, e3⟩
  | _ :: xs, _, n + 1, ⟨w, r, e1, e2, e3⟩ => by rw [e1]; exact ⟨w, _, rfl, e2, RpL.set q n e3⟩
theorem RpL.ints {o : Wo} {F : Hp} : ∀ (ns : List Int), RpL o F (ns.map D.int) (ns.map V.int)
  | [] => rfl
  | n :: ns => ⟨_, _, rfl, rfl, RpL.ints ns⟩
theorem RpL.rep {o : Wo} {F : Hp} {xs : List D} {vs : List V} (h : RpL o F xs vs) : ∀ k : Nat, RpL o F (List.replicate k xs).flatten (List.replicate k vs).flatten
  | 0 => rfl
  | k + 1 => by
    rw [List.replicate_succ, List.replicate_succ, List.flatten_cons, List.flatten_cons]
    exact h.app (RpL.rep h k)

/-! ### results, the monad -/
structure Exn where
  name : Str
  fs : List (Str × D) := []
inductive Res (S α : Type) where
  | ok (a : α) (s : S) | exc (e : Exn) (s : S) | stuck
abbrev M (S α : Type) := S → Res S α
section
variable {S α β : Type}
@[simp] def M.pure (a : α) : M S α := fun s => .ok a s
def M.bind (m : M S α) (k : α → M S β) : M S β := fun s => match m s with
  | .ok a s' => k a s'
  | .exc e s' => .exc e s'
  | .stuck => .stuck
def M.stuck : M S α := fun _ => .stuck
def M.raise (e : Exn) : M S α := fun s => .exc e s
def M.opt : Option α → M S α
  | some a => fun s => .ok a s
  | none => fun _ => .stuck
/-- nothing is raised -/
def M.nox (m : M S α) : M S α := fun s => match m s with
  | .ok a s' => .ok a s'
  | _ => .stuck
instance : Monad (M S) where
  pure := M.pure
  bind := M.bind
theorem M.bind_ok {m : M S α} {k : α → M S β} {s s' : S} {a : α} (h : m s = .ok a s') : (m >>= k) s = k a s' := by
  show M.bind m k s = _
  unfold M.bind
  rw [h]
end

/-! ### a token: the one thing with a state -/
structure Tk where
  S : Type
  At : Wo → Hp → Hp → Addr → List Addr → S → Prop
  loc : ∀ {o F F' H H' p fp s}, At o F H p fp s → Ex F F' → (∀ a ∈ fp, H' a = H a) → At o F' H' p fp s
  tr : ∀ {o F H p fp s}, At o F H p fp s → ∀ a ∈ fp, H a ≠ none
/-- no token -/
def Tk.no : Tk where
  S := Unit
  At := fun _ _ _ _ fp _ => fp = []
  loc := fun h _ _ => h
  tr := fun h a ha => by rw [h] at ha; cases ha

inductive Mode where
  | sh | own | bor | tok
  deriving DecidableEq

abbrev Env := List (Option D)

/-- what is fixed while a def runs -/
structure Fx where
  p : Addr
  fp : List Addr
  F0 : Hp
  H0 : Hp
  m : List Mode

structure Stp (fp : List Addr) (F H F' H' : Hp) : Prop where
  ff : Ex F F'
  fh : Ex F' H'
  new : ∀ a, F a = none → F' a ≠ none → H a = none
  hh : ∀ a o, H a = some o → a ∉ fp → H' a = some o
theorem Stp.refl {fp : List Addr} {F H : Hp} (e : Ex F H) : Stp fp F H F H := ⟨Ex.refl F, e, fun _ h h' => absurd h h', fun _ _ h _ => h⟩
theorem Stp.trans {fp : List Addr} {F H F1 H1 F2 H2 : Hp} (hfp : ∀ a ∈ fp, H1 a ≠ none) (a : Stp fp F H F1 H1) (b : Stp fp F1 H1 F2 H2) : Stp fp F H F2 H2 := by
  refine ⟨a.ff.trans b.ff, b.fh, fun x h h' => ?_, fun x o h hx => b.hh x o (a.hh x o h hx) hx⟩
  by_cases h1 : F1 x = none
  · have q := b.new x h1 h'
    cases e : H x with
    | none => rfl
    | some o =>
      by_cases hx : x ∈ fp
      · exact absurd q (hfp x hx)
      · rw [a.hh x o e hx] at q; cases q
  · exact a.new x h h1
theorem Stp.mono {fp : List Addr} {F H F' H' : Hp} (a : Stp [] F H F' H') : Stp fp F H F' H' := ⟨a.ff, a.fh, a.new, fun x o h _ => a.hh x o h (by simp)⟩
theorem Stp.ex {F H F' H' : Hp} (a : Stp [] F H F' H') : Ex H H' := fun x o h => a.hh x o h (by simp)
/-- new things alone -/
theorem Stp.laid {fp : List Addr} {F H : Hp} {p : Addr} {o : HO} (e : Ex F H) (h : H p = none) : Stp fp F H (upd F p o) (upd H p o) := by
  have hF := e.none h
  refine ⟨Ex.new hF, fun a u q => ?_, fun a h1 h2 => ?_, fun a u q _ => Ex.new h a u q⟩
  · by_cases ha : a = p
    · subst ha; rw [upd_same] at q ⊢; exact q
    · rw [upd_ne ha] at q ⊢; exact e a u q
  · by_cases ha : a = p
    · subst ha; exact h
    · rw [upd_ne ha] at h2; exact absurd h1 h2
/-- new, but not for all -/
theorem Stp.hid {fp : List Addr} {F H : Hp} {p : Addr} {o : HO} (e : Ex F H) (h : H p = none) : Stp fp F H F (upd H p o) :=
  ⟨Ex.refl F, e.trans (Ex.new h), fun a h1 h2 => absurd h1 h2, fun a u q _ => Ex.new h a u q⟩
end DL
set_option Elab.async false
set_option linter.all false
set_option maxRecDepth 100000
set_option maxHeartbeats 1000000
/-! Readings by semantic functions. -/
namespace DL
open PySem L2

abbrev wo (X : Cx) : Wo := ⟨X.K, X.mg⟩

def RpX (o : Wo) (F : Hp) : List (Str × D) → List (Str × V) → Prop
  | [], vs => vs = []
  | (x, d) :: r, vs => ∃ v s, vs = (x, v) :: s ∧ Rp o F d v ∧ RpX o F r s
/-- what stands for an exception -/
def ExR (o : Wo) (e : Exn) (cls : Value) (dd : Option Addr) (F : Hp) : Prop :=
  o.mg e.name = some cls ∧ ((e.fs = [] ∧ dd = none) ∨ e.fs ≠ [] ∧ ∃ d fs, dd = some d ∧ F d = some (.xd fs) ∧ RpX o F e.fs fs)

def Slot (o : Wo) (Z : Fx) (F H : Hp) (m : Mode) (d : D) (v : V) : Prop :=
  match m with
  | .sh => Rp o F d v
  | .own => ∃ a, v = .ref a ∧ F a = none ∧ Z.H0 a = none ∧ OwnAt o F H d a
  | .bor => RpR o Z.fp Z.F0 Z.H0 d v
  | .tok => d = .tok ∧ v = .ref Z.p
abbrev Fx.md (Z : Fx) (i : Nat) : Mode := Z.m.getD i .sh

structure Rl (o : Wo) (T : Tk) (Z : Fx) (F H : Hp) (ρ : Env) (s : T.S) (σ : L2.St) : Prop where
  st : Stp Z.fp Z.F0 Z.H0 F H
  at_ : T.At o F H Z.p Z.fp s
  fpz : ∀ a ∈ Z.fp, Z.F0 a = none ∧ Z.H0 a ≠ none
  sl : ∀ i d, ρ[i]? = some (some d) → ∃ v, σ[i]? = some (some v) ∧ Slot o Z F H (Z.md i) d v
  dis : ∀ i j a d e, i ≠ j → Z.md i = .own → Z.md j = .own → ρ[i]? = some (some d) → ρ[j]? = some (some e) → σ[i]? = some (some (.ref a)) → σ[j]? = some (some (.ref a)) → False
  len : ρ.length = σ.length
section
variable {o : Wo} {T : Tk} {Z : Fx} {F H F' H' : Hp} {ρ : Env} {s s' : T.S} {σ : L2.St}
theorem Rl.fpF (r : Rl o T Z F H ρ s σ) : ∀ a ∈ Z.fp, F a = none := fun a ha => by
  cases e : F a with
  | none => rfl
  | some u => exact absurd (r.st.new a (r.fpz a ha).1 (by rw [e]; exact nofun)) (r.fpz a ha).2
theorem Rl.ex (r : Rl o T Z F H ρ s σ) : Ex F H := r.st.fh
theorem Rl.fpH (r : Rl o T Z F H ρ s σ) : ∀ a ∈ Z.fp, H a ≠ none := T.tr r.at_
theorem Rl.step (r : Rl o T Z F H ρ s σ) (st : Stp Z.fp F H F' H') (at' : T.At o F' H' Z.p Z.fp s') : Rl o T Z F' H' ρ s' σ := by
  refine ⟨r.st.trans r.fpH st, at', r.fpz, fun i d e => ?_, r.dis, r.len⟩
  obtain ⟨v, e1, h⟩ := r.sl i d e
  refine ⟨v, e1, ?_⟩
  unfold Slot at h ⊢
  cases hm : Z.md i with
  | sh => rw [hm] at h; exact Rp.mono st.ff h
  | own =>
    rw [hm] at h
    obtain ⟨a, e2, h1, h2, h3⟩ := h
    have nfp : a ∉ Z.fp := fun ha => (r.fpz a ha).2 h2
    refine ⟨a, e2, ?_, h2, h3.mono st.ff fun hn => ?_⟩
    · cases q : F' a with
      | none => rfl
      | some u => exact absurd (st.new a h1 (by rw [q]; exact nofun)) h3.some
    · cases q : H a with
      | none => exact absurd q hn
      | some u => exact st.hh a u q nfp
  | bor => rw [hm] at h; exact h
  | tok => rw [hm] at h; exact h
end

def Out (o : Wo) (T : Tk) (Z : Fx) (W : WX) {α : Type} (F H : Hp) (σ : L2.St) (r : Res T.S α) (ok : α → T.S → Hp → Hp → Prop) : Prop :=
  match r with
  | .ok a s' => ∀ F' H', Stp Z.fp F H F' H' → T.At o F' H' Z.p Z.fp s' → ok a s' F' H'
  | .exc e s' => ∀ cls dd F' H', Stp Z.fp F H F' H' → T.At o F' H' Z.p Z.fp s' → ExR o e cls dd F' → W cls dd σ H'
  | .stuck => False
section
variable {o : Wo} {T : Tk} {Z : Fx} {W : WX} {F H F' H' : Hp} {ρ : Env} {s s' : T.S} {σ : L2.St} {α β : Type}
theorem Out.bind {m : M T.S α} {k : α → M T.S β} {ok : β → T.S → Hp → Hp → Prop} (h : Out o T Z W F H σ ((m >>= k) s) ok) : Out o T Z W F H σ (m s) fun a s1 F1 H1 => Out o T Z W F1 H1 σ (k a s1) ok := by
  have h : Out o T Z W F H σ (M.bind m k s) ok := h
  unfold M.bind at h
  cases e : m s with
  | ok a s1 =>
    rw [e] at h
    intro F1 H1 st1 at1
    have h : Out o T Z W F H σ (k a s1) ok := h
    show Out o T Z W F1 H1 σ (k a s1) ok
    cases e2 : k a s1 with
    | ok b s2 => rw [e2] at h; exact fun F2 H2 st2 at2 => h F2 H2 (st1.trans (T.tr at1) st2) at2
    | exc x s2 => rw [e2] at h; exact fun cls dd F2 H2 st2 at2 => h cls dd F2 H2 (st1.trans (T.tr at1) st2) at2
    | stuck => rw [e2] at h; exact h
  | exc x s1 => rw [e] at h; exact h
  | stuck => rw [e] at h; exact h
theorem Out.mono {r : Res T.S α} {ok ok' : α → T.S → Hp → Hp → Prop} (h : Out o T Z W F H σ r ok) (k : ∀ a s' F' H', Stp Z.fp F H F' H' → T.At o F' H' Z.p Z.fp s' → ok a s' F' H' → ok' a s' F' H') : Out o T Z W F H σ r ok' := by
  cases r with
  | ok a s' => exact fun F' H' st at' => k a s' F' H' st at' (h F' H' st at')
  | exc e s' => exact h
  | stuck => exact h
theorem Out.opt {x : Option α} {s : T.S} {ok : α → T.S → Hp → Hp → Prop} (h : Out o T Z W F H σ (M.opt x s) ok) : ∃ a, x = some a ∧ ∀ F' H', Stp Z.fp F H F' H' → T.At o F' H' Z.p Z.fp s → ok a s F' H' := by
  cases x with
  | none => exact h.elim
  | some a => exact ⟨a, rfl, h⟩
theorem Out.nox {m : M T.S α} {s : T.S} {ok : α → T.S → Hp → Hp → Prop} {W' : WX} (h : Out o T Z W F H σ (m.nox s) ok) : Out o T Z W' F H σ (m s) ok := by
  unfold M.nox at h
  cases e : m s with
  | ok a s1 => rw [e] at h; exact h
  | exc x s1 => rw [e] at h; exact h.elim
  | stuck => rw [e] at h; exact h.elim
end

/-! ### the readings -/
section
variable (o : Wo) (T : Tk) (Z : Fx) (W : WX)
/-- a value that stands still -/
def rd (f : Env → M T.S D) : TE := fun σ H Q => ∃ F ρ s, Rl o T Z F H ρ s σ ∧ Out o T Z W F H σ (f ρ s) fun d _ F' H' => ∀ v, Rp o F' d v → Q v H'
/-- a value to be read -/
def rdR (f : Env → M T.S D) : TE := fun σ H Q => ∃ F ρ s, Rl o T Z F H ρ s σ ∧ Out o T Z W F H σ (f ρ s) fun d _ F' H' => ∀ v, RpR o Z.fp F' H' d v → Q v H'
/-- a new list or dict -/
def rdF (f : Env → M T.S D) : TE := fun σ H Q => ∃ F ρ s, Rl o T Z F H ρ s σ ∧ Out o T Z W F H σ (f ρ s) fun d _ F' H' => ∀ a, H a = none → F' a = none → OwnAt o F' H' d a → Q (.ref a) H'
def rdT (f : Env → M T.S Bool) : TT := fun σ H Q => ∃ F ρ s, Rl o T Z F H ρ s σ ∧ Out o T Z W F H σ (f ρ s) fun b _ _ H' => Q b H'
def rdA (f : Env → M T.S (List D)) : TA := fun σ H Q => ∃ F ρ s, Rl o T Z F H ρ s σ ∧ Out o T Z W F H σ (f ρ s) fun ds _ F' H' => ∀ vs, RpL o F' ds vs → Q vs H'
def RpRL (fp : List Addr) (F H : Hp) : List D → List V → Prop
  | [], vs => vs = []
  | x :: xs, vs => ∃ v r, vs = v :: r ∧ RpR o fp F H x v ∧ RpRL fp F H xs r
/-- arguments that are read -/
def rdAR (f : Env → M T.S (List D)) : TA := fun σ H Q => ∃ F ρ s, Rl o T Z F H ρ s σ ∧ Out o T Z W F H σ (f ρ s) fun ds _ F' H' => ∀ vs, RpRL o Z.fp F' H' ds vs → Q vs H'
end
abbrev DE (X : Cx) (T : Tk) (Z : Fx) (W : WX) (e : Expr) (f : Env → M T.S D) : Prop := PE X e (rd (wo X) T Z W f)
abbrev DR (X : Cx) (T : Tk) (Z : Fx) (W : WX) (e : Expr) (f : Env → M T.S D) : Prop := PE X e (rdR (wo X) T Z W f)
abbrev DF (X : Cx) (T : Tk) (Z : Fx) (W : WX) (e : Expr) (f : Env → M T.S D) : Prop := PE X e (rdF (wo X) T Z W f)
abbrev DT (X : Cx) (T : Tk) (Z : Fx) (W : WX) (e : Expr) (f : Env → M T.S Bool) : Prop := PT X e (rdT (wo X) T Z W f)
abbrev DW (X : Cx) (T : Tk) (Z : Fx) (W : WX) (e : Expr) (f : Env → M T.S Bool) : Prop := PW X e (rdT (wo X) T Z W f)
abbrev DA (X : Cx) (T : Tk) (Z : Fx) (W : WX) (es : List Expr) (f : Env → M T.S (List D)) : Prop := PA X es (rdA (wo X) T Z W f)
abbrev DAR (X : Cx) (T : Tk) (Z : Fx) (W : WX) (es : List Expr) (f : Env → M T.S (List D)) : Prop := PA X es (rdAR (wo X) T Z W f)

theorem _root_.L2.PE.imp {X : Cx} {e : Expr} {t t' : TE} (h : PE X e t) (k : ∀ σ H Q, t' σ H Q → t σ H Q) : PE X e t' := ⟨fun pins s σ H Q I q => h.run pins s σ H Q I (k σ H Q q)⟩
theorem _root_.L2.PT.imp {X : Cx} {e : Expr} {t t' : TT} (h : PT X e t) (k : ∀ σ H Q, t' σ H Q → t σ H Q) : PT X e t' := ⟨fun pins s σ H Q I q => h.run pins s σ H Q I (k σ H Q q)⟩
theorem _root_.L2.PW.imp {X : Cx} {e : Expr} {t t' : TT} (h : PW X e t) (k : ∀ σ H Q, t' σ H Q → t σ H Q) : PW X e t' := ⟨fun wh pins s σ H Q I q => h.run wh pins s σ H Q I (k σ H Q q)⟩
theorem _root_.L2.PA.imp {X : Cx} {e : List Expr} {t t' : TA} (h : PA X e t) (k : ∀ σ H Q, t' σ H Q → t σ H Q) : PA X e t' := ⟨fun pos pins s σ H Q I q => h.run pos pins s σ H Q I (k σ H Q q)⟩
theorem _root_.L2.PS.imp {X : Cx} {e : Stmt} {t t' : TS} (h : PS X e t) (k : ∀ D σ H, t' D σ H → t D σ H) : PS X e t' := ⟨fun pins s σ H D I q => h.run pins s σ H D I (k D σ H q)⟩
theorem _root_.L2.PSs.imp {X : Cx} {e : List Stmt} {t t' : TS} (h : PSs X e t) (k : ∀ D σ H, t' D σ H → t D σ H) : PSs X e t' := ⟨fun pins s σ H D I q => h.run pins s σ H D I (k D σ H q)⟩
theorem _root_.L2.PE.or {X : Cx} {e : Expr} {t t' : TE} (h : PE X e t) (h' : PE X e t') : PE X e (fun σ H Q => t σ H Q ∨ t' σ H Q) := ⟨fun pins s σ H Q I q => q.elim (h.run pins s σ H Q I) (h'.run pins s σ H Q I)⟩

/-! ### the semantic functions: names, constants -/
section
variable {S : Type}
def dVar (i : Nat) : Env → M S D := fun ρ => match ρ[i]? with
  | some (some d) => M.pure d
  | _ => M.stuck
def dC (d : D) : Env → M S D := fun _ => M.pure d
def dBin (g : D → D → Option D) (fa fb : Env → M S D) : Env → M S D := fun ρ => do
  let a ← fa ρ
  let b ← fb ρ
  M.opt (g a b)
def dUn (g : D → Option D) (fa : Env → M S D) : Env → M S D := fun ρ => do
  let a ← fa ρ
  M.opt (g a)
def dNil : Env → M S (List D) := fun _ => M.pure []
def dCons (fa : Env → M S D) (fr : Env → M S (List D)) : Env → M S (List D) := fun ρ => do
  let a ← fa ρ
  let r ← fr ρ
  M.pure (a :: r)
def dTup (fa : Env → M S (List D)) : Env → M S D := fun ρ => do
  let a ← fa ρ
  M.pure (.tup a)
def dLst (fa : Env → M S (List D)) : Env → M S D := fun ρ => do
  let a ← fa ρ
  M.pure (.lst a)
end

theorem Stp.back {fp : List Addr} {F H F' H' : Hp} (st : Stp fp F H F' H') (hfp : ∀ a ∈ fp, H' a ≠ none) {p : Addr} (h : H' p = none) : H p = none := by
  cases e : H p with
  | none => rfl
  | some u =>
    by_cases hp : p ∈ fp
    · exact absurd h (hfp p hp)
    · rw [st.hh p u e hp] at h; cases h
theorem dVar_out {o : Wo} {T : Tk} {Z : Fx} {W : WX} {F H : Hp} {ρ : Env} {s : T.S} {σ : L2.St} {i : Nat} {ok : D → T.S → Hp → Hp → Prop} (h : Out o T Z W F H σ (dVar i ρ s) ok) : ∃ d, ρ[i]? = some (some d) ∧ Out o T Z W F H σ (M.pure d s) ok := by
  unfold dVar at h
  cases e : ρ[i]? with
  | none => rw [e] at h; exact h.elim
  | some x =>
    rw [e] at h
    cases x with
    | none => exact h.elim
    | some d => exact ⟨d, rfl, h⟩
section
variable {X : Cx} {T : Tk} {Z : Fx} {W : WX}
/-- a binding's reading, step by step -/
theorem rd.seq {o : Wo} {α : Type} {F H : Hp} {ρ : Env} {s : T.S} {σ : L2.St} {f : Env → M T.S D} {k : D → M T.S α} {ok : α → T.S → Hp → Hp → Prop} {Q : VK} (r : Rl o T Z F H ρ s σ) (h : Out o T Z W F H σ ((f ρ >>= k) s) ok)
    (q : ∀ d s1 F1 H1 v, Rl o T Z F1 H1 ρ s1 σ → Stp Z.fp F H F1 H1 → Rp o F1 d v → Out o T Z W F1 H1 σ (k d s1) ok → Q v H1) : rd o T Z W f σ H Q :=
  ⟨F, ρ, s, r, h.bind.mono fun d s1 F1 H1 st at1 q1 v rv => q d s1 F1 H1 v (r.step st at1) st rv q1⟩
theorem rdR.seq {o : Wo} {α : Type} {F H : Hp} {ρ : Env} {s : T.S} {σ : L2.St} {f : Env → M T.S D} {k : D → M T.S α} {ok : α → T.S → Hp → Hp → Prop} {Q : VK} (r : Rl o T Z F H ρ s σ) (h : Out o T Z W F H σ ((f ρ >>= k) s) ok)
    (q : ∀ d s1 F1 H1 v, Rl o T Z F1 H1 ρ s1 σ → Stp Z.fp F H F1 H1 → RpR o Z.fp F1 H1 d v → Out o T Z W F1 H1 σ (k d s1) ok → Q v H1) : rdR o T Z W f σ H Q :=
  ⟨F, ρ, s, r, h.bind.mono fun d s1 F1 H1 st at1 q1 v rv => q d s1 F1 H1 v (r.step st at1) st rv q1⟩
theorem rdF.seq {o : Wo} {α : Type} {F H : Hp} {ρ : Env} {s : T.S} {σ : L2.St} {f : Env → M T.S D} {k : D → M T.S α} {ok : α → T.S → Hp → Hp → Prop} {Q : VK} (r : Rl o T Z F H ρ s σ) (h : Out o T Z W F H σ ((f ρ >>= k) s) ok)
    (q : ∀ d s1 F1 H1 a, Rl o T Z F1 H1 ρ s1 σ → Stp Z.fp F H F1 H1 → H a = none → F1 a = none → OwnAt o F1 H1 d a → Out o T Z W F1 H1 σ (k d s1) ok → Q (.ref a) H1) : rdF o T Z W f σ H Q :=
  ⟨F, ρ, s, r, h.bind.mono fun d s1 F1 H1 st at1 q1 a h1 h2 h3 => q d s1 F1 H1 a (r.step st at1) st h1 h2 h3 q1⟩
theorem rdT.seq {o : Wo} {α : Type} {F H : Hp} {ρ : Env} {s : T.S} {σ : L2.St} {f : Env → M T.S Bool} {k : Bool → M T.S α} {ok : α → T.S → Hp → Hp → Prop} {Q : Bool → Hp → Prop} (r : Rl o T Z F H ρ s σ) (h : Out o T Z W F H σ ((f ρ >>= k) s) ok)
    (q : ∀ d s1 F1 H1, Rl o T Z F1 H1 ρ s1 σ → Stp Z.fp F H F1 H1 → Out o T Z W F1 H1 σ (k d s1) ok → Q d H1) : rdT o T Z W f σ H Q :=
  ⟨F, ρ, s, r, h.bind.mono fun d s1 F1 H1 st at1 q1 => q d s1 F1 H1 (r.step st at1) st q1⟩
theorem rdA.seq {o : Wo} {α : Type} {F H : Hp} {ρ : Env} {s : T.S} {σ : L2.St} {f : Env → M T.S (List D)} {k : List D → M T.S α} {ok : α → T.S → Hp → Hp → Prop} {Q : List V → Hp → Prop} (r : Rl o T Z F H ρ s σ) (h : Out o T Z W F H σ ((f ρ >>= k) s) ok)
    (q : ∀ d s1 F1 H1 v, Rl o T Z F1 H1 ρ s1 σ → Stp Z.fp F H F1 H1 → RpL o F1 d v → Out o T Z W F1 H1 σ (k d s1) ok → Q v H1) : rdA o T Z W f σ H Q :=
  ⟨F, ρ, s, r, h.bind.mono fun d s1 F1 H1 st at1 q1 v rv => q d s1 F1 H1 v (r.step st at1) st rv q1⟩
theorem rdAR.seq {o : Wo} {α : Type} {F H : Hp} {ρ : Env} {s : T.S} {σ : L2.St} {f : Env → M T.S (List D)} {k : List D → M T.S α} {ok : α → T.S → Hp → Hp → Prop} {Q : List V → Hp → Prop} (r : Rl o T Z F H ρ s σ) (h : Out o T Z W F H σ ((f ρ >>= k) s) ok)
    (q : ∀ d s1 F1 H1 v, Rl o T Z F1 H1 ρ s1 σ → Stp Z.fp F H F1 H1 → RpRL o Z.fp F1 H1 d v → Out o T Z W F1 H1 σ (k d s1) ok → Q v H1) : rdAR o T Z W f σ H Q :=
  ⟨F, ρ, s, r, h.bind.mono fun d s1 F1 H1 st at1 q1 v rv => q d s1 F1 H1 v (r.step st at1) st rv q1⟩
/-- the end: nothing is changed -/
theorem Out.here {o : Wo} {α : Type} {F H : Hp} {ρ : Env} {s : T.S} {σ : L2.St} {a : α} {ok : α → T.S → Hp → Hp → Prop} (r : Rl o T Z F H ρ s σ) (h : Out o T Z W F H σ (M.pure a s) ok) : ok a s F H := h F H (Stp.refl r.ex) r.at_
/-- new things alone are laid -/
theorem Rl.at' {o : Wo} {F H F' H' : Hp} {ρ : Env} {s : T.S} {σ : L2.St} (r : Rl o T Z F H ρ s σ) (st : Stp [] F H F' H') : T.At o F' H' Z.p Z.fp s :=
  T.loc r.at_ st.ff fun a ha => by
    cases e : H a with
    | none => exact absurd e (r.fpH a ha)
    | some u => exact st.ex a u e
theorem Out.laid {o : Wo} {α : Type} {F H F' H' : Hp} {ρ : Env} {s : T.S} {σ : L2.St} {a : α} {ok : α → T.S → Hp → Hp → Prop} (r : Rl o T Z F H ρ s σ) (st : Stp [] F H F' H') (h : Out o T Z W F H σ (M.pure a s) ok) : ok a s F' H' := h F' H' st.mono (r.at' st)

/-! ### from one reading to another -/
theorem dr_of {e : Expr} {f : Env → M T.S D} (h : DE X T Z W e f) : DR X T Z W e f := h.imp fun σ H Q ⟨F, ρ, s, r, q⟩ =>
  ⟨F, ρ, s, r, q.mono fun d s' F' H' st at' q v rv => q v (rv.r st.fh (r.step st at').fpF)⟩
theorem Stp.frz {fp : List Addr} {F H F' H' : Hp} {a : Addr} {u : HO} (st : Stp fp F H F' H') (hH : H a = none) (hF : F' a = none) (e : Ex (upd F' a u) H') : Stp fp F H (upd F' a u) H' := by
  refine ⟨st.ff.trans (Ex.new hF), e, fun b h1 h2 => ?_, st.hh⟩
  by_cases hb : b = a
  · subst hb; exact hH
  · rw [upd_ne hb] at h2; exact st.new b h1 h2
theorem de_of {e : Expr} {f : Env → M T.S D} (h : DF X T Z W e f) : DE X T Z W e f := h.imp fun σ H Q ⟨F, ρ, s, r, q⟩ => ⟨F, ρ, s, r, by
  cases e : f ρ s with
  | ok d s' =>
    rw [e] at q
    intro F' H' st at' a hH hF ow
    obtain ⟨u, hu, ex, rp⟩ := ow.freeze hF st.fh
    exact q _ H' (st.frz hH hF ex) (T.loc at' (Ex.new hF) fun _ _ => rfl) _ rp
  | exc x s' => rw [e] at q; exact q
  | stuck => rw [e] at q; exact q⟩

/-! ### names, constants -/
theorem de_var (i : Nat) {x : Str} {pos : Pos} (hm : Z.md i = .sh := by rfl) (hN : X.N[i]? = some x := by rfl) (hv : Vis X.env.scope x := by first | exact Or.inl rfl | exact Or.inr (Or.inl rfl) | exact Or.inr (Or.inr rfl)) (hd : (x == ("__debug__" : Str)) = false := by decide)
    (hcd : (x == ("__classdict__" : Str)) = false := by decide) : DE X T Z W (.Name x pos) (dVar i) := (pe_var hN hv hd hcd).imp fun σ H Q ⟨F, ρ, s, r, q⟩ => by
  obtain ⟨d, e, q⟩ := dVar_out q
  obtain ⟨v, e1, h⟩ := r.sl i d e
  unfold Slot at h
  rw [hm] at h
  exact ⟨v, e1, q.here r v h⟩
theorem dr_var (i : Nat) {x : Str} {pos : Pos} (hN : X.N[i]? = some x := by rfl) (hv : Vis X.env.scope x := by first | exact Or.inl rfl | exact Or.inr (Or.inl rfl) | exact Or.inr (Or.inr rfl)) (hd : (x == ("__debug__" : Str)) = false := by decide)
    (hcd : (x == ("__classdict__" : Str)) = false := by decide) (hm : decide (Z.md i = .tok) = false := by rfl) : DR X T Z W (.Name x pos) (dVar i) := (pe_var hN hv hd hcd).imp fun σ H Q ⟨F, ρ, s, r, q⟩ => by
  obtain ⟨d, e, q⟩ := dVar_out q
  obtain ⟨v, e1, h⟩ := r.sl i d e
  refine ⟨v, e1, q.here r v ?_⟩
  unfold Slot at h
  cases hk : Z.md i with
  | sh => rw [hk] at h; exact h.r r.ex r.fpF
  | own =>
    rw [hk] at h
    obtain ⟨a, e2, h1, h2, h3⟩ := h
    rw [e2]
    exact h3.r fun ha => (r.fpz a ha).2 h2
  | bor => rw [hk] at h; exact h.mono r.st.ff r.st.hh
  | tok => exact absurd hk (of_decide_eq_false hm)
theorem de_int {i j pos} : DE X T Z W (.Constant (.int i) j pos) (dC (.int i)) := pe_int.imp fun σ H Q ⟨F, ρ, s, r, q⟩ => q.here r _ rfl
theorem de_bl {b j pos} : DE X T Z W (.Constant (.bool b) j pos) (dC (.bl b)) := pe_bl.imp fun σ H Q ⟨F, ρ, s, r, q⟩ => q.here r _ rfl
theorem de_non {j pos} : DE X T Z W (.Constant .none j pos) (dC .non) := pe_non.imp fun σ H Q ⟨F, ρ, s, r, q⟩ => q.here r _ rfl
theorem de_str {x j pos} : DE X T Z W (.Constant (.str x) j pos) (dC (.str x)) := pe_str.imp fun σ H Q ⟨F, ρ, s, r, q⟩ => q.here r _ rfl
/-- a module's constant -/
theorem de_glob {x : Str} {u : Value} {pos : Pos} {d : D} {v : V} (hm : X.mg x = some u) (r : RelV v u) (rp : ∀ F, Rp (wo X) F d v) (hg : Gl X x := by rfl) (hd : (x == ("__debug__" : Str)) = false := by decide) : DE X T Z W (.Name x pos) (dC d) :=
  (pe_glob hg hm r hd).imp fun σ H Q ⟨F, ρ, s, rl, q⟩ => q.here rl _ (rp F)

/-! ### operators -/
/-- what a two-place operation is asked, by data -/
def rB (o : Wo) (g : D → D → Option D) : R2 := fun x y H Q => ∃ F a b d, Ex F H ∧ RpR o [] F H a x ∧ RpR o [] F H b y ∧ g a b = some d ∧ ∀ v F' H', Stp [] F H F' H' → Rp o F' d v → Q v H'
/-- .. that lays a new list -/
def rBF (o : Wo) (g : D → D → Option D) : R2 := fun x y H Q => ∃ F a b d, Ex F H ∧ RpR o [] F H a x ∧ RpR o [] F H b y ∧ g a b = some d ∧ ∀ p F' H', Stp [] F H F' H' → H p = none → F' p = none → OwnAt o F' H' d p → Q (.ref p) H'
def rU1 (o : Wo) (g : D → Option D) : V → Hp → VK → Prop := fun x H Q => ∃ F a d, Ex F H ∧ RpR o [] F H a x ∧ g a = some d ∧ ∀ v F' H', Stp [] F H F' H' → Rp o F' d v → Q v H'
theorem de_op {op : Operator} {g : D → D → Option D} {a b : Expr} {fa fb : Env → M T.S D} {pos : Pos} (ho : OpR X (binaryOp op) (rB (wo X) g)) (ha : DR X T Z W a fa) (hb : DR X T Z W b fb) : DE X T Z W (.BinOp a op b pos) (dBin g fa fb) :=
  (pe_op ho ha hb).imp fun σ H Q ⟨F, ρ, s, r, q⟩ => rdR.seq r q fun d1 s1 F1 H1 v1 r1 st1 rv1 q1 => rdR.seq r1 q1 fun d2 s2 F2 H2 v2 r2 st2 rv2 q2 => by
    obtain ⟨d, e, k⟩ := q2.opt
    exact ⟨F2, d1, d2, d, r2.ex, (rv1.mono st2.ff st2.hh).all, rv2.all, e, fun v F' H' st rv => k F' H' st.mono (r2.at' st) v rv⟩
theorem df_op {op : Operator} {g : D → D → Option D} {a b : Expr} {fa fb : Env → M T.S D} {pos : Pos} (ho : OpR X (binaryOp op) (rBF (wo X) g)) (ha : DR X T Z W a fa) (hb : DR X T Z W b fb) : DF X T Z W (.BinOp a op b pos) (dBin g fa fb) :=
  (pe_op ho ha hb).imp fun σ H Q ⟨F, ρ, s, r, q⟩ => rdR.seq r q fun d1 s1 F1 H1 v1 r1 st1 rv1 q1 => rdR.seq r1 q1 fun d2 s2 F2 H2 v2 r2 st2 rv2 q2 => by
    obtain ⟨d, e, k⟩ := q2.opt
    exact ⟨F2, d1, d2, d, r2.ex, (rv1.mono st2.ff st2.hh).all, rv2.all, e, fun p F' H' st h1 h2 h3 => k F' H' st.mono (r2.at' st) p (st1.back r1.fpH (st2.back r2.fpH h1)) h2 h3⟩
theorem de_un {op : UnaryOp} {g : D → Option D} {a : Expr} {fa : Env → M T.S D} {pos : Pos} (ho : UnR X (unaryOp op) (rU1 (wo X) g)) (ha : DR X T Z W a fa) : DE X T Z W (.UnaryOp op a pos) (dUn g fa) :=
  (pe_un ho ha).imp fun σ H Q ⟨F, ρ, s, r, q⟩ => rdR.seq r q fun d1 s1 F1 H1 v1 r1 st1 rv1 q1 => by
    obtain ⟨d, e, k⟩ := q1.opt
    exact ⟨F1, d1, d, r1.ex, rv1.all, e, fun v F' H' st rv => k F' H' st.mono (r1.at' st) v rv⟩
theorem de_cmp {op : CmpOp} {g : D → D → Option D} {a b : Expr} {fa fb : Env → M T.S D} {pos : Pos} (ho : OpR X (compareOp op) (rB (wo X) g)) (ha : DR X T Z W a fa) (hb : DR X T Z W b fb) (hm : behindInMarks op b = false) : DE X T Z W (.Compare a [op] [b] pos) (dBin g fa fb) :=
  (pe_cmpR ho ha hb hm).imp fun σ H Q ⟨F, ρ, s, r, q⟩ => rdR.seq r q fun d1 s1 F1 H1 v1 r1 st1 rv1 q1 => rdR.seq r1 q1 fun d2 s2 F2 H2 v2 r2 st2 rv2 q2 => by
    obtain ⟨d, e, k⟩ := q2.opt
    exact ⟨F2, d1, d2, d, r2.ex, (rv1.mono st2.ff st2.hh).all, rv2.all, e, fun v F' H' st rv => k F' H' st.mono (r2.at' st) v rv⟩
end
end DL
set_option Elab.async false
set_option linter.all false
set_option maxRecDepth 100000
set_option maxHeartbeats 1000000
/-! Operators on data. -/
namespace DL
open PySem PySem.Spec PyProof.Rows L2

/-! ### arithmetic -/
def addD : D → D → Option D
  | .int a, .int b => some (.int (a + b))
  | .str a, .str b => if a.length + b.length ≤ sizeLine then some (.str (a ++ b)) else none
  | .tup a, .tup b => if a.length + b.length ≤ sizeLine then some (.tup (a ++ b)) else none
  | _, _ => none
def subD : D → D → Option D
  | .int a, .int b => some (.int (a - b))
  | _, _ => none
def mulD : D → D → Option D
  | .int a, .int b => if a.natAbs.log2 + b.natAbs.log2 < 1000000 ∨ a.natAbs < 2 ^ 64 ∨ b.natAbs < 2 ^ 64 then some (.int (a * b)) else none
  | _, _ => none
def fdivD : D → D → Option D
  | .int a, .int b => if 0 < b ∧ b.natAbs.log2 < 9000 then some (.int (a / b)) else none
  | _, _ => none
def modD : D → D → Option D
  | .int a, .int b => if 0 < b then some (.int (a % b)) else none
  | _, _ => none
def powD : D → D → Option D
  | .int a, .int b => if 0 ≤ b ∧ b ≤ 1000000 ∧ a.natAbs < 2 ^ 64 then some (.int (a ^ b.toNat)) else none
  | _, _ => none
def negD : D → Option D
  | .int a => some (.int (-a))
  | _ => none
def catD : D → D → Option D
  | .lst a, .lst b => if a.length + b.length ≤ sizeLine then some (.lst (a ++ b)) else none
  | _, _ => none
theorem ifs {α : Type} {c : Prop} [Decidable c] {x d : α} (h : (if c then some x else none) = some d) : c ∧ x = d := by
  by_cases hc : c
  · rw [if_pos hc] at h; exact ⟨hc, Option.some.inj h⟩
  · rw [if_neg hc] at h; cases h
section
variable {X : Cx}
theorem OpR.imp {f : Value → Value → Sem Value} {r r' : R2} (h : OpR X f r) (k : ∀ x y H Q, r' x y H Q → r x y H Q) : OpR X f r' := fun pins s σ H x y v u Q I rx ry q => h pins s σ H x y v u Q I rx ry (k x y H Q q)
theorem rB.int {o : Wo} {g : D → D → Option D} {x y : V} {H : Hp} {Q : VK} (h : rB o g x y H Q) : True := trivial
theorem op_subD : OpR X (binaryOp .Sub) (rB (wo X) subD) := OpR.imp op_sub fun x y H Q ⟨F, a, b, d, ex, ra, rb, e, k⟩ => by
  match a, b, e, ra, rb with
  | .int a, .int b, e, ra, rb =>
    cases e
    exact ⟨a, b, ra, rb, k _ F H (Stp.refl ex) rfl⟩
theorem op_mulD : OpR X (binaryOp .Mult) (rB (wo X) mulD) := OpR.imp (OpR.or op_mulW op_mul) fun x y H Q ⟨F, a, b, d, ex, ra, rb, e, k⟩ => by
  match a, b, e, ra, rb with
  | .int a, .int b, e, ra, rb =>
    obtain ⟨hc, rfl⟩ := ifs (show (if a.natAbs.log2 + b.natAbs.log2 < 1000000 ∨ a.natAbs < 2 ^ 64 ∨ b.natAbs < 2 ^ 64 then some (D.int (a * b)) else none) = some d from e)
    rcases hc with hc | hc
    · exact .inl ⟨a, b, ra, rb, hc, k _ F H (Stp.refl ex) rfl⟩
    · refine .inr ⟨a, b, ra, rb, ?_, k _ F H (Stp.refl ex) rfl⟩
      rcases hc with hc | hc
      · exact .inl ⟨by omega, by omega⟩
      · exact .inr ⟨by omega, by omega⟩
theorem op_fdivD : OpR X (binaryOp .FloorDiv) (rB (wo X) fdivD) := OpR.imp op_fdivW fun x y H Q ⟨F, a, b, d, ex, ra, rb, e, k⟩ => by
  match a, b, e, ra, rb with
  | .int a, .int b, e, ra, rb =>
    obtain ⟨hc, rfl⟩ := ifs (show (if 0 < b ∧ b.natAbs.log2 < 9000 then some (D.int (a / b)) else none) = some d from e)
    exact ⟨a, b, ra, rb, hc, k _ F H (Stp.refl ex) rfl⟩
theorem op_modD : OpR X (binaryOp .Mod) (rB (wo X) modD) := OpR.imp op_mod fun x y H Q ⟨F, a, b, d, ex, ra, rb, e, k⟩ => by
  match a, b, e, ra, rb with
  | .int a, .int b, e, ra, rb =>
    obtain ⟨hc, rfl⟩ := ifs (show (if 0 < b then some (D.int (a % b)) else none) = some d from e)
    exact ⟨a, b, ra, rb, hc, k _ F H (Stp.refl ex) rfl⟩
theorem op_powD : OpR X (binaryOp .Pow) (rB (wo X) powD) := OpR.imp op_pow fun x y H Q ⟨F, a, b, d, ex, ra, rb, e, k⟩ => by
  match a, b, e, ra, rb with
  | .int a, .int b, e, ra, rb =>
    obtain ⟨hc, rfl⟩ := ifs (show (if 0 ≤ b ∧ b ≤ 1000000 ∧ a.natAbs < 2 ^ 64 then some (D.int (a ^ b.toNat)) else none) = some d from e)
    exact ⟨a, b, ra, rb, hc, k _ F H (Stp.refl ex) rfl⟩
theorem un_negD : UnR X (unaryOp .USub) (rU1 (wo X) negD) := fun pins s σ H x v Q I rx ⟨F, a, d, ex, ra, e, k⟩ => by
  match a, e, ra with
  | .int a, e, ra =>
    cases e
    exact un_neg pins s σ H x v Q I rx ⟨a, ra, k _ F H (Stp.refl ex) rfl⟩
theorem op_addD : OpR X (binaryOp .Add) (rB (wo X) addD) := OpR.imp (OpR.or op_add (OpR.or op_add_str op_catA)) fun x y H Q ⟨F, a, b, d, ex, ra, rb, e, k⟩ => by
  match a, b, e, ra, rb with
  | .int a, .int b, e, ra, rb =>
    cases e
    exact .inl ⟨a, b, ra, rb, k _ F H (Stp.refl ex) rfl⟩
  | .str a, .str b, e, ra, rb =>
    obtain ⟨hc, rfl⟩ := ifs (show (if a.length + b.length ≤ sizeLine then some (D.str (a ++ b)) else none) = some d from e)
    exact .inr (.inl ⟨a, b, ra, rb, hc, k _ F H (Stp.refl ex) rfl⟩)
  | .tup a, .tup b, e, ra, rb =>
    obtain ⟨hc, rfl⟩ := ifs (show (if a.length + b.length ≤ sizeLine then some (D.tup (a ++ b)) else none) = some d from e)
    obtain ⟨p, xs, rfl, sa, la⟩ := ra
    obtain ⟨q, ys, rfl, sb, lb⟩ := rb
    refine .inr (.inr ⟨p, q, xs, ys, rfl, rfl, ex.t sa, ex.t sb, by rw [← la.length, ← lb.length]; exact hc, fun e0 => ?_, fun e0 e1 => ?_, fun e0 e1 r hr => ?_⟩)
    · have : a = [] := by cases a with
        | nil => rfl
        | cons u w => have := la.length; rw [e0] at this; cases this
      subst this
      exact k _ F H (Stp.refl ex) ⟨q, ys, rfl, sb, lb⟩
    · have : b = [] := by cases b with
        | nil => rfl
        | cons u w => have := lb.length; rw [e1] at this; cases this
      subst this
      rw [List.append_nil] at k
      exact k _ F H (Stp.refl ex) ⟨p, xs, rfl, sa, la⟩
    · exact k _ _ _ (Stp.laid ex hr) ⟨r, xs ++ ys, rfl, SqT.of upd_same, (la.mono (Ex.new (ex.none hr))).app (lb.mono (Ex.new (ex.none hr)))⟩
end

/-- list + list, tracked ones -/
theorem _root_.L2.Inv.lstR {X : Cx} {pins : List (Addr × Obj)} {σ : L2.St} {H : Hp} {s : Shared} {l : Addr} {xs : List V} (I : Inv X pins σ H s) (h : Rd H l (.lst xs)) : xs.length ≤ sizeLine ∧ ∃ (its : List Value) (n : Nat), Vals xs its ∧ xs.length = its.length ∧ s.heap.get? l = some { cls := .type "list", data := .seq its.toArray n } := by
  obtain ⟨z, its, n, r, e⟩ := h.ok I.hok
  exact ⟨z, its, n, r, r.length, e⟩
section
variable {X : Cx}
theorem op_catD : OpR X (binaryOp .Add) (rBF (wo X) catD) := fun pins s σ H x y v u Q I rx ry ⟨F, a, b, d, ex, ra, rb, e, k⟩ => by
  match a, b, e, ra, rb with
  | .lst a, .lst b, e, ra, rb =>
    obtain ⟨hc, rfl⟩ := ifs (show (if a.length + b.length ≤ sizeLine then some (D.lst (a ++ b)) else none) = some d from e)
    obtain ⟨p, vs, rfl, h1, h2⟩ := ra
    obtain ⟨q, ws, rfl, g1, g2⟩ := rb
    cases rx
    cases ry
    obtain ⟨z, its, n, r, hl, e1⟩ := I.lstR h1.1
    obtain ⟨z2, its2, n2, r2, hl2, e2⟩ := I.lstR g1.1
    have hz : its.length + its2.length ≤ sizeLine := by rw [← hl, ← hl2, ← h2.length, ← g2.length]; exact hc
    refine PySem.P.add_list e1 e2 ?_ (by rw [List.size_toArray, List.size_toArray]; exact hz)
    rw [show its.toArray ++ its2.toArray = (its ++ its2).toArray by simp]
    exact ⟨.ref _, _, I.lnew (t' := s.toks) (r.append r2) (by rw [List.length_append, hl, hl2]; exact hz), rfl, k _ F _ (Stp.hid ex I.fresh) I.fresh (ex.none I.fresh) ⟨_, upd_same, h2.app g2⟩⟩
end

/-! ### comparisons -/
def ltD : D → D → Option D
  | .int a, .int b => some (.bl (decide (a < b)))
  | .str a, .str b => some (.bl (decide (a.cps.toList < b.cps.toList)))
  | _, _ => none
def leD : D → D → Option D
  | .int a, .int b => some (.bl (decide (a ≤ b)))
  | _, _ => none
def gtD : D → D → Option D
  | .int a, .int b => some (.bl (decide (b < a)))
  | _, _ => none
def geD : D → D → Option D
  | .int a, .int b => some (.bl (decide (b ≤ a)))
  | _, _ => none
/-- is: None, True, False on the right -/
def isD : D → D → Option D
  | .non, .non => some (.bl true)
  | .bl _, .non => some (.bl false)
  | .int _, .non => some (.bl false)
  | .str _, .non => some (.bl false)
  | .tup _, .non => some (.bl false)
  | .lst _, .non => some (.bl false)
  | .dct _, .non => some (.bl false)
  | .bl a, .bl b => some (.bl (decide (a = b)))
  | _, _ => none
def notD : Option D → Option D
  | some (.bl b) => some (.bl !b)
  | _ => none
def isnotD (a b : D) : Option D := notD (isD a b)
section
variable {X : Cx}
theorem op_ltD : OpR X (compareOp .Lt) (rB (wo X) ltD) := OpR.imp (OpR.or op_lt op_lt_str) fun x y H Q ⟨F, a, b, d, ex, ra, rb, e, k⟩ => by
  match a, b, e, ra, rb with
  | .int a, .int b, e, ra, rb => cases e; exact .inl ⟨a, b, ra, rb, k _ F H (Stp.refl ex) rfl⟩
  | .str a, .str b, e, ra, rb => cases e; exact .inr ⟨a, b, ra, rb, k _ F H (Stp.refl ex) rfl⟩
theorem op_leD : OpR X (compareOp .LtE) (rB (wo X) leD) := OpR.imp op_le fun x y H Q ⟨F, a, b, d, ex, ra, rb, e, k⟩ => by
  match a, b, e, ra, rb with
  | .int a, .int b, e, ra, rb => cases e; exact ⟨a, b, ra, rb, k _ F H (Stp.refl ex) rfl⟩
theorem op_gtD : OpR X (compareOp .Gt) (rB (wo X) gtD) := OpR.imp op_gt fun x y H Q ⟨F, a, b, d, ex, ra, rb, e, k⟩ => by
  match a, b, e, ra, rb with
  | .int a, .int b, e, ra, rb => cases e; exact ⟨a, b, ra, rb, k _ F H (Stp.refl ex) rfl⟩
theorem op_geD : OpR X (compareOp .GtE) (rB (wo X) geD) := OpR.imp op_ge fun x y H Q ⟨F, a, b, d, ex, ra, rb, e, k⟩ => by
  match a, b, e, ra, rb with
  | .int a, .int b, e, ra, rb => cases e; exact ⟨a, b, ra, rb, k _ F H (Stp.refl ex) rfl⟩
theorem op_isD : OpR X (compareOp .Is) (rB (wo X) isD) := OpR.imp (OpR.or op_isN op_is_bl) fun x y H Q ⟨F, a, b, d, ex, ra, rb, e, k⟩ => by
  match a, b, e, ra, rb with
  | .non, .non, e, ra, rb => cases e; cases ra; exact .inl ⟨rb, k _ F H (Stp.refl ex) rfl⟩
  | .bl a, .non, e, ra, rb => cases e; cases ra; exact .inl ⟨rb, k _ F H (Stp.refl ex) rfl⟩
  | .int a, .non, e, ra, rb => cases e; cases ra; exact .inl ⟨rb, k _ F H (Stp.refl ex) rfl⟩
  | .str a, .non, e, ra, rb => cases e; cases ra; exact .inl ⟨rb, k _ F H (Stp.refl ex) rfl⟩
  | .tup a, .non, e, ra, rb => cases e; obtain ⟨p, vs, rfl, _⟩ := ra; exact .inl ⟨rb, k _ F H (Stp.refl ex) rfl⟩
  | .lst a, .non, e, ra, rb => cases e; obtain ⟨p, vs, rfl, _⟩ := ra; exact .inl ⟨rb, k _ F H (Stp.refl ex) rfl⟩
  | .dct a, .non, e, ra, rb => cases e; obtain ⟨p, vs, rfl, _⟩ := ra; exact .inl ⟨rb, k _ F H (Stp.refl ex) rfl⟩
  | .bl a, .bl b, e, ra, rb => cases e; exact .inr ⟨a, b, ra, rb, k _ F H (Stp.refl ex) rfl⟩
theorem op_isnotD : OpR X (compareOp .IsNot) (rB (wo X) isnotD) := OpR.imp (OpR.or op_notN op_isnot_bl) fun x y H Q ⟨F, a, b, d, ex, ra, rb, e, k⟩ => by
  match a, b, e, ra, rb with
  | .non, .non, e, ra, rb => cases e; cases ra; exact .inl ⟨rb, k _ F H (Stp.refl ex) rfl⟩
  | .bl a, .non, e, ra, rb => cases e; cases ra; exact .inl ⟨rb, k _ F H (Stp.refl ex) rfl⟩
  | .int a, .non, e, ra, rb => cases e; cases ra; exact .inl ⟨rb, k _ F H (Stp.refl ex) rfl⟩
  | .str a, .non, e, ra, rb => cases e; cases ra; exact .inl ⟨rb, k _ F H (Stp.refl ex) rfl⟩
  | .tup a, .non, e, ra, rb => cases e; obtain ⟨p, vs, rfl, _⟩ := ra; exact .inl ⟨rb, k _ F H (Stp.refl ex) rfl⟩
  | .lst a, .non, e, ra, rb => cases e; obtain ⟨p, vs, rfl, _⟩ := ra; exact .inl ⟨rb, k _ F H (Stp.refl ex) rfl⟩
  | .dct a, .non, e, ra, rb => cases e; obtain ⟨p, vs, rfl, _⟩ := ra; exact .inl ⟨rb, k _ F H (Stp.refl ex) rfl⟩
  | .bl a, .bl b, e, ra, rb => cases e; exact .inr ⟨a, b, ra, rb, k _ F H (Stp.refl ex) rfl⟩
end
/-! ### equality at any depth -/
mutual
def D.py : D → Option PyData
  | .non => some .none
  | .bl b => some (.bool b)
  | .int i => some (.int i)
  | .str x => some (.str x)
  | .tup xs => (pyL xs).map .tuple
  | .lst xs => (pyL xs).map .list
  | .dct _ => none
  | .st _ => none
  | .fn _ => none
  | .exc _ _ => none
  | .tok => none
def pyL : List D → Option (List PyData)
  | [] => some []
  | x :: xs => match D.py x, pyL xs with
    | some a, some b => some (a :: b)
    | _, _ => none
end
mutual
theorem Rp.dp {o : Wo} {F H : Hp} (ex : Ex F H) : ∀ {d : D} {v : V} {p : PyData}, Rp o F d v → d.py = some p → Dp o.K H v p
  | .non, _, _, h, e => by cases e; rw [show _ = _ from h]; exact .non
  | .bl _, _, _, h, e => by cases e; rw [show _ = _ from h]; exact .bl _
  | .int _, _, _, h, e => by cases e; rw [show _ = _ from h]; exact .int _
  | .str _, _, _, h, e => by cases e; rw [show _ = _ from h]; exact .str _
  | .tup xs, _, _, ⟨a, vs, e1, e2, e3⟩, e => by
    unfold D.py at e
    cases q : pyL xs with
    | none => rw [q] at e; cases e
    | some l => rw [q] at e; cases e; rw [e1]; exact .tup (ex.t e2) (RpL.dp ex e3 q)
  | .lst xs, _, _, ⟨a, vs, e1, e2, e3⟩, e => by
    unfold D.py at e
    cases q : pyL xs with
    | none => rw [q] at e; cases e
    | some l => rw [q] at e; cases e; rw [e1]; exact .lst (.inl (ex.rd e2)) (RpL.dp ex e3 q)
  | .dct _, _, _, _, e => by cases e
  | .st _, _, _, _, e => by cases e
  | .fn _, _, _, _, e => by cases e
  | .exc _ _, _, _, _, e => by cases e
  | .tok, _, _, _, e => by cases e
theorem RpL.dp {o : Wo} {F H : Hp} (ex : Ex F H) : ∀ {xs : List D} {vs : List V} {ps : List PyData}, RpL o F xs vs → pyL xs = some ps → DpAll o.K H vs ps
  | [], _, _, h, e => by cases e; rw [show _ = _ from h]; exact .nil
  | x :: xs, _, _, ⟨v, r, e1, e2, e3⟩, e => by
    unfold pyL at e
    cases q1 : D.py x with
    | none => rw [q1] at e; cases e
    | some a =>
      cases q2 : pyL xs with
      | none => rw [q1, q2] at e; cases e
      | some b => rw [q1, q2] at e; cases e; rw [e1]; exact .cons (Rp.dp ex e2 q1) (RpL.dp ex e3 q2)
end
theorem RpR.dp {o : Wo} {fp : List Addr} {F H : Hp} (ex : Ex F H) {d : D} {v : V} {p : PyData} (h : RpR o fp F H d v) (e : d.py = some p) : Dp o.K H v p := by
  cases d with
  | lst xs =>
    obtain ⟨a, vs, e1, e2, e3⟩ := h
    unfold D.py at e
    cases q : pyL xs with
    | none => rw [q] at e; cases e
    | some l => rw [q] at e; cases e; rw [e1]; exact .lst e2.l (e3.dp ex q)
  | dct xs => cases e
  | _ => exact Rp.dp ex h e
/-- == at any depth, where the data are shaped -/
def eqD (a b : D) : Option D := match a.py, b.py with
  | some p, some q => if SeqAt.shaped p = true ∧ SeqAt.shaped q = true then some (.bl (PyData.eqv p q)) else none
  | _, _ => none
def neD (a b : D) : Option D := notD (eqD a b)
theorem eqD_inv {a b d : D} (e : eqD a b = some d) : ∃ p q, a.py = some p ∧ b.py = some q ∧ SeqAt.shaped p = true ∧ SeqAt.shaped q = true ∧ d = .bl (PyData.eqv p q) := by
  unfold eqD at e
  cases h1 : a.py with
  | none => rw [h1] at e; cases e
  | some p =>
    cases h2 : b.py with
    | none => rw [h1, h2] at e; cases e
    | some q =>
      rw [h1, h2] at e
      simp only at e
      split at e
      · rename_i h; cases e; exact ⟨p, q, rfl, rfl, h.1, h.2, rfl⟩
      · cases e
section
variable {X : Cx}
theorem op_eqQ (hu : X.A.units + 64 < cLine) : OpR X (compareOp .Eq) (rB (wo X) eqD) := OpR.imp (op_eqD hu) fun x y H Q ⟨F, a, b, d, ex, ra, rb, e, k⟩ => by
  obtain ⟨p, q, h1, h2, h3, h4, rfl⟩ := eqD_inv e
  exact ⟨p, q, ra.dp ex h1, rb.dp ex h2, h3, h4, k _ F H (Stp.refl ex) rfl⟩
theorem op_neQ (hu : X.A.units + 64 < cLine) : OpR X (compareOp .NotEq) (rB (wo X) neD) := OpR.imp (op_neD hu) fun x y H Q ⟨F, a, b, d, ex, ra, rb, e, k⟩ => by
  unfold neD at e
  cases h : eqD a b with
  | none => rw [h] at e; cases e
  | some z =>
    obtain ⟨p, q, h1, h2, h3, h4, rfl⟩ := eqD_inv h
    rw [h] at e
    cases e
    exact ⟨p, q, ra.dp ex h1, rb.dp ex h2, h3, h4, k _ F H (Stp.refl ex) rfl⟩
end
end DL
set_option Elab.async false
set_option linter.all false
set_option maxRecDepth 100000
set_option maxHeartbeats 1000000
/-! Calls of built-ins, displays, subscripts, tests. -/
namespace DL
open PySem PySem.Spec PyProof.Rows L2

/-! ### displays -/
section
variable {X : Cx} {T : Tk} {Z : Fx} {W : WX}
theorem da_nil : DA X T Z W [] dNil := pa_nil.imp fun σ H Q ⟨F, ρ, s, r, q⟩ => q.here r _ rfl
theorem da_cons {e : Expr} {es : List Expr} {f : Env → M T.S D} {g : Env → M T.S (List D)} (h : DE X T Z W e f) (hr : DA X T Z W es g) (hs : starEach (e :: es) X.env = (false, eval e X.env) :: starEach es X.env := by rfl) : DA X T Z W (e :: es) (dCons f g) :=
  (pa_cons h hr hs).imp fun σ H Q ⟨F, ρ, s, r, q⟩ => rd.seq r q fun d1 s1 F1 H1 v1 r1 st1 rv1 q1 => rdA.seq r1 q1 fun d2 s2 F2 H2 v2 r2 st2 rv2 q2 =>
    q2.here r2 _ (RpL.cons (rv1.mono st2.ff) rv2)
theorem dar_nil : DAR X T Z W [] dNil := pa_nil.imp fun σ H Q ⟨F, ρ, s, r, q⟩ => q.here r _ rfl
theorem dar_cons {e : Expr} {es : List Expr} {f : Env → M T.S D} {g : Env → M T.S (List D)} (h : DR X T Z W e f) (hr : DAR X T Z W es g) (hs : starEach (e :: es) X.env = (false, eval e X.env) :: starEach es X.env := by rfl) : DAR X T Z W (e :: es) (dCons f g) :=
  (pa_cons h hr hs).imp fun σ H Q ⟨F, ρ, s, r, q⟩ => rdR.seq r q fun d1 s1 F1 H1 v1 r1 st1 rv1 q1 => rdAR.seq r1 q1 fun d2 s2 F2 H2 v2 r2 st2 rv2 q2 =>
    q2.here r2 _ ⟨v1, v2, rfl, rv1.mono st2.ff st2.hh, rv2⟩
def tupOk (a : List D) : Option D := if a.length ≤ sizeLine then some (.tup a) else none
def lstOk (a : List D) : Option D := if a.length ≤ sizeLine then some (.lst a) else none
theorem de_tup {es : List Expr} {x1 : Nat} {pos : Pos} {f : Env → M T.S (List D)} (h : DA X T Z W es f) : DE X T Z W (.Tuple es x1 pos) (fun ρ => do M.opt (tupOk (← f ρ))) :=
  (pe_tup h).imp fun σ H Q ⟨F, ρ, s, r, q⟩ => rdA.seq r q fun ds s1 F1 H1 vs r1 st1 rv q1 => by
    obtain ⟨d, e, k⟩ := q1.opt
    obtain ⟨hc, rfl⟩ := ifs (show (if ds.length ≤ sizeLine then some (D.tup ds) else none) = some d from e)
    exact ⟨by rw [← rv.length]; exact hc, fun p hp => k _ _ (Stp.laid r1.ex hp) (r1.at' (Stp.laid r1.ex hp)) _ ⟨p, vs, rfl, SqT.of upd_same, rv.mono (Ex.new (r1.ex.none hp))⟩⟩
theorem df_lst {es : List Expr} {pos : Pos} {f : Env → M T.S (List D)} (h : DA X T Z W es f) : DF X T Z W (.List es pos) (fun ρ => do M.opt (lstOk (← f ρ))) :=
  (pe_lst h).imp fun σ H Q ⟨F, ρ, s, r, q⟩ => rdA.seq r q fun ds s1 F1 H1 vs r1 st1 rv q1 => by
    obtain ⟨d, e, k⟩ := q1.opt
    obtain ⟨hc, rfl⟩ := ifs (show (if ds.length ≤ sizeLine then some (D.lst ds) else none) = some d from e)
    exact ⟨by rw [← rv.length]; exact hc, fun p hp => k _ _ (Stp.hid r1.ex hp) (r1.at' (Stp.hid r1.ex hp)) p (st1.back r1.fpH hp) (r1.ex.none hp) ⟨vs, upd_same, rv⟩⟩
end

/-! ### built-in functions by data -/
/-- what a built-in is asked: its result stands still -/
def rCl (o : Wo) (g : List D → Option D) : List V → Hp → VK → Prop := fun xs H Q => ∃ F ds d, Ex F H ∧ RpRL o [] F H ds xs ∧ g ds = some d ∧ ∀ v F' H', Stp [] F H F' H' → Rp o F' d v → Q v H'
/-- .. is new -/
def rClF (o : Wo) (g : List D → Option D) : List V → Hp → VK → Prop := fun xs H Q => ∃ F ds d, Ex F H ∧ RpRL o [] F H ds xs ∧ g ds = some d ∧ ∀ p F' H', Stp [] F H F' H' → H p = none → F' p = none → OwnAt o F' H' d p → Q (.ref p) H'
def dCall {S : Type} (g : List D → Option D) (fa : Env → M S (List D)) : Env → M S D := fun ρ => do
  let ds ← fa ρ
  M.opt (g ds)
theorem RpRL.all {o : Wo} {fp : List Addr} {F H : Hp} : ∀ {ds : List D} {vs : List V}, RpRL o fp F H ds vs → RpRL o [] F H ds vs
  | [], _, h => h
  | _ :: _, _, ⟨v, r, e1, e2, e3⟩ => ⟨v, r, e1, e2.all, RpRL.all e3⟩
section
variable {X : Cx} {T : Tk} {Z : Fx} {W : WX}
theorem de_callB {id : String} {g : List D → Option D} {x : Str} {p pos : Pos} {e : Expr} {es : List Expr} {fa : Env → M T.S (List D)} (hc : CallR X (.builtin id) (rCl (wo X) g)) (hm : X.mg x = none) (ha : DAR X T Z W (e :: es) fa) (hv : bootBuiltins x = some (.builtin id) := by decide +kernel) (hg : Gl X x := by rfl)
    (hn : x ≠ "__name__" := by decide) (hdb : (x == ("__debug__" : Str)) = false := by decide)
    (he : starEach (e :: es) X.env = (false, eval e X.env) :: starEach es X.env := by rfl) (hpl : (backTo pos (starEach es X.env)).any (·.1) = false := by rfl) : DE X T Z W (.Call (.Name x p) (e :: es) [] pos) (dCall g fa) :=
  (pe_callB hc hg hm hv ha hn hdb he hpl).imp fun σ H Q ⟨F, ρ, s, r, q⟩ => rdAR.seq r q fun ds s1 F1 H1 vs r1 st1 rv q1 => by
    obtain ⟨d, e, k⟩ := q1.opt
    exact ⟨F1, ds, d, r1.ex, rv.all, e, fun v F' H' st rp => k F' H' st.mono (r1.at' st) v rp⟩
theorem df_callB {id : String} {g : List D → Option D} {x : Str} {p pos : Pos} {e : Expr} {es : List Expr} {fa : Env → M T.S (List D)} (hc : CallR X (.builtin id) (rClF (wo X) g)) (hm : X.mg x = none) (ha : DAR X T Z W (e :: es) fa) (hv : bootBuiltins x = some (.builtin id) := by decide +kernel) (hg : Gl X x := by rfl)
    (hn : x ≠ "__name__" := by decide) (hdb : (x == ("__debug__" : Str)) = false := by decide)
    (he : starEach (e :: es) X.env = (false, eval e X.env) :: starEach es X.env := by rfl) (hpl : (backTo pos (starEach es X.env)).any (·.1) = false := by rfl) : DF X T Z W (.Call (.Name x p) (e :: es) [] pos) (dCall g fa) :=
  (pe_callB hc hg hm hv ha hn hdb he hpl).imp fun σ H Q ⟨F, ρ, s, r, q⟩ => rdAR.seq r q fun ds s1 F1 H1 vs r1 st1 rv q1 => by
    obtain ⟨d, e, k⟩ := q1.opt
    exact ⟨F1, ds, d, r1.ex, rv.all, e, fun p F' H' st h1 h2 h3 => k F' H' st.mono (r1.at' st) p (st1.back r1.fpH h1) h2 h3⟩
theorem de_callT {id : String} {g : List D → Option D} {x : Str} {p pos : Pos} {e : Expr} {es : List Expr} {fa : Env → M T.S (List D)} (hc : CallR X (.type id) (rCl (wo X) g)) (hm : X.mg x = none) (ha : DAR X T Z W (e :: es) fa) (hv : bootBuiltins x = some (.type id) := by decide +kernel) (hg : Gl X x := by rfl)
    (hn : x ≠ "__name__" := by decide) (hdb : (x == ("__debug__" : Str)) = false := by decide)
    (he : starEach (e :: es) X.env = (false, eval e X.env) :: starEach es X.env := by rfl) (hpl : (backTo pos (starEach es X.env)).any (·.1) = false := by rfl) : DE X T Z W (.Call (.Name x p) (e :: es) [] pos) (dCall g fa) :=
  (pe_callTy hc hg hm hv ha hn hdb he hpl).imp fun σ H Q ⟨F, ρ, s, r, q⟩ => rdAR.seq r q fun ds s1 F1 H1 vs r1 st1 rv q1 => by
    obtain ⟨d, e, k⟩ := q1.opt
    exact ⟨F1, ds, d, r1.ex, rv.all, e, fun v F' H' st rp => k F' H' st.mono (r1.at' st) v rp⟩
theorem df_callT {id : String} {g : List D → Option D} {x : Str} {p pos : Pos} {e : Expr} {es : List Expr} {fa : Env → M T.S (List D)} (hc : CallR X (.type id) (rClF (wo X) g)) (hm : X.mg x = none) (ha : DAR X T Z W (e :: es) fa) (hv : bootBuiltins x = some (.type id) := by decide +kernel) (hg : Gl X x := by rfl)
    (hn : x ≠ "__name__" := by decide) (hdb : (x == ("__debug__" : Str)) = false := by decide)
    (he : starEach (e :: es) X.env = (false, eval e X.env) :: starEach es X.env := by rfl) (hpl : (backTo pos (starEach es X.env)).any (·.1) = false := by rfl) : DF X T Z W (.Call (.Name x p) (e :: es) [] pos) (dCall g fa) :=
  (pe_callTy hc hg hm hv ha hn hdb he hpl).imp fun σ H Q ⟨F, ρ, s, r, q⟩ => rdAR.seq r q fun ds s1 F1 H1 vs r1 st1 rv q1 => by
    obtain ⟨d, e, k⟩ := q1.opt
    exact ⟨F1, ds, d, r1.ex, rv.all, e, fun p F' H' st h1 h2 h3 => k F' H' st.mono (r1.at' st) p (st1.back r1.fpH h1) h2 h3⟩
theorem CallR.imp {f : Value} {r r' : List V → Hp → VK → Prop} (h : CallR X f r) (k : ∀ xs H Q, r' xs H Q → r xs H Q) : CallR X f r' := fun pins s σ H xs us Q I rv q => h pins s σ H xs us Q I rv (k xs H Q q)
end
theorem RpRL.one {o : Wo} {fp : List Addr} {F H : Hp} {d : D} {vs : List V} (h : RpRL o fp F H [d] vs) : ∃ v, vs = [v] ∧ RpR o fp F H d v := by
  obtain ⟨v, r, e1, e2, e3⟩ := h
  exact ⟨v, by rw [e1, show r = _ from e3], e2⟩
theorem RpRL.two {o : Wo} {fp : List Addr} {F H : Hp} {d e : D} {vs : List V} (h : RpRL o fp F H [d, e] vs) : ∃ v w, vs = [v, w] ∧ RpR o fp F H d v ∧ RpR o fp F H e w := by
  obtain ⟨v, r, e1, e2, h2⟩ := h
  obtain ⟨w, rfl, e3⟩ := h2.one
  exact ⟨v, w, e1, e2, e3⟩

def lenD : List D → Option D
  | [.str x] => if x.length ≤ sizeLine then some (.int x.length) else none
  | [.tup xs] => some (.int xs.length)
  | [.lst xs] => some (.int xs.length)
  | [.dct xs] => some (.int xs.length)
  | [.st xs] => some (.int xs.length)
  | _ => none
theorem RpD.length {o : Wo} {F : Hp} : ∀ {xs : List (D × D)} {vs : List (Key × V)}, RpD o F xs vs → xs.length = vs.length
  | [], _, h => by rw [show _ = _ from h]; rfl
  | (_, _) :: xs, _, ⟨k, v, r, e1, _, _, e3⟩ => by rw [e1, List.length_cons, List.length_cons, RpD.length e3]
def absD : List D → Option D
  | [.int i] => some (.int (if i < 0 then -i else i))
  | _ => none
def min2D : List D → Option D
  | [.int i, .int j] => some (.int (if j < i then j else i))
  | _ => none
def max2D : List D → Option D
  | [.int i, .int j] => some (.int (if j > i then j else i))
  | _ => none
def intD : List D → Option D
  | [.int i] => some (.int i)
  | [.bl b] => some (.int (if b then 1 else 0))
  | _ => none
def strD : List D → Option D
  | [.int i] => if i.natAbs.log2 < 1920 then some (.str (toString i)) else none
  | _ => none
/-- the ints of a list -/
def intsOf : List D → Option (List Int)
  | [] => some []
  | .int i :: r => (intsOf r).map (i :: ·)
  | _ :: _ => none
theorem intsOf_eq : ∀ {xs : List D} {ns : List Int}, intsOf xs = some ns → xs = ns.map D.int
  | [], _, h => by cases h; rfl
  | .int i :: r, ns, h => by
    unfold intsOf at h
    cases e : intsOf r with
    | none => rw [e] at h; cases h
    | some l => rw [e] at h; cases h; rw [intsOf_eq e]; rfl
  | .non :: _, _, h => by cases h
  | .bl _ :: _, _, h => by cases h
  | .str _ :: _, _, h => by cases h
  | .tup _ :: _, _, h => by cases h
  | .lst _ :: _, _, h => by cases h
  | .dct _ :: _, _, h => by cases h
  | .st _ :: _, _, h => by cases h
  | .fn _ :: _, _, h => by cases h
  | .exc _ _ :: _, _, h => by cases h
  | .tok :: _, _, h => by cases h
theorem intsOf_map : ∀ ns : List Int, intsOf (ns.map D.int) = some ns
  | [] => rfl
  | n :: r => by show (intsOf (r.map D.int)).map (n :: ·) = _; rw [intsOf_map r]; rfl
theorem RpL.int_inv {o : Wo} {F : Hp} : ∀ {ns : List Int} {vs : List V}, RpL o F (ns.map D.int) vs → vs = ns.map V.int
  | [], _, h => h
  | n :: r, _, ⟨v, s, e1, e2, e3⟩ => by rw [e1, show v = _ from e2, RpL.int_inv e3]; rfl
def blsOf : List D → Option (List Bool)
  | [] => some []
  | .bl i :: r => (blsOf r).map (i :: ·)
  | _ :: _ => none
theorem blsOf_eq : ∀ {xs : List D} {ns : List Bool}, blsOf xs = some ns → xs = ns.map D.bl
  | [], _, h => by cases h; rfl
  | .bl i :: r, ns, h => by
    unfold blsOf at h
    cases e : blsOf r with
    | none => rw [e] at h; cases h
    | some l => rw [e] at h; cases h; rw [blsOf_eq e]; rfl
  | .non :: _, _, h => by cases h
  | .int _ :: _, _, h => by cases h
  | .str _ :: _, _, h => by cases h
  | .tup _ :: _, _, h => by cases h
  | .lst _ :: _, _, h => by cases h
  | .dct _ :: _, _, h => by cases h
  | .st _ :: _, _, h => by cases h
  | .fn _ :: _, _, h => by cases h
  | .exc _ _ :: _, _, h => by cases h
  | .tok :: _, _, h => by cases h
theorem blsOf_map : ∀ ns : List Bool, blsOf (ns.map D.bl) = some ns
  | [] => rfl
  | n :: r => by show (blsOf (r.map D.bl)).map (n :: ·) = _; rw [blsOf_map r]; rfl
theorem RpL.bl_inv {o : Wo} {F : Hp} : ∀ {ns : List Bool} {vs : List V}, RpL o F (ns.map D.bl) vs → vs = ns.map V.bl
  | [], _, h => h
  | n :: r, _, ⟨v, s, e1, e2, e3⟩ => by rw [e1, show v = _ from e2, RpL.bl_inv e3]; rfl
def sumD : List D → Option D
  | [.lst xs] => (intsOf xs).map fun ns => .int ns.sum
  | _ => none
def allD : List D → Option D
  | [.lst xs] => (blsOf xs).map fun bs => .bl (bs.all id)
  | _ => none
def anyD : List D → Option D
  | [.lst xs] => (blsOf xs).map fun bs => .bl (bs.any id)
  | _ => none
def tupleD : List D → Option D
  | [.lst xs] => some (.tup xs)
  | [.tup xs] => some (.tup xs)
  | _ => none
def listD : List D → Option D
  | [.lst xs] => some (.lst xs)
  | [.tup xs] => some (.lst xs)
  | [.dct kvs] => some (.lst (kvs.map (·.1)))
  | [.st xs] => some (.lst xs)
  | _ => none
def sortI (ns : List Int) : List Int := ns.mergeSort (fun a b => decide (a ≤ b))
def sortedD : List D → Option D
  | [.lst xs] => (intsOf xs).map fun ns => .lst ((sortI ns).map D.int)
  | _ => none
theorem sortI_eq {ns ms : List Int} (h : ms.Perm ns) (hs : ms.Pairwise (· ≤ ·)) : ms = sortI ns := by
  have h1 : (sortI ns).Pairwise (fun a b => decide (a ≤ b) = true) := List.pairwise_mergeSort (fun a b c => by simp only [decide_eq_true_eq]; omega) (fun a b => by simp only [Bool.or_eq_true, decide_eq_true_eq]; omega) ns
  have h2 : (sortI ns).Perm ns := List.mergeSort_perm ns _
  exact List.Perm.eq_of_pairwise (le := fun a b : Int => a ≤ b) (fun a b _ _ h h' => Int.le_antisymm h h') hs (h1.imp fun h => of_decide_eq_true h) (h.trans h2.symm)
section
variable {X : Cx}
theorem cr_lenD : CallR X (.builtin "len") (rCl (wo X) lenD) := CallR.imp (CallR.or call_len call_lenD) fun xs H Q ⟨F, ds, d, ex, rv, e, k⟩ => by
  match ds, e, rv with
  | [.str x], e, rv =>
    obtain ⟨v, rfl, rq⟩ := rv.one
    obtain ⟨hc, rfl⟩ := ifs (show (if x.length ≤ sizeLine then some (D.int x.length) else none) = some d from e)
    rw [show v = V.str x from rq]
    exact .inl ⟨_, x.length, rfl, ⟨hc, rfl⟩, k _ F H (Stp.refl ex) rfl⟩
  | [.tup ys], e, rv =>
    obtain ⟨v, rfl, a, vs, rfl, h1, h2⟩ := rv.one
    cases e
    exact .inl ⟨_, ys.length, rfl, .inr ⟨vs, ex.t h1, h2.length⟩, k _ F H (Stp.refl ex) rfl⟩
  | [.lst ys], e, rv =>
    obtain ⟨v, rfl, a, vs, rfl, h1, h2⟩ := rv.one
    cases e
    exact .inl ⟨_, ys.length, rfl, .inl ⟨vs, h1.l, h2.length⟩, k _ F H (Stp.refl ex) rfl⟩
  | [.dct ys], e, rv =>
    obtain ⟨v, rfl, a, vs, rfl, h1, _, h2⟩ := rv.one
    cases e
    exact .inr ⟨a, vs, rfl, h1, by rw [← h2.length]; exact k _ F H (Stp.refl ex) rfl⟩
  | [.st ys], e, rv =>
    obtain ⟨v, rfl, a, vs, rfl, h1, h2⟩ := rv.one
    cases e
    exact .inl ⟨_, ys.length, rfl, .inl ⟨vs, ex.l h1, h2.length⟩, k _ F H (Stp.refl ex) rfl⟩
theorem cr_absD : CallR X (.builtin "abs") (rCl (wo X) absD) := CallR.imp call_abs fun xs H Q ⟨F, ds, d, ex, rv, e, k⟩ => by
  match ds, e, rv with
  | [.int x], e, rv =>
    obtain ⟨v, rfl, rq⟩ := rv.one
    cases e
    rw [show v = V.int x from rq]
    exact ⟨x, rfl, k _ F H (Stp.refl ex) rfl⟩
theorem cr_min2D (hc : X.calm = true) : CallR X (.builtin "min") (rCl (wo X) min2D) := CallR.imp (call_min2 hc) fun xs H Q ⟨F, ds, d, ex, rv, e, k⟩ => by
  match ds, e, rv with
  | [.int x, .int y], e, rv =>
    obtain ⟨v, w, rfl, rq, rq2⟩ := rv.two
    cases e
    rw [show v = V.int x from rq, show w = V.int y from rq2]
    exact ⟨x, y, rfl, k _ F H (Stp.refl ex) rfl⟩
theorem cr_max2D (hc : X.calm = true) : CallR X (.builtin "max") (rCl (wo X) max2D) := CallR.imp (call_max2 hc) fun xs H Q ⟨F, ds, d, ex, rv, e, k⟩ => by
  match ds, e, rv with
  | [.int x, .int y], e, rv =>
    obtain ⟨v, w, rfl, rq, rq2⟩ := rv.two
    cases e
    rw [show v = V.int x from rq, show w = V.int y from rq2]
    exact ⟨x, y, rfl, k _ F H (Stp.refl ex) rfl⟩
theorem cr_intD : CallR X (.type "int") (rCl (wo X) intD) := CallR.imp call_int1 fun xs H Q ⟨F, ds, d, ex, rv, e, k⟩ => by
  match ds, e, rv with
  | [.int x], e, rv =>
    obtain ⟨v, rfl, rq⟩ := rv.one
    cases e
    rw [show v = V.int x from rq]
    exact .inl ⟨x, rfl, k _ F H (Stp.refl ex) rfl⟩
  | [.bl x], e, rv =>
    obtain ⟨v, rfl, rq⟩ := rv.one
    cases e
    rw [show v = V.bl x from rq]
    exact .inr ⟨x, rfl, k _ F H (Stp.refl ex) rfl⟩
theorem cr_strD : CallR X (.type "str") (rCl (wo X) strD) := CallR.imp call_str_int fun xs H Q ⟨F, ds, d, ex, rv, e, k⟩ => by
  match ds, e, rv with
  | [.int x], e, rv =>
    obtain ⟨v, rfl, rq⟩ := rv.one
    obtain ⟨hc, rfl⟩ := ifs (show (if x.natAbs.log2 < 1920 then some (D.str (toString x)) else none) = some d from e)
    rw [show v = V.int x from rq]
    exact ⟨x, rfl, hc, k _ F H (Stp.refl ex) rfl⟩
theorem cr_sumD (hc : X.calm = true) : CallR X (.builtin "sum") (rCl (wo X) sumD) := CallR.imp (cr_sum hc) fun xs H Q ⟨F, ds, d, ex, rv, e, k⟩ => by
  match ds, e, rv with
  | [.lst ys], e, rv =>
    obtain ⟨v, rfl, a, vs, rfl, h1, h2⟩ := rv.one
    cases h : intsOf ys with
    | none => rw [show sumD [.lst ys] = (intsOf ys).map _ from rfl, h] at e; cases e
    | some ns =>
      rw [show sumD [.lst ys] = (intsOf ys).map _ from rfl, h] at e; cases e
      have e2 := intsOf_eq h
      subst e2
      have e3 := h2.int_inv
      subst e3
      exact ⟨a, ns, rfl, h1.l, k _ F H (Stp.refl ex) rfl⟩
theorem cr_allD (hc : X.calm = true) : CallR X (.builtin "all") (rCl (wo X) allD) := CallR.imp (cr_all hc) fun xs H Q ⟨F, ds, d, ex, rv, e, k⟩ => by
  match ds, e, rv with
  | [.lst ys], e, rv =>
    obtain ⟨v, rfl, a, vs, rfl, h1, h2⟩ := rv.one
    cases h : blsOf ys with
    | none => rw [show allD [.lst ys] = (blsOf ys).map _ from rfl, h] at e; cases e
    | some ns =>
      rw [show allD [.lst ys] = (blsOf ys).map _ from rfl, h] at e; cases e
      have e2 := blsOf_eq h
      subst e2
      have e3 := h2.bl_inv
      subst e3
      exact ⟨a, ns, rfl, h1.l, k _ F H (Stp.refl ex) rfl⟩
theorem cr_anyD (hc : X.calm = true) : CallR X (.builtin "any") (rCl (wo X) anyD) := CallR.imp (cr_any hc) fun xs H Q ⟨F, ds, d, ex, rv, e, k⟩ => by
  match ds, e, rv with
  | [.lst ys], e, rv =>
    obtain ⟨v, rfl, a, vs, rfl, h1, h2⟩ := rv.one
    cases h : blsOf ys with
    | none => rw [show anyD [.lst ys] = (blsOf ys).map _ from rfl, h] at e; cases e
    | some ns =>
      rw [show anyD [.lst ys] = (blsOf ys).map _ from rfl, h] at e; cases e
      have e2 := blsOf_eq h
      subst e2
      have e3 := h2.bl_inv
      subst e3
      exact ⟨a, ns, rfl, h1.l, k _ F H (Stp.refl ex) rfl⟩
theorem cr_tupleD : CallR X (.type "tuple") (rCl (wo X) tupleD) := CallR.imp call_tuple_of fun xs H Q ⟨F, ds, d, ex, rv, e, k⟩ => by
  match ds, e, rv with
  | [.lst ys], e, rv =>
    obtain ⟨v, rfl, a, vs, rfl, h1, h2⟩ := rv.one
    cases e
    exact ⟨a, vs, rfl, .inl ⟨h1.l, fun l hl => k _ _ _ (Stp.laid ex hl) ⟨l, vs, rfl, SqT.of upd_same, h2.mono (Ex.new (ex.none hl))⟩⟩⟩
  | [.tup ys], e, rv =>
    obtain ⟨v, rfl, a, vs, rfl, h1, h2⟩ := rv.one
    cases e
    exact ⟨a, vs, rfl, .inr ⟨ex.t h1, k _ F H (Stp.refl ex) ⟨a, vs, rfl, h1, h2⟩⟩⟩
theorem cr_listD (hc : X.calm = true) : CallR X (.type "list") (rClF (wo X) listD) := CallR.imp (CallR.or call_list_of (call_listD hc)) fun xs H Q ⟨F, ds, d, ex, rv, e, k⟩ => by
  match ds, e, rv with
  | [.lst ys], e, rv =>
    obtain ⟨v, rfl, a, vs, rfl, h1, h2⟩ := rv.one
    cases e
    exact .inl ⟨a, vs, rfl, .inl h1.l, fun l hl => k l F _ (Stp.hid ex hl) hl (ex.none hl) ⟨vs, upd_same, h2⟩⟩
  | [.tup ys], e, rv =>
    obtain ⟨v, rfl, a, vs, rfl, h1, h2⟩ := rv.one
    cases e
    exact .inl ⟨a, vs, rfl, .inr (ex.t h1), fun l hl => k l F _ (Stp.hid ex hl) hl (ex.none hl) ⟨vs, upd_same, h2⟩⟩
  | [.dct ys], e, rv =>
    obtain ⟨v, rfl, a, vs, rfl, h1, _, h2⟩ := rv.one
    cases e
    have go : ∀ {ys : List (D × D)} {vs : List (Key × V)}, RpD (wo X) F ys vs → RpL (wo X) F (ys.map (·.1)) (vs.map fun kv => kV kv.1) := by
      intro ys
      induction ys with
      | nil => intro vs h; rw [show vs = [] from h]; rfl
      | cons y ys ih =>
        intro vs h
        obtain ⟨x, d⟩ := y
        obtain ⟨k, v, s, e1, e2, e3, e4⟩ := h
        subst e1
        refine ⟨kV k, _, rfl, ?_, ih e4⟩
        show Rp _ F x (kV k)
        rw [e2]
        cases k <;> rfl
    exact .inr ⟨a, vs, rfl, .inl h1, fun l hl => k l F _ (Stp.hid ex hl) hl (ex.none hl) ⟨_, upd_same, go h2⟩⟩
  | [.st ys], e, rv =>
    obtain ⟨v, rfl, a, vs, rfl, h1, h2⟩ := rv.one
    cases e
    exact .inl ⟨a, vs, rfl, .inl (ex.l h1), fun l hl => k l F _ (Stp.hid ex hl) hl (ex.none hl) ⟨vs, upd_same, h2⟩⟩
theorem cr_sortedD : CallR X (.builtin "sorted") (rClF (wo X) sortedD) := CallR.imp cr_sortedI fun xs H Q ⟨F, ds, d, ex, rv, e, k⟩ => by
  match ds, e, rv with
  | [.lst ys], e, rv =>
    obtain ⟨v, rfl, a, vs, rfl, h1, h2⟩ := rv.one
    cases h : intsOf ys with
    | none => rw [show sortedD [.lst ys] = (intsOf ys).map _ from rfl, h] at e; cases e
    | some ns =>
      rw [show sortedD [.lst ys] = (intsOf ys).map _ from rfl, h] at e; cases e
      have e2 := intsOf_eq h
      subst e2
      have e3 := h2.int_inv
      subst e3
      refine ⟨a, ns, rfl, h1.l, fun ns' p hp hs hn => ?_⟩
      rw [sortI_eq hp hs]
      exact k p F _ (Stp.hid ex hn) hn (ex.none hn) ⟨_, upd_same, RpL.ints _⟩
end
end DL
set_option Elab.async false
set_option linter.all false
set_option maxRecDepth 100000
set_option maxHeartbeats 1000000
/-! A slice that is the whole tuple; a tuple times a number, the other cases. -/
namespace DL
open PySem PySem.Spec PyProof.Rows L2
section
variable {prog : Program} {w : World} {A : Around} {E : Value → Shared → Prop} {s : Shared}
theorem tup_whole {t sl : Addr} {items : Array Value} {vl vu : Value} {lo hi : Option Int} {Q : Value → Shared → Prop} (ht : IsTup s.heap t items) (hs : s.heap.IsSliceOf sl vl vu .none) (pl : IsPart vl lo) (pu : IsPart vu hi)
    (hw : HT.sIx items.size 0 lo = 0 ∧ HT.sIx items.size items.size hi = items.size) (h : Q (.ref t) s) : wpAny (model prog w) A (getItem (.ref t) (.ref sl)) Q E s := by
  obtain ⟨os, hos, hcs, hds⟩ := id hs
  have hTs : s.TypeIs (.ref sl) "slice" := ⟨os, hos, hcs⟩
  unfold getItem
  try with_reducible refine wpAny_holding ?_
  first | refine wpAny_bind (wpAny_pure ?_) | skip
  refine wpAny_bind (wpAny_sequenceKey ht.typeIs (by decide) (wpAny_bind (wpAny_callSpecial?_slot (name := Str.ofString "__getitem__") ht.typeIs slot_tuple_getitem (wpAny_call_entry slot_tuple_getitem ht.typeIs entry_tuple_getitem ?_ (args_tuple_getitem _ _)))))
  show wpAny _ _ (Builtin.Tuple.tupleItemsOf (.ref t) >>= _) _ _ s
  refine wpAny_bind (tupleItemsOf_ ht (wpAny_bind (wpAny_typeOf hTs ?_)))
  rw [if_pos (by decide)]
  refine wpAny_bind (HT.sliceApplied_gen hs pl pu ?_)
  show wpAny _ _ (if (((HT.sIx items.size 0 lo : Nat) : Int) == 0 && (1 : Int) == 1 && (HT.sIx items.size items.size hi - HT.sIx items.size 0 lo) == items.size) = true then _ else _) _ _ s
  rw [if_pos (by rw [hw.1, hw.2]; simp)]
  unfold Builtin.Tuple.tupleIsExact
  refine wpAny_bind (wpAny_bind (wpAny_typeOf ht.typeIs (wpAny_pure ?_)))
  rw [if_pos (by decide)]
  first
    | exact wpAny_bind (wpAny_rule (wpAny_bind (wpAny_pure (wpAny_pure ⟨_, rfl, wpAny_pure h⟩))))
    | exact wpAny_bind (wpAny_rule (wpAny_bind (wpAny_pure ⟨_, rfl, wpAny_pure h⟩)))
end
/-- a slice that is the whole tuple is the tuple -/
def rSlW (K : PySem.W.Frag) : V → Option Int → Option Int → Hp → VK → Prop := fun x lo hi H Q => ∃ a xs, x = .ref a ∧ SqT K H a xs ∧ (HT.sIx xs.length 0 lo = 0 ∧ HT.sIx xs.length xs.length hi = xs.length) ∧ Q x H
theorem sl_whole {X : Cx} : SlR X (rSlW X.K) := by
  intro pins s σ H x v vl vu lo hi sl Q I rx hs pl pu h
  obtain ⟨a, xs, rfl, hx, hw, q⟩ := h
  cases rx
  obtain ⟨its, r, ht, hz⟩ := I.tuple hx
  have hlen : its.toArray.size = xs.length := by rw [List.size_toArray]; exact r.length.symm
  exact ⟨"tuple", _, slot_tuple_getitem.lookup, ht.typeIs, tup_whole ht hs pl pu (by rw [hlen]; exact hw) ⟨.ref a, H, I, rfl, q⟩⟩

/-! ### a tuple times one, times nothing -/
theorem tup_mul1 (l : Addr) (items : Array Value) (n : Nat) (dd : Option Addr) (sl : Array (Option Value)) (x : Int) (u : Tok) (c0 : (decide (x < -(2 ^ 63)) || decide (x ≥ 2 ^ 63)) = false) (c1 : (items.isEmpty || x == 1) = true) :
    Meets (Builtin.«tuple.__mul__» ⟨[.ref l, .int x u], []⟩) (fun _ R s => s.heap.get? l = some { cls := .type "tuple", dict := dd, data := .seq items n, slots := sl } ∧ R (.ok (.ret (Value.ref l))) s) :=
  .of_wp fun prog w A R s h => by
    obtain ⟨hp, g, d, tk, os⟩ := s
    obtain ⟨hl, h⟩ := h
    have f1 := AutoSeq1.idx_int
    wp_walk using wpAny_loadPart' hl
    repeat (first
      | (refine wpAny_ite_false (decide_eq_false (by rw [c0]; exact Bool.false_ne_true)) ?_; wp_walk using wpAny_loadPart' hl)
      | (refine wpAny_ite_true (decide_eq_true (by rw [c1])) ?_; wp_walk using wpAny_loadPart' hl))
    exact ⟨_, rfl, h⟩
theorem tup_mul0 (l : Addr) (items : Array Value) (n : Nat) (dd : Option Addr) (sl : Array (Option Value)) (x : Int) (u : Tok) (c0 : (decide (x < -(2 ^ 63)) || decide (x ≥ 2 ^ 63)) = false) (c1 : (items.isEmpty || x == 1) = false) (c2 : (decide (x ≤ 0) || items.isEmpty) = true) :
    Meets (Builtin.«tuple.__mul__» ⟨[.ref l, .int x u], []⟩) (fun _ R s => s.heap.get? l = some { cls := .type "tuple", dict := dd, data := .seq items n, slots := sl } ∧
      R (.ok (.ret (Value.ref s.heap.objs.size))) { s with heap := s.heap.push { cls := Value.type "tuple", data := Data.seq #[] }, toks := s.toks }) :=
  .of_wp fun prog w A R s h => by
    obtain ⟨hp, g, d, tk, os⟩ := s
    obtain ⟨hl, h⟩ := h
    have f1 := AutoSeq1.idx_int
    wp_walk using wpAny_loadPart' hl
    repeat (first
      | (refine wpAny_ite_false (decide_eq_false (by rw [c0]; exact Bool.false_ne_true)) ?_; wp_walk using wpAny_loadPart' hl)
      | (refine wpAny_ite_false (decide_eq_false (by rw [c1]; exact Bool.false_ne_true)) ?_; wp_walk using wpAny_loadPart' hl)
      | (refine wpAny_ite_true (decide_eq_true (by rw [c2])) ?_; wp_walk using wpAny_loadPart' hl))
    exact ⟨_, rfl, h⟩
section
variable {X : Cx}
/-- a tuple times a number whose product is the tuple, or nothing -/
def rRep1 (K : PySem.W.Frag) : R2 := fun x y H Q => ∃ l k xs, x = .ref l ∧ y = .int k ∧ SqT K H l xs ∧ -(2 ^ 63) ≤ k ∧ k < 2 ^ 63 ∧ (xs = [] ∨ k = 1) ∧ Q x H
def rRep0 (K : PySem.W.Frag) : R2 := fun x y H Q => ∃ l k xs, x = .ref l ∧ y = .int k ∧ SqT K H l xs ∧ -(2 ^ 63) ≤ k ∧ k ≤ 0 ∧ xs ≠ [] ∧ ∀ p, H p = none → Q (.ref p) (upd H p (.tup []))
theorem op_rep1 : OpR X (binaryOp .Mult) (rRep1 X.K) := by
  intro pins s σ H x y v u Q I rx ry h
  obtain ⟨l, k, xs, rfl, rfl, hT, k1, k2, hc, q⟩ := h
  cases rx
  obtain ⟨t, rfl⟩ := ry
  obtain ⟨its, r, ⟨⟨cls, dd, data, sl⟩, ho, hc', n, hd⟩, hs⟩ := I.tuple hT
  simp only at hc' hd
  subst hc' hd
  have hle : its.length = xs.length := r.length.symm
  have c0 : (decide (k < -(2 ^ 63)) || decide (k ≥ 2 ^ 63)) = false := by rw [decide_eq_false (by omega), decide_eq_false (by omega)]; rfl
  have c1 : (its.toArray.isEmpty || k == 1) = true := by
    rcases hc with e | e
    · have : its = [] := List.eq_nil_of_length_eq_zero (by rw [hle, e]; rfl)
      rw [this]; rfl
    · rw [e]; simp
  exact wpAny_binaryOp_repeat_ref (T := "tuple") (U := "int") (by decide) ⟨_, ho, rfl⟩ (fun s' => typeIs_int s' k t) noFill_tuple_mul F.fills_int_mul F.slot_int_rmul repeat_tuple F.slot_int_index.lookup
    (call_meets F.slot_int_rmul (typeIs_int s k t) F.entry_int_rmul (F.args_int_rmul_2 _ _) (int_rmul_tuple k t l its.toArray n dd sl)
      ⟨ho, rfl, ⟨_, ho, rfl⟩, call_meets F.slot_tuple_mul ⟨_, ho, rfl⟩ F.entry_tuple_mul (F.args_tuple_mul_2 _ _) (tup_mul1 l its.toArray n dd sl k t c0 c1) ⟨ho, .ref l, H, I, rfl, q⟩⟩)
theorem op_rep0 : OpR X (binaryOp .Mult) (rRep0 X.K) := by
  intro pins s σ H x y v u Q I rx ry h
  obtain ⟨l, k, xs, rfl, rfl, hT, k1, k2, hne, q⟩ := h
  cases rx
  obtain ⟨t, rfl⟩ := ry
  obtain ⟨its, r, ⟨⟨cls, dd, data, sl⟩, ho, hc', n, hd⟩, hs⟩ := I.tuple hT
  simp only at hc' hd
  subst hc' hd
  have hle : its.length = xs.length := r.length.symm
  have c0 : (decide (k < -(2 ^ 63)) || decide (k ≥ 2 ^ 63)) = false := by rw [decide_eq_false (by omega), decide_eq_false (by omega)]; rfl
  have c1 : (its.toArray.isEmpty || k == 1) = false := by
    rw [show (k == 1) = false from beq_eq_false_iff_ne.mpr (by omega), Bool.or_false]
    cases its with
    | nil => exact absurd (List.eq_nil_of_length_eq_zero (by rw [← hle]; rfl)) hne
    | cons a b => rfl
  have c2 : (decide (k ≤ 0) || its.toArray.isEmpty) = true := by rw [decide_eq_true k2]; rfl
  refine wpAny_binaryOp_repeat_ref (T := "tuple") (U := "int") (by decide) ⟨_, ho, rfl⟩ (fun s' => typeIs_int s' k t) noFill_tuple_mul F.fills_int_mul F.slot_int_rmul repeat_tuple F.slot_int_index.lookup
    (call_meets F.slot_int_rmul (typeIs_int s k t) F.entry_int_rmul (F.args_int_rmul_2 _ _) (int_rmul_tuple k t l its.toArray n dd sl)
      ⟨ho, rfl, ⟨_, ho, rfl⟩, call_meets F.slot_tuple_mul ⟨_, ho, rfl⟩ F.entry_tuple_mul (F.args_tuple_mul_2 _ _) (tup_mul0 l its.toArray n dd sl k t c0 c1 c2) ⟨ho, ?_⟩⟩)
  exact ⟨.ref s.heap.objs.size, _, I.laid (t' := s.toks) (o := .tup []) (fun b ob q => Heap.get?_push_of_some _ q) (Nat.le_refl _) ⟨Nat.zero_le _, [], .nil, IsTup.new _ _⟩, rfl, q _ (I.hok.fresh (Nat.le_refl _))⟩
end
end DL
set_option Elab.async false
set_option linter.all false
set_option maxRecDepth 100000
set_option maxHeartbeats 1000000
/-! Tests, subscripts, slices, isinstance, in. -/
namespace DL
open PySem PySem.Spec PyProof.Rows L2

/-! ### tests -/
def truD : D → Option Bool
  | .non => some false
  | .bl b => some b
  | .int i => some (i != 0)
  | .str x => if x.length ≤ sizeLine then some (x.length != 0) else none
  | .tup xs => some (!xs.isEmpty)
  | .lst xs => some (!xs.isEmpty)
  | .dct xs => some (!xs.isEmpty)
  | .st xs => some (!xs.isEmpty)
  | _ => none
def dTru {S : Type} (f : Env → M S D) : Env → M S Bool := fun ρ => do
  let d ← f ρ
  M.opt (truD d)
def dAnd {S : Type} (f g : Env → M S Bool) : Env → M S Bool := fun ρ => do
  let b ← f ρ
  if b = true then g ρ else M.pure false
def dOr {S : Type} (f g : Env → M S Bool) : Env → M S Bool := fun ρ => do
  let b ← f ρ
  if b = true then M.pure true else g ρ
def dNot {S : Type} (f : Env → M S Bool) : Env → M S Bool := fun ρ => do
  let b ← f ρ
  M.pure (!b)
def dIf {S : Type} (c : Env → M S Bool) (f g : Env → M S D) : Env → M S D := fun ρ => do
  let b ← c ρ
  if b = true then f ρ else g ρ
def blD : D → Option Bool
  | .bl b => some b
  | _ => none
def dAndV {S : Type} (f g : Env → M S D) : Env → M S D := fun ρ => do
  let a ← f ρ
  let b ← M.opt (blD a)
  if b = true then g ρ else M.pure (.bl false)
def dOrV {S : Type} (f g : Env → M S D) : Env → M S D := fun ρ => do
  let a ← f ρ
  let b ← M.opt (blD a)
  if b = true then M.pure (.bl true) else g ρ
def dNotV {S : Type} (f : Env → M S D) : Env → M S D := fun ρ => do
  let a ← f ρ
  let b ← M.opt (blD a)
  M.pure (.bl (!b))
def dChain {S : Type} (g g' : D → D → Option D) (fa fb fc : Env → M S D) : Env → M S D := fun ρ => do
  let a ← fa ρ
  let b ← fb ρ
  let z ← M.opt (g a b)
  let k ← M.opt (blD z)
  if k = true then do
    let c ← fc ρ
    M.opt (g' b c)
  else M.pure (.bl false)
def dCmpT {S : Type} (g : D → D → Option D) (fa fb : Env → M S D) : Env → M S Bool := fun ρ => do
  let a ← fa ρ
  let b ← fb ρ
  let z ← M.opt (g a b)
  M.opt (blD z)
def dChainT {S : Type} (g g' : D → D → Option D) (fa fb fc : Env → M S D) : Env → M S Bool := fun ρ => do
  let a ← fa ρ
  let b ← fb ρ
  let z ← M.opt (g a b)
  let k ← M.opt (blD z)
  if k = true then do
    let c ← fc ρ
    let z' ← M.opt (g' b c)
    M.opt (blD z')
  else M.pure false
theorem blD_eq {d : D} {b : Bool} (h : blD d = some b) : d = .bl b := by
  cases d with
  | bl c => cases h; rfl
  | _ => cases h
theorem Out.ite {o : Wo} {T : Tk} {Z : Fx} {W : WX} {α : Type} {F H : Hp} {σ : L2.St} {b : Bool} {m n : M T.S α} {s : T.S} {ok : α → T.S → Hp → Hp → Prop} (h : Out o T Z W F H σ ((if b = true then m else n) s) ok) : if b = true then Out o T Z W F H σ (m s) ok else Out o T Z W F H σ (n s) ok := by
  cases b with
  | true => exact h
  | false => exact h
theorem RpR.isEmpty {o : Wo} {F : Hp} {xs : List D} {vs : List V} (h : RpL o F xs vs) : xs.isEmpty = vs.isEmpty := by
  have := h.length
  cases xs with
  | nil => cases vs with
    | nil => rfl
    | cons a b => cases this
  | cons a b => cases vs with
    | nil => cases this
    | cons c d => rfl
theorem truV_of {o : Wo} {fp : List Addr} {F H : Hp} (ex : Ex F H) {d : D} {v : V} {b : Bool} (h : RpR o fp F H d v) (e : truD d = some b) : TruV o.K v H b := by
  match d, h, e with
  | .non, h, e => cases e; rw [show v = _ from h]; rfl
  | .bl b, h, e => cases e; rw [show v = _ from h]; rfl
  | .int b, h, e => cases e; rw [show v = _ from h]; rfl
  | .str x, h, e =>
    obtain ⟨hc, rfl⟩ := ifs (show (if x.length ≤ sizeLine then some (x.length != 0) else none) = some b from e)
    rw [show v = _ from h]
    refine ⟨hc, ?_⟩
    cases q : x.length with
    | zero => rfl
    | succ n =>
      show (n + 1 != 0) = ((((n + 1 : Nat) : Int)) != 0)
      rw [show (n + 1 != 0) = true from rfl]
      exact (bne_iff_ne.mpr (by omega)).symm
  | .tup xs, h, e =>
    obtain ⟨a, vs, rfl, h1, h2⟩ := h
    cases e
    exact .inr (.inl ⟨vs, ex.t h1, by rw [RpR.isEmpty h2]⟩)
  | .lst xs, h, e =>
    obtain ⟨a, vs, rfl, h1, h2⟩ := h
    cases e
    exact .inl ⟨vs, h1.l, by rw [RpR.isEmpty h2]⟩
  | .st xs, h, e =>
    obtain ⟨a, vs, rfl, h1, h2⟩ := h
    cases e
    exact .inl ⟨vs, ex.l h1, by rw [RpR.isEmpty h2]⟩
  | .dct xs, h, e =>
    obtain ⟨a, vs, rfl, h1, _, h2⟩ := h
    cases e
    refine .inr (.inr ⟨vs, h1, ?_⟩)
    have := h2.length
    cases xs with
    | nil => cases vs with
      | nil => rfl
      | cons a b => cases this
    | cons a b => cases vs with
      | nil => cases this
      | cons c d => rfl
section
variable {X : Cx} {T : Tk} {Z : Fx} {W : WX}
theorem dt_tru {e : Expr} {f : Env → M T.S D} (h : DR X T Z W e f) (he : ∀ whole, isTrue e X.env whole = (do let v ← whole; standAt e.pos; holding [v] (truthy v)) := by intro _; rfl) : DT X T Z W e (dTru f) :=
  (pt_truth h he).imp fun σ H Q ⟨F, ρ, s, r, q⟩ => rdR.seq r q fun d1 s1 F1 H1 v1 r1 st1 rv1 q1 => by
    obtain ⟨b, e, k⟩ := q1.opt
    exact ⟨b, truV_of r1.ex rv1 e, k F1 H1 (Stp.refl r1.ex) r1.at_⟩
/-- a comparison as a test -/
theorem dt_cmp {op : CmpOp} {g : D → D → Option D} {a b : Expr} {fa fb : Env → M T.S D} {pos : Pos} (ho : OpR X (compareOp op) (rB (wo X) g)) (ha : DR X T Z W a fa) (hb : DR X T Z W b fb) (hm : behindInMarks op b = false) : DT X T Z W (.Compare a [op] [b] pos) (dCmpT g fa fb) :=
  (pt_cmpR ho ha hb hm).imp fun σ H Q ⟨F, ρ, s, r, q⟩ => rdR.seq r q fun d1 s1 F1 H1 v1 r1 st1 rv1 q1 => rdR.seq r1 q1 fun d2 s2 F2 H2 v2 r2 st2 rv2 q2 => by
    obtain ⟨d, e, k⟩ := q2.bind.opt
    refine ⟨F2, d1, d2, d, r2.ex, (rv1.mono st2.ff st2.hh).all, rv2.all, e, fun v F' H' st rv => ?_⟩
    obtain ⟨b, e2, k2⟩ := (k F' H' st.mono (r2.at' st)).opt
    have e2 := blD_eq e2
    subst e2
    exact ⟨b, rv, k2 F' H' (Stp.refl st.fh) (r2.at' st)⟩
theorem de_chain {op op' : CmpOp} {g g' : D → D → Option D} {a b c : Expr} {fa fb fc : Env → M T.S D} {pos : Pos} (ho : OpR X (compareOp op) (rB (wo X) g)) (ho' : OpR X (compareOp op') (rB (wo X) g')) (ha : DR X T Z W a fa) (hb : DR X T Z W b fb) (hc : DR X T Z W c fc)
    (hm : lastMarks [op, op'] [b, c] = false := by rfl) : DE X T Z W (.Compare a [op, op'] [b, c] pos) (dChain g g' fa fb fc) :=
  (pe_chain ho ho' ha hb hc (hm := hm)).imp fun σ H Q ⟨F, ρ, s, r, q⟩ => rdR.seq r q fun d1 s1 F1 H1 v1 r1 st1 rv1 q1 => rdR.seq r1 q1 fun d2 s2 F2 H2 v2 r2 st2 rv2 q2 => by
    obtain ⟨d, e, k⟩ := q2.bind.opt
    refine ⟨F2, d1, d2, d, r2.ex, (rv1.mono st2.ff st2.hh).all, rv2.all, e, fun v F' H' st rv => ?_⟩
    obtain ⟨b, e2, k2⟩ := (k F' H' st.mono (r2.at' st)).bind.opt
    have e2 := blD_eq e2
    subst e2
    have r3 := r2.step st.mono (r2.at' st)
    have k := k2 F' H' (Stp.refl st.fh) (r2.at' st)
    refine ⟨b, rv, ?_⟩
    cases b with
    | false => exact Out.here (a := D.bl false) (ok := fun d _ F' H' => ∀ v, Rp (wo X) F' d v → Q v H') r3 k _ rfl
    | true =>
      exact rdR.seq r3 k fun d3 s3 F3 H3 v3 r4 st3 rv3 q3 => by
        obtain ⟨d', e', k⟩ := q3.opt
        exact ⟨F3, d2, d3, d', r4.ex, ((rv2.mono (fp := Z.fp) (st.mono (fp := Z.fp)).ff (st.mono (fp := Z.fp)).hh).mono st3.ff st3.hh).all, rv3.all, e', fun v F' H' st rv => k F' H' st.mono (r4.at' st) v rv⟩
theorem dt_chain {op op' : CmpOp} {g g' : D → D → Option D} {a b c : Expr} {fa fb fc : Env → M T.S D} {pos : Pos} (ho : OpR X (compareOp op) (rB (wo X) g)) (ho' : OpR X (compareOp op') (rB (wo X) g')) (ha : DR X T Z W a fa) (hb : DR X T Z W b fb) (hc : DR X T Z W c fc)
    (hm : lastMarks [op, op'] [b, c] = false := by rfl) : DT X T Z W (.Compare a [op, op'] [b, c] pos) (dChainT g g' fa fb fc) :=
  (pt_chain ho ho' ha hb hc (hm := hm)).imp fun σ H Q ⟨F, ρ, s, r, q⟩ => rdR.seq r q fun d1 s1 F1 H1 v1 r1 st1 rv1 q1 => rdR.seq r1 q1 fun d2 s2 F2 H2 v2 r2 st2 rv2 q2 => by
    obtain ⟨d, e, k⟩ := q2.bind.opt
    refine ⟨F2, d1, d2, d, r2.ex, (rv1.mono st2.ff st2.hh).all, rv2.all, e, fun v F' H' st rv => ?_⟩
    obtain ⟨b, e2, k2⟩ := (k F' H' st.mono (r2.at' st)).bind.opt
    have e2 := blD_eq e2
    subst e2
    have r3 := r2.step st.mono (r2.at' st)
    have k := k2 F' H' (Stp.refl st.fh) (r2.at' st)
    refine ⟨b, rv, ?_⟩
    cases b with
    | false => exact ⟨false, rfl, Out.here (a := false) (ok := fun b _ _ H' => Q b H') r3 k⟩
    | true =>
      exact rdR.seq r3 k fun d3 s3 F3 H3 v3 r4 st3 rv3 q3 => by
        obtain ⟨d', e', k⟩ := q3.bind.opt
        refine ⟨F3, d2, d3, d', r4.ex, ((rv2.mono (fp := Z.fp) (st.mono (fp := Z.fp)).ff (st.mono (fp := Z.fp)).hh).mono st3.ff st3.hh).all, rv3.all, e', fun v F' H' st rv => ?_⟩
        obtain ⟨b, e2, k2⟩ := (k F' H' st.mono (r4.at' st)).opt
        have e2 := blD_eq e2
        subst e2
        exact ⟨b, rv, k2 F' H' (Stp.refl st.fh) (r4.at' st)⟩
theorem dw_and1 {a : Expr} {pos : Pos} {f : Env → M T.S Bool} (h : DT X T Z W a f) : DW X T Z W (.BoolOp .And [a] pos) f := pw_and1 h
theorem dw_or1 {a : Expr} {pos : Pos} {f : Env → M T.S Bool} (h : DT X T Z W a f) : DW X T Z W (.BoolOp .Or [a] pos) f := pw_or1 h
theorem dw_and {a b : Expr} {rest : List Expr} {pos : Pos} {f g : Env → M T.S Bool} (ha : DT X T Z W a f) (hb : DW X T Z W (.BoolOp .And (b :: rest) pos) g) : DW X T Z W (.BoolOp .And (a :: b :: rest) pos) (dAnd f g) :=
  (pw_and ha hb).imp fun σ H Q ⟨F, ρ, s, r, q⟩ => rdT.seq r q fun b s1 F1 H1 r1 st1 q1 => by
    cases b with
    | true => exact ⟨F1, ρ, s1, r1, q1⟩
    | false => exact q1.here r1
theorem dw_or {a b : Expr} {rest : List Expr} {pos : Pos} {f g : Env → M T.S Bool} (ha : DT X T Z W a f) (hb : DW X T Z W (.BoolOp .Or (b :: rest) pos) g) : DW X T Z W (.BoolOp .Or (a :: b :: rest) pos) (dOr f g) :=
  (pw_or ha hb).imp fun σ H Q ⟨F, ρ, s, r, q⟩ => rdT.seq r q fun b s1 F1 H1 r1 st1 q1 => by
    cases b with
    | false => exact ⟨F1, ρ, s1, r1, q1⟩
    | true => exact q1.here r1
theorem dt_w {e : Expr} {f : Env → M T.S Bool} (h : DW X T Z W e f) : DT X T Z W e f := PW.pt h
theorem dt_not {a : Expr} {pos : Pos} {f : Env → M T.S Bool} (h : DT X T Z W a f) : DT X T Z W (.UnaryOp .Not a pos) (dNot f) :=
  (pt_not h).imp fun σ H Q ⟨F, ρ, s, r, q⟩ => rdT.seq r q fun b s1 F1 H1 r1 st1 q1 => q1.here r1
theorem de_if {c a b : Expr} {pos : Pos} {fc : Env → M T.S Bool} {f g : Env → M T.S D} (hc : DT X T Z W c fc) (ha : DE X T Z W a f) (hb : DE X T Z W b g) : DE X T Z W (.IfExp c a b pos) (dIf fc f g) :=
  (pe_ifExp hc ha hb).imp fun σ H Q ⟨F, ρ, s, r, q⟩ => rdT.seq r q fun b s1 F1 H1 r1 st1 q1 => by
    cases b with
    | true => exact ⟨F1, ρ, s1, r1, q1⟩
    | false => exact ⟨F1, ρ, s1, r1, q1⟩
theorem dr_if {c a b : Expr} {pos : Pos} {fc : Env → M T.S Bool} {f g : Env → M T.S D} (hc : DT X T Z W c fc) (ha : DR X T Z W a f) (hb : DR X T Z W b g) : DR X T Z W (.IfExp c a b pos) (dIf fc f g) :=
  (pe_ifExp hc ha hb).imp fun σ H Q ⟨F, ρ, s, r, q⟩ => rdT.seq r q fun b s1 F1 H1 r1 st1 q1 => by
    cases b with
    | true => exact ⟨F1, ρ, s1, r1, q1⟩
    | false => exact ⟨F1, ρ, s1, r1, q1⟩
theorem df_if {c a b : Expr} {pos : Pos} {fc : Env → M T.S Bool} {f g : Env → M T.S D} (hc : DT X T Z W c fc) (ha : DF X T Z W a f) (hb : DF X T Z W b g) : DF X T Z W (.IfExp c a b pos) (dIf fc f g) :=
  (pe_ifExp hc ha hb).imp fun σ H Q ⟨F, ρ, s, r, q⟩ => rdT.seq r q fun b s1 F1 H1 r1 st1 q1 => by
    cases b with
    | true => exact ⟨F1, ρ, s1, r1, q1.mono fun d s' F' H' st at' q a h1 h2 h3 => q a (st1.back r1.fpH h1) h2 h3⟩
    | false => exact ⟨F1, ρ, s1, r1, q1.mono fun d s' F' H' st at' q a h1 h2 h3 => q a (st1.back r1.fpH h1) h2 h3⟩
theorem Rp.bl_of {o : Wo} {F : Hp} {b : Bool} {v : V} (h : Rp o F (.bl b) v) : v = .bl b := h
/-- and, or, not of values -/
theorem de_and {a b : Expr} {rest : List Expr} {pos : Pos} {f g : Env → M T.S D} (ha : DE X T Z W a f) (hb : DE X T Z W (.BoolOp .And (b :: rest) pos) g) : DE X T Z W (.BoolOp .And (a :: b :: rest) pos) (dAndV f g) :=
  (pe_and ha hb).imp fun σ H Q ⟨F, ρ, s, r, q⟩ => rd.seq r q fun d1 s1 F1 H1 v1 r1 st1 rv1 q1 => by
    obtain ⟨b, e, k⟩ := q1.bind.opt
    have k := k F1 H1 (Stp.refl r1.ex) r1.at_
    have e := blD_eq e
    subst e
    refine ⟨b, rv1, ?_⟩
    cases b with
    | true => exact ⟨F1, ρ, s1, r1, k⟩
    | false => exact Out.here (a := D.bl false) (ok := fun d _ F' H' => ∀ v, Rp (wo X) F' d v → Q v H') r1 k _ rfl
theorem de_or {a b : Expr} {rest : List Expr} {pos : Pos} {f g : Env → M T.S D} (ha : DE X T Z W a f) (hb : DE X T Z W (.BoolOp .Or (b :: rest) pos) g) : DE X T Z W (.BoolOp .Or (a :: b :: rest) pos) (dOrV f g) :=
  (pe_or ha hb).imp fun σ H Q ⟨F, ρ, s, r, q⟩ => rd.seq r q fun d1 s1 F1 H1 v1 r1 st1 rv1 q1 => by
    obtain ⟨b, e, k⟩ := q1.bind.opt
    have k := k F1 H1 (Stp.refl r1.ex) r1.at_
    have e := blD_eq e
    subst e
    refine ⟨b, rv1, ?_⟩
    cases b with
    | false => exact ⟨F1, ρ, s1, r1, k⟩
    | true => exact Out.here (a := D.bl true) (ok := fun d _ F' H' => ∀ v, Rp (wo X) F' d v → Q v H') r1 k _ rfl
theorem de_one {op : BoolOp} {a : Expr} {pos : Pos} {f : Env → M T.S D} (h : DE X T Z W a f) : DE X T Z W (.BoolOp op [a] pos) f := pe_one h
theorem de_not {a : Expr} {pos : Pos} {f : Env → M T.S D} (ha : DE X T Z W a f) : DE X T Z W (.UnaryOp .Not a pos) (dNotV f) :=
  (pe_not ha).imp fun σ H Q ⟨F, ρ, s, r, q⟩ => rd.seq r q fun d1 s1 F1 H1 v1 r1 st1 rv1 q1 => by
    obtain ⟨b, e, k⟩ := q1.bind.opt
    have k := k F1 H1 (Stp.refl r1.ex) r1.at_
    have e := blD_eq e
    subst e
    exact ⟨b, rv1, Out.here (a := D.bl !b) (ok := fun d _ F' H' => ∀ v, Rp (wo X) F' d v → Q v H') r1 k _ rfl⟩
end

/-! ### subscripts, slices -/
def ixD : D → D → Option D
  | .lst xs, .int i => atI xs i
  | .tup xs, .int i => atI xs i
  | .str x, .int i => if x.length ≤ sizeLine then (atI x.cps.toList i).map fun c => .str ⟨#[c]⟩ else none
  | _, _ => none
def cutD (xs : List D) (lo hi : Option Int) : List D := (xs.drop (HT.sIx xs.length 0 lo)).take (HT.sIx xs.length xs.length hi - HT.sIx xs.length 0 lo)
theorem RpL.cut {o : Wo} {F : Hp} {xs : List D} {vs : List V} (h : RpL o F xs vs) (lo hi : Option Int) : RpL o F (cutD xs lo hi) (cutV vs lo hi) := by
  unfold cutD cutV
  rw [h.length]
  exact (h.drop _).take _
theorem RpL.at_ {o : Wo} {F : Hp} {xs : List D} {vs : List V} {i : Int} {d : D} (h : RpL o F xs vs) (e : atI xs i = some d) : ∃ v, atI vs i = some v ∧ Rp o F d v := by
  unfold atI at e ⊢
  rw [← h.length]
  cases q : ixN xs.length i with
  | none => rw [q] at e; cases e
  | some j => rw [q] at e; exact h.get e
def rIxAll (K : PySem.W.Frag) : R2 := fun x y H Q => rIxL K x y H Q ∨ rIxT K x y H Q ∨ rIxS x y H Q
/-- an optional part of a slice -/
def optI : Option D → Option (Option Int)
  | none => some none
  | some (.int i) => some (some i)
  | _ => none
def dSome {S : Type} (f : Env → M S D) : Env → M S (Option D) := fun ρ => do
  let d ← f ρ
  M.pure (some d)
def dNone {S : Type} : Env → M S (Option D) := fun _ => M.pure none
def dSl {S : Type} (g : D → Option Int → Option Int → Option D) (f : Env → M S D) (l u : Env → M S (Option D)) : Env → M S D := fun ρ => do
  let d ← f ρ
  let a ← l ρ
  let i ← M.opt (optI a)
  let b ← u ρ
  let j ← M.opt (optI b)
  M.opt (g d i j)
def slTD : D → Option Int → Option Int → Option D
  | .tup xs, i, j => some (.tup (cutD xs i j))
  | .str x, i, j => if x.length ≤ sizeLine then some (.str (cutS x i j)) else none
  | _, _, _ => none
def slLD : D → Option Int → Option Int → Option D
  | .lst xs, i, j => some (.lst (cutD xs i j))
  | _, _, _ => none
section
variable (o : Wo) (T : Tk) (Z : Fx) (W : WX)
def rdO (f : Env → M T.S (Option D)) : TO := fun σ H Q => ∃ F ρ s, Rl o T Z F H ρ s σ ∧ Out o T Z W F H σ ((f ρ >>= fun a => M.opt (optI a)) s) fun i _ _ H' => Q i H'
end
abbrev DO (X : Cx) (T : Tk) (Z : Fx) (W : WX) (e : Option Expr) (f : Env → M T.S (Option D)) : Prop := PO X e (rdO (wo X) T Z W f)
theorem _root_.L2.PO.imp {X : Cx} {e : Option Expr} {t t' : TO} (h : PO X e t) (k : ∀ σ H Q, t' σ H Q → t σ H Q) : PO X e t' := ⟨fun pins s σ H Q I q => h.run pins s σ H Q I (k σ H Q q)⟩
section
variable {X : Cx} {T : Tk} {Z : Fx} {W : WX}
theorem de_ix {a b : Expr} {pos : Pos} {f g : Env → M T.S D} (ha : DR X T Z W a f) (hb : DE X T Z W b g) (hs : PlainIx b := by intro _ _; rfl) : DE X T Z W (.Subscript a b pos) (dBin ixD f g) :=
  (pe_ix ix_seq ha hb hs).imp fun σ H Q ⟨F, ρ, s, r, q⟩ => rdR.seq r q fun d1 s1 F1 H1 v1 r1 st1 rv1 q1 => rd.seq r1 q1 fun d2 s2 F2 H2 v2 r2 st2 rv2 q2 => by
    obtain ⟨d, e, k⟩ := q2.opt
    have rv1 := rv1.mono st2.ff st2.hh
    have k := k F2 H2 (Stp.refl r2.ex) r2.at_
    match d1, d2, e, rv1, rv2 with
    | .lst xs, .int i, e, rv1, rv2 =>
      obtain ⟨p, vs, rfl, h1, h2⟩ := rv1
      obtain ⟨v, e3, h3⟩ := h2.at_ e
      exact .inl ⟨p, vs, i, v, rfl, rv2, h1.l, e3, k v h3⟩
    | .tup xs, .int i, e, rv1, rv2 =>
      obtain ⟨p, vs, rfl, h1, h2⟩ := rv1
      obtain ⟨v, e3, h3⟩ := h2.at_ e
      exact .inr (.inl ⟨p, vs, i, v, rfl, rv2, r2.ex.t h1, e3, k v h3⟩)
    | .str x, .int i, e, rv1, rv2 =>
      by_cases hc : x.length ≤ sizeLine
      · have e : (if x.length ≤ sizeLine then (atI x.cps.toList i).map fun c => D.str ⟨#[c]⟩ else none) = some d := e
        rw [if_pos hc] at e
        cases q : atI x.cps.toList i with
        | none => rw [q] at e; cases e
        | some c => rw [q] at e; cases e; exact .inr (.inr ⟨x, i, c, rv1, rv2, hc, q, k _ rfl⟩)
      · have e : (if x.length ≤ sizeLine then (atI x.cps.toList i).map fun c => D.str ⟨#[c]⟩ else none) = some d := e
        rw [if_neg hc] at e; cases e
theorem do_none : DO X T Z W none dNone := po_none.imp fun σ H Q ⟨F, ρ, s, r, q⟩ => by
  obtain ⟨i, e, k⟩ := q.bind.here r |>.opt
  cases e
  exact k F H (Stp.refl r.ex) r.at_
theorem do_some {e : Expr} {f : Env → M T.S D} (h : DE X T Z W e f) : DO X T Z W (some e) (dSome f) := (po_some h).imp fun σ H Q ⟨F, ρ, s, r, q⟩ => by
  have q2 : Out (wo X) T Z W F H σ ((f ρ >>= fun d => M.opt (optI (some d))) s) (fun i _ _ H' => Q i H') := by
    have e : ((dSome f ρ >>= fun a => M.opt (optI a)) : M T.S (Option Int)) s = (f ρ >>= fun d => M.opt (optI (some d))) s := by
      show M.bind (M.bind _ _) _ s = M.bind _ _ s
      unfold M.bind
      cases f ρ s with
      | ok a s1 => rfl
      | exc x s1 => rfl
      | stuck => rfl
    rw [← e]; exact q
  exact rd.seq r q2 fun d1 s1 F1 H1 v1 r1 st1 rv1 q1 => by
    obtain ⟨i, e, k⟩ := q1.opt
    match d1, e, rv1 with
    | .int j, e, rv1 => cases e; exact ⟨j, rv1, k F1 H1 (Stp.refl r1.ex) r1.at_⟩
theorem Out.assoc {o : Wo} {α β γ : Type} {F H : Hp} {σ : L2.St} {s : T.S} {m : M T.S α} {k : α → M T.S β} {l : β → M T.S γ} {ok : γ → T.S → Hp → Hp → Prop} (h : Out o T Z W F H σ ((m >>= fun a => (k a >>= l)) s) ok) : Out o T Z W F H σ (((m >>= k) >>= l) s) ok := by
  have e : ((m >>= k) >>= l) s = (m >>= fun a => (k a >>= l)) s := by
    show M.bind (M.bind _ _) _ s = M.bind _ _ s
    unfold M.bind
    cases m s with
    | ok a s1 => rfl
    | exc x s1 => rfl
    | stuck => rfl
  rw [e]; exact h
theorem rdO.seq {o : Wo} {α : Type} {F H : Hp} {ρ : Env} {s : T.S} {σ : L2.St} {f : Env → M T.S (Option D)} {k : Option Int → M T.S α} {ok : α → T.S → Hp → Hp → Prop} {Q : Option Int → Hp → Prop} (r : Rl o T Z F H ρ s σ) (h : Out o T Z W F H σ ((f ρ >>= fun a => (M.opt (optI a) >>= k)) s) ok)
    (q : ∀ d s1 F1 H1, Rl o T Z F1 H1 ρ s1 σ → Stp Z.fp F H F1 H1 → Out o T Z W F1 H1 σ (k d s1) ok → Q d H1) : rdO o T Z W f σ H Q :=
  ⟨F, ρ, s, r, h.assoc.bind.mono fun d s1 F1 H1 st at1 q1 => q d s1 F1 H1 (r.step st at1) st q1⟩
theorem de_sl {e : Expr} {lo hi : Option Expr} {p2 pos : Pos} {f : Env → M T.S D} {l u : Env → M T.S (Option D)} (he : DR X T Z W e f) (hl : DO X T Z W lo l) (hu : DO X T Z W hi u) : DE X T Z W (.Subscript e (.Slice lo hi none p2) pos) (dSl slTD f l u) :=
  (pe_slice (SlR.or sl_tup (SlR.or sl_whole sl_str)) he hl hu).imp fun σ H Q ⟨F, ρ, s, r, q⟩ => rdR.seq r q fun d1 s1 F1 H1 v1 r1 st1 rv1 q1 => rdO.seq r1 q1 fun i s2 F2 H2 r2 st2 q2 => rdO.seq r2 q2 fun j s3 F3 H3 r3 st3 q3 => by
    obtain ⟨d, e, k⟩ := q3.opt
    have rv1 := (rv1.mono st2.ff st2.hh).mono st3.ff st3.hh
    match d1, e, rv1 with
    | .tup xs, e, rv1 =>
      obtain ⟨p, vs, rfl, h1, h2⟩ := rv1
      cases e
      by_cases hw : HT.sIx vs.length 0 i = 0 ∧ HT.sIx vs.length vs.length j = vs.length
      · refine .inr (.inl ⟨p, vs, rfl, r3.ex.t h1, hw, k F3 H3 (Stp.refl r3.ex) r3.at_ _ ⟨p, vs, rfl, h1, ?_⟩⟩)
        unfold cutD
        rw [h2.length, hw.1, hw.2, List.drop_zero, List.take_of_length_le (by rw [h2.length]; omega)]
        exact h2
      · exact .inl ⟨p, vs, rfl, r3.ex.t h1, hw, fun l hl => k _ _ (Stp.laid r3.ex hl) (r3.at' (Stp.laid r3.ex hl)) _ ⟨l, _, rfl, SqT.of upd_same, (h2.cut i j).mono (Ex.new (r3.ex.none hl))⟩⟩
    | .str x, e, rv1 =>
      obtain ⟨hc, rfl⟩ := ifs (show (if x.length ≤ sizeLine then some (D.str (cutS x i j)) else none) = some d from e)
      exact .inr (.inr ⟨x, rv1, hc, k F3 H3 (Stp.refl r3.ex) r3.at_ _ rfl⟩)
theorem df_sl {e : Expr} {lo hi : Option Expr} {p2 pos : Pos} {f : Env → M T.S D} {l u : Env → M T.S (Option D)} (he : DR X T Z W e f) (hl : DO X T Z W lo l) (hu : DO X T Z W hi u) : DF X T Z W (.Subscript e (.Slice lo hi none p2) pos) (dSl slLD f l u) :=
  (pe_slice sl_list he hl hu).imp fun σ H Q ⟨F, ρ, s, r, q⟩ => rdR.seq r q fun d1 s1 F1 H1 v1 r1 st1 rv1 q1 => rdO.seq r1 q1 fun i s2 F2 H2 r2 st2 q2 => rdO.seq r2 q2 fun j s3 F3 H3 r3 st3 q3 => by
    obtain ⟨d, e, k⟩ := q3.opt
    have rv1 := (rv1.mono st2.ff st2.hh).mono st3.ff st3.hh
    match d1, e, rv1 with
    | .lst xs, e, rv1 =>
      obtain ⟨p, vs, rfl, h1, h2⟩ := rv1
      cases e
      exact ⟨p, vs, rfl, h1.l, fun l hl => k F3 _ (Stp.hid r3.ex hl) (r3.at' (Stp.hid r3.ex hl)) l (st1.back r1.fpH (st2.back r2.fpH (st3.back r3.fpH hl))) (r3.ex.none hl) ⟨_, upd_same, h2.cut i j⟩⟩
end
end DL
namespace DL
open PySem PySem.Spec PyProof.Rows L2
/-! ### a tuple, a list times a number -/
def repTD : D → D → Option D
  | .tup xs, .int k => if -(2 ^ 63) ≤ k ∧ k ≤ 1000 ∧ xs.length ≤ 1000 then some (.tup (List.replicate k.toNat xs).flatten) else none
  | .int i, .int j => if i.natAbs.log2 + j.natAbs.log2 < 1000000 then some (.int (i * j)) else none
  | _, _ => none
def repLD : D → D → Option D
  | .lst xs, .int k => if -(2 ^ 63) ≤ k ∧ k < 2 ^ 63 ∧ xs.length * k.toNat ≤ sizeLine then some (.lst (List.replicate k.toNat xs).flatten) else none
  | _, _ => none
section
variable {X : Cx}
theorem op_repTD : OpR X (binaryOp .Mult) (rB (wo X) repTD) := OpR.imp (OpR.or op_mulW (OpR.or op_repT (OpR.or op_rep1 op_rep0))) fun x y H Q ⟨F, a, b, d, ex, ra, rb, e, k⟩ => by
  match a, b, e, ra, rb with
  | .int a, .int b, e, ra, rb =>
    obtain ⟨hc, rfl⟩ := ifs (show (if a.natAbs.log2 + b.natAbs.log2 < 1000000 then some (D.int (a * b)) else none) = some d from e)
    exact .inl ⟨a, b, ra, rb, hc, k _ F H (Stp.refl ex) rfl⟩
  | .tup xs, .int n, e, ra, rb =>
    obtain ⟨⟨hc1, hc2, hc3⟩, rfl⟩ := ifs (show (if -(2 ^ 63) ≤ n ∧ n ≤ 1000 ∧ xs.length ≤ 1000 then some (D.tup (List.replicate n.toNat xs).flatten) else none) = some d from e)
    obtain ⟨p, vs, rfl, h1, h2⟩ := ra
    have hl := h2.length
    refine .inr ?_
    by_cases hn : vs = [] ∨ n = 1
    · refine .inr (.inl ⟨p, n, vs, rfl, rb, ex.t h1, hc1, by omega, hn, k _ F H (Stp.refl ex) ⟨p, vs, rfl, h1, ?_⟩⟩)
      rcases hn with hn | hn
      · have : xs = [] := List.eq_nil_of_length_eq_zero (by rw [hl, hn]; rfl)
        subst this
        rw [hn]
        have : (List.replicate n.toNat ([] : List D)).flatten = [] := by simp
        rw [this]; rfl
      · subst hn
        have : (List.replicate (1 : Int).toNat xs).flatten = xs := by simp
        rw [this]; exact h2
    · have n1 : vs ≠ [] := fun e => hn (.inl e)
      have n2 : n ≠ 1 := fun e => hn (.inr e)
      by_cases h0 : n ≤ 0
      · refine .inr (.inr ⟨p, n, vs, rfl, rb, ex.t h1, hc1, h0, n1, fun q hq => k _ _ _ (Stp.laid ex hq) ⟨q, [], rfl, SqT.of upd_same, ?_⟩⟩)
        rw [show n.toNat = 0 by omega]; rfl
      · exact .inl ⟨p, n, vs, rfl, rb, ex.t h1, n1, by omega, hc2, by rw [← hl]; exact hc3, fun q hq => k _ _ _ (Stp.laid ex hq) ⟨q, _, rfl, SqT.of upd_same, (h2.rep _).mono (Ex.new (ex.none hq))⟩⟩
/-- a list of one's own -/
def Lown (o : Wo) (F H : Hp) : D → V → Prop := fun d v => ∃ xs a vs, d = .lst xs ∧ v = .ref a ∧ H a = some (.lst vs) ∧ RpL o F xs vs
end
end DL
set_option Elab.async false
set_option linter.all false
set_option maxRecDepth 100000
set_option maxHeartbeats 1000000
/-! A new list times a number, isinstance, in. -/
namespace DL
open PySem PySem.Spec PyProof.Rows L2
section
variable {X : Cx} {T : Tk} {Z : Fx} {W : WX}
theorem RpR.int_of {o : Wo} {fp : List Addr} {F H : Hp} {i : Int} {v : V} (h : RpR o fp F H (.int i) v) : v = .int i := h
theorem df_rep {a b : Expr} {fa fb : Env → M T.S D} {pos : Pos} (ha : DF X T Z W a fa) (hb : DR X T Z W b fb) : DF X T Z W (.BinOp a .Mult b pos) (dBin repLD fa fb) :=
  (pe_op op_rep ha hb).imp fun σ H Q ⟨F, ρ, s, r, q⟩ => rdF.seq r q fun d1 s1 F1 H1 a1 r1 st1 n1 n2 ow q1 => rdR.seq r1 q1 fun d2 s2 F2 H2 v2 r2 st2 rv2 q2 => by
    obtain ⟨d, e, k⟩ := q2.opt
    match d1, d2, e, ow, rv2 with
    | .lst xs, .int n, e, ow, rv2 =>
      obtain ⟨⟨h1, h2, hz⟩, rfl⟩ := ifs (show (if -(2 ^ 63) ≤ n ∧ n < 2 ^ 63 ∧ xs.length * n.toNat ≤ sizeLine then some (D.lst (List.replicate n.toNat xs).flatten) else none) = some d from e)
      obtain ⟨vs, g1, g2⟩ := ow
      have na : a1 ∉ Z.fp := fun hm => by
        cases e2 : H a1 with
        | none => exact r.fpH a1 hm e2
        | some u => rw [n1] at e2; cases e2
      refine ⟨a1, n, vs, rfl, rv2, st2.hh _ _ g1 na, h1, h2, by rw [← g2.length]; exact hz, fun p hp => ?_⟩
      exact k F2 _ (Stp.hid r2.ex hp) (r2.at' (Stp.hid r2.ex hp)) p (st1.back r1.fpH (st2.back r2.fpH hp)) (r2.ex.none hp) ⟨_, upd_same, (g2.mono st2.ff).rep _⟩
end

/-! ### isinstance -/
inductive Ty where
  | int | bool | str | tuple | list | dict
def Ty.nm : Ty → String
  | .int => "int" | .bool => "bool" | .str => "str" | .tuple => "tuple" | .list => "list" | .dict => "dict"
def isB : D → Ty → Option Bool
  | .non, _ => some false
  | .bl _, .int => some true
  | .bl _, .bool => some true
  | .bl _, _ => some false
  | .int _, .int => some true
  | .int _, _ => some false
  | .str _, .str => some true
  | .str _, _ => some false
  | .tup _, .tuple => some true
  | .tup _, _ => some false
  | .lst _, .list => some true
  | .lst _, _ => some false
  | .dct _, .dict => some true
  | .dct _, _ => some false
  | _, _ => none
def isiD (t : Ty) (d : D) : Option D := (isB d t).map .bl
def isi2D (t u : Ty) (d : D) : Option D := match isB d t, isB d u with
  | some a, some b => some (.bl (a || b))
  | _, _ => none
def tyN : D → String
  | .non => "NoneType" | .bl _ => "bool" | .int _ => "int" | .str _ => "str" | .tup _ => "tuple" | .lst _ => "list" | .dct _ => "dict" | _ => ""
theorem isB_ty {o : Wo} {fp : List Addr} {F H : Hp} (ex : Ex F H) {d : D} {v : V} {t : Ty} {b : Bool} (h : RpR o fp F H d v) (e : isB d t = some b) : TyX o.K H v (.type (tyN d)) ∧ kitB (tyN d) t.nm = some b := by
  match d, h, e with
  | .non, h, e => cases t <;> cases e <;> exact ⟨by rw [show v = _ from h]; exact .base .non, by simp only [tyN]; decide +kernel⟩
  | .bl _, h, e => cases t <;> cases e <;> exact ⟨by rw [show v = _ from h]; exact .base (.bl _), by simp only [tyN]; decide +kernel⟩
  | .int _, h, e => cases t <;> cases e <;> exact ⟨by rw [show v = _ from h]; exact .base (.int _), by simp only [tyN]; decide +kernel⟩
  | .str _, h, e => cases t <;> cases e <;> exact ⟨by rw [show v = _ from h]; exact .base (.str _), by simp only [tyN]; decide +kernel⟩
  | .tup _, h, e =>
    obtain ⟨a, vs, rfl, h1, _⟩ := h
    have ty : TyX o.K H (.ref a) (.type "tuple") := by
      rcases ex.t h1 with (h1 | ⟨ob, h1⟩) | ⟨ob, its, n, h1, hc, _⟩
      · exact .base (.tup h1)
      · exact .fTuple h1
      · exact .kTuple h1 hc
    cases t <;> cases e <;> exact ⟨ty, by simp only [tyN]; decide +kernel⟩
  | .lst _, h, e =>
    obtain ⟨a, vs, rfl, h1, _⟩ := h
    have ty : TyX o.K H (.ref a) (.type "list") := by
      rcases h1.1 with h1 | ⟨ob, h1⟩
      · exact .base (.lst h1)
      · exact .base (.frz h1)
    cases t <;> cases e <;> exact ⟨ty, by simp only [tyN]; decide +kernel⟩
  | .dct _, h, e =>
    obtain ⟨a, vs, rfl, h1, _⟩ := h
    cases t <;> cases e <;> exact ⟨.base (.dK h1), by simp only [tyN]; decide +kernel⟩
  | .st _, _, e => cases t <;> cases e
  | .fn _, _, e => cases t <;> cases e
  | .exc _ _, _, e => cases t <;> cases e
  | .tok, _, e => cases t <;> cases e
section
variable {X : Cx} {T : Tk} {Z : Fx} {W : WX}
theorem pe_ty {t : Ty} {x : Str} {pos : Pos} (hx : x = Str.ofString t.nm) (hm : X.mg x = none) (hg : Gl X x) : PE X (.Name x pos) (tC (.ty t.nm)) := by
  subst hx
  cases t <;> exact pe_bltn hg hm (u := .type _) (by decide +kernel) rfl (by decide) (by decide)
theorem de_isi (t : Ty) {x : Str} {p p2 pos : Pos} {e : Expr} {f : Env → M T.S D} (hi : X.mg "isinstance" = none) (hm : X.mg x = none) (h : DR X T Z W e f) (hx : x = Str.ofString t.nm := by rfl) (hg : Gl X "isinstance" := by rfl) (hg2 : Gl X x := by rfl)
    (he : starEach [e, .Name x p2] X.env = (false, eval e X.env) :: starEach [.Name x p2] X.env := by rfl) (he2 : starEach [.Name x p2] X.env = (false, eval (.Name x p2) X.env) :: starEach [] X.env := by rfl) (hpl : (backTo pos (starEach [.Name x p2] X.env)).any (·.1) = false := by rfl) :
    DE X T Z W (.Call (.Name "isinstance" p) [e, .Name x p2] [] pos) (dUn (isiD t) f) :=
  (pe_callB call_isi hg hi (by decide +kernel) (pa_cons h (pa_cons (pe_ty hx hm hg2) pa_nil he2) he) (by decide) (by decide) he hpl).imp fun σ H Q ⟨F, ρ, s, r, q⟩ => rdR.seq r q fun d1 s1 F1 H1 v1 r1 st1 rv1 q1 => by
    obtain ⟨d, e, k⟩ := q1.opt
    have k := k F1 H1 (Stp.refl r1.ex) r1.at_
    unfold isiD at e
    cases eb : isB d1 t with
    | none => rw [eb] at e; cases e
    | some b =>
      rw [eb] at e
      cases e
      obtain ⟨ty, kb⟩ := isB_ty r1.ex rv1 eb
      exact ⟨v1, .ty t.nm, .type (tyN d1), .type t.nm, b, rfl, .ty _, ty, kit_ty kb, k _ rfl⟩
theorem kit_any2 {K : PySem.W.Frag} {c a b : String} {x y : Bool} (h1 : kitB c a = some x) (h2 : kitB c b = some y) : PySem.W.kitAny K (.type c) [.type a, .type b] = some (x || y) := by
  have e1 := kit_ty (K := K) h1
  have e2 := kit_ty (K := K) h2
  simp only [PySem.W.kitAny, e1, e2]
  cases x <;> cases y <;> rfl
theorem de_isi2 (t u : Ty) {x y : Str} {k1 : Nat} {p p2 p3 p4 pos : Pos} {e : Expr} {f : Env → M T.S D} (hi : X.mg "isinstance" = none) (hm : X.mg x = none) (hm2 : X.mg y = none) (h : DR X T Z W e f) (hx : x = Str.ofString t.nm := by rfl) (hy : y = Str.ofString u.nm := by rfl) (hg : Gl X "isinstance" := by rfl) (hg2 : Gl X x := by rfl) (hg3 : Gl X y := by rfl)
    (he : starEach [e, .Tuple [.Name x p2, .Name y p3] k1 p4] X.env = (false, eval e X.env) :: starEach [.Tuple [.Name x p2, .Name y p3] k1 p4] X.env := by rfl) (he2 : starEach [.Tuple [.Name x p2, .Name y p3] k1 p4] X.env = (false, eval (.Tuple [.Name x p2, .Name y p3] k1 p4) X.env) :: starEach [] X.env := by rfl) (he3 : starEach [.Name x p2, .Name y p3] X.env = (false, eval (.Name x p2) X.env) :: starEach [.Name y p3] X.env := by rfl) (he4 : starEach [.Name y p3] X.env = (false, eval (.Name y p3) X.env) :: starEach [] X.env := by rfl)
    (hpl : (backTo pos (starEach [.Tuple [.Name x p2, .Name y p3] k1 p4] X.env)).any (·.1) = false := by rfl) :
    DE X T Z W (.Call (.Name "isinstance" p) [e, .Tuple [.Name x p2, .Name y p3] k1 p4] [] pos) (dUn (isi2D t u) f) :=
  (pe_callB call_isiT hg hi (by decide +kernel) (pa_cons h (pa_cons (pe_tup (pa_cons (pe_ty hx hm hg2) (pa_cons (pe_ty hy hm2 hg3) pa_nil he4) he3)) pa_nil he2) he) (by decide) (by decide) he hpl).imp fun σ H Q ⟨F, ρ, s, r, q⟩ => rdR.seq r q fun d1 s1 F1 H1 v1 r1 st1 rv1 q1 => by
    obtain ⟨d, e, k⟩ := q1.opt
    unfold isi2D at e
    cases eb : isB d1 t with
    | none => rw [eb] at e; cases e
    | some b =>
      cases ec : isB d1 u with
      | none => rw [eb, ec] at e; cases e
      | some b2 =>
        rw [eb, ec] at e
        cases e
        refine ⟨by show 2 ≤ sizeLine; decide, fun pt hp => ?_⟩
        have st := Stp.hid (fp := []) (o := .tup [V.ty t.nm, V.ty u.nm]) r1.ex hp
        have k := k F1 _ st.mono (r1.at' st)
        have rv2 := rv1.mono st.ff fun a u h _ => st.ex a u h
        obtain ⟨ty, kb⟩ := isB_ty st.fh rv2 eb
        obtain ⟨_, kb'⟩ := isB_ty st.fh rv2 ec
        exact ⟨v1, pt, _, .type (tyN d1), [.type t.nm, .type u.nm], b || b2, rfl, upd_same, .cons (.ty _) (.cons (.ty _) .nil), ty, kit_any2 kb kb', k _ rfl⟩
end

/-! ### in, not in -/
def flatD : D → Bool
  | .non => true
  | .bl _ => true
  | .int _ => true
  | .str _ => true
  | _ => false
def eqF : D → D → Bool
  | .non, .non => true
  | .bl a, .bl b => a == b
  | .bl a, .int b => (if a then 1 else 0) == b
  | .int a, .bl b => a == (if b then 1 else 0)
  | .int a, .int b => a == b
  | .str a, .str b => a == b
  | _, _ => false
def inL (x : D) (ys : List D) : Option D := if flatD x = true ∧ ys.all flatD = true then some (.bl (ys.any fun y => eqF y x)) else none
def inD : D → D → Option D
  | x, .tup ys => inL x ys
  | x, .lst ys => inL x ys
  | _, _ => none
def notinD (a b : D) : Option D := notD (inD a b)
theorem flat_rp {o : Wo} {fp : List Addr} {F H : Hp} {d : D} {v : V} (h : RpR o fp F H d v) (f : flatD d = true) : flatV v = true ∧ ∀ e w, flatD e = true → RpR o fp F H e w → eqV v w = eqF d e := by
  have go : ∀ e w, flatD e = true → RpR o fp F H e w → (e = .non ∧ w = .non) ∨ (∃ b, e = .bl b ∧ w = .bl b) ∨ (∃ b, e = .int b ∧ w = .int b) ∨ (∃ b, e = .str b ∧ w = .str b) := fun e w fe he => by
    cases e with
    | non => exact .inl ⟨rfl, he⟩
    | bl b => exact .inr (.inl ⟨b, rfl, he⟩)
    | int b => exact .inr (.inr (.inl ⟨b, rfl, he⟩))
    | str b => exact .inr (.inr (.inr ⟨b, rfl, he⟩))
    | _ => cases fe
  rcases go d v f h with ⟨rfl, rfl⟩ | ⟨b, rfl, rfl⟩ | ⟨b, rfl, rfl⟩ | ⟨b, rfl, rfl⟩
  all_goals
    refine ⟨rfl, fun e w fe he => ?_⟩
    rcases go e w fe he with ⟨rfl, rfl⟩ | ⟨c, rfl, rfl⟩ | ⟨c, rfl, rfl⟩ | ⟨c, rfl, rfl⟩ <;> rfl
theorem flat_all {o : Wo} {F H : Hp} (ex : Ex F H) {x : D} {v : V} (hx : RpR o [] F H x v) (fx : flatD x = true) : ∀ {ys : List D} {vs : List V}, RpL o F ys vs → ys.all flatD = true → vs.all flatV = true ∧ inV v vs = ys.any fun y => eqF y x
  | [], _, h, _ => by rw [show _ = _ from h]; exact ⟨rfl, rfl⟩
  | y :: ys, _, ⟨w, r, e1, e2, e3⟩, f => by
    subst e1
    rw [List.all_cons, Bool.and_eq_true] at f
    obtain ⟨i1, i2⟩ := flat_all ex hx fx e3 f.2
    obtain ⟨j1, j2⟩ := flat_rp (e2.r (fp := []) ex (fun _ h => by cases h)) f.1
    unfold inV at i2 ⊢
    rw [List.all_cons, List.any_cons, List.any_cons, i1, i2, j1, j2 x v fx hx]
    exact ⟨rfl, rfl⟩
section
variable {X : Cx}
theorem op_inQ : OpR X (compareOp .In) (rB (wo X) inD) := OpR.imp op_in_seq fun x y H Q ⟨F, a, b, d, ex, ra, rb, e, k⟩ => by
  match b, e, rb with
  | .tup ys, e, rb =>
    obtain ⟨⟨c1, c2⟩, rfl⟩ := ifs (show (if flatD a = true ∧ ys.all flatD = true then some (D.bl (ys.any fun y => eqF y a)) else none) = some d from e)
    obtain ⟨p, vs, rfl, h1, h2⟩ := rb
    obtain ⟨g1, g2⟩ := flat_all ex ra c1 h2 c2
    exact ⟨p, vs, rfl, .inr (ex.t h1), (flat_rp ra c1).1, g1, by rw [if_neg Bool.false_ne_true, g2]; exact k _ F H (Stp.refl ex) rfl⟩
  | .lst ys, e, rb =>
    obtain ⟨⟨c1, c2⟩, rfl⟩ := ifs (show (if flatD a = true ∧ ys.all flatD = true then some (D.bl (ys.any fun y => eqF y a)) else none) = some d from e)
    obtain ⟨p, vs, rfl, h1, h2⟩ := rb
    obtain ⟨g1, g2⟩ := flat_all ex ra c1 h2 c2
    exact ⟨p, vs, rfl, .inl h1.l, (flat_rp ra c1).1, g1, by rw [if_neg Bool.false_ne_true, g2]; exact k _ F H (Stp.refl ex) rfl⟩
theorem op_notinQ : OpR X (compareOp .NotIn) (rB (wo X) notinD) := OpR.imp op_notIn_seq fun x y H Q ⟨F, a, b, d, ex, ra, rb, e, k⟩ => by
  have go : ∀ ys, inL a ys = none → notD (inL a ys) = some d → False := fun ys h1 h2 => by rw [h1] at h2; cases h2
  match b, e, rb with
  | .tup ys, e, rb =>
    by_cases c : flatD a = true ∧ ys.all flatD = true
    · have e : notD (if flatD a = true ∧ ys.all flatD = true then some (D.bl (ys.any fun y => eqF y a)) else none) = some d := e
      rw [if_pos c] at e
      cases e
      obtain ⟨p, vs, rfl, h1, h2⟩ := rb
      obtain ⟨g1, g2⟩ := flat_all ex ra c.1 h2 c.2
      exact ⟨p, vs, rfl, .inr (ex.t h1), (flat_rp ra c.1).1, g1, by rw [if_pos rfl, g2]; exact k _ F H (Stp.refl ex) rfl⟩
    · exact (go ys (if_neg c) e).elim
  | .lst ys, e, rb =>
    by_cases c : flatD a = true ∧ ys.all flatD = true
    · have e : notD (if flatD a = true ∧ ys.all flatD = true then some (D.bl (ys.any fun y => eqF y a)) else none) = some d := e
      rw [if_pos c] at e
      cases e
      obtain ⟨p, vs, rfl, h1, h2⟩ := rb
      obtain ⟨g1, g2⟩ := flat_all ex ra c.1 h2 c.2
      exact ⟨p, vs, rfl, .inl h1.l, (flat_rp ra c.1).1, g1, by rw [if_pos rfl, g2]; exact k _ F H (Stp.refl ex) rfl⟩
    · exact (go ys (if_neg c) e).elim
end
end DL
set_option Elab.async false
set_option linter.all false
set_option maxRecDepth 100000
set_option maxHeartbeats 1000000
/-! What is walked: items; targets; comprehensions. -/
namespace DL
open PySem PySem.Spec PyProof.Rows L2

/-- J yields these items, whatever the heaps become -/
def ItR (o : Wo) (F : Hp) (items : List D) (J : It) : Prop := ∀ F1 H1, Ex F F1 → Ex F1 H1 → ∀ i,
  (i < items.length → J.go i H1 ∧ ∀ x H2, J.yld i H1 x H2 → ∃ F2, Stp [] F1 H1 F2 H2 ∧ ∀ d, items[i]? = some d → Rp o F2 d x) ∧ (items.length ≤ i → J.stop i H1)
def rdI (o : Wo) (T : Tk) (Z : Fx) (W : WX) (f : Env → M T.S (List D)) : TI := fun σ H R => ∃ F ρ s, Rl o T Z F H ρ s σ ∧ Out o T Z W F H σ (f ρ s) fun ds _ F' H' => ∀ J, ItR o F' ds J → R J H'
abbrev DI (X : Cx) (T : Tk) (Z : Fx) (W : WX) (tg iter : Expr) (f : Env → M T.S (List D)) : Prop := PI X tg iter (rdI (wo X) T Z W f)
theorem _root_.L2.PI.imp {X : Cx} {tg iter : Expr} {t t' : TI} (h : PI X tg iter t) (k : ∀ σ H R, t' σ H R → t σ H R) : PI X tg iter t' := ⟨fun pins s σ H R I q => h.run pins s σ H R I (k σ H R q)⟩
theorem _root_.L2.PI.or {X : Cx} {tg iter : Expr} {t t' : TI} (h : PI X tg iter t) (h' : PI X tg iter t') : PI X tg iter (fun σ H R => t σ H R ∨ t' σ H R) := ⟨fun pins s σ H R I q => q.elim (h.run pins s σ H R I) (h'.run pins s σ H R I)⟩
def itemsD : D → Option (List D)
  | .lst xs => some xs
  | .tup xs => some xs
  | .str z => some (z.cps.toList.map fun c => D.str ⟨#[c]⟩)
  | .st xs => some xs
  | _ => none
def dItems {S : Type} (f : Env → M S D) : Env → M S (List D) := fun ρ => do
  let d ← f ρ
  M.opt (itemsD d)
/-- the item is what stands there in any reading -/
theorem itl_any {o : Wo} {F : Hp} {a : Addr} {xs : List D} {vs : List V} (K : PySem.W.Frag) (h : SqL K F a vs) (r : RpL o F xs vs) : ItR o F xs (Itl K a) := fun F1 H1 e1 e2 i => by
  have hq : SqL K H1 a vs := e2.l (e1.l h)
  refine ⟨fun hi => ⟨?_, fun x H2 y => ?_⟩, fun hi => ⟨vs, hq, by rw [← r.length]; exact hi⟩⟩
  · obtain ⟨v, g1, g2⟩ := r.get (List.getElem?_eq_getElem hi)
    exact ⟨vs, v, hq, g1⟩
  · obtain ⟨rfl, y⟩ := y
    refine ⟨F1, Stp.refl e2, fun d hd => ?_⟩
    obtain ⟨v, g1, g2⟩ := r.get hd
    have := y vs hq
    rw [g1] at this; cases this
    exact g2.mono e1
theorem itt_any {o : Wo} {F : Hp} {a : Addr} {xs : List D} {vs : List V} (K : PySem.W.Frag) (h : SqT K F a vs) (r : RpL o F xs vs) : ItR o F xs (Itt K a) := fun F1 H1 e1 e2 i => by
  have hq : SqT K H1 a vs := e2.t (e1.t h)
  refine ⟨fun hi => ⟨?_, fun x H2 y => ?_⟩, fun hi => ⟨vs, hq, by rw [← r.length]; exact hi⟩⟩
  · obtain ⟨v, g1, g2⟩ := r.get (List.getElem?_eq_getElem hi)
    exact ⟨vs, v, hq, g1⟩
  · obtain ⟨rfl, y⟩ := y
    refine ⟨F1, Stp.refl e2, fun d hd => ?_⟩
    obtain ⟨v, g1, g2⟩ := r.get hd
    have := y vs hq
    rw [g1] at this; cases this
    exact g2.mono e1
theorem its_any {o : Wo} {F : Hp} (z : Str) : ItR o F (z.cps.toList.map fun c => D.str ⟨#[c]⟩) (Its z) := fun F1 H1 e1 e2 i => by
  rw [List.length_map, Array.length_toList]
  refine ⟨fun hi => ⟨hi, fun x H2 y => ?_⟩, fun hi => hi⟩
  obtain ⟨rfl, c, hc, rfl⟩ := y
  refine ⟨F1, Stp.refl e2, fun d hd => ?_⟩
  rw [List.getElem?_map, Array.getElem?_toList, hc] at hd
  cases hd
  rfl
def rangeL (i j : Int) : List D := (List.range (j - i).toNat).map fun k : Nat => D.int (i + k)
theorem itr_any {o : Wo} {F : Hp} {lo : Int} {n : Nat} : ItR o F ((List.range n).map fun k : Nat => D.int (lo + k)) (Itr lo n) := fun F1 H1 e1 e2 i => by
  rw [List.length_map, List.length_range]
  refine ⟨fun hi => ⟨hi, fun x H2 ⟨h1, h2⟩ => ?_⟩, fun hi => hi⟩
  subst h1 h2
  refine ⟨F1, Stp.refl e2, fun d hd => ?_⟩
  rw [List.getElem?_map, List.getElem?_range hi] at hd
  cases hd
  rfl
def range1D : List D → Option (List D)
  | [.int j] => if -(2 ^ 62) ≤ j ∧ j < 2 ^ 62 then some (rangeL 0 j) else none
  | _ => none
def range2D : List D → Option (List D)
  | [.int i, .int j] => if -(2 ^ 62) ≤ i ∧ i < 2 ^ 62 ∧ -(2 ^ 62) ≤ j ∧ j < 2 ^ 62 then some (rangeL i j) else none
  | _ => none
def dSeq {S : Type} (g : List D → Option (List D)) (f : Env → M S (List D)) : Env → M S (List D) := fun ρ => do
  let d ← f ρ
  M.opt (g d)
section
variable {X : Cx} {T : Tk} {Z : Fx} {W : WX}
/-- what is walked by its value: a list, a tuple, a text -/
def iAny (K : PySem.W.Frag) (tl : TE) : TI := fun σ H R => tl σ H fun x H1 => (∃ a, x = .ref a ∧ (∃ xs, SqL K H1 a xs) ∧ R (Itl K a) H1) ∨ (∃ a, x = .ref a ∧ (∃ xs, SqT K H1 a xs) ∧ R (Itt K a) H1) ∨ ∃ z, x = .str z ∧ R (Its z) H1
theorem pi_any {tg l : Expr} {tl : TE} (hl : PE X l tl) : PI X tg l (iAny X.K tl) := by
  refine ⟨fun pins s σ H R I h => thn (hl.run pins s σ H _ I h) fun v s1 ⟨x, H1, J, r1, q1⟩ => ?_⟩
  have fp : ∀ b ∈ [s1.heap.objs.size], FpOk X pins H1 b := fun b hb => by
    obtain rfl : b = s1.heap.objs.size := by simpa using hb
    exact J.fpOk (Nat.le_refl _) (J.hok.fresh (Nat.le_refl _))
  rcases q1 with ⟨a, rfl, ⟨xs, hq⟩, q⟩ | ⟨a, rfl, ⟨xs, hq⟩, q⟩ | ⟨z, rfl, q⟩
  · cases r1
    obtain ⟨its, rv, p, hz⟩ := J.list hq
    exact wpAny_pyIter_list p.isList ⟨_, [s1.heap.objs.size], _, _, H1, rfl, J.kept (t' := s1.toks) fun b o e => Heap.get?_push_of_some _ e, turn_list a _, ⟨_, Heap.get?_push_size _ rfl, rfl, rfl⟩, fp, q⟩
  · cases r1
    obtain ⟨its, rv, p, hz⟩ := J.tuple hq
    exact wpAny_pyIter_tuple (show s1.heap.IsTuple a its.toArray from p) ⟨_, [s1.heap.objs.size], _, _, H1, rfl, J.kept (t' := s1.toks) fun b o e => Heap.get?_push_of_some _ e, turn_tuple a _, ⟨_, Heap.get?_push_size _ rfl, rfl, rfl⟩, fp, q⟩
  · obtain ⟨t, rfl⟩ := r1
    cases ha : z.cps.all (· < 128)
    · exact wpAny_pyIter_wide ha (pi_one (tk := s1.toks) J _ (turn_str _ z t "str_iterator" (.inr rfl)) ⟨_, Heap.get?_push_size _ rfl, rfl, rfl⟩ q)
    · exact wpAny_pyIter_ascii ha (pi_one (tk := s1.toks) J _ (turn_str _ z t "str_ascii_iterator" (.inl rfl)) ⟨_, Heap.get?_push_size _ rfl, rfl, rfl⟩ q)
theorem di_seq {tg e : Expr} {f : Env → M T.S D} (h : DE X T Z W e f) : DI X T Z W tg e (dItems f) :=
  (pi_any (tg := tg) h).imp fun σ H R ⟨F, ρ, s, r, q⟩ => rd.seq r q fun d s1 F1 H1 v r1 st1 rv q1 => by
    obtain ⟨ds, e, k⟩ := q1.opt
    have k := k F1 H1 (Stp.refl r1.ex) r1.at_
    match d, e, rv with
    | .lst xs, e, rv =>
      cases e
      obtain ⟨a, vs, rfl, h1, h2⟩ := rv
      exact .inl ⟨a, rfl, ⟨vs, .inl (r1.ex.rd h1)⟩, k _ (itl_any _ (.inl h1) h2)⟩
    | .tup xs, e, rv =>
      cases e
      obtain ⟨a, vs, rfl, h1, h2⟩ := rv
      exact .inr (.inl ⟨a, rfl, ⟨vs, r1.ex.t h1⟩, k _ (itt_any _ h1 h2)⟩)
    | .st xs, e, rv =>
      cases e
      obtain ⟨a, vs, rfl, h1, h2⟩ := rv
      exact .inl ⟨a, rfl, ⟨vs, r1.ex.l h1⟩, k _ (itl_any _ h1 h2)⟩
    | .str z, e, rv =>
      cases e
      exact .inr (.inr ⟨z, rv, k _ (its_any z)⟩)
theorem RpRL.ints1 {o : Wo} {fp : List Addr} {F H : Hp} {j : Int} {vs : List V} (h : RpRL o fp F H [.int j] vs) : vs = [.int j] := by
  obtain ⟨v, rfl, e⟩ := h.one
  rw [show v = _ from e]
theorem RpRL.ints2 {o : Wo} {fp : List Addr} {F H : Hp} {i j : Int} {vs : List V} (h : RpRL o fp F H [.int i, .int j] vs) : vs = [.int i, .int j] := by
  obtain ⟨v, w, rfl, e1, e2⟩ := h.two
  rw [show v = _ from e1, show w = _ from e2]
theorem di_range1 {tg a : Expr} {p pos : Pos} {f : Env → M T.S (List D)} (hm : X.mg "range" = none) (h : DAR X T Z W [a] f) (hg : Gl X "range" := by rfl) (hs : starEach [a] X.env = [(false, eval a X.env)] := by rfl) : DI X T Z W tg (.Call (.Name "range" p) [a] [] pos) (dSeq range1D f) :=
  (pi_range1 (tg := tg) hg hm h hs).imp fun σ H R ⟨F, ρ, s, r, q⟩ => rdAR.seq r q fun d s1 F1 H1 vs r1 st1 rv q1 => by
    obtain ⟨ds, e, k⟩ := q1.opt
    have k := k F1 H1 (Stp.refl r1.ex) r1.at_
    match d, e, rv with
    | [.int j], e, rv =>
      obtain ⟨hc, rfl⟩ := ifs (show (if -(2 ^ 62) ≤ j ∧ j < 2 ^ 62 then some (rangeL 0 j) else none) = some ds from e)
      refine ⟨j, rv.ints1, hc.1, hc.2, k _ ?_⟩
      unfold rangeL
      rw [Int.sub_zero]
      exact itr_any
theorem di_range2 {tg a b : Expr} {p pos : Pos} {f : Env → M T.S (List D)} (hm : X.mg "range" = none) (h : DAR X T Z W [a, b] f) (hg : Gl X "range" := by rfl) (hs : starEach [a, b] X.env = [(false, eval a X.env), (false, eval b X.env)] := by rfl) (hs2 : starEach [b] X.env = [(false, eval b X.env)] := by rfl) : DI X T Z W tg (.Call (.Name "range" p) [a, b] [] pos) (dSeq range2D f) :=
  (pi_range2 (tg := tg) hg hm h hs hs2).imp fun σ H R ⟨F, ρ, s, r, q⟩ => rdAR.seq r q fun d s1 F1 H1 vs r1 st1 rv q1 => by
    obtain ⟨ds, e, k⟩ := q1.opt
    have k := k F1 H1 (Stp.refl r1.ex) r1.at_
    match d, e, rv with
    | [.int i, .int j], e, rv =>
      obtain ⟨hc, rfl⟩ := ifs (show (if -(2 ^ 62) ≤ i ∧ i < 2 ^ 62 ∧ -(2 ^ 62) ≤ j ∧ j < 2 ^ 62 then some (rangeL i j) else none) = some ds from e)
      exact ⟨i, j, rv.ints2, hc, k _ itr_any⟩
end

/-! ### targets -/
/-- where a value goes: names, tuples of names -/
def rdG (o : Wo) (T : Tk) (Z : Fx) (us : List Nat) (g : D → Env → Option Env) : TG := fun v σ H Q => ∃ F ρ s d ρ', Rl o T Z F H ρ s σ ∧ Rp o F d v ∧ g d ρ = some ρ' ∧ ∀ σ', Rl o T Z F H ρ' s σ' → wipe σ' us = wipe σ us → Q σ' H
def rdGs (o : Wo) (T : Tk) (Z : Fx) (us : List Nat) (g : List D → Env → Option Env) : TGs := fun vs σ H Q => ∃ F ρ s ds ρ', Rl o T Z F H ρ s σ ∧ RpL o F ds vs ∧ g ds ρ = some ρ' ∧ ∀ σ', Rl o T Z F H ρ' s σ' → wipe σ' us = wipe σ us → Q σ' H
abbrev DG (X : Cx) (T : Tk) (Z : Fx) (us : List Nat) (tg : Expr) (g : D → Env → Option Env) : Prop := PG X tg (rdG (wo X) T Z us g)
abbrev DGs (X : Cx) (T : Tk) (Z : Fx) (us : List Nat) (tgs : List Expr) (g : List D → Env → Option Env) : Prop := PGs X tgs (rdGs (wo X) T Z us g)
theorem set_set {α : Type} (l : List α) (i : Nat) (x y : α) : (l.set i x).set i y = l.set i y := by
  apply List.ext_getElem?
  intro j
  by_cases h : i = j
  · subst h
    by_cases hl : i < l.length
    · rw [List.getElem?_set_self (by rw [List.length_set]; exact hl), List.getElem?_set_self hl]
    · rw [List.getElem?_eq_none (by simp; omega), List.getElem?_eq_none (by simp; omega)]
  · rw [List.getElem?_set_ne h, List.getElem?_set_ne h, List.getElem?_set_ne h]
theorem wipe_set (σ : L2.St) (i : Nat) (x : Option V) : ∀ us : List Nat, wipe (σ.set i x) us = if i ∈ us then wipe σ us else (wipe σ us).set i x
  | [] => by rw [if_neg (by simp)]; rfl
  | u :: us => by
    show (wipe (σ.set i x) us).set u none = _
    rw [wipe_set σ i x us]
    by_cases h : i ∈ us
    · rw [if_pos h, if_pos (List.mem_cons_of_mem _ h)]; rfl
    · rw [if_neg h]
      by_cases hu : i = u
      · subst hu
        rw [if_pos (List.mem_cons_self ..), set_set]; rfl
      · rw [if_neg (by rw [List.mem_cons]; exact fun z => z.elim hu h), List.set_comm _ _ hu]; rfl
theorem _root_.L2.PG.imp {X : Cx} {tg : Expr} {t t' : TG} (h : PG X tg t) (k : ∀ v σ H Q, t' v σ H Q → t v σ H Q) : PG X tg t' := ⟨fun pins s σ H v u Q I r q => h.run pins s σ H v u Q I r (k v σ H Q q)⟩
theorem _root_.L2.PGs.imp {X : Cx} {tg : List Expr} {t t' : TGs} (h : PGs X tg t) (k : ∀ v σ H Q, t' v σ H Q → t v σ H Q) : PGs X tg t' := ⟨fun pins s σ H v u Q I r q => h.run pins s σ H v u Q I r (k v σ H Q q)⟩
def gSet (i : Nat) : D → Env → Option Env := fun d ρ => some (ρ.set i (some d))
def gsNil : List D → Env → Option Env := fun ds ρ => match ds with
  | [] => some ρ
  | _ => none
def gsCons (g : D → Env → Option Env) (gs : List D → Env → Option Env) : List D → Env → Option Env := fun ds ρ => match ds with
  | d :: r => (g d ρ).bind (gs r)
  | _ => none
def gTupD (n : Nat) (gs : List D → Env → Option Env) : D → Env → Option Env := fun d ρ => match d with
  | .tup xs => if xs.length = n then gs xs ρ else none
  | .lst xs => if xs.length = n then gs xs ρ else none
  | _ => none
/-- a slot that stands still is set -/
theorem Rl.set {o : Wo} {T : Tk} {Z : Fx} {F H : Hp} {ρ : Env} {s : T.S} {σ : L2.St} {i : Nat} {d : D} {v : V} (r : Rl o T Z F H ρ s σ) (hm : Z.md i = .sh) (rv : Rp o F d v) : Rl o T Z F H (ρ.set i (some d)) s (σ.set i (some v)) := by
  refine ⟨r.st, r.at_, r.fpz, fun j e hj => ?_, fun j k a d1 e1 hjk h1 h2 h3 h4 h5 h6 => ?_, by rw [List.length_set, List.length_set]; exact r.len⟩
  · by_cases hji : j = i
    · subst hji
      have hl : j < ρ.length := by
        have := (List.getElem?_eq_some_iff.mp hj).1
        rwa [List.length_set] at this
      rw [List.getElem?_set_self hl] at hj
      cases hj
      refine ⟨v, by rw [List.getElem?_set_self (by rw [← r.len]; exact hl)], ?_⟩
      unfold Slot
      rw [hm]
      exact rv
    · rw [List.getElem?_set_ne (Ne.symm hji)] at hj
      obtain ⟨w, e1, e2⟩ := r.sl j e hj
      exact ⟨w, by rw [List.getElem?_set_ne (Ne.symm hji)]; exact e1, e2⟩
  · have hj : j ≠ i := fun z => by rw [z, hm] at h1; cases h1
    have hk : k ≠ i := fun z => by rw [z, hm] at h2; cases h2
    rw [List.getElem?_set_ne (Ne.symm hj)] at h3 h5
    rw [List.getElem?_set_ne (Ne.symm hk)] at h4 h6
    exact r.dis j k a d1 e1 hjk h1 h2 h3 h4 h5 h6
section
variable {X : Cx} {T : Tk} {Z : Fx}
theorem dg_name (i : Nat) {x : Str} {pos : Pos} {us : List Nat} (hN : X.N.Nodup) (hu : i ∈ us := by decide) (hm : Z.md i = .sh := by rfl) (hi : X.N[i]? = some x := by rfl) (hx : Loc X.env.scope x := by first | exact .inl rfl | exact .inr rfl) (hf : X.fn x = true ∨ X.env.scope.names.lookup x = some .local := by first | exact .inl rfl | exact .inr rfl | assumption) : DG X T Z us (.Name x pos) (gSet i) :=
  (pg_name hN hi hx hf).imp fun v σ H Q ⟨F, ρ, s, d, ρ', r, rv, e, k⟩ => by
    cases e
    exact k _ (r.set hm rv) (by rw [wipe_set, if_pos hu])
theorem dgs_nil {us : List Nat} : DGs X T Z us [] gsNil := pgs_nil.imp fun v σ H Q ⟨F, ρ, s, ds, ρ', r, rv, e, k⟩ => by
  match ds, e, rv with
  | [], e, rv =>
    cases e
    exact ⟨rv, k _ r rfl⟩
theorem dgs_cons {us : List Nat} {e : Expr} {es : List Expr} {g : D → Env → Option Env} {gs : List D → Env → Option Env} (h : DG X T Z us e g) (hr : DGs X T Z us es gs) (hs : (assignEach (e :: es) X.env).map (·.2) = assign e X.env :: (assignEach es X.env).map (·.2) := by rfl) : DGs X T Z us (e :: es) (gsCons g gs) :=
  (pgs_cons h hr hs).imp fun v σ H Q ⟨F, ρ, s, ds, ρ', r, rv, e, k⟩ => by
    match ds, e, rv with
    | d :: rs, e, rv =>
      obtain ⟨w, ws, rfl, h1, h2⟩ := rv
      have e : (g d ρ).bind (gs rs) = some ρ' := e
      cases e1 : g d ρ with
      | none => rw [e1] at e; cases e
      | some ρ1 =>
        rw [e1] at e
        exact ⟨w, ws, rfl, F, ρ, s, d, ρ1, r, h1, e1, fun σ1 r1 w1 => ⟨F, ρ1, s, rs, ρ', r1, h2, e, fun σ2 r2 w2 => k σ2 r2 (w2.trans w1)⟩⟩
theorem ifb {α : Type} {c : Prop} [Decidable c] {x : Option α} {d : α} (h : (if c then x else none) = some d) : c ∧ x = some d := by
  by_cases hc : c
  · rw [if_pos hc] at h; exact ⟨hc, h⟩
  · rw [if_neg hc] at h; cases h
theorem _root_.L2.PG.or {X : Cx} {tg : Expr} {t t' : TG} (h : PG X tg t) (h' : PG X tg t') : PG X tg (fun v σ H Q => t v σ H Q ∨ t' v σ H Q) := ⟨fun pins s σ H v u Q I r q => q.elim (h.run pins s σ H v u Q I r) (h'.run pins s σ H v u Q I r)⟩
theorem dg_tup {us : List Nat} {es : List Expr} {kk : Nat} {pos : Pos} {gs : List D → Env → Option Env} (n : Nat) (hc : X.calm = true) (h : DGs X T Z us es gs) (hn : (assignEach es X.env).length = n := by rfl) (hst : (assignEach es X.env).findIdx? (·.1) = none := by rfl) : DG X T Z us (.Tuple es kk pos) (gTupD n gs) :=
  PG.imp (PG.or (pg_tup hc h hn hst) (pg_unl hc h hn hst)) fun v σ H Q ⟨F, ρ, s, d, ρ', r, rv, e, k⟩ => by
    match d, e, rv with
    | .tup xs, e, rv =>
      obtain ⟨a, vs, rfl, h1, h2⟩ := rv
      obtain ⟨hl, e⟩ := ifb (show (if xs.length = n then gs xs ρ else none) = some ρ' from e)
      exact .inl ⟨a, vs, rfl, r.ex.t h1, by rw [← h2.length]; exact hl, F, ρ, s, xs, ρ', r, h2, e, k⟩
    | .lst xs, e, rv =>
      obtain ⟨a, vs, rfl, h1, h2⟩ := rv
      obtain ⟨hl, e⟩ := ifb (show (if xs.length = n then gs xs ρ else none) = some ρ' from e)
      exact .inr ⟨a, vs, rfl, .inl (r.ex.rd h1), by rw [← h2.length]; exact hl, F, ρ, s, xs, ρ', r, h2, e, k⟩
end
end DL
set_option Elab.async false
set_option linter.all false
set_option maxRecDepth 100000
set_option maxHeartbeats 1000000
/-! List comprehensions. -/
namespace DL
open PySem PySem.Spec PyProof.Rows L2

theorem Stp.mut {fp : List Addr} {F1 H1 F H : Hp} {p : Addr} {u : HO} (st : Stp fp F1 H1 F H) (h1 : H1 p = none) (hF : F p = none) : Stp fp F1 H1 F (upd H p u) :=
  ⟨st.ff, fun a o e => by rw [upd_ne (ne_of_none e hF)]; exact st.fh a o e, st.new, fun a o e ha => by rw [upd_ne (ne_of_none e h1)]; exact st.hh a o e ha⟩
def wipeE (ρ : Env) : List Nat → Env
  | [] => ρ
  | v :: vs => (wipeE ρ vs).set v none
section
variable {o : Wo} {T : Tk} {Z : Fx} {F H F1 H1 : Hp} {ρ : Env} {s s1 : T.S} {σ : L2.St}
theorem Rl.unset {i : Nat} (r : Rl o T Z F H ρ s σ) : Rl o T Z F H (ρ.set i none) s (σ.set i none) := by
  have g : ∀ j d, (ρ.set i none)[j]? = some (some d) → j ≠ i ∧ ρ[j]? = some (some d) := fun j d hj => by
    by_cases hji : j = i
    · subst hji
      have hl : j < ρ.length := by
        have := (List.getElem?_eq_some_iff.mp hj).1
        rwa [List.length_set] at this
      rw [List.getElem?_set_self hl] at hj
      cases hj
    · rw [List.getElem?_set_ne (Ne.symm hji)] at hj
      exact ⟨hji, hj⟩
  refine ⟨r.st, r.at_, r.fpz, fun j e hj => ?_, fun j k a d1 e1 hjk h1 h2 h3 h4 h5 h6 => ?_, by rw [List.length_set, List.length_set]; exact r.len⟩
  · obtain ⟨n, q⟩ := g j e hj
    obtain ⟨w, e1, e2⟩ := r.sl j e q
    exact ⟨w, by rw [List.getElem?_set_ne (Ne.symm n)]; exact e1, e2⟩
  · obtain ⟨n, q⟩ := g j d1 h3
    obtain ⟨n', q'⟩ := g k e1 h4
    rw [List.getElem?_set_ne (Ne.symm n)] at h5
    rw [List.getElem?_set_ne (Ne.symm n')] at h6
    exact r.dis j k a d1 e1 hjk h1 h2 q q' h5 h6
theorem Rl.wipe (r : Rl o T Z F H ρ s σ) : ∀ vs : List Nat, Rl o T Z F H (wipeE ρ vs) s (wipe σ vs)
  | [] => r
  | v :: vs => (Rl.wipe r vs).unset
/-- an object that is new since r1 may be changed -/
theorem Rl.mut {p : Addr} {u : HO} (r1 : Rl o T Z F1 H1 ρ s1 σ) (h1 : H1 p = none) (r : Rl o T Z F H ρ s σ) (hF : F p = none) (at' : T.At o F (upd H p u) Z.p Z.fp s) : Rl o T Z F (upd H p u) ρ s σ := by
  have h0 : Z.H0 p = none := by
    cases e : Z.H0 p with
    | none => rfl
    | some w =>
      by_cases hp : p ∈ Z.fp
      · exact absurd h1 (r1.fpH p hp)
      · rw [r1.st.hh p w e hp] at h1; cases h1
  refine ⟨r.st.mut h0 hF, at', r.fpz, fun i d e => ?_, r.dis, r.len⟩
  obtain ⟨v, e1, h⟩ := r.sl i d e
  refine ⟨v, e1, ?_⟩
  unfold Slot at h ⊢
  cases hm : Z.md i with
  | sh => rw [hm] at h; exact h
  | own =>
    rw [hm] at h
    obtain ⟨a, e2, g1, g2, g3⟩ := h
    obtain ⟨v', e1', h'⟩ := r1.sl i d e
    rw [e1] at e1'; cases e1'
    unfold Slot at h'
    rw [hm] at h'
    obtain ⟨a', e2', _, _, g3'⟩ := h'
    rw [e2] at e2'; cases e2'
    have ne : a ≠ p := fun z => by rw [z] at g3'; exact g3'.some h1
    exact ⟨a, e2, g1, g2, g3.mono (Ex.refl F) fun _ => upd_ne ne⟩
  | bor => rw [hm] at h; exact h
  | tok => rw [hm] at h; exact h
theorem Rl.nfp {p : Addr} (r : Rl o T Z F H ρ s σ) (h : H p = none) : p ∉ Z.fp := fun hp => r.fpH p hp h
theorem Rl.atMut {p : Addr} {u : HO} (hp : p ∉ Z.fp) (a : T.At o F H Z.p Z.fp s) : T.At o F (upd H p u) Z.p Z.fp s := T.loc a (Ex.refl F) fun b hb => upd_ne fun z => hp (z ▸ hb)
theorem Stp.keepF {fp : List Addr} {p : Addr} (st : Stp fp F H F1 H1) (hF : F p = none) (hH : H p ≠ none) : F1 p = none := by
  cases e : F1 p with
  | none => rfl
  | some w => exact absurd (st.new p hF (by rw [e]; exact nofun)) hH
end

/-! ### the semantics -/
section
variable {S : Type}
def compL (g : D → Env → Option Env) (us : List Nat) (ft : Env → M S Bool) (fe : Env → M S D) (ρ : Env) : List D → M S (List D)
  | [] => M.pure []
  | x :: xs => do
    let ρ' ← M.opt (g x (wipeE ρ us))
    let b ← (ft ρ').nox
    if b = true then do
      let y ← (fe ρ').nox
      let r ← compL g us ft fe ρ xs
      M.pure (y :: r)
    else compL g us ft fe ρ xs
def dComp (fi : Env → M S (List D)) (g : D → Env → Option Env) (us : List Nat) (ft : Env → M S Bool) (fe : Env → M S D) : Env → M S D := fun ρ => do
  let xs ← fi ρ
  let xs ← M.opt (if xs.length ≤ sizeLine then some xs else none)
  let ys ← compL g us ft fe ρ xs
  M.pure (.lst ys)
def dYes : Env → M S Bool := fun _ => M.pure true
end
abbrev WF : WX := fun _ _ _ _ => False
abbrev DTs (X : Cx) (T : Tk) (Z : Fx) (W : WX) (es : List Expr) (f : Env → M T.S Bool) : Prop := PTs X es (rdT (wo X) T Z W f)
theorem _root_.L2.PTs.imp {X : Cx} {e : List Expr} {t t' : TT} (h : PTs X e t) (k : ∀ σ H Q, t' σ H Q → t σ H Q) : PTs X e t' := ⟨fun pins s σ H Q I q => h.run pins s σ H Q I (k σ H Q q)⟩
section
variable {X : Cx} {T : Tk} {Z : Fx} {W : WX}
theorem dts_nil : DTs X T Z W [] dYes := pts_nil.imp fun σ H Q ⟨F, ρ, s, r, q⟩ => q.here r
theorem dts_one {c : Expr} {f : Env → M T.S Bool} (h : DT X T Z W c f) : DTs X T Z W [c] f := pts_one h

theorem Out.step {o : Wo} {α : Type} {F H F2 H2 : Hp} {σ : L2.St} {r : Res T.S α} {ok : α → T.S → Hp → Hp → Prop} (h : Out o T Z W F H σ r ok) (st : Stp Z.fp F H F2 H2) (hfp : ∀ a ∈ Z.fp, H2 a ≠ none) : Out o T Z W F2 H2 σ r ok := by
  cases r with
  | ok a s' => exact fun F' H' st' at' => h F' H' (st.trans hfp st') at'
  | exc e s' => exact fun cls dd F' H' st' at' => h cls dd F' H' (st.trans hfp st') at'
  | stuck => exact h
theorem upd_eq {H : Hp} {p : Addr} {u : HO} (h : H p = some u) : upd H p u = H := by
  funext b
  by_cases hb : b = p
  · subst hb; rw [upd_same, h]
  · rw [upd_ne hb]
theorem compL_cons {S : Type} {g : D → Env → Option Env} {us : List Nat} {ft : Env → M S Bool} {fe : Env → M S D} {ρ : Env} {x : D} {xs : List D} {s : S} :
    compL g us ft fe ρ (x :: xs) s = match g x (wipeE ρ us) with
      | none => .stuck
      | some ρ' => match ft ρ' s with
        | .ok true s3 => (match fe ρ' s3 with
          | .ok y s4 => M.bind (compL g us ft fe ρ xs) (fun r => M.pure (y :: r)) s4
          | _ => .stuck)
        | .ok false s3 => compL g us ft fe ρ xs s3
        | _ => .stuck := by
  show M.bind (M.opt (g x (wipeE ρ us))) (fun ρ' => M.bind (ft ρ').nox fun b => if b = true then M.bind (fe ρ').nox fun y => M.bind (compL g us ft fe ρ xs) fun r => M.pure (y :: r) else compL g us ft fe ρ xs) s = _
  cases g x (wipeE ρ us) with
  | none => rfl
  | some ρ' =>
    dsimp only [M.bind, M.opt, M.nox]
    cases ft ρ' s with
    | ok b s3 =>
      cases b with
      | false => rfl
      | true =>
        dsimp only
        rw [if_pos rfl]
        dsimp only [M.bind, M.nox]
        cases fe ρ' s3 with
        | ok y s4 => rfl
        | exc e s4 => rfl
        | stuck => rfl
    | exc e s3 => rfl
    | stuck => rfl
theorem wipe_get (σ : L2.St) (j : Nat) : ∀ us : List Nat, (wipe σ us)[j]? = if j ∈ us then (if j < σ.length then some none else none) else σ[j]?
  | [] => by rw [if_neg (by simp)]; rfl
  | u :: us => by
    show ((wipe σ us).set u none)[j]? = _
    by_cases h : u = j
    · subst h
      rw [if_pos (List.mem_cons_self ..)]
      by_cases hl : u < σ.length
      · rw [List.getElem?_set_self (by rw [wipe_length]; exact hl), if_pos hl]
      · rw [if_neg hl, List.getElem?_eq_none (by rw [List.length_set, wipe_length]; omega)]
    · rw [List.getElem?_set_ne h, wipe_get σ j us]
      by_cases hm : j ∈ us
      · rw [if_pos hm, if_pos (List.mem_cons_of_mem _ hm)]
      · rw [if_neg hm, if_neg (by rw [List.mem_cons]; exact fun z => z.elim (fun e => h e.symm) hm)]
theorem wipe_wipe (σ : L2.St) (us : List Nat) : wipe (wipe σ us) us = wipe σ us := by
  apply List.ext_getElem?
  intro j
  rw [wipe_get, wipe_get, wipe_length]
  split <;> rfl
theorem lc_go {o : Wo} {items : List D} {g : D → Env → Option Env} {us : List Nat} {ft : Env → M T.S Bool} {fe : Env → M T.S D} {σ : L2.St} {ρ : Env} {F1 H1 : Hp} {s1 : T.S} {J : It} {p : Addr} {Q : Hp → Prop}
    (r1 : Rl o T Z F1 H1 ρ s1 σ) (hJ : ItR o F1 items J) (hp : H1 p = none) (hz : items.length ≤ sizeLine)
    (hout : Out o T Z W F1 H1 σ (compL g us ft fe ρ items s1) fun ys s' F' H' => ∀ vs, RpL o F' ys vs → F' p = none → Q (upd H' p (.lst vs))) :
    ∃ Wd : Nat → Nat → Hp → Prop, (∃ m, Wd 0 m (upd H1 p (.lst []))) ∧ ∀ i m H, Wd i m H →
      (J.stop i H ∧ Q H) ∨ (J.go i H ∧ ∃ Nx : Hp → Prop, (∀ H', Nx H' → ∃ m', m' < m ∧ Wd (i + 1) m' H') ∧ ∀ x H', J.yld i H x H' → rdG o T Z us g x (wipe σ us) H' fun σ2 H2 => wipe σ2 us = wipe σ us ∧ rdT o T Z WF ft σ2 H2 fun b H3 =>
        if b = true then rd o T Z WF fe σ2 H3 fun y H4 => ∃ acc, H4 p = some (.lst acc) ∧ acc.length < sizeLine ∧ Nx (upd H4 p (.lst (acc ++ [y]))) else Nx H3) := by
  have nfp := r1.nfp hp
  have hF1 := r1.ex.none hp
  -- what holds at a turn
  let Inv1 : Nat → Hp → Prop := fun i H => ∃ F s acc done, i ≤ items.length ∧ Rl o T Z F H ρ s σ ∧ Stp Z.fp F1 H1 F H ∧ F p = none ∧ H p = some (.lst acc) ∧ RpL o F done acc ∧ done.length ≤ i ∧
      Out o T Z W F1 H1 σ (compL g us ft fe ρ (items.drop i) s) fun ys s' F' H' => ∀ vs, RpL o F' (done ++ ys) vs → F' p = none → Q (upd H' p (.lst vs))
  have hid := Stp.hid (fp := Z.fp) (o := .lst []) r1.ex hp
  refine ⟨fun i m H => m = items.length - i ∧ Inv1 i H, ⟨items.length, by simp, F1, s1, [], [], Nat.zero_le _, r1.step hid (Rl.atMut nfp r1.at_), hid, hF1, upd_same, rfl, Nat.zero_le _, hout⟩, ?_⟩
  rintro i m H ⟨rfl, F, s, acc, done, hi, r, st, hF, hH, hd, hl, ho⟩
  have jj := hJ F H st.ff r.ex i
  by_cases hlt : i < items.length
  · obtain ⟨go, yl⟩ := jj.1 hlt
    refine .inr ⟨go, Inv1 (i + 1), fun H' h' => ⟨items.length - (i + 1), by omega, rfl, h'⟩, fun x H2 y => ?_⟩
    obtain ⟨F2, st2, rp⟩ := yl x H2 y
    have hdi : items[i]? = some items[i] := List.getElem?_eq_getElem hlt
    rw [List.drop_eq_getElem_cons hlt, compL_cons] at ho
    cases eg : g items[i] (wipeE ρ us) with
    | none => rw [eg] at ho; exact ho.elim
    | some ρ' =>
      rw [eg] at ho
      dsimp only at ho
      have r2 : Rl o T Z F2 H2 ρ s σ := r.step st2.mono (r.at' st2)
      have hF2 := st2.keepF hF (by rw [hH]; exact nofun)
      have hH2 : H2 p = some (.lst acc) := st2.ex _ _ hH
      refine ⟨F2, wipeE ρ us, s, items[i], ρ', r2.wipe us, rp _ hdi, eg, fun σ2 r2' w2 => ⟨?_, F2, ρ', s, r2', ?_⟩⟩
      · rw [w2, wipe_wipe]
      · cases ef : ft ρ' s with
        | exc e s3 => rw [ef] at ho; exact ho.elim
        | stuck => rw [ef] at ho; exact ho.elim
        | ok b s3 =>
          rw [ef] at ho
          try dsimp only at ho
          intro F3 H3 st3 at3
          have r3 : Rl o T Z F3 H3 ρ s3 σ := r2.step st3 at3
          have stA : Stp Z.fp F1 H1 F3 H3 := (st.trans r.fpH st2.mono).trans r2.fpH st3
          have hF3 := st3.keepF hF2 (by rw [hH2]; exact nofun)
          have hH3 : H3 p = some (.lst acc) := st3.hh _ _ hH2 nfp
          have hd3 := (hd.mono st2.ff).mono st3.ff
          cases b with
          | false => exact ⟨F3, s3, acc, done, hlt, r3, stA, hF3, hH3, hd3, by omega, ho⟩
          | true =>
            refine ⟨F3, ρ', s3, r2'.step st3 at3, ?_⟩
            cases ee : fe ρ' s3 with
            | exc e s4 => simp only [ee] at ho; exact ho.elim
            | stuck => simp only [ee] at ho; exact ho.elim
            | ok z s4 =>
              simp only [ee] at ho
              intro F4 H4 st4 at4 v rv
              have r4 : Rl o T Z F4 H4 ρ s4 σ := r3.step st4 at4
              have stB : Stp Z.fp F1 H1 F4 H4 := stA.trans r3.fpH st4
              have hF4 := st4.keepF hF3 (by rw [hH3]; exact nofun)
              have hH4 : H4 p = some (.lst acc) := st4.hh _ _ hH3 nfp
              have hd4 := hd3.mono st4.ff
              have hlen := hd4.length
              refine ⟨acc, hH4, by omega, F4, s4, acc ++ [v], done ++ [z], hlt, r1.mut hp r4 hF4 (Rl.atMut nfp at4), stB.mut hp hF4, hF4, upd_same, hd4.app (RpL.one rv), by rw [List.length_append]; simp; omega, ?_⟩
              have ho : Out o T Z W F1 H1 σ ((compL g us ft fe ρ (items.drop (i + 1)) >>= fun r => M.pure (z :: r)) s4) _ := ho
              refine ho.bind.mono fun ys s' F' H' st' at' k vs rvs hFp => ?_
              have k : ∀ F2 H2, Stp Z.fp F' H' F2 H2 → T.At o F2 H2 Z.p Z.fp s' → ∀ vs, RpL o F2 (done ++ (z :: ys)) vs → F2 p = none → Q (upd H2 p (.lst vs)) := k
              exact k F' H' (Stp.refl st'.fh) at' vs (by rw [List.append_assoc] at rvs; exact rvs) hFp
  · have ei : i = items.length := by omega
    subst ei
    refine .inl ⟨jj.2 (Nat.le_refl _), ?_⟩
    rw [List.drop_length] at ho
    have k := ho F H st r.at_ acc (by rw [List.append_nil]; exact hd) hF
    rwa [upd_eq hH] at k

/-- a list comprehension is a new list -/
theorem df_comp {elt tg iter : Expr} {tests : List Expr} {scope : Scope} {own : List (Str × Nat)} {pos : Pos} {fi : Env → M T.S (List D)} {g : D → Env → Option Env} {ft : Env → M T.S Bool} {fe : Env → M T.S D} (own_ : List (Str × Nat)) (ho : own = own_ := by rfl) (hN : X.N.Nodup) (hc : X.calm = true) (hi : DI X T Z W tg iter fi) (ok : BlkOk X.N X.env.scope scope own)
    (hg : ∀ (s : Shared) (H : Hp) (C : Addr) (cl : List (Str × Addr)) (fp : List Addr), DG (X.blk s H scope (compEnvC scope cl C X.env) fp) T Z (own.map (·.2)) tg g) (ht : ∀ (s : Shared) (H : Hp) (C : Addr) (cl : List (Str × Addr)) (fp : List Addr), DTs (X.blk s H scope (compEnvC scope cl C X.env) fp) T Z WF tests ft)
    (he : ∀ (s : Shared) (H : Hp) (C : Addr) (cl : List (Str × Addr)) (fp : List Addr), DE (X.blk s H scope (compEnvC scope cl C X.env) fp) T Z WF elt fe) (hs : ∀ x, foldedSetIterable iter X.env x = pure x := by intro _; rfl) :
    DF X T Z W (.ListComp elt [⟨tg, iter, tests, 0⟩] scope pos) (dComp fi g (own.map (·.2)) ft fe) :=
  (pe_lc hc hN hi ok hg ht he hs).imp fun σ H Q ⟨F, ρ, s, r, q⟩ => by
    refine ⟨F, ρ, s, r, q.bind.mono fun items s1 F1 H1 st1 at1 q1 J hJ p hp => ?_⟩
    have r1 := r.step st1 at1
    obtain ⟨xs, e, k⟩ := q1.bind.opt
    obtain ⟨hz, rfl⟩ := ifs e
    have k := k F1 H1 (Stp.refl r1.ex) r1.at_
    refine lc_go (W := W) (g := g) (ft := ft) (fe := fe) (Q := Q (.ref p)) r1 hJ hp hz ?_
    have k : Out (wo X) T Z W F1 H1 σ (M.bind (compL g (own.map (·.2)) ft fe ρ items) (fun ys => M.pure (D.lst ys)) s1) _ := k
    unfold M.bind at k
    cases e : compL g (own.map (·.2)) ft fe ρ items s1 with
    | exc x s2 => rw [e] at k; exact k
    | stuck => rw [e] at k; exact k
    | ok ys s2 =>
      rw [e] at k
      intro F' H' st' at' vs rvs hFp
      exact k F' _ (st'.mut hp hFp) (Rl.atMut (r1.nfp hp) at') p (st1.back r1.fpH hp) hFp ⟨vs, upd_same, rvs⟩
end
end DL
set_option Elab.async false
set_option linter.all false
set_option maxRecDepth 100000
set_option maxHeartbeats 1000000
/-! Statements. -/
namespace DL
open PySem PySem.Spec PyProof.Rows L2

/-- what a statement comes to -/
inductive SR (S : Type) where
  | nx (ρ : Env) (s : S) | bk (ρ : Env) (s : S) | ct (ρ : Env) (s : S) | rt (d : D) (s : S) | rf (d : D) (s : S) | ex (e : Exn) (ρ : Env) (s : S) | stuck
abbrev G (S : Type) := Env → S → SR S
section
variable {S : Type} {α : Type}
def sE (m : Env → M S α) (k : Env → α → S → SR S) : G S := fun ρ s => match m ρ s with
  | .ok a s' => k ρ a s'
  | .exc e s' => .ex e ρ s'
  | .stuck => .stuck
def sOpt (x : Option α) (k : α → SR S) : SR S := match x with
  | some a => k a
  | none => .stuck
def sNext : G S := fun ρ s => .nx ρ s
def sSeq (g h : G S) : G S := fun ρ s => match g ρ s with
  | .nx ρ' s' => h ρ' s'
  | r => r
def sAsg (f : Env → M S D) (g : D → Env → Option Env) : G S := sE f fun ρ d s => sOpt (g d ρ) fun ρ' => .nx ρ' s
def sSet (f : Env → M S D) (i : Nat) : G S := sE f fun ρ d s => .nx (ρ.set i (some d)) s
def sDrop (f : Env → M S D) : G S := sE f fun ρ _ s => .nx ρ s
def sRet (f : Env → M S D) : G S := sE f fun _ d s => .rt d s
def sRetF (f : Env → M S D) : G S := sE f fun _ d s => .rf d s
def sRetO (i : Nat) : G S := fun ρ s => match ρ[i]? with
  | some (some d) => .rf d s
  | _ => .stuck
def sRetN : G S := fun _ s => .rt .non s
def sIf (c : Env → M S Bool) (g h : G S) : G S := sE c fun ρ b s => if b = true then g ρ s else h ρ s
def sBreak : G S := fun ρ s => .bk ρ s
def sCont : G S := fun ρ s => .ct ρ s
def forL (g : D → Env → Option Env) (body : G S) : List D → G S
  | [], ρ, s => .nx ρ s
  | x :: xs, ρ, s => match g x ρ with
    | none => .stuck
    | some ρ' => match body ρ' s with
      | .nx ρ'' s' => forL g body xs ρ'' s'
      | .ct ρ'' s' => forL g body xs ρ'' s'
      | .bk ρ'' s' => .nx ρ'' s'
      | r => r
def sFor (fi : Env → M S (List D)) (g : D → Env → Option Env) (body : G S) : G S := sE fi fun ρ xs s => forL g body xs ρ s
def whileL (c : Env → M S Bool) (body : G S) : Nat → G S
  | 0, _, _ => .stuck
  | n + 1, ρ, s => match c ρ s with
    | .ok true s' => (match body ρ s' with
      | .nx ρ'' s'' => whileL c body n ρ'' s''
      | .ct ρ'' s'' => whileL c body n ρ'' s''
      | .bk ρ'' s'' => .nx ρ'' s''
      | r => r)
    | .ok false s' => .nx ρ s'
    | .exc e s' => .ex e ρ s'
    | .stuck => .stuck
def sWhile (fuel : Env → S → Nat) (c : Env → M S Bool) (body : G S) : G S := fun ρ s => whileL c body (fuel ρ s) ρ s
def sAug (i : Nat) (g : D → D → Option D) (f : Env → M S D) : G S := fun ρ s => match ρ[i]? with
  | some (some x) => sE f (fun ρ y s => sOpt (g x y) fun z => .nx (ρ.set i (some z)) s) ρ s
  | _ => .stuck
/-- on a list of one's own -/
def sMut (i : Nat) (f : Env → M S D) (op : D → D → Option D) : G S := sE f fun ρ y s => match ρ[i]? with
  | some (some x) => sOpt (op x y) fun z => .nx (ρ.set i (some z)) s
  | _ => .stuck
end

def OutS (o : Wo) (T : Tk) (Z : Fx) (W : WX) (F1 : Hp) (r : SR T.S) (D : Ends) : Prop := match r with
  | .nx ρ s => ∀ F H σ, Ex F1 F → Rl o T Z F H ρ s σ → D.nx σ H
  | .bk ρ s => ∀ F H σ, Ex F1 F → Rl o T Z F H ρ s σ → D.bk σ H
  | .ct ρ s => ∀ F H σ, Ex F1 F → Rl o T Z F H ρ s σ → D.ct σ H
  | .rt d s => ∀ F H v, Stp Z.fp Z.F0 Z.H0 F H → T.At o F H Z.p Z.fp s → Rp o F d v → D.rt v H
  | .rf d s => ∀ F H a, Stp Z.fp Z.F0 Z.H0 F H → T.At o F H Z.p Z.fp s → Z.H0 a = none → F a = none → OwnAt o F H d a → D.rt (.ref a) H
  | .ex e ρ s => ∀ F H σ cls dd, Ex F1 F → Rl o T Z F H ρ s σ → ExR o e cls dd F → W cls dd σ H
  | .stuck => False
def rdS (o : Wo) (T : Tk) (Z : Fx) (W : WX) (g : G T.S) : TS := fun D σ H => ∃ F ρ s, Rl o T Z F H ρ s σ ∧ OutS o T Z W F (g ρ s) D
abbrev DS (X : Cx) (T : Tk) (Z : Fx) (W : WX) (st : Stmt) (g : G T.S) : Prop := PS X st (rdS (wo X) T Z W g)
abbrev DSs (X : Cx) (T : Tk) (Z : Fx) (W : WX) (sts : List Stmt) (g : G T.S) : Prop := PSs X sts (rdS (wo X) T Z W g)
section
variable {o : Wo} {T : Tk} {Z : Fx} {W : WX} {F H : Hp} {ρ : Env} {s : T.S} {σ : L2.St} {α : Type}
theorem OutS.up {r : SR T.S} {E : Ends} {F F1 : Hp} (e : Ex F F1) (h : OutS o T Z W F r E) : OutS o T Z W F1 r E := by
  cases r with
  | nx ρ s => exact fun F' H' σ' e' r' => h F' H' σ' (e.trans e') r'
  | bk ρ s => exact fun F' H' σ' e' r' => h F' H' σ' (e.trans e') r'
  | ct ρ s => exact fun F' H' σ' e' r' => h F' H' σ' (e.trans e') r'
  | rt d s => exact h
  | rf d s => exact h
  | ex x ρ s => exact fun F' H' σ' cls dd e' r' => h F' H' σ' cls dd (e.trans e') r'
  | stuck => exact h
theorem OutS.e {m : Env → M T.S α} {k : Env → α → T.S → SR T.S} {E : Ends} (r : Rl o T Z F H ρ s σ) (h : OutS o T Z W F (sE m k ρ s) E) : Out o T Z W F H σ (m ρ s) fun a s' F' H' => OutS o T Z W F' (k ρ a s') E := by
  unfold sE at h
  cases e : m ρ s with
  | ok a s' => rw [e] at h; exact fun F' H' st at' => h.up st.ff
  | exc x s' => rw [e] at h; exact fun cls dd F' H' st at' er => h F' H' σ cls dd st.ff (r.step st at') er
  | stuck => rw [e] at h; exact h
theorem OutS.opt {x : Option α} {k : α → SR T.S} {E : Ends} (h : OutS o T Z W F (sOpt x k) E) : ∃ a, x = some a ∧ OutS o T Z W F (k a) E := by
  unfold sOpt at h
  cases x with
  | none => exact h.elim
  | some a => exact ⟨a, rfl, h⟩
/-- a value with its place: from an expression's reading to a statement's -/
theorem rd.sq {f : Env → M T.S D} {k : Env → D → T.S → SR T.S} {E : Ends} {Q : VK} (r : Rl o T Z F H ρ s σ) (h : OutS o T Z W F (sE f k ρ s) E)
    (q : ∀ d s1 F1 H1 v, Rl o T Z F1 H1 ρ s1 σ → Stp Z.fp F H F1 H1 → Rp o F1 d v → OutS o T Z W F1 (k ρ d s1) E → Q v H1) : rd o T Z W f σ H Q :=
  ⟨F, ρ, s, r, (OutS.e r h).mono fun d s1 F1 H1 st at1 k1 v rv => q d s1 F1 H1 v (r.step st at1) st rv k1⟩
theorem rdF.sq {f : Env → M T.S D} {k : Env → D → T.S → SR T.S} {E : Ends} {Q : VK} (r : Rl o T Z F H ρ s σ) (h : OutS o T Z W F (sE f k ρ s) E)
    (q : ∀ d s1 F1 H1 a, Rl o T Z F1 H1 ρ s1 σ → Stp Z.fp F H F1 H1 → H a = none → F1 a = none → OwnAt o F1 H1 d a → OutS o T Z W F1 (k ρ d s1) E → Q (.ref a) H1) : rdF o T Z W f σ H Q :=
  ⟨F, ρ, s, r, (OutS.e r h).mono fun d s1 F1 H1 st at1 k1 a h1 h2 h3 => q d s1 F1 H1 a (r.step st at1) st h1 h2 h3 k1⟩
theorem rdR.sq {f : Env → M T.S D} {k : Env → D → T.S → SR T.S} {E : Ends} {Q : VK} (r : Rl o T Z F H ρ s σ) (h : OutS o T Z W F (sE f k ρ s) E)
    (q : ∀ d s1 F1 H1 v, Rl o T Z F1 H1 ρ s1 σ → Stp Z.fp F H F1 H1 → RpR o Z.fp F1 H1 d v → OutS o T Z W F1 (k ρ d s1) E → Q v H1) : rdR o T Z W f σ H Q :=
  ⟨F, ρ, s, r, (OutS.e r h).mono fun d s1 F1 H1 st at1 k1 v rv => q d s1 F1 H1 v (r.step st at1) st rv k1⟩
theorem rdT.sq {f : Env → M T.S Bool} {k : Env → Bool → T.S → SR T.S} {E : Ends} {Q : Bool → Hp → Prop} (r : Rl o T Z F H ρ s σ) (h : OutS o T Z W F (sE f k ρ s) E)
    (q : ∀ d s1 F1 H1, Rl o T Z F1 H1 ρ s1 σ → Stp Z.fp F H F1 H1 → OutS o T Z W F1 (k ρ d s1) E → Q d H1) : rdT o T Z W f σ H Q :=
  ⟨F, ρ, s, r, (OutS.e r h).mono fun d s1 F1 H1 st at1 k1 => q d s1 F1 H1 (r.step st at1) st k1⟩
/-- a slot of one's own is set to a new object -/
theorem Rl.setO {i : Nat} {d : D} {a : Addr} {F1 H1 : Hp} {s1 : T.S} (r0 : Rl o T Z F1 H1 ρ s1 σ) (hn : H1 a = none) (r : Rl o T Z F H ρ s σ) (hm : Z.md i = .own) (hF : F a = none) (ow : OwnAt o F H d a) : Rl o T Z F H (ρ.set i (some d)) s (σ.set i (some (.ref a))) := by
  have h0 : Z.H0 a = none := r0.st.back r0.fpH hn
  have other : ∀ j e, ρ[j]? = some (some e) → Z.md j = .own → σ[j]? = some (some (.ref a)) → False := fun j e hj hj2 hj3 => by
    obtain ⟨v, e1, h⟩ := r0.sl j e hj
    rw [hj3] at e1; cases e1
    unfold Slot at h
    rw [hj2] at h
    obtain ⟨b, e2, _, _, h3⟩ := h
    cases e2
    exact h3.some hn
  have g : ∀ j (e : D), (ρ.set i (some d))[j]? = some (some e) → j ≠ i → ρ[j]? = some (some e) := fun j e hj n => by
    rwa [List.getElem?_set_ne (Ne.symm n)] at hj
  refine ⟨r.st, r.at_, r.fpz, fun j e hj => ?_, fun j k b d1 e1 hjk h1 h2 h3 h4 h5 h6 => ?_, by rw [List.length_set, List.length_set]; exact r.len⟩
  · by_cases hji : j = i
    · subst hji
      have hl : j < ρ.length := by
        have := (List.getElem?_eq_some_iff.mp hj).1
        rwa [List.length_set] at this
      rw [List.getElem?_set_self hl] at hj
      cases hj
      refine ⟨_, by rw [List.getElem?_set_self (by rw [← r.len]; exact hl)], ?_⟩
      unfold Slot
      rw [hm]
      exact ⟨a, rfl, hF, h0, ow⟩
    · obtain ⟨w, e1, e2⟩ := r.sl j e (g j e hj hji)
      exact ⟨w, by rw [List.getElem?_set_ne (Ne.symm hji)]; exact e1, e2⟩
  · have at_i : ∀ l (b : Addr), (σ.set i (some (.ref a)))[l]? = some (some (.ref b)) → l = i → b = a := fun l b hl e => by
      subst e
      have hl2 : l < σ.length := by
        have := (List.getElem?_eq_some_iff.mp hl).1
        rwa [List.length_set] at this
      rw [List.getElem?_set_self hl2] at hl
      cases hl; rfl
    by_cases hji : j = i
    · have hki : k ≠ i := fun z => hjk (hji.trans z.symm)
      have := at_i j b h5 hji
      subst this
      rw [List.getElem?_set_ne (Ne.symm hki)] at h4 h6
      exact other k e1 h4 h2 h6
    · by_cases hki : k = i
      · have := at_i k b h6 hki
        subst this
        rw [List.getElem?_set_ne (Ne.symm hji)] at h3 h5
        exact other j d1 h3 h1 h5
      · rw [List.getElem?_set_ne (Ne.symm hji)] at h3 h5
        rw [List.getElem?_set_ne (Ne.symm hki)] at h4 h6
        exact r.dis j k b d1 e1 hjk h1 h2 h3 h4 h5 h6
/-- a list or dict of one's own is changed -/
theorem Rl.chg {i : Nat} {d e : D} {a : Addr} {u : HO} (r : Rl o T Z F H ρ s σ) (hm : Z.md i = .own) (hd : ρ[i]? = some (some d)) (hs : σ[i]? = some (some (.ref a))) (ow : OwnAt o F (upd H a u) e a) : Rl o T Z F (upd H a u) (ρ.set i (some e)) s σ := by
  obtain ⟨v, e1, h⟩ := r.sl i d hd
  rw [hs] at e1; cases e1
  unfold Slot at h
  rw [hm] at h
  obtain ⟨a', e2, g1, g2, g3⟩ := h
  cases e2
  have nfp : a ∉ Z.fp := fun ha => (r.fpz a ha).2 g2
  refine ⟨⟨r.st.ff, fun b w hb => by rw [upd_ne (ne_of_none hb g1)]; exact r.st.fh b w hb, r.st.new, fun b w hb hf => by rw [upd_ne (ne_of_none hb g2)]; exact r.st.hh b w hb hf⟩, Rl.atMut nfp r.at_, r.fpz, fun j c hj => ?_, fun j k b d1 e1 hjk h1 h2 h3 h4 h5 h6 => ?_, by rw [List.length_set]; exact r.len⟩
  · by_cases hji : j = i
    · subst hji
      have hl : j < ρ.length := (List.getElem?_eq_some_iff.mp hd).1
      rw [List.getElem?_set_self hl] at hj
      cases hj
      refine ⟨_, hs, ?_⟩
      unfold Slot
      rw [hm]
      exact ⟨a, rfl, g1, g2, ow⟩
    · rw [List.getElem?_set_ne (Ne.symm hji)] at hj
      obtain ⟨w, e1, h⟩ := r.sl j c hj
      refine ⟨w, e1, ?_⟩
      unfold Slot at h ⊢
      cases hk : Z.md j with
      | sh => rw [hk] at h; exact h
      | own =>
        rw [hk] at h
        obtain ⟨b, e2, k1, k2, k3⟩ := h
        have ne : b ≠ a := fun z => by
          subst z
          rw [e2] at e1
          exact r.dis j i b c d hji hk hm hj hd e1 hs
        exact ⟨b, e2, k1, k2, k3.mono (Ex.refl F) fun _ => upd_ne ne⟩
      | bor => rw [hk] at h; exact h
      | tok => rw [hk] at h; exact h
  · have h3' : ∃ d', ρ[j]? = some (some d') := by
      by_cases hji : j = i
      · exact ⟨d, hji ▸ hd⟩
      · rw [List.getElem?_set_ne (Ne.symm hji)] at h3; exact ⟨d1, h3⟩
    have h4' : ∃ d', ρ[k]? = some (some d') := by
      by_cases hki : k = i
      · exact ⟨d, hki ▸ hd⟩
      · rw [List.getElem?_set_ne (Ne.symm hki)] at h4; exact ⟨e1, h4⟩
    obtain ⟨d1', h3'⟩ := h3'
    obtain ⟨e1', h4'⟩ := h4'
    exact r.dis j k b d1' e1' hjk h1 h2 h3' h4' h5 h6
end

section
variable {X : Cx} {T : Tk} {Z : Fx} {W : WX}
theorem dss_nil : DSs X T Z W [] sNext := pss_nil.imp fun E σ H ⟨F, ρ, s, r, q⟩ => q F H σ (Ex.refl F) r
theorem dss_cons {st : Stmt} {rest : List Stmt} {g h : G T.S} (h1 : DS X T Z W st g) (h2 : DSs X T Z W rest h) : DSs X T Z W (st :: rest) (sSeq g h) := (pss_cons h1 h2).imp fun E σ H ⟨F, ρ, s, r, q⟩ => by
  refine ⟨F, ρ, s, r, ?_⟩
  unfold sSeq at q
  cases e : g ρ s with
  | nx ρ' s' => rw [e] at q; exact fun F' H' σ' e' r' => ⟨F', ρ', s', r', q.up e'⟩
  | bk ρ' s' => rw [e] at q; exact q
  | ct ρ' s' => rw [e] at q; exact q
  | rt d s' => rw [e] at q; exact q
  | rf d s' => rw [e] at q; exact q
  | ex x ρ' s' => rw [e] at q; exact q
  | stuck => rw [e] at q; exact q
theorem dss_one {st : Stmt} {g : G T.S} (h1 : DS X T Z W st g) : DSs X T Z W [st] g := pss_one h1
theorem ds_pass {pos : Pos} : DS X T Z W (.Pass pos) sNext := ps_pass.imp fun E σ H ⟨F, ρ, s, r, q⟩ => q F H σ (Ex.refl F) r
theorem ds_break {pos : Pos} : DS X T Z W (.Break pos) sBreak := ps_break.imp fun E σ H ⟨F, ρ, s, r, q⟩ => q F H σ (Ex.refl F) r
theorem ds_cont {pos : Pos} : DS X T Z W (.Continue pos) sCont := ps_continue.imp fun E σ H ⟨F, ρ, s, r, q⟩ => q F H σ (Ex.refl F) r
theorem ds_doc {x : Str} {j : Nat} {pos pos' : Pos} : DS X T Z W (.Expr (.Constant (.str x) j pos) pos') sNext := ps_doc.imp fun E σ H ⟨F, ρ, s, r, q⟩ => q F H σ (Ex.refl F) r
/-- name = e, a value that stands still -/
theorem ds_set (i : Nat) {x : Str} {e : Expr} {pos pos' : Pos} {f : Env → M T.S D} (hN : X.N.Nodup) (he : DE X T Z W e f) (hm : Z.md i = .sh := by rfl) (hi : X.N[i]? = some x := by rfl) (hx : Loc X.env.scope x := by first | exact .inl rfl | exact .inr rfl) (hs : swapsWith e (some (.Name x pos')) pos.line X.env = pure false := by rfl)
    (hf : X.fn x = true ∨ X.env.scope.names.lookup x = some .local := by first | exact .inl rfl | exact .inr rfl | assumption) : DS X T Z W (.Assign [.Name x pos'] e pos) (sSet f i) := (ps_set hN hi hx he hs hf).imp fun E σ H ⟨F, ρ, s, r, q⟩ =>
  rd.sq r q fun d s1 F1 H1 v r1 st rv k => k F1 H1 _ (Ex.refl F1) (r1.set hm rv)
/-- name = e, a new list or dict, that will be changed -/
theorem ds_setO (i : Nat) {x : Str} {e : Expr} {pos pos' : Pos} {f : Env → M T.S D} (hN : X.N.Nodup) (he : DF X T Z W e f) (hm : Z.md i = .own := by rfl) (hi : X.N[i]? = some x := by rfl) (hx : Loc X.env.scope x := by first | exact .inl rfl | exact .inr rfl) (hs : swapsWith e (some (.Name x pos')) pos.line X.env = pure false := by rfl)
    (hf : X.fn x = true ∨ X.env.scope.names.lookup x = some .local := by first | exact .inl rfl | exact .inr rfl | assumption) : DS X T Z W (.Assign [.Name x pos'] e pos) (sSet f i) := (ps_set hN hi hx he hs hf).imp fun E σ H ⟨F, ρ, s, r, q⟩ =>
  rdF.sq r q fun d s1 F1 H1 a r1 st h1 h2 h3 k => k F1 H1 _ (Ex.refl F1) (Rl.setO r h1 r1 hm h2 h3)
theorem ds_asg {us : List Nat} {tg e : Expr} {pos : Pos} {f : Env → M T.S D} {g : D → Env → Option Env} (he : DE X T Z W e f) (hg : DG X T Z us tg g) (hs : swapsWithSole [tg] e pos.line X.env = pure false := by rfl) (hw : swappedStores [tg] e X.env = pure none := by rfl) (h1 : (assignEach [tg] X.env).map (·.2) = [assign tg X.env] := by rfl) :
    DS X T Z W (.Assign [tg] e pos) (sAsg f g) := (ps_asg he hg hs hw h1).imp fun E σ H ⟨F, ρ, s, r, q⟩ =>
  rd.sq r q fun d s1 F1 H1 v r1 st rv k => by
    obtain ⟨ρ', e, k⟩ := k.opt
    exact ⟨F1, ρ, s1, d, ρ', r1, rv, e, fun σ' r' _ => k F1 H1 σ' (Ex.refl F1) r'⟩
theorem ds_expr {e : Expr} {pos : Pos} {f : Env → M T.S D} (he : DR X T Z W e f) (hs : swapsWith e none pos.line X.env = pure false := by rfl) : DS X T Z W (.Expr e pos) (sDrop f) := (ps_expr he hs).imp fun E σ H ⟨F, ρ, s, r, q⟩ =>
  rdR.sq r q fun d s1 F1 H1 v r1 st rv k => k F1 H1 σ (Ex.refl F1) r1
theorem ds_ret {e : Expr} {pos : Pos} {f : Env → M T.S D} (he : DE X T Z W e f) : DS X T Z W (.Return (some e) pos) (sRet f) := (ps_ret he).imp fun E σ H ⟨F, ρ, s, r, q⟩ =>
  rd.sq r q fun d s1 F1 H1 v r1 st rv k => k F1 H1 v r1.st r1.at_ rv
theorem ds_retF {e : Expr} {pos : Pos} {f : Env → M T.S D} (he : DF X T Z W e f) : DS X T Z W (.Return (some e) pos) (sRetF f) := (ps_ret he).imp fun E σ H ⟨F, ρ, s, r, q⟩ =>
  rdF.sq r q fun d s1 F1 H1 a r1 st h1 h2 h3 k => k F1 H1 a r1.st r1.at_ (r.st.back r.fpH h1) h2 h3
theorem ds_retO (i : Nat) {x : Str} {pos pos' : Pos} (hm : Z.md i = .own := by rfl) (hN : X.N[i]? = some x := by rfl) (hv : Vis X.env.scope x := by first | exact Or.inl rfl | exact Or.inr (Or.inl rfl) | exact Or.inr (Or.inr rfl)) (hd : (x == ("__debug__" : Str)) = false := by decide)
    (hcd : (x == ("__classdict__" : Str)) = false := by decide) : DS X T Z W (.Return (some (.Name x pos')) pos) (sRetO i) := (ps_ret (pe_var hN hv hd hcd)).imp fun E σ H ⟨F, ρ, s, r, q⟩ => by
  unfold sRetO at q
  cases e : ρ[i]? with
  | none => rw [e] at q; exact q.elim
  | some y =>
    rw [e] at q
    cases y with
    | none => exact q.elim
    | some d =>
      obtain ⟨v, e1, h⟩ := r.sl i d e
      unfold Slot at h
      rw [hm] at h
      obtain ⟨a, rfl, h1, h2, h3⟩ := h
      exact ⟨_, e1, q F H a r.st r.at_ h2 h1 h3⟩
theorem ds_retN {pos : Pos} : DS X T Z W (.Return none pos) sRetN := ps_retN.imp fun E σ H ⟨F, ρ, s, r, q⟩ => q F H _ r.st r.at_ rfl
theorem ds_if {c : Expr} {a b : List Stmt} {pos : Pos} {fc : Env → M T.S Bool} {g h : G T.S} (hc : DT X T Z W c fc) (ha : DSs X T Z W a g) (hb : DSs X T Z W b h) : DS X T Z W (.If c a b pos) (sIf fc g h) := (ps_if hc ha hb).imp fun E σ H ⟨F, ρ, s, r, q⟩ =>
  rdT.sq r q fun b s1 F1 H1 r1 st k => by
    cases b with
    | true => exact ⟨F1, ρ, s1, r1, k⟩
    | false => exact ⟨F1, ρ, s1, r1, k⟩
theorem forL_cons {S : Type} {g : D → Env → Option Env} {body : G S} {x : D} {xs : List D} {ρ : Env} {s : S} : forL g body (x :: xs) ρ s = match g x ρ with
    | none => .stuck
    | some ρ' => match body ρ' s with
      | .nx ρ'' s' => forL g body xs ρ'' s'
      | .ct ρ'' s' => forL g body xs ρ'' s'
      | .bk ρ'' s' => .nx ρ'' s'
      | r => r := rfl
theorem ds_for {us : List Nat} {tg iter : Expr} {body : List Stmt} {pos : Pos} {fi : Env → M T.S (List D)} {g : D → Env → Option Env} {gb : G T.S} (hp : PassesOwn (model X.prog X.w) X.A X.env X.xe) (hc : X.calm = true) (hi : DI X T Z W tg iter fi) (hg : DG X T Z us tg g) (hb : DSs X T Z W body gb)
    (hs : ∀ x, foldedSetIterable iter X.env x = pure x := by intro _; rfl) : DS X T Z W (.For tg iter body [] pos) (sFor fi g gb) := (ps_for hp hc hi hg hb hs).imp fun E σ H ⟨F, ρ, s, r, q⟩ => by
  refine ⟨F, ρ, s, r, (OutS.e r q).mono fun items s1 F1 H1 st1 at1 q1 J hJ => ?_⟩
  have r1 := r.step st1 at1
  let Iv : Nat → L2.St → Hp → Prop := fun i σ H => ∃ F ρ s, i ≤ items.length ∧ Rl (wo X) T Z F H ρ s σ ∧ Ex F1 F ∧ OutS (wo X) T Z W F (forL g gb (items.drop i) ρ s) E
  refine ⟨fun i m σ H => m = items.length - i ∧ Iv i σ H, ⟨items.length, by simp, F1, ρ, s1, Nat.zero_le _, r1, Ex.refl F1, q1⟩, ?_⟩
  rintro i m σ H ⟨rfl, F, ρ, s, hle, r, ex, q⟩
  have jj := hJ F H ex r.ex i
  by_cases hlt : i < items.length
  · obtain ⟨go, yl⟩ := jj.1 hlt
    refine .inr ⟨go, Iv (i + 1), fun σ' H' h' => ⟨items.length - (i + 1), by omega, rfl, h'⟩, fun x H' y => ?_⟩
    obtain ⟨F2, st2, rp⟩ := yl x H' y
    rw [List.drop_eq_getElem_cons hlt, forL_cons] at q
    cases eg : g items[i] ρ with
    | none => rw [eg] at q; exact q.elim
    | some ρ' =>
      rw [eg] at q
      refine ⟨F2, ρ, s, items[i], ρ', r.step st2.mono (r.at' st2), rp _ (List.getElem?_eq_getElem hlt), eg, fun σ' r' _ => ⟨F2, ρ', s, r', ?_⟩⟩
      have q := q.up st2.ff
      cases eb : gb ρ' s with
      | nx ρ'' s'' => simp only [eb] at q; exact fun F3 H3 σ3 e3 r3 => ⟨F3, ρ'', s'', hlt, r3, (ex.trans st2.ff).trans e3, q.up e3⟩
      | ct ρ'' s'' => simp only [eb] at q; exact fun F3 H3 σ3 e3 r3 => ⟨F3, ρ'', s'', hlt, r3, (ex.trans st2.ff).trans e3, q.up e3⟩
      | bk ρ'' s'' => simp only [eb] at q; exact q
      | rt d s'' => simp only [eb] at q; exact q
      | rf d s'' => simp only [eb] at q; exact q
      | ex x ρ'' s'' => simp only [eb] at q; exact q
      | stuck => simp only [eb] at q; exact q.elim
  · have ei : i = items.length := by omega
    subst ei
    refine .inl ⟨jj.2 (Nat.le_refl _), ?_⟩
    rw [List.drop_length] at q
    exact q F H σ (Ex.refl F) r
theorem ds_while {c : Expr} {body : List Stmt} {pos : Pos} {fc : Env → M T.S Bool} {gb : G T.S} (fuel : Env → T.S → Nat) (hp : PassesOwn (model X.prog X.w) X.A X.env X.xe) (hc : DT X T Z W c fc) (hb : DSs X T Z W body gb) : DS X T Z W (.While c body [] pos) (sWhile fuel fc gb) := (ps_while hp hc hb).imp fun E σ H ⟨F, ρ, s, r, q⟩ => by
  refine ⟨fun m σ H => ∃ F ρ s, Rl (wo X) T Z F H ρ s σ ∧ OutS (wo X) T Z W F (whileL fc gb m ρ s) E, ⟨fuel ρ s, F, ρ, s, r, q⟩, ?_⟩
  rintro m σ H ⟨F, ρ, s, r, q⟩
  cases m with
  | zero => exact q.elim
  | succ n =>
    refine ⟨F, ρ, s, r, ?_⟩
    unfold whileL at q
    cases e : fc ρ s with
    | exc x s1 => rw [e] at q; exact fun cls dd F' H' st at' er => q F' H' σ cls dd st.ff (r.step st at') er
    | stuck => rw [e] at q; exact q
    | ok b s1 =>
      rw [e] at q
      intro F1 H1 st1 at1
      have r1 := r.step st1 at1
      cases b with
      | false => exact q F1 H1 σ st1.ff r1
      | true =>
        refine ⟨fun σ' H' => ∃ F ρ s, Rl (wo X) T Z F H' ρ s σ' ∧ OutS (wo X) T Z W F (whileL fc gb n ρ s) E, fun σ' H' h' => ⟨n, Nat.lt_succ_self n, h'⟩, F1, ρ, s1, r1, ?_⟩
        dsimp only at q
        have q := q.up st1.ff
        cases eb : gb ρ s1 with
        | nx ρ'' s'' => simp only [eb] at q; exact fun F3 H3 σ3 e3 r3 => ⟨F3, ρ'', s'', r3, q.up e3⟩
        | ct ρ'' s'' => simp only [eb] at q; exact fun F3 H3 σ3 e3 r3 => ⟨F3, ρ'', s'', r3, q.up e3⟩
        | bk ρ'' s'' => simp only [eb] at q; exact q
        | rt d s'' => simp only [eb] at q; exact q
        | rf d s'' => simp only [eb] at q; exact q
        | ex x ρ'' s'' => simp only [eb] at q; exact q
        | stuck => simp only [eb] at q; exact q.elim
end
end DL
set_option Elab.async false
set_option linter.all false
set_option maxRecDepth 100000
set_option maxHeartbeats 1000000
/-! Lists of one's own changed; raise; defs and their calls. -/
namespace DL
open PySem PySem.Spec PyProof.Rows L2

/-! ### a list of one's own is changed -/
def appD : D → D → Option D
  | .lst xs, y => if xs.length < sizeLine then some (.lst (xs ++ [y])) else none
  | _, _ => none
section
variable {S : Type}
def sOwn (i : Nat) (k : D → G S) : G S := fun ρ s => match ρ[i]? with
  | some (some x) => k x ρ s
  | _ => .stuck
/-- .. a list's items -/
def sOwnL (i : Nat) (k : List D → G S) : G S := fun ρ s => match ρ[i]? with
  | some (some (.lst xs)) => k xs ρ s
  | _ => .stuck
/-- x.append(e) -/
def sApp (i : Nat) (f : Env → M S D) : G S := sOwnL i fun x => sE f fun ρ y s => sOpt (appD (.lst x) y) fun z => .nx (ρ.set i (some z)) s
def extD : D → D → Option D
  | .lst xs, .lst ys => if xs.length + ys.length ≤ sizeLine then some (.lst (xs ++ ys)) else none
  | _, _ => none
def setD : D → D → D → Option D
  | .lst xs, .int k, v => (ixN xs.length k).map fun j => .lst (xs.set j v)
  | _, _, _ => none
/-- x[i] = e: e first -/
def sPut (i : Nat) (fi fe : Env → M S D) : G S := sE fe fun ρ v s => sOwn i (fun x => sE fi fun ρ k s => sOpt (setD x k v) fun z => .nx (ρ.set i (some z)) s) ρ s
/-- x[i] op= e: x, i, x[i], e -/
def sAugAt (i : Nat) (g : D → D → Option D) (fi fe : Env → M S D) : G S := sOwn i fun x => sE fi fun ρ k s => sOpt (ixD x k) fun old => sE fe (fun ρ y s => sOpt (g old y) fun new => sOpt (setD x k new) fun z => .nx (ρ.set i (some z)) s) ρ s
def popD : D → Option (D × D)
  | .lst xs => (xs[xs.length - 1]?).map fun y => (y, .lst xs.dropLast)
  | _ => none
def popAtD : D → D → Option (D × D)
  | .lst xs, .int k => if xs.length ≤ sizeLine then (ixN xs.length k).bind fun j => (xs[j]?).map fun y => (y, .lst (xs.eraseIdx j)) else none
  | _, _ => none
end
theorem appD_inv {x y z : D} (h : appD x y = some z) : ∃ xs, x = .lst xs ∧ xs.length < sizeLine ∧ z = .lst (xs ++ [y]) := by
  cases x with
  | lst xs =>
    obtain ⟨h1, h2⟩ := ifs (show (if xs.length < sizeLine then some (D.lst (xs ++ [y])) else none) = some z from h)
    exact ⟨xs, rfl, h1, h2.symm⟩
  | _ => exact absurd (show (none : Option D) = some z from h) (by intro q; cases q)
theorem extD_inv {x y z : D} (h : extD x y = some z) : ∃ xs ys, x = .lst xs ∧ y = .lst ys ∧ xs.length + ys.length ≤ sizeLine ∧ z = .lst (xs ++ ys) := by
  cases x with
  | lst xs =>
    cases y with
    | lst ys =>
      obtain ⟨h1, h2⟩ := ifs (show (if xs.length + ys.length ≤ sizeLine then some (D.lst (xs ++ ys)) else none) = some z from h)
      exact ⟨xs, ys, rfl, rfl, h1, h2.symm⟩
    | _ => exact absurd (show (none : Option D) = some z from h) (by intro q; cases q)
  | _ => exact absurd (show (none : Option D) = some z from h) (by intro q; cases q)
theorem setD_inv {x k v z : D} (h : setD x k v = some z) : ∃ xs n j, x = .lst xs ∧ k = .int n ∧ ixN xs.length n = some j ∧ z = .lst (xs.set j v) := by
  cases x with
  | lst xs =>
    cases k with
    | int n =>
      have h : (ixN xs.length n).map (fun j => D.lst (xs.set j v)) = some z := h
      cases ej : ixN xs.length n with
      | none => rw [ej] at h; cases h
      | some j =>
        rw [ej] at h
        exact ⟨xs, n, j, rfl, rfl, ej, (Option.some.inj h).symm⟩
    | _ => exact absurd (show (none : Option D) = some z from h) (by intro q; cases q)
  | _ => exact absurd (show (none : Option D) = some z from h) (by intro q; cases q)
section
variable {o : Wo} {T : Tk} {Z : Fx} {W : WX} {F H : Hp} {ρ : Env} {s : T.S} {σ : L2.St}
theorem OutS.own {i : Nat} {k : D → G T.S} {E : Ends} (h : OutS o T Z W F (sOwn i k ρ s) E) : ∃ x, ρ[i]? = some (some x) ∧ OutS o T Z W F (k x ρ s) E := by
  unfold sOwn at h
  cases e : ρ[i]? with
  | none => rw [e] at h; exact h.elim
  | some y =>
    cases y with
    | none => rw [e] at h; exact h.elim
    | some x => rw [e] at h; exact ⟨x, rfl, h⟩
theorem OutS.ownL {i : Nat} {k : List D → G T.S} {E : Ends} (h : OutS o T Z W F (sOwnL i k ρ s) E) : ∃ x, ρ[i]? = some (some (.lst x)) ∧ OutS o T Z W F (k x ρ s) E := by
  unfold sOwnL at h
  cases e : ρ[i]? with
  | none => rw [e] at h; exact h.elim
  | some y =>
    cases y with
    | none => rw [e] at h; exact h.elim
    | some x =>
      cases x with
      | lst xs => rw [e] at h; exact ⟨xs, rfl, h⟩
      | _ => rw [e] at h; exact h.elim
theorem Rl.own {i : Nat} {d : D} (r : Rl o T Z F H ρ s σ) (hm : Z.md i = .own) (h : ρ[i]? = some (some d)) : ∃ a, σ[i]? = some (some (.ref a)) ∧ F a = none ∧ OwnAt o F H d a := by
  obtain ⟨v, e1, h⟩ := r.sl i d h
  unfold Slot at h
  rw [hm] at h
  obtain ⟨a, rfl, h1, h2, h3⟩ := h
  exact ⟨a, e1, h1, h3⟩
end
section
variable {X : Cx} {T : Tk} {Z : Fx} {W : WX}
theorem ds_append (i : Nat) {x : Str} {p1 apos cpos pos : Pos} {e : Expr} {f : Env → M T.S D} (he : DE X T Z W e f) (hm : Z.md i = .own := by rfl) (hN : X.N[i]? = some x := by rfl) (hv : Vis X.env.scope x := by first | exact Or.inl rfl | exact Or.inr (Or.inl rfl) | exact Or.inr (Or.inr rfl)) (hd : (x == ("__debug__" : Str)) = false := by decide)
    (hcd : (x == ("__classdict__" : Str)) = false := by decide) (hbase : attributeBase (.Name x p1) "append" X.env (eval (.Name x p1) X.env) = eval (.Name x p1) X.env := by rfl)
    (hfew : ((backTo cpos (starEach [e] X.env)).all (fun x => !x.1) && (backToKw cpos (keywordEach [] X.env)).all (fun x => x.1.isSome) && decide (([e] : List Expr).length + ([] : List Keyword).length + (if ([] : List Keyword).isEmpty then 0 else 1) < 30)) = true := by rfl)
    (hline : (apos.endLine == cpos.line) = true := by rfl) (hs : starEach [e] X.env = (false, eval e X.env) :: starEach [] X.env := by rfl) (hplain : (backTo cpos (starEach [] X.env)).any (·.1) = false := by rfl) (hs2 : swapsWith (.Call (.Attribute (.Name x p1) "append" apos) [e] [] cpos) none pos.line X.env = pure false := by rfl) :
    DS X T Z W (.Expr (.Call (.Attribute (.Name x p1) "append" apos) [e] [] cpos) pos) (sApp i f) :=
  (ps_expr (pe_bm F.plainAttrs_list F.slot_list_append F.type_list_append mt_append (pe_var hN hv hd hcd) (pa_cons he pa_nil hs) hbase hfew hline hs hplain) hs2).imp fun E σ H ⟨F, ρ, s, r, q⟩ => by
    obtain ⟨xs, hd, q⟩ := q.ownL
    obtain ⟨a, e1, h1, vs, h2, h3⟩ := r.own hm hd
    refine ⟨_, e1, .inl ⟨rfl, _, SqL.of h2⟩, rd.sq r q fun y s1 F1 H1 v r1 st rv k => ?_⟩
    obtain ⟨z, ez, k⟩ := k.opt
    obtain ⟨ys, e2, hc, rfl⟩ := appD_inv ez
    cases e2
    obtain ⟨a', e1', h1', vs', h2', h3'⟩ := r1.own hm hd
    rw [e1] at e1'
    cases e1'
    have hl := h3'.length
    exact ⟨a, vs', v, rfl, rfl, h2', by omega, k F1 _ σ (Ex.refl F1) (r1.chg hm hd e1 ⟨_, upd_same, h3'.app (RpL.one rv)⟩)⟩
theorem ds_put (i : Nat) {x : Str} {p1 pos pos' : Pos} {k e : Expr} {fk f : Env → M T.S D} (he : DE X T Z W e f) (hk : DE X T Z W k fk) (hm : Z.md i = .own := by rfl) (hN : X.N[i]? = some x := by rfl) (hv : Vis X.env.scope x := by first | exact Or.inl rfl | exact Or.inr (Or.inl rfl) | exact Or.inr (Or.inr rfl)) (hd : (x == ("__debug__" : Str)) = false := by decide)
    (hcd : (x == ("__classdict__" : Str)) = false := by decide)
    (ha : ∀ v, assign (.Subscript (.Name x p1) k pos') X.env v = (do
      let ov ← holding [v] (eval (.Name x p1) X.env)
      let iv ← holding [v, ov] (eval k X.env)
      standAt pos'
      holding [v, ov, iv] (setItem ov iv v)
      release [v, ov, iv] []) := by intro _; rfl) (hs : swapsWithSole [.Subscript (.Name x p1) k pos'] e pos.line X.env = pure false := by rfl) (hw : swappedStores [.Subscript (.Name x p1) k pos'] e X.env = pure none := by rfl) (h1 : (assignEach [.Subscript (.Name x p1) k pos'] X.env).map (·.2) = [assign (.Subscript (.Name x p1) k pos') X.env] := by rfl) :
    DS X T Z W (.Assign [.Subscript (.Name x p1) k pos'] e pos) (sPut i fk f) :=
  (ps_asg he (pg_sub (pe_var hN hv hd hcd) hk set_list ha) hs hw h1).imp fun E σ H ⟨F, ρ, s, r, q⟩ => rd.sq r q fun y s1 F1 H1 v r1 st rv q1 => by
    obtain ⟨d, hd, q1⟩ := q1.own
    obtain ⟨a, e1, h1, ow⟩ := r1.own hm hd
    refine ⟨_, e1, rd.sq r1 q1 fun kd s2 F2 H2 kv r2 st2 rk q2 => ?_⟩
    obtain ⟨z, ez, q2⟩ := q2.opt
    obtain ⟨xs, n, j, rfl, rfl, ej, rfl⟩ := setD_inv ez
    obtain ⟨a', e1', h1', vs', h2', h3'⟩ := r2.own hm hd
    rw [e1] at e1'
    cases e1'
    exact ⟨a, vs', n, j, rfl, rk, h2', by rw [← h3'.length]; exact ej, q2 F2 _ σ (Ex.refl F2) (r2.chg hm hd e1 ⟨_, upd_same, RpL.set (rv.mono st2.ff) j h3'⟩)⟩
theorem pget_list : PGet X (rIxL X.K) := by
  intro pins s σ H o i ov iv Q I ro ri h
  obtain ⟨p, xs, k, z, rfl, rfl, hq, he, q⟩ := h
  cases ro
  obtain ⟨t, rfl⟩ := ri
  obtain ⟨its, r, pl, hz⟩ := I.list hq
  obtain ⟨j, h1, h2, h3, h4, h5⟩ := atI_get he
  obtain ⟨w, ew, rw'⟩ := r.get h2
  have hl := r.length
  have hn := line63
  have fin : EP X pins σ Q w s := ⟨z, H, I, rw', q⟩
  by_cases h0 : 0 ≤ k
  · have hj : k.toNat = j := by
      rw [seqIndex_of h0 h5] at h1
      exact Option.some.inj h1
    exact wpAny_getItem_list pl.isList h0 (by omega) (by rw [hj]; simpa using ew) fin
  · have hj : (k + (its.toArray.size : Int)).toNat = j := by
      rw [seqIndex_neg (by omega) h4] at h1
      rw [List.size_toArray, ← hl]
      exact Option.some.inj h1
    exact wpAny_getItem_list_neg pl.isList (by omega) (by rw [List.size_toArray]; omega) (by omega) (by rw [hj]; simpa using ew) fin
/-- an in-place operator by data -/
def addI : D → D → Option D
  | .int a, .int b => some (.int (a + b))
  | _, _ => none
def rP (g : D → D → Option D) (o : Wo) : TIp := fun x y H Q => ∃ F a b d, Ex F H ∧ RpR o [] F H a x ∧ RpR o [] F H b y ∧ g a b = some d ∧ ∀ v F' H', Stp [] F H F' H' → Rp o F' d v → Q v H'
theorem ip_addQ : PIp X .Add (rP addI (wo X)) := fun pins s σ H x y v u Q I rx ry ⟨F, a, b, d, ex, ra, rb, e, k⟩ => by
  match a, b, e, ra, rb with
  | .int a, .int b, e, ra, rb =>
    cases e
    exact ip_add pins s σ H x y v u Q I rx ry ⟨a, b, ra, rb, k _ F H (Stp.refl ex) rfl⟩
theorem ip_subQ : PIp X .Sub (rP subD (wo X)) := fun pins s σ H x y v u Q I rx ry ⟨F, a, b, d, ex, ra, rb, e, k⟩ => by
  match a, b, e, ra, rb with
  | .int a, .int b, e, ra, rb =>
    cases e
    exact ip_sub pins s σ H x y v u Q I rx ry ⟨a, b, ra, rb, k _ F H (Stp.refl ex) rfl⟩
end
end DL
set_option Elab.async false
set_option linter.all false
set_option maxRecDepth 100000
set_option maxHeartbeats 1000000
/-! Values by mode, pairs, augmented assignment, raise. -/
namespace DL
open PySem PySem.Spec PyProof.Rows L2
section
variable {o : Wo} {T : Tk} {Z : Fx} {W : WX} {F H F' H' : Hp} {ρ : Env} {s s' : T.S} {σ : L2.St}
theorem Slot.step (fpz : ∀ a ∈ Z.fp, Z.F0 a = none ∧ Z.H0 a ≠ none) {m : Mode} {d : D} {v : V} (h : Slot o Z F H m d v) (st : Stp Z.fp F H F' H') : Slot o Z F' H' m d v := by
  unfold Slot at h ⊢
  cases m with
  | sh => exact Rp.mono st.ff h
  | own =>
    obtain ⟨a, e2, h1, h2, h3⟩ := h
    have nfp : a ∉ Z.fp := fun ha => (fpz a ha).2 h2
    refine ⟨a, e2, ?_, h2, h3.mono st.ff fun hn => ?_⟩
    · cases q : F' a with
      | none => rfl
      | some u => exact absurd (st.new a h1 (by rw [q]; exact nofun)) h3.some
    · cases q : H a with
      | none => exact absurd q hn
      | some u => exact st.hh a u q nfp
  | bor => exact h
  | tok => exact h
/-- a slot is set, whatever its mode -/
theorem Rl.setG {i : Nat} {d : D} {v : V} (r : Rl o T Z F H ρ s σ) (sl : Slot o Z F H (Z.md i) d v) (other : Z.md i = .own → ∀ j e, j ≠ i → ρ[j]? = some (some e) → Z.md j = .own → σ[j]? = some (some v) → False) : Rl o T Z F H (ρ.set i (some d)) s (σ.set i (some v)) := by
  have g : ∀ j (e : D), (ρ.set i (some d))[j]? = some (some e) → j ≠ i → ρ[j]? = some (some e) := fun j e hj n => by
    rwa [List.getElem?_set_ne (Ne.symm n)] at hj
  refine ⟨r.st, r.at_, r.fpz, fun j e hj => ?_, fun j k b d1 e1 hjk h1 h2 h3 h4 h5 h6 => ?_, by rw [List.length_set, List.length_set]; exact r.len⟩
  · by_cases hji : j = i
    · subst hji
      have hl : j < ρ.length := by
        have := (List.getElem?_eq_some_iff.mp hj).1
        rwa [List.length_set] at this
      rw [List.getElem?_set_self hl] at hj
      cases hj
      exact ⟨_, by rw [List.getElem?_set_self (by rw [← r.len]; exact hl)], sl⟩
    · obtain ⟨w, e1, e2⟩ := r.sl j e (g j e hj hji)
      exact ⟨w, by rw [List.getElem?_set_ne (Ne.symm hji)]; exact e1, e2⟩
  · have at_i : ∀ l (b : Addr), (σ.set i (some v))[l]? = some (some (.ref b)) → l = i → v = .ref b := fun l b hl e => by
      subst e
      have hl2 : l < σ.length := by
        have := (List.getElem?_eq_some_iff.mp hl).1
        rwa [List.length_set] at this
      rw [List.getElem?_set_self hl2] at hl
      cases hl; rfl
    by_cases hji : j = i
    · have hki : k ≠ i := fun z => hjk (hji.trans z.symm)
      have := at_i j b h5 hji
      rw [List.getElem?_set_ne (Ne.symm hki)] at h4 h6
      exact other (hji ▸ h1) k e1 hki h4 h2 (this ▸ h6)
    · by_cases hki : k = i
      · have := at_i k b h6 hki
        rw [List.getElem?_set_ne (Ne.symm hji)] at h3 h5
        exact other (hki ▸ h2) j d1 hji h3 h1 (this ▸ h5)
      · rw [List.getElem?_set_ne (Ne.symm hji)] at h3 h5
        rw [List.getElem?_set_ne (Ne.symm hki)] at h4 h6
        exact r.dis j k b d1 e1 hjk h1 h2 h3 h4 h5 h6
/-- what is new is at no slot -/
theorem Rl.notAt {a : Addr} (r : Rl o T Z F H ρ s σ) (hn : H a = none) (j : Nat) (e : D) (h : ρ[j]? = some (some e)) (hm : Z.md j = .own) (h2 : σ[j]? = some (some (.ref a))) : False := by
  obtain ⟨v, e1, h⟩ := r.sl j e h
  rw [h2] at e1; cases e1
  unfold Slot at h
  rw [hm] at h
  obtain ⟨b, e2, _, _, h3⟩ := h
  cases e2
  exact h3.some hn
end
/-! ### a value by mode -/
def rdE (o : Wo) (T : Tk) (Z : Fx) (W : WX) (m : Mode) (f : Env → M T.S D) : TE := fun σ H Q => ∃ F ρ s, Rl o T Z F H ρ s σ ∧ Out o T Z W F H σ (f ρ s) fun d _ F' H' => ∀ v, Slot o Z F' H' m d v → (m = .own → ∀ a, v = .ref a → H a = none) → Q v H'
abbrev DX (X : Cx) (T : Tk) (Z : Fx) (W : WX) (m : Mode) (e : Expr) (f : Env → M T.S D) : Prop := PE X e (rdE (wo X) T Z W m f)
section
variable {X : Cx} {T : Tk} {Z : Fx} {W : WX}
theorem dx_sh {e : Expr} {f : Env → M T.S D} (h : DE X T Z W e f) : DX X T Z W .sh e f := h.imp fun σ H Q ⟨F, ρ, s, r, q⟩ => ⟨F, ρ, s, r, q.mono fun d s' F' H' st at' k v rv => k v rv nofun⟩
theorem dx_own {e : Expr} {f : Env → M T.S D} (h : DF X T Z W e f) : DX X T Z W .own e f := h.imp fun σ H Q ⟨F, ρ, s, r, q⟩ => ⟨F, ρ, s, r, q.mono fun d s' F' H' st at' k a h1 h2 h3 => k _ ⟨a, rfl, h2, r.st.back r.fpH h1, h3⟩ fun _ b e => by cases e; exact h1⟩
theorem rdE.seq {o : Wo} {α : Type} {m : Mode} {F H : Hp} {ρ : Env} {s : T.S} {σ : L2.St} {f : Env → M T.S D} {k : D → M T.S α} {ok : α → T.S → Hp → Hp → Prop} {Q : VK} (r : Rl o T Z F H ρ s σ) (h : Out o T Z W F H σ ((f ρ >>= k) s) ok)
    (q : ∀ d s1 F1 H1 v, Rl o T Z F1 H1 ρ s1 σ → Stp Z.fp F H F1 H1 → Slot o Z F1 H1 m d v → (m = .own → ∀ a, v = .ref a → H a = none) → Out o T Z W F1 H1 σ (k d s1) ok → Q v H1) : rdE o T Z W m f σ H Q :=
  ⟨F, ρ, s, r, h.bind.mono fun d s1 F1 H1 st at1 q1 v rv nv => q d s1 F1 H1 v (r.step st at1) st rv nv q1⟩
theorem rdE.sq {o : Wo} {m : Mode} {F H : Hp} {ρ : Env} {s : T.S} {σ : L2.St} {f : Env → M T.S D} {k : Env → D → T.S → SR T.S} {E : Ends} {Q : VK} (r : Rl o T Z F H ρ s σ) (h : OutS o T Z W F (sE f k ρ s) E)
    (q : ∀ d s1 F1 H1 v, Rl o T Z F1 H1 ρ s1 σ → Stp Z.fp F H F1 H1 → Slot o Z F1 H1 m d v → (m = .own → ∀ a, v = .ref a → H a = none) → OutS o T Z W F1 (k ρ d s1) E → Q v H1) : rdE o T Z W m f σ H Q :=
  ⟨F, ρ, s, r, (OutS.e r h).mono fun d s1 F1 H1 st at1 k1 v rv nv => q d s1 F1 H1 v (r.step st at1) st rv nv k1⟩
end
/-- a, b = x, y -/
def sPar {S : Type} (i j : Nat) (f g : Env → M S D) : G S := sE f fun ρ d s => sE g (fun ρ e s => .nx ((ρ.set i (some d)).set j (some e)) s) ρ s
section
variable {X : Cx} {T : Tk} {Z : Fx} {W : WX}
theorem ds_par (i j : Nat) {x y : Str} {a b : Expr} {px py pt pos : Pos} {kt k2 pt2} {m1 m2 : Mode} {f g : Env → M T.S D} (hc : X.calm = true) (hN : X.N.Nodup) (ha : DX X T Z W m1 a f) (hb : DX X T Z W m2 b g) (hm1 : Z.md i = m1 := by rfl) (hm2 : Z.md j = m2 := by rfl)
    (hi : X.N[i]? = some x := by rfl) (hj : X.N[j]? = some y := by rfl) (hij : i ≠ j := by decide)
    (hx : X.env.scope.names.lookup x = some .local := by rfl) (hy : X.env.scope.names.lookup y = some .local := by rfl) (sa : starEach [a, b] X.env = (false, eval a X.env) :: starEach [b] X.env := by rfl) (sb : starEach [b] X.env = (false, eval b X.env) :: starEach [] X.env := by rfl)
    (hw : swappedStores [.Tuple [.Name x px, .Name y py] kt pt] (.Tuple [a, b] k2 pt2) X.env = pure (some [x, y]) := by rfl)
    (hs : swapsWithSole [.Tuple [.Name x px, .Name y py] kt pt] (.Tuple [a, b] k2 pt2) pos.line X.env = pure false := by rfl) :
    DS X T Z W (.Assign [.Tuple [.Name x px, .Name y py] kt pt] (.Tuple [a, b] k2 pt2) pos) (sPar i j f g) :=
  (ps_par hc hN hi hj hij hx hy (pa_cons ha (pa_cons hb pa_nil sb) sa) hw hs).imp fun E σ H ⟨F, ρ, s, r, q⟩ =>
  rdE.sq r q fun d s1 F1 H1 v r1 st1 rv nv k => rdE.sq r1 k fun e s2 F2 H2 w r2 st2 rw' nw k => by
    refine ⟨v, w, rfl, k F2 H2 _ (Ex.refl F2) ?_⟩
    have rs : Rl (wo X) T Z F2 H2 (ρ.set i (some d)) s2 (σ.set i (some v)) := r2.setG (by rw [hm1]; exact rv.step r.fpz st2) fun ho l e' hl h1 h2 h3 => by
      have ho : m1 = .own := hm1 ▸ ho
      subst ho
      obtain ⟨c, rfl, _⟩ := rv
      exact r.notAt (nv rfl c rfl) l e' h1 h2 h3
    refine rs.setG (by rw [hm2]; exact rw') fun ho l e' hl h1 h2 h3 => ?_
    have ho : m2 = .own := hm2 ▸ ho
    subst ho
    obtain ⟨c, rfl, _⟩ := rw'
    by_cases hli : l = i
    · subst hli
      have hl2 : l < σ.length := by
        have := (List.getElem?_eq_some_iff.mp h3).1
        rwa [List.length_set] at this
      rw [List.getElem?_set_self hl2] at h3
      cases h3
      have : m1 = .own := hm1 ▸ h2
      subst this
      obtain ⟨c', e3, _, _, ow⟩ := rv
      cases e3
      exact ow.some (nw rfl c rfl)
    · rw [List.getElem?_set_ne (Ne.symm hli)] at h1 h3
      exact r1.notAt (nw rfl c rfl) l e' h1 h2 h3
/-- name op= e -/
theorem ds_aug (i : Nat) {x : Str} {e : Expr} {op : Operator} {g : D → D → Option D} {f : Env → M T.S D} {pos pos' : Pos} (hN : X.N.Nodup) (he : DE X T Z W e f) (ho : PIp X op (rP g (wo X))) (hm : Z.md i = .sh := by rfl) (hi : X.N[i]? = some x := by rfl) (hx : Loc X.env.scope x := by first | exact .inl rfl | exact .inr rfl)
    (hf : X.fn x = true ∨ X.env.scope.names.lookup x = some .local := by first | exact .inl rfl | exact .inr rfl | assumption) : DS X T Z W (.AugAssign (.Name x pos') op e pos) (sAug i g f) := (ps_aug hN hi hx he ho hf).imp fun E σ H ⟨F, ρ, s, r, q⟩ => by
  unfold sAug at q
  cases e : ρ[i]? with
  | none => rw [e] at q; exact q.elim
  | some y =>
    cases y with
    | none => rw [e] at q; exact q.elim
    | some d =>
      rw [e] at q
      obtain ⟨v, e1, h⟩ := r.sl i d e
      unfold Slot at h
      rw [hm] at h
      refine ⟨v, e1, rd.sq r q fun y s1 F1 H1 w r1 st rw' k => ?_⟩
      obtain ⟨z, ez, k⟩ := k.opt
      exact ⟨F1, d, y, z, r1.ex, ((Rp.mono st.ff h).r r1.ex r1.fpF).all, (rw'.r r1.ex r1.fpF).all, ez, fun v' F' H' st' rv' => k F' H' _ st'.ff ((r1.step st'.mono (r1.at' st')).set hm rv')⟩
def ixL : D → D → Option D
  | .lst xs, .int k => atI xs k
  | _, _ => none
theorem ixL_inv {x k z : D} (h : ixL x k = some z) : ∃ xs n, x = .lst xs ∧ k = .int n ∧ atI xs n = some z := by
  cases x with
  | lst xs =>
    cases k with
    | int n => exact ⟨xs, n, rfl, rfl, h⟩
    | _ => exact absurd (show (none : Option D) = some z from h) (by intro q; cases q)
  | _ => exact absurd (show (none : Option D) = some z from h) (by intro q; cases q)
/-- x[i] op= e at a list of one's own -/
def sAugL {S : Type} (i : Nat) (g : D → D → Option D) (fi fe : Env → M S D) : G S := sOwn i fun x => sE fi fun ρ k s => sOpt (ixL x k) fun old => sE fe (fun ρ y s => sOpt (g old y) fun new => sOpt (setD x k new) fun z => .nx (ρ.set i (some z)) s) ρ s
theorem ds_augAt (i : Nat) {x : Str} {p1 pos tpos : Pos} {k e : Expr} {op : Operator} {g : D → D → Option D} {fk f : Env → M T.S D} (hk : DE X T Z W k fk) (he : DE X T Z W e f) (ho : PIp X op (rP g (wo X))) (hm : Z.md i = .own := by rfl) (hN : X.N[i]? = some x := by rfl) (hv : Vis X.env.scope x := by first | exact Or.inl rfl | exact Or.inr (Or.inl rfl) | exact Or.inr (Or.inr rfl)) (hd : (x == ("__debug__" : Str)) = false := by decide)
    (hcd : (x == ("__classdict__" : Str)) = false := by decide)
    (ha : ∀ ov iv new, augStore k ov iv new = (do holding [new, ov, iv] (setItem ov iv new); release [new, ov, iv] []; pure .next) := by intros; rfl) :
    DS X T Z W (.AugAssign (.Subscript (.Name x p1) k tpos) op e pos) (sAugL i g fk f) := (ps_augS (pe_var hN hv hd hcd) hk pget_list he ho set_list ha).imp fun E σ H ⟨F, ρ, s, r, q⟩ => by
  obtain ⟨d, hd, q⟩ := q.own
  obtain ⟨a, e1, h1, ow⟩ := r.own hm hd
  refine ⟨_, e1, rd.sq r q fun kd s2 F2 H2 kv r2 st2 rk q2 => ?_⟩
  obtain ⟨old, eo, q2⟩ := q2.opt
  obtain ⟨xs, n, rfl, rfl, eo⟩ := ixL_inv eo
  obtain ⟨a', e1', h1', vs', h2', h3'⟩ := r2.own hm hd
  rw [e1] at e1'
  cases e1'
  obtain ⟨ov, eo1, eo2⟩ := h3'.at_ eo
  cases rk
  refine ⟨a, vs', n, ov, rfl, rfl, SqL.of h2', eo1, rd.sq r2 q2 fun y s3 F3 H3 w r3 st3 rw' q3 => ?_⟩
  obtain ⟨new, en, q3⟩ := q3.opt
  obtain ⟨z, ez, q3⟩ := q3.opt
  refine ⟨F3, old, y, new, r3.ex, ((eo2.mono st3.ff).r r3.ex r3.fpF).all, (rw'.r r3.ex r3.fpF).all, en, fun v' F' H' st' rv' => ?_⟩
  have r4 := r3.step st'.mono (r3.at' st')
  obtain ⟨xs', n', j', e5, e6, ej', rfl⟩ := setD_inv ez
  cases e5; cases e6
  obtain ⟨a4, e4, h4, vs4, h5, h6⟩ := r4.own hm hd
  rw [e1] at e4
  cases e4
  exact ⟨a, vs4, n, j', rfl, rfl, h5, by rw [← h6.length]; exact ej', q3 F' _ σ st'.ff (r4.chg hm hd e1 ⟨_, upd_same, RpL.set rv' j' h6⟩)⟩
/-! ### raise -/
def sRaise {S : Type} (x : Str) : G S := fun ρ s => .ex ⟨x, []⟩ ρ s
theorem ds_raise {C : Addr} {bmB : List Value} {B newId initId : String} {x m : Str} {j : Nat} {p p2 pos pos' : Pos} (hc : X.calm = true) (tk : Takes X W) (Fb : ExcBaseFacts B newId initId bmB) (q : PySem.W.excIn X.K C bmB newId = true) (gC : X.mg x = some (.ref C)) (kC : PySem.W.keepIn X.K (.ref C) = true) (rs : Raises X (.ref C)) (hg : Gl X x := by rfl)
    (hdb : (x == ("__debug__" : Str)) = false := by decide) : DS X T Z W (.Raise (some (.Call (.Name x p) [.Constant (.str m) j p2] [] pos)) none pos') (sRaise x) := (ps_raise hc tk (pmk_own Fb q gC kC rs hg hdb)).imp fun E σ H ⟨F, ρ, s, r, k⟩ => k F H σ _ _ (Ex.refl F) r ⟨gC, .inl ⟨rfl, rfl⟩⟩
end
end DL
set_option Elab.async false
set_option linter.all false
set_option maxRecDepth 100000
set_option maxHeartbeats 1000000
/-! Defs and their calls. -/
namespace DL
open PySem PySem.Spec PyProof.Rows L2
abbrev Fn (S : Type) := List D → M S D
section
variable {S : Type}
def st0 (n : Nat) (ds : List D) : Env := ds.map some ++ List.replicate (n - ds.length) none
def runB (n : Nat) (g : G S) : Fn S := fun ds s => match g (st0 n ds) s with
  | .nx _ s' => .ok .non s'
  | .rt d s' => .ok d s'
  | .rf d s' => .ok d s'
  | .ex e _ s' => .exc e s'
  | _ => .stuck
/-- .. that answers with a new object -/
def runF (n : Nat) (g : G S) : Fn S := fun ds s => match g (st0 n ds) s with
  | .rf d s' => .ok d s'
  | .ex e _ s' => .exc e s'
  | _ => .stuck
def liftP (m : M Unit D) : M S D := fun s => match m () with
  | .ok d _ => .ok d s
  | .exc e _ => .exc e s
  | .stuck => .stuck
def dCallF (f : Fn S) (fa : Env → M S (List D)) : Env → M S D := fun ρ => do
  let ds ← fa ρ
  f ds
end
def RpP (o : Wo) (Z : Fx) (F H : Hp) : List Mode → List D → List V → Prop
  | [], ds, vs => ds = [] ∧ vs = []
  | m :: ms, ds, vs => ∃ d dr v vr, ds = d :: dr ∧ vs = v :: vr ∧ Slot o Z F H m d v ∧ RpP o Z F H ms dr vr
theorem RpP.len {o : Wo} {Z : Fx} {F H : Hp} : ∀ {ms : List Mode} {ds : List D} {vs : List V}, RpP o Z F H ms ds vs → ds.length = ms.length ∧ vs.length = ms.length
  | [], _, _, ⟨e1, e2⟩ => by rw [e1, e2]; exact ⟨rfl, rfl⟩
  | m :: ms, _, _, ⟨d, dr, v, vr, e1, e2, _, h⟩ => by
    obtain ⟨h1, h2⟩ := RpP.len h
    rw [e1, e2, List.length_cons, List.length_cons, List.length_cons, h1, h2]
    exact ⟨rfl, rfl⟩
theorem RpP.get {o : Wo} {Z : Fx} {F H : Hp} : ∀ {ms : List Mode} {ds : List D} {vs : List V}, RpP o Z F H ms ds vs → ∀ i d, ds[i]? = some d → ∃ v, vs[i]? = some v ∧ Slot o Z F H (ms.getD i .sh) d v
  | [], _, _, ⟨e1, e2⟩, i, d, h => by rw [e1] at h; simp at h
  | m :: ms, _, _, ⟨d, dr, v, vr, e1, e2, sl, r⟩, 0, d', h => by
    rw [e1] at h; cases h
    exact ⟨v, by rw [e2]; rfl, sl⟩
  | m :: ms, _, _, ⟨d, dr, v, vr, e1, e2, sl, r⟩, i + 1, d', h => by
    rw [e1, List.getElem?_cons_succ] at h
    obtain ⟨w, h1, h2⟩ := RpP.get r i d' h
    exact ⟨w, by rw [e2, List.getElem?_cons_succ]; exact h1, h2⟩
theorem RpP.clean {o : Wo} {p q : Addr} {fp : List Addr} {F H : Hp} : ∀ {ms : List Mode} {ds : List D} {vs : List V}, RpP o ⟨p, fp, F, H, []⟩ F H ms ds vs → (ms.all fun m => m == .sh || m == .bor) = true → RpP o ⟨q, [], F, H, []⟩ F H ms ds vs
  | [], _, _, h, _ => h
  | m :: ms, _, _, ⟨d, dr, v, vr, e1, e2, sl, r⟩, hm => by
    rw [List.all_cons, Bool.and_eq_true] at hm
    refine ⟨d, dr, v, vr, e1, e2, ?_, RpP.clean r hm.2⟩
    cases m with
    | sh => exact sl
    | bor => exact RpR.all sl
    | own => exact absurd hm.1 (by decide)
    | tok => exact absurd hm.1 (by decide)
def OutC (o : Wo) (T : Tk) (p : Addr) (fp : List Addr) (F H : Hp) (r : Res T.S D) (Q : VK) (E : XK) : Prop := match r with
  | .ok d s' => ∀ F' H' v, Stp fp F H F' H' → T.At o F' H' p fp s' → Rp o F' d v → Q v H'
  | .exc e s' => ∀ F' H' cls dd, Stp fp F H F' H' → T.At o F' H' p fp s' → ExR o e cls dd F' → E cls dd H'
  | .stuck => False
def OutN (o : Wo) (T : Tk) (p : Addr) (fp : List Addr) (F H : Hp) (r : Res T.S D) (Q : VK) (E : XK) : Prop := match r with
  | .ok d s' => ∀ F' H' a, Stp fp F H F' H' → T.At o F' H' p fp s' → H a = none → F' a = none → OwnAt o F' H' d a → Q (.ref a) H'
  | .exc e s' => ∀ F' H' cls dd, Stp fp F H F' H' → T.At o F' H' p fp s' → ExR o e cls dd F' → E cls dd H'
  | .stuck => False
def spC (o : Wo) (T : Tk) (ms : List Mode) (f : Fn T.S) : Sp := fun vs H Q E => ∃ p fp F s ds, Ex F H ∧ T.At o F H p fp s ∧ (∀ a ∈ fp, F a = none ∧ H a ≠ none) ∧ RpP o ⟨p, fp, F, H, []⟩ F H ms ds vs ∧ OutC o T p fp F H (f ds s) Q E
def spN (o : Wo) (T : Tk) (ms : List Mode) (f : Fn T.S) : Sp := fun vs H Q E => ∃ p fp F s ds, Ex F H ∧ T.At o F H p fp s ∧ (∀ a ∈ fp, F a = none ∧ H a ≠ none) ∧ RpP o ⟨p, fp, F, H, []⟩ F H ms ds vs ∧ OutN o T p fp F H (f ds s) Q E
theorem Rl.start {o : Wo} {T : Tk} {p : Addr} {fp : List Addr} {F H : Hp} {s : T.S} {ms ms' : List Mode} {ds : List D} {vs : List V} {N : List Str} (ex : Ex F H) (at_ : T.At o F H p fp s) (fpz : ∀ a ∈ fp, F a = none ∧ H a ≠ none) (rp : RpP o ⟨p, fp, F, H, []⟩ F H ms ds vs) (hms : ∀ i, i < ms.length → ms'.getD i .sh = ms.getD i .sh) :
    Rl o T ⟨p, fp, F, H, ms'⟩ F H (st0 N.length ds) s (L2.start N vs) := by
  obtain ⟨l1, l2⟩ := rp.len
  have sl : ∀ i d, (st0 N.length ds)[i]? = some (some d) → ∃ v, (L2.start N vs)[i]? = some (some v) ∧ Slot o ⟨p, fp, F, H, ms'⟩ F H (ms'.getD i .sh) d v := fun i d h => by
    unfold st0 at h
    unfold L2.start
    by_cases hi : i < ds.length
    · have hv : i < vs.length := by omega
      rw [List.getElem?_append_left (by rw [List.length_map]; exact hi)] at h
      rw [List.getElem?_append_left (by rw [List.length_map]; exact hv)]
      · rw [List.getElem?_map] at h
        cases e : ds[i]? with
        | none => rw [e] at h; cases h
        | some d' =>
          rw [e] at h; cases h
          obtain ⟨v, h1, h2⟩ := rp.get i d e
          refine ⟨v, by rw [List.getElem?_map, h1]; rfl, ?_⟩
          rw [hms i (by omega)]
          exact h2
    · rw [List.getElem?_append_right (by rw [List.length_map]; omega), List.getElem?_replicate] at h
      split at h <;> cases h
  refine ⟨Stp.refl ex, at_, fpz, sl, fun i j a d e hij h1 h2 h3 h4 h5 h6 => ?_, by unfold st0 L2.start; simp; omega⟩
  obtain ⟨v, e1, h⟩ := sl i d h3
  unfold Slot at h
  rw [show ms'.getD i .sh = .own from h1] at h
  obtain ⟨b, rfl, _, hn, ow⟩ := h
  exact ow.some hn
section
variable {P : Program} {w : World} {K : PySem.W.Frag} {mg : Str → Option Value} {base : Heap} {x qual : Str} {params : Arguments} {body : List Stmt} {scope : Scope} {f : Addr} {fd : FuncData} {N ps : List Str} {k : Nat} {T : Tk}
abbrev cxD (P : Program) (w : World) (K : PySem.W.Frag) (mg : Str → Option Value) (base : Heap) (N : List Str) (qual : Str) (scope : Scope) (f : Addr) (cdv : Value) (A : Around) (outer : List PySem.Env) (s : Shared) (H : Hp) (E : XK) : Cx := cxOf (L2.CX P w) P w K mg base N qual scope f cdv A outer s H E
theorem fn_clean {dvs : List V} {kws : List (Str × V)} {g : G T.S} (ms : List Mode) {ms' : List Mode} (F : FunD K x qual params body scope dvs kws f fd) (S : FnScope N ps scope) (hl : ms.length = ps.length) (hms : ∀ i, i < ms.length → ms'.getD i .sh = ms.getD i .sh)
    (hb : ∀ (cdv : Value) (A : Around) (outer : List PySem.Env) (s : Shared) (H : Hp) (E : XK) (p : Addr) (fp : List Addr) (F0 : Hp), Room k (cxD P w K mg base N qual scope f cdv A outer s H E).A → Takes (cxD P w K mg base N qual scope f cdv A outer s H E) (fun cls d _ H => E cls d H) →
      PassesOwn (model P w) (cxD P w K mg base N qual scope f cdv A outer s H E).A (cxD P w K mg base N qual scope f cdv A outer s H E).env (cxD P w K mg base N qual scope f cdv A outer s H E).xe →
      DSs (cxD P w K mg base N qual scope f cdv A outer s H E) T ⟨p, fp, F0, H, ms'⟩ (fun cls d _ H => E cls d H) body g) :
    FnOk P w K mg base (L2.CX P w) (k + 1) f fd ps (spC ⟨K, mg⟩ T ms (runB N.length g)) := by
  refine F.ok S (fun vs H Q E ⟨p, fp, F0, s0, ds, h1, h2, h3, h4, h5⟩ => ?_) fun cdv A outer s H vs Q E hr ⟨p, fp, F0, s0, ds, ex, at_, fpz, rp, out⟩ => ⟨_, hb cdv A outer s H E p fp F0 hr (takes_of rfl rfl rfl rfl) (passes_of rfl), F0, _, s0, Rl.start ex at_ fpz rp hms, ?_⟩
  · rw [h4.len.2, hl]
  · unfold runB at out
    cases e : g (st0 N.length ds) s0 with
    | nx ρ' s' => rw [e] at out; exact fun F' H' σ' _ r' => out F' H' _ r'.st r'.at_ rfl
    | bk ρ' s' => rw [e] at out; exact out.elim
    | ct ρ' s' => rw [e] at out; exact out.elim
    | rt d s' => rw [e] at out; exact fun F' H' v st at' rv => out F' H' v st at' rv
    | rf d s' =>
      rw [e] at out
      intro F' H' a st at' hH hF ow
      obtain ⟨u, hu, ex', rp'⟩ := ow.freeze hF st.fh
      exact out _ H' _ (st.frz hH hF ex') (T.loc at' (Ex.new hF) fun _ _ => rfl) rp'
    | ex x ρ' s' => rw [e] at out; exact fun F' H' σ' cls dd _ r' er => out F' H' cls dd r'.st r'.at_ er
    | stuck => rw [e] at out; exact out.elim
theorem fn_new {dvs : List V} {kws : List (Str × V)} {g : G T.S} (ms : List Mode) {ms' : List Mode} (F : FunD K x qual params body scope dvs kws f fd) (S : FnScope N ps scope) (hl : ms.length = ps.length) (hms : ∀ i, i < ms.length → ms'.getD i .sh = ms.getD i .sh)
    (hb : ∀ (cdv : Value) (A : Around) (outer : List PySem.Env) (s : Shared) (H : Hp) (E : XK) (p : Addr) (fp : List Addr) (F0 : Hp), Room k (cxD P w K mg base N qual scope f cdv A outer s H E).A → Takes (cxD P w K mg base N qual scope f cdv A outer s H E) (fun cls d _ H => E cls d H) →
      PassesOwn (model P w) (cxD P w K mg base N qual scope f cdv A outer s H E).A (cxD P w K mg base N qual scope f cdv A outer s H E).env (cxD P w K mg base N qual scope f cdv A outer s H E).xe →
      DSs (cxD P w K mg base N qual scope f cdv A outer s H E) T ⟨p, fp, F0, H, ms'⟩ (fun cls d _ H => E cls d H) body g) :
    FnOk P w K mg base (L2.CX P w) (k + 1) f fd ps (spN ⟨K, mg⟩ T ms (runF N.length g)) := by
  refine F.ok S (fun vs H Q E ⟨p, fp, F0, s0, ds, h1, h2, h3, h4, h5⟩ => ?_) fun cdv A outer s H vs Q E hr ⟨p, fp, F0, s0, ds, ex, at_, fpz, rp, out⟩ => ⟨_, hb cdv A outer s H E p fp F0 hr (takes_of rfl rfl rfl rfl) (passes_of rfl), F0, _, s0, Rl.start ex at_ fpz rp hms, ?_⟩
  · rw [h4.len.2, hl]
  · unfold runF at out
    cases e : g (st0 N.length ds) s0 with
    | nx ρ' s' => rw [e] at out; exact out.elim
    | bk ρ' s' => rw [e] at out; exact out.elim
    | ct ρ' s' => rw [e] at out; exact out.elim
    | rt d s' => rw [e] at out; exact out.elim
    | rf d s' => rw [e] at out; exact fun F' H' a st at' hH hF ow => out F' H' a st at' hH hF ow
    | ex x ρ' s' => rw [e] at out; exact fun F' H' σ' cls dd _ r' er => out F' H' cls dd r'.st r'.at_ er
    | stuck => rw [e] at out; exact out.elim
end
/-- a def, known by its name -/
structure Has (P : Program) (w : World) (K : PySem.W.Frag) (mg : Str → Option Value) (base : Heap) (k : Nat) (x : Str) (ps : List Str) (sp : Sp) : Prop where
  ex : ∃ f fd, mg x = some (.ref f) ∧ PySem.W.keepIn K (.ref f) = true ∧ Binds K fd ps [] ∧ FnOk P w K mg base (L2.CX P w) k f fd ps sp
theorem Has.mono {P : Program} {w : World} {K : PySem.W.Frag} {mg : Str → Option Value} {base : Heap} {j k : Nat} {x : Str} {ps : List Str} {sp : Sp} (h : Has P w K mg base j x ps sp) (hk : j ≤ k) : Has P w K mg base k x ps sp := by
  obtain ⟨f, fd, h1, h2, h3, h4⟩ := h
  exact ⟨f, fd, h1, h2, h3, h4.mono hk⟩
/-! ### arguments by mode -/
def rdM (o : Wo) (T : Tk) (Z : Fx) (W : WX) (ms : List Mode) (f : Env → M T.S (List D)) : TA := fun σ H Q => ∃ F ρ s, Rl o T Z F H ρ s σ ∧ Out o T Z W F H σ (f ρ s) fun ds _ F' H' => ∀ vs, RpP o ⟨Z.p, Z.fp, F', H', []⟩ F' H' ms ds vs → Q vs H'
abbrev DM (X : Cx) (T : Tk) (Z : Fx) (W : WX) (ms : List Mode) (es : List Expr) (f : Env → M T.S (List D)) : Prop := PA X es (rdM (wo X) T Z W ms f)
def dTok {S : Type} : Env → M S D := fun _ => M.pure .tok
section
variable {X : Cx} {T : Tk} {Z : Fx} {W : WX}
theorem dm_nil : DM X T Z W [] [] dNil := pa_nil.imp fun σ H Q ⟨F, ρ, s, r, q⟩ => q.here r _ ⟨rfl, rfl⟩
theorem dm_sh {e : Expr} {es : List Expr} {ms : List Mode} {f : Env → M T.S D} {fr : Env → M T.S (List D)} (he : DE X T Z W e f) (hr : DM X T Z W ms es fr) (hs : starEach (e :: es) X.env = (false, eval e X.env) :: starEach es X.env := by rfl) : DM X T Z W (.sh :: ms) (e :: es) (dCons f fr) :=
  (pa_cons he hr hs).imp fun σ H Q ⟨F, ρ, s, r, q⟩ => rd.seq r q fun d s1 F1 H1 v r1 st1 rv q1 => ⟨F1, ρ, s1, r1, q1.bind.mono fun ds s2 F2 H2 st2 at2 q2 vs rp => q2.here (r1.step st2 at2) _ ⟨d, ds, v, vs, rfl, rfl, rv.mono st2.ff, rp⟩⟩
theorem dm_bor {e : Expr} {es : List Expr} {ms : List Mode} {f : Env → M T.S D} {fr : Env → M T.S (List D)} (he : DR X T Z W e f) (hr : DM X T Z W ms es fr) (hs : starEach (e :: es) X.env = (false, eval e X.env) :: starEach es X.env := by rfl) : DM X T Z W (.bor :: ms) (e :: es) (dCons f fr) :=
  (pa_cons he hr hs).imp fun σ H Q ⟨F, ρ, s, r, q⟩ => rdR.seq r q fun d s1 F1 H1 v r1 st1 rv q1 => ⟨F1, ρ, s1, r1, q1.bind.mono fun ds s2 F2 H2 st2 at2 q2 vs rp => q2.here (r1.step st2 at2) _ ⟨d, ds, v, vs, rfl, rfl, rv.mono st2.ff st2.hh, rp⟩⟩
theorem dm_tok (i : Nat) {x : Str} {pos : Pos} {es : List Expr} {ms : List Mode} {fr : Env → M T.S (List D)} (hr : DM X T Z W ms es fr) (hm : Z.md i = .tok := by rfl) (hN : X.N[i]? = some x := by rfl) (hv : Vis X.env.scope x := by first | exact Or.inl rfl | exact Or.inr (Or.inl rfl) | exact Or.inr (Or.inr rfl)) (hd : (x == ("__debug__" : Str)) = false := by decide)
    (hcd : (x == ("__classdict__" : Str)) = false := by decide) (hs : starEach (.Name x pos :: es) X.env = (false, eval (.Name x pos) X.env) :: starEach es X.env := by rfl) : DM X T Z W (.tok :: ms) (.Name x pos :: es) (dCons (dVar i) fr) :=
  (pa_cons (pe_var hN hv hd hcd) hr hs).imp fun σ H Q ⟨F, ρ, s, r, q⟩ => by
    have q0 : Out (wo X) T Z W F H σ ((dVar i ρ >>= fun a => fr ρ >>= fun r => M.pure (a :: r)) s) _ := q
    obtain ⟨d, e, q1⟩ := dVar_out q0.bind
    obtain ⟨v, e1, h⟩ := r.sl i d e
    unfold Slot at h
    rw [hm] at h
    obtain ⟨rfl, rfl⟩ := h
    have q2 := q1.here r
    exact ⟨_, e1, F, ρ, s, r, q2.bind.mono fun ds s2 F2 H2 st2 at2 q3 vs rp => q3.here (r.step st2 at2) _ ⟨.tok, ds, _, vs, rfl, rfl, ⟨rfl, rfl⟩, rp⟩⟩
/-! ### calls -/
section
variable {k : Nat} {x : Str} {ps : List Str} {n : Nat} {p pos : Pos} {e : Expr} {es : List Expr}
/-- a def without the token -/
theorem de_call {ms : List Mode} {f : Fn Unit} {fa : Env → M T.S (List D)} (hs : Has X.prog X.w X.K X.mg X.base k x ps (spC (wo X) Tk.no ms f)) (hr : Room k X.A) (tk : Takes X W) (ha : DM X T Z W ms (e :: es) fa) (hm : (ms.all fun m => m == .sh || m == .bor) = true := by rfl) (hg : Gl X x := by rfl) (hdb : (x == ("__debug__" : Str)) = false := by decide)
    (he : starEach (e :: es) X.env = (false, eval e X.env) :: starEach es X.env := by rfl) (hpl : (backTo pos (starEach es X.env)).any (·.1) = false := by rfl) : DE X T Z W (.Call (.Name x p) (e :: es) [] pos) (dCallF (fun ds => liftP (f ds)) fa) := by
  obtain ⟨a, fd, h1, h2, h3, h4⟩ := hs
  refine (pe_callSD h4 hr hg h1 h2 h3 .nil (passAt tk) ha hdb he hpl).imp fun σ H Q ⟨F, ρ, s, r, q⟩ => ⟨F, ρ, s, r, q.bind.mono fun ds s1 F1 H1 st1 at1 q vs rp => ?_⟩
  have r1 := r.step st1 at1
  show spC (wo X) Tk.no ms f (vs ++ []) H1 Q (WE W σ)
  rw [List.append_nil]
  refine ⟨Z.p, [], F1, (), ds, r1.ex, rfl, (by intro a ha; cases ha), rp.clean hm, ?_⟩
  have q : Out (wo X) T Z W F1 H1 σ (liftP (f ds) s1) _ := q
  unfold liftP at q
  cases e2 : f ds () with
  | stuck => rw [e2] at q; exact q
  | exc x s2 => rw [e2] at q; exact fun F' H' cls dd st' _ er => q cls dd F' H' st'.mono (r1.at' st') er
  | ok d s2 => rw [e2] at q; exact fun F' H' v st' _ rv' => q F' H' st'.mono (r1.at' st') v rv'
theorem df_call {ms : List Mode} {f : Fn Unit} {fa : Env → M T.S (List D)} (hs : Has X.prog X.w X.K X.mg X.base k x ps (spN (wo X) Tk.no ms f)) (hr : Room k X.A) (tk : Takes X W) (ha : DM X T Z W ms (e :: es) fa) (hm : (ms.all fun m => m == .sh || m == .bor) = true := by rfl) (hg : Gl X x := by rfl) (hdb : (x == ("__debug__" : Str)) = false := by decide)
    (he : starEach (e :: es) X.env = (false, eval e X.env) :: starEach es X.env := by rfl) (hpl : (backTo pos (starEach es X.env)).any (·.1) = false := by rfl) : DF X T Z W (.Call (.Name x p) (e :: es) [] pos) (dCallF (fun ds => liftP (f ds)) fa) := by
  obtain ⟨a, fd, h1, h2, h3, h4⟩ := hs
  refine (pe_callSD h4 hr hg h1 h2 h3 .nil (passAt tk) ha hdb he hpl).imp fun σ H Q ⟨F, ρ, s, r, q⟩ => ⟨F, ρ, s, r, q.bind.mono fun ds s1 F1 H1 st1 at1 q vs rp => ?_⟩
  have r1 := r.step st1 at1
  show spN (wo X) Tk.no ms f (vs ++ []) H1 Q (WE W σ)
  rw [List.append_nil]
  refine ⟨Z.p, [], F1, (), ds, r1.ex, rfl, (by intro a ha; cases ha), rp.clean hm, ?_⟩
  have q : Out (wo X) T Z W F1 H1 σ (liftP (f ds) s1) _ := q
  unfold liftP at q
  cases e2 : f ds () with
  | stuck => rw [e2] at q; exact q
  | exc x s2 => rw [e2] at q; exact fun F' H' cls dd st' _ er => q cls dd F' H' st'.mono (r1.at' st') er
  | ok d s2 => rw [e2] at q; exact fun F' H' b st' _ hH hF ow => q F' H' st'.mono (r1.at' st') b (st1.back r1.fpH hH) hF ow
/-- a def that is given the token -/
theorem de_callK {ms : List Mode} {f : Fn T.S} {fa : Env → M T.S (List D)} (hs : Has X.prog X.w X.K X.mg X.base k x ps (spC (wo X) T ms f)) (hr : Room k X.A) (tk : Takes X W) (ha : DM X T Z W ms (e :: es) fa) (hg : Gl X x := by rfl) (hdb : (x == ("__debug__" : Str)) = false := by decide)
    (he : starEach (e :: es) X.env = (false, eval e X.env) :: starEach es X.env := by rfl) (hpl : (backTo pos (starEach es X.env)).any (·.1) = false := by rfl) : DE X T Z W (.Call (.Name x p) (e :: es) [] pos) (dCallF f fa) := by
  obtain ⟨a, fd, h1, h2, h3, h4⟩ := hs
  refine (pe_callSD h4 hr hg h1 h2 h3 .nil (passAt tk) ha hdb he hpl).imp fun σ H Q ⟨F, ρ, s, r, q⟩ => ⟨F, ρ, s, r, q.bind.mono fun ds s1 F1 H1 st1 at1 q vs rp => ?_⟩
  have r1 := r.step st1 at1
  show spC (wo X) T ms f (vs ++ []) H1 Q (WE W σ)
  rw [List.append_nil]
  refine ⟨Z.p, Z.fp, F1, s1, ds, r1.ex, at1, fun a ha => ⟨r1.fpF a ha, r1.fpH a ha⟩, rp, ?_⟩
  cases e2 : f ds s1 with
  | stuck => rw [e2] at q; exact q
  | exc x s2 => rw [e2] at q; exact fun F' H' cls dd st' at' er => q cls dd F' H' st' at' er
  | ok d s2 => rw [e2] at q; exact fun F' H' v st' at' rv' => q F' H' st' at' v rv'
theorem df_callK {ms : List Mode} {f : Fn T.S} {fa : Env → M T.S (List D)} (hs : Has X.prog X.w X.K X.mg X.base k x ps (spN (wo X) T ms f)) (hr : Room k X.A) (tk : Takes X W) (ha : DM X T Z W ms (e :: es) fa) (hg : Gl X x := by rfl) (hdb : (x == ("__debug__" : Str)) = false := by decide)
    (he : starEach (e :: es) X.env = (false, eval e X.env) :: starEach es X.env := by rfl) (hpl : (backTo pos (starEach es X.env)).any (·.1) = false := by rfl) : DF X T Z W (.Call (.Name x p) (e :: es) [] pos) (dCallF f fa) := by
  obtain ⟨a, fd, h1, h2, h3, h4⟩ := hs
  refine (pe_callSD h4 hr hg h1 h2 h3 .nil (passAt tk) ha hdb he hpl).imp fun σ H Q ⟨F, ρ, s, r, q⟩ => ⟨F, ρ, s, r, q.bind.mono fun ds s1 F1 H1 st1 at1 q vs rp => ?_⟩
  have r1 := r.step st1 at1
  show spN (wo X) T ms f (vs ++ []) H1 Q (WE W σ)
  rw [List.append_nil]
  refine ⟨Z.p, Z.fp, F1, s1, ds, r1.ex, at1, fun a ha => ⟨r1.fpF a ha, r1.fpH a ha⟩, rp, ?_⟩
  cases e2 : f ds s1 with
  | stuck => rw [e2] at q; exact q
  | exc x s2 => rw [e2] at q; exact fun F' H' cls dd st' at' er => q cls dd F' H' st' at' er
  | ok d s2 => rw [e2] at q; exact fun F' H' b st' at' hH hF ow => q F' H' st' at' b (st1.back r1.fpH hH) hF ow
end
end
end DL
set_option Elab.async false
set_option linter.all false
set_option maxRecDepth 100000
set_option maxHeartbeats 1000000
/-! max, min of a list; extend, pop; the draw. -/
namespace DL
open PySem PySem.Spec PyProof.Rows L2
def maxLD : List D → Option D
  | [.lst ys] => (intsOf ys).bind fun ns => ns.max?.map D.int
  | _ => none
def minLD : List D → Option D
  | [.lst ys] => (intsOf ys).bind fun ns => ns.min?.map D.int
  | _ => none
theorem max_is {ns : List Int} {m k : Int} (h : ns.max? = some m) (hk : k ∈ ns) (hm : ∀ y, y ∈ ns → y ≤ k) : k = m := by
  obtain ⟨h1, h2⟩ := List.max?_eq_some_iff.mp h
  have a := hm m h1
  have b := h2 k hk
  omega
theorem min_is {ns : List Int} {m k : Int} (h : ns.min? = some m) (hk : k ∈ ns) (hm : ∀ y, y ∈ ns → k ≤ y) : k = m := by
  obtain ⟨h1, h2⟩ := List.min?_eq_some_iff.mp h
  have a := hm m h1
  have b := h2 k hk
  omega
section
variable {X : Cx} {T : Tk} {Z : Fx} {W : WX}
theorem cr_maxLD (hc : X.calm = true) : CallR X (.builtin "max") (rCl (wo X) maxLD) := CallR.imp (cr_max hc) fun xs H Q ⟨F, ds, d, ex, rv, e, k⟩ => by
  match ds, e, rv with
  | [.lst ys], e, rv =>
    obtain ⟨v, rfl, a, vs, rfl, h1, h2⟩ := rv.one
    cases h : intsOf ys with
    | none => rw [show maxLD [.lst ys] = (intsOf ys).bind _ from rfl, h] at e; cases e
    | some ns =>
      rw [show maxLD [.lst ys] = (intsOf ys).bind _ from rfl, h] at e
      cases hm : ns.max? with
      | none => rw [show (some ns).bind _ = ns.max?.map D.int from rfl, hm] at e; cases e
      | some m =>
        rw [show (some ns).bind _ = ns.max?.map D.int from rfl, hm] at e; cases e
        have e2 := intsOf_eq h
        subst e2
        have e3 := h2.int_inv
        subst e3
        refine ⟨a, ns, rfl, h1.l, ?_, fun y hy hle => ?_⟩
        · exact List.length_pos_of_mem (List.max?_eq_some_iff.mp hm).1
        · rw [max_is hm hy hle]; exact k _ F H (Stp.refl ex) rfl
theorem cr_minLD (hc : X.calm = true) : CallR X (.builtin "min") (rCl (wo X) minLD) := CallR.imp (cr_min hc) fun xs H Q ⟨F, ds, d, ex, rv, e, k⟩ => by
  match ds, e, rv with
  | [.lst ys], e, rv =>
    obtain ⟨v, rfl, a, vs, rfl, h1, h2⟩ := rv.one
    cases h : intsOf ys with
    | none => rw [show minLD [.lst ys] = (intsOf ys).bind _ from rfl, h] at e; cases e
    | some ns =>
      rw [show minLD [.lst ys] = (intsOf ys).bind _ from rfl, h] at e
      cases hm : ns.min? with
      | none => rw [show (some ns).bind _ = ns.min?.map D.int from rfl, hm] at e; cases e
      | some m =>
        rw [show (some ns).bind _ = ns.min?.map D.int from rfl, hm] at e; cases e
        have e2 := intsOf_eq h
        subst e2
        have e3 := h2.int_inv
        subst e3
        refine ⟨a, ns, rfl, h1.l, ?_, fun y hy hle => ?_⟩
        · exact List.length_pos_of_mem (List.min?_eq_some_iff.mp hm).1
        · rw [min_is hm hy hle]; exact k _ F H (Stp.refl ex) rfl
/-- a name's object as receiver -/
theorem pe_own (i : Nat) {x : Str} {pos : Pos} (hN : X.N[i]? = some x := by rfl) (hv : Vis X.env.scope x := by first | exact Or.inl rfl | exact Or.inr (Or.inl rfl) | exact Or.inr (Or.inr rfl)) (hd : (x == ("__debug__" : Str)) = false := by decide)
    (hcd : (x == ("__classdict__" : Str)) = false := by decide) : PE X (.Name x pos) (tVar i) := pe_var hN hv hd hcd
/-- x.extend(e), e new -/
def sExt {S : Type} (i : Nat) (f : Env → M S D) : G S := sOwnL i fun x => sE f fun ρ y s => sOpt (extD (.lst x) y) fun z => .nx (ρ.set i (some z)) s
theorem ds_extend (i : Nat) {x : Str} {p1 apos cpos pos : Pos} {e : Expr} {f : Env → M T.S D} (he : DF X T Z W e f) (hm : Z.md i = .own := by rfl) (hN : X.N[i]? = some x := by rfl) (hv : Vis X.env.scope x := by first | exact Or.inl rfl | exact Or.inr (Or.inl rfl) | exact Or.inr (Or.inr rfl)) (hd : (x == ("__debug__" : Str)) = false := by decide)
    (hcd : (x == ("__classdict__" : Str)) = false := by decide) (hbase : attributeBase (.Name x p1) "extend" X.env (eval (.Name x p1) X.env) = eval (.Name x p1) X.env := by rfl)
    (hfew : ((backTo cpos (starEach [e] X.env)).all (fun x => !x.1) && (backToKw cpos (keywordEach [] X.env)).all (fun x => x.1.isSome) && decide (([e] : List Expr).length + ([] : List Keyword).length + (if ([] : List Keyword).isEmpty then 0 else 1) < 30)) = true := by rfl)
    (hline : (apos.endLine == cpos.line) = true := by rfl) (hs : starEach [e] X.env = (false, eval e X.env) :: starEach [] X.env := by rfl) (hplain : (backTo cpos (starEach [] X.env)).any (·.1) = false := by rfl) (hs2 : swapsWith (.Call (.Attribute (.Name x p1) "extend" apos) [e] [] cpos) none pos.line X.env = pure false := by rfl) :
    DS X T Z W (.Expr (.Call (.Attribute (.Name x p1) "extend" apos) [e] [] cpos) pos) (sExt i f) :=
  (ps_expr (pe_bm F.plainAttrs_list F.slot_list_extend F.type_list_extend mt_extend (pe_var hN hv hd hcd) (pa_cons he pa_nil hs) hbase hfew hline hs hplain) hs2).imp fun E σ H ⟨F, ρ, s, r, q⟩ => by
    obtain ⟨xs, hd, q⟩ := q.ownL
    obtain ⟨a, e1, h1, vs, h2, h3⟩ := r.own hm hd
    refine ⟨_, e1, .inl ⟨rfl, _, SqL.of h2⟩, rdF.sq r q fun y s1 F1 H1 b r1 st hn hF ow k => ?_⟩
    obtain ⟨z, ez, k⟩ := k.opt
    obtain ⟨xs', ys, e2, rfl, hc, rfl⟩ := extD_inv ez
    cases e2
    obtain ⟨a', e1', h1', vs', h2', h3'⟩ := r1.own hm hd
    rw [e1] at e1'
    cases e1'
    obtain ⟨ws, h4, h5⟩ := ow
    have hl := h3'.length
    have hl2 := h5.length
    exact ⟨a, b, vs', ws, rfl, rfl, h2', h4, by omega, k F1 _ σ (Ex.refl F1) (r1.chg hm hd e1 ⟨_, upd_same, h3'.app h5⟩)⟩
/-- y.append(x.pop(e)) and y = x.pop(e): what is popped is looked at after e -/
theorem popAtD_inv {x k : D} {y z : D} (h : popAtD x k = some (y, z)) : ∃ xs n j, x = .lst xs ∧ k = .int n ∧ ixN xs.length n = some j ∧ xs[j]? = some y ∧ z = .lst (xs.eraseIdx j) ∧ xs.length ≤ sizeLine := by
  cases x with
  | lst xs =>
    cases k with
    | int n =>
      have h : (if xs.length ≤ sizeLine then ((ixN xs.length n).bind fun j => (xs[j]?).map fun y => (y, D.lst (xs.eraseIdx j))) else none) = some (y, z) := h
      have hz : xs.length ≤ sizeLine := by
        by_cases hz : xs.length ≤ sizeLine
        · exact hz
        · rw [if_neg hz] at h; cases h
      rw [if_pos hz] at h
      cases ej : ixN xs.length n with
      | none => rw [ej] at h; cases h
      | some j =>
        rw [ej] at h
        have h : ((xs[j]?).map fun y => (y, D.lst (xs.eraseIdx j))) = some (y, z) := h
        cases ey : xs[j]? with
        | none => rw [ey] at h; cases h
        | some w => rw [ey] at h; cases h; exact ⟨xs, n, j, rfl, rfl, ej, ey, rfl, hz⟩
    | _ => exact absurd (show (none : Option (D × D)) = some (y, z) from h) (by intro q; cases q)
  | _ => exact absurd (show (none : Option (D × D)) = some (y, z) from h) (by intro q; cases q)
theorem RpL.erase {o : Wo} {F : Hp} : ∀ {xs : List D} {vs : List V} (n : Nat), RpL o F xs vs → RpL o F (xs.eraseIdx n) (vs.eraseIdx n)
  | [], _, n, h => by rw [show _ = _ from h]; rfl
  | x :: xs, _, 0, ⟨v, r, e1, e2, e3⟩ => by rw [e1]; exact e3
  | x :: xs, _, n + 1, ⟨v, r, e1, e2, e3⟩ => by rw [e1]; exact ⟨v, _, rfl, e2, RpL.erase n e3⟩
/-- found.append(left.pop(e)) -/
def sAppPop {S : Type} (i j : Nat) (f : Env → M S D) : G S := sOwnL i fun x => sOwnL j fun y => sE f fun ρ k s => sOpt (popAtD (.lst y) k) fun p => sOpt (appD (.lst x) p.1) fun z => .nx ((ρ.set j (some p.2)).set i (some z)) s
theorem ds_appPop (i j : Nat) {x y : Str} {p1 apos cpos pos p2 apos2 cpos2 : Pos} {e : Expr} {f : Env → M T.S D} (he : DE X T Z W e f) (hij : i ≠ j := by decide) (hm : Z.md i = .own := by rfl) (hm2 : Z.md j = .own := by rfl) (hN : X.N[i]? = some x := by rfl) (hN2 : X.N[j]? = some y := by rfl)
    (hv : Vis X.env.scope x := by first | exact Or.inl rfl | exact Or.inr (Or.inl rfl) | exact Or.inr (Or.inr rfl)) (hv2 : Vis X.env.scope y := by first | exact Or.inl rfl | exact Or.inr (Or.inl rfl) | exact Or.inr (Or.inr rfl)) (hd : (x == ("__debug__" : Str)) = false := by decide) (hd2 : (y == ("__debug__" : Str)) = false := by decide)
    (hcd : (x == ("__classdict__" : Str)) = false := by decide) (hcd2 : (y == ("__classdict__" : Str)) = false := by decide) (hbase : attributeBase (.Name x p1) "append" X.env (eval (.Name x p1) X.env) = eval (.Name x p1) X.env := by rfl) (hbase2 : attributeBase (.Name y p2) "pop" X.env (eval (.Name y p2) X.env) = eval (.Name y p2) X.env := by rfl)
    (hfew : ((backTo cpos (starEach [.Call (.Attribute (.Name y p2) "pop" apos2) [e] [] cpos2] X.env)).all (fun x => !x.1) && (backToKw cpos (keywordEach [] X.env)).all (fun x => x.1.isSome) && decide (([.Call (.Attribute (.Name y p2) "pop" apos2) [e] [] cpos2] : List Expr).length + ([] : List Keyword).length + (if ([] : List Keyword).isEmpty then 0 else 1) < 30)) = true := by rfl)
    (hfew2 : ((backTo cpos2 (starEach [e] X.env)).all (fun x => !x.1) && (backToKw cpos2 (keywordEach [] X.env)).all (fun x => x.1.isSome) && decide (([e] : List Expr).length + ([] : List Keyword).length + (if ([] : List Keyword).isEmpty then 0 else 1) < 30)) = true := by rfl)
    (hline : (apos.endLine == cpos.line) = true := by rfl) (hline2 : (apos2.endLine == cpos2.line) = true := by rfl) (hs : starEach [.Call (.Attribute (.Name y p2) "pop" apos2) [e] [] cpos2] X.env = (false, eval (.Call (.Attribute (.Name y p2) "pop" apos2) [e] [] cpos2) X.env) :: starEach [] X.env := by rfl) (hs2 : starEach [e] X.env = (false, eval e X.env) :: starEach [] X.env := by rfl)
    (hplain : (backTo cpos (starEach [] X.env)).any (·.1) = false := by rfl) (hplain2 : (backTo cpos2 (starEach [] X.env)).any (·.1) = false := by rfl) (hsw : swapsWith (.Call (.Attribute (.Name x p1) "append" apos) [.Call (.Attribute (.Name y p2) "pop" apos2) [e] [] cpos2] [] cpos) none pos.line X.env = pure false := by rfl) :
    DS X T Z W (.Expr (.Call (.Attribute (.Name x p1) "append" apos) [.Call (.Attribute (.Name y p2) "pop" apos2) [e] [] cpos2] [] cpos) pos) (sAppPop i j f) :=
  (ps_expr (pe_bm F.plainAttrs_list F.slot_list_append F.type_list_append mt_append (pe_var hN hv hd hcd) (pa_cons (pe_bm F.plainAttrs_list F.slot_list_pop F.type_list_pop mt_popAt (pe_var hN2 hv2 hd2 hcd2) (pa_cons he pa_nil hs2) hbase2 hfew2 hline2 hs2 hplain2) pa_nil hs) hbase hfew hline hs hplain) hsw).imp fun E σ H ⟨F, ρ, s, r, q⟩ => by
    obtain ⟨xs, hd, q⟩ := q.ownL
    obtain ⟨ys, hd2, q⟩ := q.ownL
    obtain ⟨a, e1, h1, vs, h2, h3⟩ := r.own hm hd
    obtain ⟨b, e2, g1, ws, g2, g3⟩ := r.own hm2 hd2
    refine ⟨_, e1, .inl ⟨rfl, _, SqL.of h2⟩, _, e2, .inl ⟨rfl, _, SqL.of g2⟩, rd.sq r q fun kd s1 F1 H1 v r1 st rv k => ?_⟩
    obtain ⟨p, ep, k⟩ := k.opt
    obtain ⟨z, ez, k⟩ := k.opt
    obtain ⟨py, pz⟩ := p
    obtain ⟨ys', n, j', e3, rfl, ej, ey, rfl, hz⟩ := popAtD_inv ep
    cases e3
    obtain ⟨xs', e4, hc, rfl⟩ := appD_inv ez
    cases e4
    obtain ⟨a', e1', h1', vs', h2', h3'⟩ := r1.own hm hd
    rw [e1] at e1'
    cases e1'
    obtain ⟨b', e2', g1', ws', g2', g3'⟩ := r1.own hm2 hd2
    rw [e2] at e2'
    cases e2'
    cases rv
    obtain ⟨w, ew, rw'⟩ := g3'.get ey
    have nab : a ≠ b := fun z => by
      subst z
      exact r1.dis i j a _ _ hij hm hm2 hd hd2 e1 e2
    obtain ⟨q1, q2, q3, q4⟩ := ixN_seq ej
    have hl := h3'.length
    have hl2 := g3'.length
    have h63 := line63
    rw [hl2] at q1
    have r2 := r1.chg (e := .lst (ys.eraseIdx j')) hm2 hd2 e2 ⟨_, upd_same, g3'.erase j'⟩
    have hd' : (ρ.set j (some (D.lst (ys.eraseIdx j'))))[i]? = some (some (.lst xs)) := by rw [List.getElem?_set_ne (Ne.symm hij)]; exact hd
    refine ⟨b, ws', n, j', w, rfl, rfl, g2', ?_, ?_, q1, ew, a, vs', w, rfl, rfl, by rw [upd_ne nab]; exact h2', by omega, ?_⟩
    · have := sizeLine_eq; omega
    · have := sizeLine_eq; omega
    · exact k F1 _ σ (Ex.refl F1) (r2.chg hm hd' e1 ⟨_, upd_same, h3'.app (RpL.one rw')⟩)
end
end DL
set_option Elab.async false
set_option linter.all false
set_option maxRecDepth 100000
set_option maxHeartbeats 1000000
/-! The draw: a dict with two lists, that defs hand on. -/
namespace DL
open PySem PySem.Spec PyProof.Rows L2
structure Dr where
  large : List Int
  rest : Int
  cells : List Int
  turn : Int
abbrev drL (l c : Addr) (s : Dr) : List (Key × V) := [(.inr "large", .ref l), (.inr "rest", .int s.rest), (.inr "cells", .ref c), (.inr "turn", .int s.turn)]
abbrev tkD : Tk where
  S := Dr
  At := fun _ _ H p fp s => ∃ l c, fp = [p, l, c] ∧ p ≠ l ∧ p ≠ c ∧ l ≠ c ∧ H p = some (.dK (drL l c s)) ∧ H l = some (.lst (s.large.map V.int)) ∧ H c = some (.lst (s.cells.map V.int))
  loc := fun ⟨l, c, h1, h2, h3, h4, h5, h6, h7⟩ _ h => by
    subst h1
    exact ⟨l, c, rfl, h2, h3, h4, (h _ (by simp)).trans h5, (h _ (by simp)).trans h6, (h _ (by simp)).trans h7⟩
  tr := fun ⟨l, c, h1, h2, h3, h4, h5, h6, h7⟩ a ha => by
    subst h1
    simp only [List.mem_cons, List.not_mem_nil, or_false] at ha
    rcases ha with rfl | rfl | rfl
    · rw [h5]; exact nofun
    · rw [h6]; exact nofun
    · rw [h7]; exact nofun
theorem vLarge (l c : Addr) (s : Dr) : valV (drL l c s) (.inr "large") = some (.ref l) := by rfl
theorem vRest (l c : Addr) (s : Dr) : valV (drL l c s) (.inr "rest") = some (.int s.rest) := by rfl
theorem vCells (l c : Addr) (s : Dr) : valV (drL l c s) (.inr "cells") = some (.ref c) := by rfl
theorem vTurn (l c : Addr) (s : Dr) : valV (drL l c s) (.inr "turn") = some (.int s.turn) := by rfl
theorem pRest (l c : Addr) (s : Dr) (n : Int) : putK (drL l c s) (.inr "rest") (.int n) = drL l c { s with rest := n } := by rfl
theorem pTurn (l c : Addr) (s : Dr) (n : Int) : putK (drL l c s) (.inr "turn") (.int n) = drL l c { s with turn := n } := by rfl
def tkAt {α : Type} (i : Nat) (k : Dr → Res Dr α) : Env → M Dr α := fun ρ s => match ρ[i]? with
  | some (some .tok) => k s
  | _ => .stuck
def dRest (i : Nat) : Env → M Dr D := tkAt i fun s => .ok (.int s.rest) s
def dTurn (i : Nat) : Env → M Dr D := tkAt i fun s => .ok (.int s.turn) s
def dLarge (i : Nat) : Env → M Dr Bool := tkAt i fun s => .ok (!s.large.isEmpty) s
def dPopLarge (i : Nat) : Env → M Dr D := tkAt i fun s => match s.large with
  | n :: r => .ok (.int n) { s with large := r }
  | [] => .stuck
def sPutT (i : Nat) (g : Int → Dr → Dr) (f : Env → M Dr D) : G Dr := sE f fun ρ d s => match d, ρ[i]? with
  | .int n, some (some .tok) => .nx ρ (g n s)
  | _, _ => .stuck
def forCells (g : D → Env → Option Env) (body : G Dr) (cs : List Int) : List Int → Env → Dr → SR Dr
  | [], ρ, s => if s.cells = cs then .nx ρ s else .stuck
  | x :: xs, ρ, s => if s.cells = cs then (match g (.int x) ρ with
    | none => .stuck
    | some ρ' => match body ρ' s with
      | .nx ρ'' s' => forCells g body cs xs ρ'' s'
      | .ct ρ'' s' => forCells g body cs xs ρ'' s'
      | .bk ρ'' s' => .nx ρ'' s'
      | r => r) else .stuck
def sForCells (i : Nat) (g : D → Env → Option Env) (body : G Dr) : G Dr := fun ρ s => match ρ[i]? with
  | some (some .tok) => forCells g body s.cells s.cells ρ s
  | _ => .stuck
section
variable {o : Wo} {Z : Fx} {W : WX} {F H : Hp} {ρ : Env} {s : Dr} {σ : L2.St} {α : Type}
theorem tkAt_inv {i : Nat} {k : Dr → Res Dr α} {ok : α → Dr → Hp → Hp → Prop} (h : Out o tkD Z W F H σ (tkAt i k ρ s) ok) : ρ[i]? = some (some .tok) ∧ Out o tkD Z W F H σ (k s) ok := by
  unfold tkAt at h
  cases e : ρ[i]? with
  | none => rw [e] at h; exact h.elim
  | some x =>
    cases x with
    | none => rw [e] at h; exact h.elim
    | some d =>
      cases d with
      | tok => rw [e] at h; exact ⟨rfl, h⟩
      | _ => rw [e] at h; exact h.elim
theorem ne_of_none' {H : Hp} {a p : Addr} (h : H a ≠ none) (hp : H p = none) : a ≠ p := fun z => h (by rw [z]; exact hp)
theorem Rl.tok {T : Tk} {s : T.S} {i : Nat} (r : Rl o T Z F H ρ s σ) (hm : Z.md i = .tok) (h : ρ[i]? = some (some .tok)) : σ[i]? = some (some (.ref Z.p)) := by
  obtain ⟨v, e1, h⟩ := r.sl i _ h
  unfold Slot at h
  rw [hm] at h
  rw [h.2] at e1
  exact e1
/-- a thing of the draw's is changed -/
theorem Stp.own {fp : List Addr} {a : Addr} {u : HO} (ex : Ex F H) (hF : F a = none) (ha : a ∈ fp) : Stp fp F H F (upd H a u) :=
  ⟨Ex.refl F, fun b w hb => by rw [upd_ne (ne_of_none hb hF)]; exact ex b w hb, fun b h1 h2 => absurd h1 h2, fun b w hb hn => by rw [upd_ne (fun z => hn (by rw [z]; exact ha))]; exact hb⟩
end
section
variable {X : Cx} {Z : Fx} {W : WX}
theorem de_tRest (i : Nat) {x : Str} {p1 p2 p3 : Pos} {j : Nat} (hu : X.A.units + 1 < cLine) (hm : Z.md i = .tok := by rfl) (hN : X.N[i]? = some x := by rfl) (hv : Vis X.env.scope x := by first | exact Or.inl rfl | exact Or.inr (Or.inl rfl) | exact Or.inr (Or.inr rfl)) (hd : (x == ("__debug__" : Str)) = false := by decide)
    (hcd : (x == ("__classdict__" : Str)) = false := by decide) (hs : NoSl (.Constant (.str "rest") j p2) := by intro _ _; rfl) : DE X tkD Z W (.Subscript (.Name x p1) (.Constant (.str "rest") j p2) p3) (dRest i) :=
  (pe_dget hu (pe_var hN hv hd hcd) pe_str hs).imp fun σ H Q ⟨F, ρ, s, r, q⟩ => by
    obtain ⟨ht, q⟩ := tkAt_inv q
    obtain ⟨l, c, h1, h2, h3, h4, h5, h6, h7⟩ := r.at_
    exact ⟨_, r.tok hm ht, Z.p, _, rfl, vRest l c s ▸ DGet.k (k := .inr "rest") h5, q F H (Stp.refl r.ex) r.at_ _ rfl⟩
theorem de_tTurn (i : Nat) {x : Str} {p1 p2 p3 : Pos} {j : Nat} (hu : X.A.units + 1 < cLine) (hm : Z.md i = .tok := by rfl) (hN : X.N[i]? = some x := by rfl) (hv : Vis X.env.scope x := by first | exact Or.inl rfl | exact Or.inr (Or.inl rfl) | exact Or.inr (Or.inr rfl)) (hd : (x == ("__debug__" : Str)) = false := by decide)
    (hcd : (x == ("__classdict__" : Str)) = false := by decide) (hs : NoSl (.Constant (.str "turn") j p2) := by intro _ _; rfl) : DE X tkD Z W (.Subscript (.Name x p1) (.Constant (.str "turn") j p2) p3) (dTurn i) :=
  (pe_dget hu (pe_var hN hv hd hcd) pe_str hs).imp fun σ H Q ⟨F, ρ, s, r, q⟩ => by
    obtain ⟨ht, q⟩ := tkAt_inv q
    obtain ⟨l, c, h1, h2, h3, h4, h5, h6, h7⟩ := r.at_
    exact ⟨_, r.tok hm ht, Z.p, _, rfl, vTurn l c s ▸ DGet.k (k := .inr "turn") h5, q F H (Stp.refl r.ex) r.at_ _ rfl⟩
theorem pyL_ints : ∀ ns : List Int, pyL (ns.map D.int) = some (ns.map PyData.int)
  | [] => rfl
  | n :: ns => by
    show pyL (D.int n :: ns.map D.int) = _
    unfold pyL
    rw [pyL_ints ns]
    rfl
theorem ne_nil_ints (ns : List Int) : neD (.lst (ns.map D.int)) (.lst []) = some (.bl (!ns.isEmpty)) := by
  have h1 : (D.lst (ns.map D.int)).py = some (.list (ns.map PyData.int)) := by unfold D.py; rw [pyL_ints]; rfl
  have h2 : (D.lst []).py = some (.list []) := rfl
  unfold neD eqD
  rw [h1, h2]
  simp only [PySem.W.ke_shaped_ints ns]
  rw [if_pos ⟨trivial, by decide⟩]
  cases ns with
  | nil => rfl
  | cons a b => rfl
theorem RpL.intsD {o : Wo} {F : Hp} (ns : List Int) : RpL o F (ns.map D.int) (ns.map V.int) := RpL.ints ns
/-- draw['large'] != [] -/
theorem dt_tLarge (i : Nat) {x : Str} {p1 p2 p3 p4 p5 : Pos} {j : Nat} (hu : X.A.units + 64 < cLine) (hm : Z.md i = .tok := by rfl) (hN : X.N[i]? = some x := by rfl) (hv : Vis X.env.scope x := by first | exact Or.inl rfl | exact Or.inr (Or.inl rfl) | exact Or.inr (Or.inr rfl)) (hd : (x == ("__debug__" : Str)) = false := by decide)
    (hcd : (x == ("__classdict__" : Str)) = false := by decide) (hs : NoSl (.Constant (.str "large") j p2) := by intro _ _; rfl) : DT X tkD Z W (.Compare (.Subscript (.Name x p1) (.Constant (.str "large") j p2) p3) [.NotEq] [.List [] p4] p5) (dLarge i) :=
  (pt_cmpR (op_neQ hu) (pe_dget (by omega) (pe_var hN hv hd hcd) pe_str hs) (pe_lst pa_nil) rfl).imp fun σ H Q ⟨F, ρ, s, r, q⟩ => by
    obtain ⟨ht, q⟩ := tkAt_inv q
    obtain ⟨l, c, h1, h2, h3, h4, h5, h6, h7⟩ := r.at_
    refine ⟨_, r.tok hm ht, Z.p, .ref l, rfl, vLarge l c s ▸ DGet.k (k := .inr "large") h5, by decide, fun p hp => ?_⟩
    have nlp : l ≠ p := ne_of_none h6 hp
    refine ⟨F, .lst (s.large.map D.int), .lst [], .bl (!s.large.isEmpty), (r.ex.trans (Ex.new hp)), ⟨l, _, rfl, ⟨.inl (by rw [upd_ne nlp]; exact h6), by simp⟩, RpL.ints _⟩, ⟨p, [], rfl, ⟨.inl upd_same, by simp⟩, rfl⟩, ?_, fun v F' H' st rv => ?_⟩
    · exact ne_nil_ints s.large
    · refine ⟨_, rv, q F' H' ?_ ?_⟩
      · exact (Stp.hid r.ex hp).trans (fun a ha => by rw [upd_ne (ne_of_none' (r.fpH a ha) hp)]; exact r.fpH a ha) st.mono
      · exact tkD.loc r.at_ st.ff fun a ha => by
          cases e : H a with
          | none => exact absurd e (r.fpH a ha)
          | some u => rw [st.hh a u (by rw [upd_ne (ne_of_none e hp)]; exact e) (by simp)]
/-- draw['large'].pop(0) -/
theorem de_tPop (i : Nat) {x : Str} {p1 p2 p3 p4 apos cpos : Pos} {j j2 : Nat} (hu : X.A.units + 1 < cLine) (hm : Z.md i = .tok := by rfl) (hN : X.N[i]? = some x := by rfl) (hv : Vis X.env.scope x := by first | exact Or.inl rfl | exact Or.inr (Or.inl rfl) | exact Or.inr (Or.inr rfl)) (hd : (x == ("__debug__" : Str)) = false := by decide)
    (hcd : (x == ("__classdict__" : Str)) = false := by decide) (hs : NoSl (.Constant (.str "large") j p2) := by intro _ _; rfl) (hbase : attributeBase (.Subscript (.Name x p1) (.Constant (.str "large") j p2) p3) "pop" X.env (eval (.Subscript (.Name x p1) (.Constant (.str "large") j p2) p3) X.env) = eval (.Subscript (.Name x p1) (.Constant (.str "large") j p2) p3) X.env := by rfl)
    (hfew : ((backTo cpos (starEach [.Constant (.int 0) j2 p4] X.env)).all (fun x => !x.1) && (backToKw cpos (keywordEach [] X.env)).all (fun x => x.1.isSome) && decide (([.Constant (.int 0) j2 p4] : List Expr).length + ([] : List Keyword).length + (if ([] : List Keyword).isEmpty then 0 else 1) < 30)) = true := by rfl)
    (hline : (apos.endLine == cpos.line) = true := by rfl) (hss : starEach [.Constant (.int 0) j2 p4] X.env = (false, eval (.Constant (.int 0) j2 p4) X.env) :: starEach [] X.env := by rfl) (hplain : (backTo cpos (starEach [] X.env)).any (·.1) = false := by rfl) :
    DE X tkD Z W (.Call (.Attribute (.Subscript (.Name x p1) (.Constant (.str "large") j p2) p3) "pop" apos) [.Constant (.int 0) j2 p4] [] cpos) (dPopLarge i) :=
  (pe_bm F.plainAttrs_list F.slot_list_pop F.type_list_pop mt_popAt (pe_dget hu (pe_var hN hv hd hcd) pe_str hs) (pa_cons pe_int pa_nil hss) hbase hfew hline hss hplain).imp fun σ H Q ⟨F, ρ, s, r, q⟩ => by
    obtain ⟨ht, q⟩ := tkAt_inv q
    obtain ⟨l, c, h1, h2, h3, h4, h5, h6, h7⟩ := r.at_
    cases es : s.large with
    | nil => simp only [es] at q; exact q.elim
    | cons n ns =>
      simp only [es] at q
      rw [es] at h6
      have hl : l ∈ Z.fp := by rw [h1]; simp
      refine ⟨_, r.tok hm ht, Z.p, .ref l, rfl, vLarge l c s ▸ DGet.k (k := .inr "large") h5, .inl ⟨rfl, _, SqL.of h6⟩, l, _, 0, 0, .int n, rfl, rfl, h6, by omega, by omega, ?_, rfl, ?_⟩
      · rw [seqIndex_of (by omega) (by simp)]; rfl
      · refine q F _ (Stp.own r.ex (r.fpF l hl) hl) ⟨l, c, h1, h2, h3, h4, by rw [upd_ne h2]; exact h5, upd_same, by rw [upd_ne (Ne.symm h4)]; exact h7⟩ _ rfl
theorem sPutT_inv {o : Wo} {i : Nat} {g : Int → Dr → Dr} {d : D} {E : Ends} {F : Hp} {ρ : Env} {s : Dr} (h : OutS o tkD Z W F (match d, ρ[i]? with
  | .int n, some (some .tok) => SR.nx ρ (g n s)
  | _, _ => .stuck) E) : ∃ n, d = .int n ∧ ρ[i]? = some (some .tok) ∧ OutS o tkD Z W F (SR.nx ρ (g n s)) E := by
  cases d with
  | int n =>
    cases e : ρ[i]? with
    | none => rw [e] at h; exact h.elim
    | some y =>
      cases y with
      | none => rw [e] at h; exact h.elim
      | some t =>
        cases t with
        | tok => rw [e] at h; exact ⟨n, rfl, rfl, h⟩
        | _ => rw [e] at h; exact h.elim
  | _ => exact h.elim
theorem ds_tPut (i : Nat) {x : Str} {key : Str} {g : Int → Dr → Dr} {p1 p2 p3 pos : Pos} {j : Nat} {e : Expr} {f : Env → M Dr D} (he : DE X tkD Z W e f) (hu : X.A.units + 1 < cLine) (hg : ∀ l c s n, putK (drL l c s) (.inr key) (.int n) = drL l c (g n s)) (hg2 : ∀ n s, (g n s).large = s.large ∧ (g n s).cells = s.cells) (hm : Z.md i = .tok := by rfl) (hN : X.N[i]? = some x := by rfl) (hv : Vis X.env.scope x := by first | exact Or.inl rfl | exact Or.inr (Or.inl rfl) | exact Or.inr (Or.inr rfl)) (hd : (x == ("__debug__" : Str)) = false := by decide)
    (hcd : (x == ("__classdict__" : Str)) = false := by decide) (hs : swapsWith e (some (.Subscript (.Name x p1) (.Constant (.str key) j p2) p3)) pos.line X.env = pure false := by rfl) :
    DS X tkD Z W (.Assign [.Subscript (.Name x p1) (.Constant (.str key) j p2) p3] e pos) (sPutT i g f) :=
  (ps_dput hu (pe_var hN hv hd hcd) pe_str he hs).imp fun E σ H ⟨F, ρ, s, r, q⟩ => rd.sq r q fun d s1 F1 H1 v r1 st rv k => by
    obtain ⟨n, rfl, ht, k⟩ := sPutT_inv k
    cases rv
    obtain ⟨l, c, h1, h2, h3, h4, h5, h6, h7⟩ := r1.at_
    have hp : Z.p ∈ Z.fp := by rw [h1]; simp
    refine ⟨_, r1.tok hm ht, Z.p, _, rfl, hg l c s1 n ▸ DPut.k (k := .inr key) h5 (show 4 < sizeLine by decide), k F1 _ σ (Ex.refl F1) (r1.step (Stp.own r1.ex (r1.fpF _ hp) hp) ⟨l, c, h1, h2, h3, h4, upd_same, ?_, ?_⟩)⟩
    · rw [upd_ne (Ne.symm h2), (hg2 n s1).1]; exact h6
    · rw [upd_ne (Ne.symm h3), (hg2 n s1).2]; exact h7
end
end DL
set_option Elab.async false
set_option linter.all false
set_option maxRecDepth 100000
set_option maxHeartbeats 1000000
/-! The draw begins; a walk over its cells. -/
namespace DL
open PySem PySem.Spec PyProof.Rows L2
theorem compL_pure {S : Type} {g : D → Env → Option Env} {us : List Nat} {ft : Env → M S Bool} {fe : Env → M S D} {ρ : Env} {s : S} (P : D → Bool) (f : D → D) : ∀ {xs : List D}, (∀ x ∈ xs, ∃ ρ', g x (wipeE ρ us) = some ρ' ∧ ft ρ' s = .ok (P x) s ∧ (P x = true → fe ρ' s = .ok (f x) s)) → compL g us ft fe ρ xs s = .ok ((xs.filter P).map f) s
  | [], _ => rfl
  | x :: xs, h => by
    obtain ⟨ρ', h1, h2, h3⟩ := h x (List.mem_cons_self ..)
    have ih := compL_pure P f (xs := xs) fun y hy => h y (List.mem_cons_of_mem _ hy)
    rw [compL_cons, h1]
    simp only [h2]
    cases e : P x with
    | true =>
      simp only [h3 e]
      unfold M.bind
      rw [ih, List.filter_cons_of_pos (by rw [e])]
      rfl
    | false =>
      rw [List.filter_cons_of_neg (by rw [e]; decide)]
      exact ih
theorem forCells_cons {g : D → Env → Option Env} {body : G Dr} {cs : List Int} {x : Int} {xs : List Int} {ρ : Env} {s : Dr} : forCells g body cs (x :: xs) ρ s = if s.cells = cs then (match g (.int x) ρ with
    | none => .stuck
    | some ρ' => match body ρ' s with
      | .nx ρ'' s' => forCells g body cs xs ρ'' s'
      | .ct ρ'' s' => forCells g body cs xs ρ'' s'
      | .bk ρ'' s' => .nx ρ'' s'
      | r => r) else .stuck := rfl
section
variable {X : Cx} {Z : Fx} {W : WX}
theorem ds_forCells (i : Nat) {us : List Nat} {tg : Expr} {x : Str} {p1 p2 p3 : Pos} {j : Nat} {body : List Stmt} {pos : Pos} {g : D → Env → Option Env} {gb : G Dr} (hp : PassesOwn (model X.prog X.w) X.A X.env X.xe) (hc : X.calm = true) (hu : X.A.units + 1 < cLine) (hg : DG X tkD Z us tg g) (hb : DSs X tkD Z W body gb)
    (hm : Z.md i = .tok := by rfl) (hN : X.N[i]? = some x := by rfl) (hv : Vis X.env.scope x := by first | exact Or.inl rfl | exact Or.inr (Or.inl rfl) | exact Or.inr (Or.inr rfl)) (hd : (x == ("__debug__" : Str)) = false := by decide)
    (hcd : (x == ("__classdict__" : Str)) = false := by decide) (hs2 : NoSl (.Constant (.str "cells") j p2) := by intro _ _; rfl) (hs : ∀ v, foldedSetIterable (.Subscript (.Name x p1) (.Constant (.str "cells") j p2) p3) X.env v = pure v := by intro _; rfl) :
    DS X tkD Z W (.For tg (.Subscript (.Name x p1) (.Constant (.str "cells") j p2) p3) body [] pos) (sForCells i g gb) :=
  (ps_for hp hc (pi_any (tg := tg) (pe_dget hu (pe_var hN hv hd hcd) pe_str hs2)) hg hb hs).imp fun E σ H ⟨F, ρ, s, r, q⟩ => by
  unfold sForCells at q
  cases et : ρ[i]? with
  | none => rw [et] at q; exact q.elim
  | some y =>
    cases y with
    | none => rw [et] at q; exact q.elim
    | some d =>
      cases d with
      | tok =>
        rw [et] at q
        dsimp only at q
        obtain ⟨l, c, h1, h2, h3, h4, h5, h6, h7⟩ := r.at_
        refine ⟨_, r.tok hm et, Z.p, .ref c, rfl, vCells l c s ▸ DGet.k (k := .inr "cells") h5, .inl ⟨c, rfl, ⟨_, SqL.of h7⟩, ?_⟩⟩
        have atc : ∀ {F' H' : Hp} {s' : Dr}, tkD.At (wo X) F' H' Z.p Z.fp s' → H' c = some (.lst (s'.cells.map V.int)) := fun {F' H' s'} ⟨l', c', g1, g2, g3, g4, g5, g6, g7⟩ => by
          rw [h1] at g1
          cases g1
          exact g7
        let Iv : Nat → L2.St → Hp → Prop := fun k σ H => ∃ F1 ρ1 s1, k ≤ s.cells.length ∧ Rl (wo X) tkD Z F1 H ρ1 s1 σ ∧ OutS (wo X) tkD Z W F1 (forCells g gb s.cells (s.cells.drop k) ρ1 s1) E
        refine ⟨fun k m σ H => m = s.cells.length - k ∧ Iv k σ H, ⟨s.cells.length, by simp, F, ρ, s, Nat.zero_le _, r, q⟩, ?_⟩
        rintro k m σ H ⟨rfl, F1, ρ1, s1, hle, r1, q1⟩
        by_cases hlt : k < s.cells.length
        · rw [List.drop_eq_getElem_cons hlt, forCells_cons] at q1
          by_cases hcs : s1.cells = s.cells
          · rw [if_pos hcs] at q1
            have hc1 := atc r1.at_
            rw [hcs] at hc1
            refine .inr ⟨⟨_, .int s.cells[k], SqL.of hc1, by rw [List.getElem?_map, List.getElem?_eq_getElem hlt]; rfl⟩, Iv (k + 1), fun σ' H' h' => ⟨s.cells.length - (k + 1), by omega, rfl, h'⟩, fun x H' y => ?_⟩
            obtain ⟨rfl, y⟩ := y
            have ey := y _ (SqL.of hc1)
            rw [List.getElem?_map, List.getElem?_eq_getElem hlt] at ey
            cases ey
            cases eg : g (.int s.cells[k]) ρ1 with
            | none => rw [eg] at q1; exact q1.elim
            | some ρ' =>
              rw [eg] at q1
              refine ⟨F1, ρ1, s1, .int s.cells[k], ρ', r1, rfl, eg, fun σ' r' _ => ⟨F1, ρ', s1, r', ?_⟩⟩
              cases eb : gb ρ' s1 with
              | nx ρ'' s'' => simp only [eb] at q1; exact fun F3 H3 σ3 e3 r3 => ⟨F3, ρ'', s'', hlt, r3, q1.up e3⟩
              | ct ρ'' s'' => simp only [eb] at q1; exact fun F3 H3 σ3 e3 r3 => ⟨F3, ρ'', s'', hlt, r3, q1.up e3⟩
              | bk ρ'' s'' => simp only [eb] at q1; exact q1
              | rt d s'' => simp only [eb] at q1; exact q1
              | rf d s'' => simp only [eb] at q1; exact q1
              | ex x ρ'' s'' => simp only [eb] at q1; exact q1
              | stuck => simp only [eb] at q1; exact q1.elim
          · rw [if_neg hcs] at q1; exact q1.elim
        · have ei : k = s.cells.length := by omega
          subst ei
          rw [List.drop_length] at q1
          have q1 : OutS (wo X) tkD Z W F1 (if s1.cells = s.cells then SR.nx ρ1 s1 else .stuck) E := q1
          by_cases hcs : s1.cells = s.cells
          · rw [if_pos hcs] at q1
            have hc1 := atc r1.at_
            rw [hcs] at hc1
            exact .inl ⟨⟨_, SqL.of hc1, by rw [List.length_map]; exact Nat.le_refl _⟩, q1 F1 H σ (Ex.refl F1) r1⟩
          · rw [if_neg hcs] at q1; exact q1.elim
      | _ => rw [et] at q; exact q.elim
/-- return {'large': large, 'rest': 0, 'cells': [..], 'turn': 0} -/
theorem ps_retDraw {x : Str} {p0 p1 p2 p3 p4 p5 p6 pd pos : Pos} {j0 j1 j2 j3 j4 j5 : Nat} {e : Expr} {fc : Env → M Unit D} (i : Nat) (he : DF X Tk.no Z WF e fc) (hm : Z.md i = .own := by rfl) (hN : X.N[i]? = some x := by rfl) (hv : Vis X.env.scope x := by first | exact Or.inl rfl | exact Or.inr (Or.inl rfl) | exact Or.inr (Or.inr rfl)) (hd : (x == ("__debug__" : Str)) = false := by decide)
    (hcd : (x == ("__classdict__" : Str)) = false := by decide) : PS X (.Return (some (.Dict [some (.Constant (.str "large") j0 p0), some (.Constant (.str "rest") j1 p1), some (.Constant (.str "cells") j2 p2), some (.Constant (.str "turn") j3 p3)] [.Name x p4, .Constant (.int 0) j4 p5, e, .Constant (.int 0) j5 p6] pd)) pos)
      (fun E σ H => ∃ F ρ, Rl (wo X) Tk.no Z F H ρ () σ ∧ ∃ ls cs : List Int, ρ[i]? = some (some (.lst (ls.map D.int))) ∧ fc ρ () = .ok (.lst (cs.map D.int)) () ∧ ∀ F' H' p fp, Stp [] Z.F0 Z.H0 F' H' → (∀ b ∈ fp, Z.H0 b = none ∧ F' b = none) → tkD.At (wo X) F' H' p fp ⟨ls, 0, cs, 0⟩ → E.rt (.ref p) H') :=
  (ps_ret (pe_disp (pps_cons pe_str (pe_var hN hv hd hcd) (pps_cons pe_str pe_int (pps_cons pe_str he (pps_cons pe_str pe_int pps_nil)))) rfl rfl (by simp) (show 4 ≤ 15 by decide))).imp fun E σ H ⟨F, ρ, r, ls, cs, h1, h2, k⟩ => by
    intro p hp
    have hfp : Z.fp = [] := r.at_
    obtain ⟨l, e1, g1, ws, g2, g3⟩ := r.own hm h1
    have st1 : Stp Z.fp F H F (upd H p (.dK [])) := Stp.hid r.ex hp
    have r1 : Rl (wo X) Tk.no Z F (upd H p (.dK [])) ρ () σ := r.step st1 hfp
    refine ⟨_, e1, F, ρ, (), r1, ?_⟩
    show Out (wo X) Tk.no Z WF F _ σ (fc ρ ()) _
    rw [h2]
    intro F2 H2 st2 at2 c hc hFc ⟨zs, g4, g5⟩
    have r2 := r1.step st2 at2
    have hpF : F p = none := r.ex.none hp
    have hp2 : H2 p = some (.dK []) := st2.hh p _ upd_same (by rw [hfp]; simp)
    have hF2 : F2 p = none := by
      cases q : F2 p with
      | none => rfl
      | some u => exact absurd (st2.new p hpF (by rw [q]; exact nofun)) (by rw [upd_same]; exact nofun)
    obtain ⟨l', e1', g1', ws', g2', g3'⟩ := r2.own hm h1
    rw [e1] at e1'
    cases e1'
    have hlw := RpL.int_inv g3'
    have hlz := RpL.int_inv g5
    subst hlw hlz
    have npl : p ≠ l := fun z => by rw [← z, hp] at g2; cases g2
    have npc : p ≠ c := fun z => by rw [← z, upd_same] at hc; cases hc
    have nlc : l ≠ c := fun z => by rw [← z, upd_ne (Ne.symm npl), g2] at hc; cases hc
    refine ⟨hp2, [(.inr "large", .ref l), (.inr "rest", .int 0), (.inr "cells", .ref c), (.inr "turn", .int 0)], rfl, (show 4 ≤ 15 by decide), ?_⟩
    have hm4 : mergeK [] [((.inr "large" : Key), V.ref l), (.inr "rest", .int 0), (.inr "cells", .ref c), (.inr "turn", .int 0)] = drL l c ⟨ls, 0, cs, 0⟩ := by rfl
    rw [hm4]
    have stZ := r2.st
    have hZp : Z.H0 p = none := r.st.back (by rw [hfp]; simp) hp
    refine k F2 _ p [p, l, c] ?_ ?_ ⟨l, c, rfl, npl, npc, nlc, upd_same, by rw [upd_ne (Ne.symm npl)]; exact g2', by rw [upd_ne (Ne.symm npc)]; exact g4⟩
    · refine ⟨stZ.ff, fun b w hb => by rw [upd_ne (ne_of_none hb hF2)]; exact st2.fh b w hb, stZ.new, fun b w hb hn => ?_⟩
      rw [upd_ne (ne_of_none hb hZp)]
      exact stZ.hh b w hb (by rw [hfp]; exact hn)
    · intro b hb
      simp only [List.mem_cons, List.not_mem_nil, or_false] at hb
      rcases hb with rfl | rfl | rfl
      · exact ⟨hZp, hF2⟩
      · obtain ⟨v, ev, sl⟩ := r2.sl i _ h1
        unfold Slot at sl
        rw [hm] at sl
        obtain ⟨b', e5, f1, f2, f3⟩ := sl
        rw [e5] at ev
        rw [e1] at ev
        cases ev
        exact ⟨f2, f1⟩
      · exact ⟨r1.st.back (by rw [hfp]; simp) hc, hFc⟩
end
end DL
set_option Elab.async false
set_option linter.all false
set_option maxRecDepth 100000
set_option maxHeartbeats 1000000
/-! list(range ..), a module's tuple, facts of a module. -/
namespace DL
open PySem PySem.Spec PyProof.Rows L2
def okRg (i j : Int) : Option D := if -(2 ^ 62) ≤ i ∧ i < 2 ^ 62 ∧ -(2 ^ 62) ≤ j ∧ j < 2 ^ 62 ∧ (j - i).toNat ≤ 2 ^ 24 then some (.lst (rangeL i j)) else none
def lrg1 : List D → Option D
  | [.int j] => okRg 0 j
  | _ => none
def lrg2 : D → D → Option D
  | .int i, .int j => okRg i j
  | _, _ => none
theorem rangeL_rg {o : Wo} {F : Hp} (i j : Int) : RpL o F (rangeL i j) (rgV i j) := by
  have h : rangeL i j = ((List.range (j - i).toNat).map fun k : Nat => i + (k : Int)).map D.int := by unfold rangeL; rw [List.map_map]; rfl
  have h2 : rgV i j = ((List.range (j - i).toNat).map fun k : Nat => i + (k : Int)).map V.int := by unfold rgV; rw [List.map_map]; rfl
  rw [h, h2]
  exact RpL.ints _
section
variable {X : Cx} {T : Tk} {Z : Fx} {W : WX}
theorem df_listRg1 {a : Expr} {p p2 pos pos2 : Pos} {f : Env → M T.S D} (hc : X.calm = true) (hl : X.mg "list" = none) (hr : X.mg "range" = none) (ha : DE X T Z W a f) (hg : Gl X "list" := by rfl) (hg2 : Gl X "range" := by rfl) (na : starEach [a] X.env = (false, eval a X.env) :: starEach [] X.env := by rfl)
    (na2 : starEach [.Call (.Name "range" p2) [a] [] pos2] X.env = (false, eval (.Call (.Name "range" p2) [a] [] pos2) X.env) :: starEach [] X.env := by rfl) : DF X T Z W (.Call (.Name "list" p) [.Call (.Name "range" p2) [a] [] pos2] [] pos) (dUn (fun x => lrg1 [x]) f) :=
  (pe_listRg hc hg hl (prg_1 hg2 hr ha na) na2).imp fun σ H Q ⟨F, ρ, s, r, q⟩ => rd.seq r q fun d s1 F1 H1 v r1 st rv q1 => by
    obtain ⟨z, e, k⟩ := q1.opt
    cases d with
    | int j =>
      cases rv
      obtain ⟨hj, rfl⟩ := ifs (show (if -(2 ^ 62) ≤ (0 : Int) ∧ (0 : Int) < 2 ^ 62 ∧ -(2 ^ 62) ≤ j ∧ j < 2 ^ 62 ∧ (j - 0).toNat ≤ 2 ^ 24 then some (D.lst (rangeL 0 j)) else none) = some z from e)
      exact ⟨j, rfl, hj, fun p hp => k _ _ (Stp.hid r1.ex hp) (r1.at' (Stp.hid r1.ex hp)) p (st.back r1.fpH hp) (r1.ex.none hp) ⟨_, upd_same, rangeL_rg 0 j⟩⟩
    | _ => exact absurd (show (none : Option D) = some z from e) (by intro q; cases q)
theorem df_listRg2 {a b : Expr} {p p2 pos pos2 : Pos} {f g : Env → M T.S D} (hc : X.calm = true) (hl : X.mg "list" = none) (hr : X.mg "range" = none) (ha : DE X T Z W a f) (hb : DE X T Z W b g) (hg : Gl X "list" := by rfl) (hg2 : Gl X "range" := by rfl) (na : starEach [a, b] X.env = (false, eval a X.env) :: starEach [b] X.env := by rfl)
    (nb : starEach [b] X.env = (false, eval b X.env) :: starEach [] X.env := by rfl) (hp : (backTo pos2 (starEach [b] X.env)).any (·.1) = false := by rfl)
    (na2 : starEach [.Call (.Name "range" p2) [a, b] [] pos2] X.env = (false, eval (.Call (.Name "range" p2) [a, b] [] pos2) X.env) :: starEach [] X.env := by rfl) : DF X T Z W (.Call (.Name "list" p) [.Call (.Name "range" p2) [a, b] [] pos2] [] pos) (dBin lrg2 f g) :=
  (pe_listRg hc hg hl (prg_2 hg2 hr ha hb (na := na) (nb := nb) (hp := hp)) na2).imp fun σ H Q ⟨F, ρ, s, r, q⟩ => rd.seq r q fun d s1 F1 H1 v r1 st rv q1 => rd.seq r1 q1 fun d2 s2 F2 H2 v2 r2 st2 rv2 q2 => by
    obtain ⟨z, e, k⟩ := q2.opt
    cases d with
    | int i =>
      cases d2 with
      | int j =>
        cases rv
        cases rv2
        obtain ⟨hj, rfl⟩ := ifs (show (if -(2 ^ 62) ≤ i ∧ i < 2 ^ 62 ∧ -(2 ^ 62) ≤ j ∧ j < 2 ^ 62 ∧ (j - i).toNat ≤ 2 ^ 24 then some (D.lst (rangeL i j)) else none) = some z from e)
        exact ⟨i, j, rfl, rfl, hj, fun p hp => k _ _ (Stp.hid r2.ex hp) (r2.at' (Stp.hid r2.ex hp)) p (st.back r1.fpH (st2.back r2.fpH hp)) (r2.ex.none hp) ⟨_, upd_same, rangeL_rg i j⟩⟩
      | _ => exact absurd (show (none : Option D) = some z from e) (by intro q; cases q)
    | _ => exact absurd (show (none : Option D) = some z from e) (by intro q; cases q)
/-- a module's tuple -/
theorem de_globT {x : Str} {a : Addr} {pos : Pos} {ds : List D} {vs : List V} (hm : X.mg x = some (.ref a)) (ht : ∀ H, SqT X.K H a vs) (rp : ∀ F, RpL (wo X) F ds vs) (hg : Gl X x := by rfl) (hd : (x == ("__debug__" : Str)) = false := by decide) : DE X T Z W (.Name x pos) (dC (.tup ds)) :=
  (pe_glob (v := .ref a) hg hm rfl hd).imp fun σ H Q ⟨F, ρ, s, rl, q⟩ => q.here rl _ ⟨a, vs, rfl, ht F, rp F⟩
theorem de_globI {x : Str} {i : Int} {pos : Pos} (hm : ∃ t, X.mg x = some (.int i t)) (hg : Gl X x := by rfl) (hd : (x == ("__debug__" : Str)) = false := by decide) : DE X T Z W (.Name x pos) (dC (.int i)) := by
  obtain ⟨t, hm⟩ := hm
  exact de_glob hm (v := .int i) ⟨t, rfl⟩ (fun _ => rfl) hg hd
theorem de_globS {x z : Str} {pos : Pos} (hm : ∃ t, X.mg x = some (.str z t)) (hg : Gl X x := by rfl) (hd : (x == ("__debug__" : Str)) = false := by decide) : DE X T Z W (.Name x pos) (dC (.str z)) := by
  obtain ⟨t, hm⟩ := hm
  exact de_glob hm (v := .str z) ⟨t, rfl⟩ (fun _ => rfl) hg hd
end
theorem _root_.L2.Room.u1 {k : Nat} {A : Around} (r : Room k A) : A.units + 1 < cLine := by have := r.units; omega
/-! ### a module's facts -/
abbrev AlX : Type := Bool × He.AlD
def hookX (n : Nat) (fx : PySem.W.Frag → Bool) (fa : List He.Fa) (fn : List He.DefD) : PySem.W.Hook where
  α := AlX
  obs := fun s => (fx (He.frG s.heap.get? (He.asD s.heap.get? n)), He.obsDG n fa fn s.heap.get?)
  val := fun _ => (true, He.valD fn)
  says := fun _ h => ∃ K : PySem.W.Frag, K.In h ∧ fx K = true ∧ He.SaysD fa fn K
  of := fun _ _ e => ⟨_, He.frG_in, congrArg Prod.fst e, congrArg Prod.snd e⟩
  keeps := fun _ _ _ ⟨K, hK, c⟩ k => ⟨K, PySem.W.Frag.In.keeps hK k, c⟩
def obX (n : Nat) (fx : PySem.W.Frag → Bool) (fa : List He.Fa) (fn : List He.DefD) (g : Addr → Option Obj) : AlX := (fx (He.frG g (He.asD g n)), He.obsDG n fa fn g)
theorem obX_eq {n : Nat} {fx : PySem.W.Frag → Bool} {fa : List He.Fa} {fn : List He.DefD} {g : Addr → Option Obj} {s : Shared} (h : ∀ a, g a = s.heap.get? a) : obX n fx fa fn g = (hookX n fx fa fn).obs s := by
  have e : g = s.heap.get? := funext h
  rw [e] <;> rfl
structure Says (fx : PySem.W.Frag → Bool) (fa : List He.Fa) (fn : List He.DefD) (K : PySem.W.Frag) (mg : Str → Option Value) : Prop where
  ex : ∃ h : Heap, K.In h ∧ h.Ns mainGlobals mg ∧ fx K = true ∧ He.SaysD fa fn K
section
variable {fx : PySem.W.Frag → Bool} {fa : List He.Fa} {fn : List He.DefD} {K : PySem.W.Frag} {mg : Str → Option Value}
theorem Says.glo (S : Says fx fa fn K mg) {x : Str} (i : Nat) (h : fa[i]? = some (.glo x) := by rfl) : mg x = some (.ref (He.ga K x)) := by
  obtain ⟨hh, X, G, _, c⟩ := S
  exact He.glo_ok X G (c.fact i h)
theorem Says.free (S : Says fx fa fn K mg) {x : Str} (i : Nat) (h : fa[i]? = some (.free x) := by rfl) : mg x = none := by
  obtain ⟨hh, X, G, _, c⟩ := S
  exact He.free_ok X G (c.fact i h)
theorem Says.int (S : Says fx fa fn K mg) {x : Str} {n : Int} (i : Nat) (h : fa[i]? = some (.int x n) := by rfl) : ∃ t, mg x = some (.int n t) := by
  obtain ⟨hh, X, G, _, c⟩ := S
  exact He.int_ok X G (c.fact i h)
theorem Says.str (S : Says fx fa fn K mg) {x z : Str} (i : Nat) (h : fa[i]? = some (.str x z) := by rfl) : ∃ t, mg x = some (.str z t) := by
  obtain ⟨hh, X, G, _, c⟩ := S
  exact He.str_ok X G (c.fact i h)
theorem Says.exc (S : Says fx fa fn K mg) {x : Str} (i : Nat) (h : fa[i]? = some (.exc x) := by rfl) : PySem.W.excIn K (He.ga K x) He.veBase "ValueError.__new__" = true ∧ PySem.W.keepIn K (.ref (He.ga K x)) = true ∧ PySem.W.subIn K (.ref (He.ga K x)) (.type "BaseException") = some true ∧
    PySem.W.typeIn K (.ref (He.ga K x)) = some (.type "type") := by
  obtain ⟨hh, X, G, _, c⟩ := S
  exact He.exc_ok (c.fact i h)
theorem Says.fx_ (S : Says fx fa fn K mg) : fx K = true := by
  obtain ⟨hh, X, G, h, c⟩ := S
  exact h
theorem Says.fun_ (S : Says fx fa fn K mg) (i : Nat) {d : He.DefD} (h : fn[i]? = some d := by rfl) : ∃ fd, FunD K d.name d.qual d.params d.body d.scope (d.dvs K) (d.kws K) (He.fAd K d.at_) fd := by
  obtain ⟨hh, X, G, _, c⟩ := S
  exact c.def_ i h
end
end DL
set_option Elab.async false
set_option linter.all false
namespace DL
def bigF {S : Type} : Env → S → Nat := fun _ _ => 4611686018427387904
open PySem L2
def blkB (N : List Str) (sc scope : Scope) (own : List (Str × Nat)) : Bool :=
  (match scope.kind with
  | .function => true
  | _ => false) && (scope.names.all (fun y => decide (scope.names.lookup y.1 = some y.2)) && (own.all (fun p => decide (N[p.2]? = some p.1)) &&
  (scope.names.all (fun y => !decide (y.2 = .free) || (decide (sc.names.lookup y.1 = some .cell) || decide (sc.names.lookup y.1 = some .free))) &&
  scope.names.all (fun y => !(decide (y.2 = .local) || decide (y.2 = .cell)) || (decide (y.1 ∈ own.map (·.1)) || !decide (y.1 ∈ N))))))
theorem blk_of {N : List Str} {sc scope : Scope} {own : List (Str × Nat)} (h : blkB N sc scope own = true) : BlkOk N sc scope own := by
  unfold blkB at h
  simp only [Bool.and_eq_true, List.all_eq_true, decide_eq_true_eq, Bool.or_eq_true, Bool.not_eq_true', decide_eq_false_iff_not] at h
  obtain ⟨h1, h2, h3, h4, h5⟩ := h
  refine ⟨?_, h2, h3, fun y hy e => ?_, fun y hy e => ?_⟩
  · cases e : scope.kind with
    | function => rfl
    | _ => rw [e] at h1; cases h1
  · rcases h4 y hy with h | h
    · exact absurd e h
    · exact h
  · rcases h5 y hy with h | h
    · rcases e with e | e
      · exact absurd e (by simp_all)
      · exact absurd e (by simp_all)
    · exact h
end DL
set_option Elab.async false
set_option linter.all false
set_option maxRecDepth 100000
set_option maxHeartbeats 1000000
/-! sorted(d) of a dict whose keys are ints, however many. -/
namespace DL
open PySem PySem.Spec PyProof.Rows L2
section
variable {X : Cx}
theorem call_sortedKI (hcalm : X.calm = true) : CallR X (.builtin "sorted") (fun xs H Q => ∃ (a : Addr) (kvs : List (Key × V)) (ks : List Int), xs = [.ref a] ∧ Rd H a (.dK kvs) ∧ kvs.map (·.1) = ks.map Sum.inl ∧
    ∀ (ys : List Int) (p : Addr), ys.Perm ks → ys.Pairwise (· ≤ ·) → H p = none → Q (.ref p) (upd H p (.lst (ys.map V.int)))) := by
  intro pins s σ H xs us Q I r q
  obtain ⟨a, kvs, ks, ex, hd, hks, q⟩ := q
  subst ex
  obtain ⟨u, eu, rx⟩ := vals1 r
  subst eu
  cases rx
  obtain ⟨z, lo, vs, rel, dd⟩ := dk_rd I.hok hd
  obtain ⟨ep, hat⟩ := dd.dictAt
  have hkeys : vs.map (·.1) = ks.map Sum.inl := rel.keys.symm.trans hks
  have hl : vs.length = ks.length := by
    have e := congrArg List.length hkeys
    rw [List.length_map, List.length_map] at e
    exact e
  have h16 : vs.length ≤ sizeLine := by rw [← rel.length]; exact z
  refine Calls.call_function_entry PyProof.Rows.kind_sorted PyProof.Rows.plain_sorted PyProof.Rows.entry_sorted (PyProof.Rows.args_sorted1 _) ?_
  unfold Builtin.«sorted»
  refine wpAny_bind (m := checkCount "sorted" 1 1 _) (wpAny_pure ?_)
  refine wpAny_bind (PySem.W.kdu_collect (A := X.A.in1) (PySem.W.kdl_dict (knd := mixKind X.prog X.w) (kvs := vs) (ep := ep) lo) (I.ok.hd hcalm) hat h16 fun h' tk acc hk hacc => ?_)
  have hal : acc.toList.length = ks.length := by rw [Array.length_toList, hacc.1, hl]
  have hS : IntsAre acc.toList ks := ints_each hal fun j v e => by
    obtain ⟨k, x, e1, e2⟩ := hacc.2 j v (by rw [← Array.getElem?_toList]; exact e)
    have e3 : (vs.map (·.1))[j]? = some k := by rw [List.getElem?_map, e1]; rfl
    rw [hkeys, List.getElem?_map] at e3
    cases e4 : ks[j]? with
    | none => rw [e4] at e3; cases e3
    | some y =>
      rw [e4] at e3
      have e5 : Sum.inl y = k := Option.some.inj e3
      subst e5
      rcases keyIs_shape (show keyIs (Sum.inl y) v = true from e2) with ⟨i, t, ek, ev⟩ | ⟨z, t, ek, ev⟩
      · cases ek
        exact ⟨y, t, rfl, ev⟩
      · cases ek
  have I1 : Inv X pins σ H { s with heap := h', toks := tk } := I.kept hk
  have hz2 : acc.toList.length ≤ sizeLine := by rw [hal, ← hl]; exact h16
  refine wpAny_bind (wpAny_newList ?_ hz2)
  have hoL : (h'.push (seqObj "list" acc.toList.toArray 0)).get? h'.objs.size = some (seqObj "list" acc.toList.toArray 0) := Heap.get?_push_size _ rfl
  show wpAny _ _ _ _ _ { s with heap := h'.push (seqObj "list" acc.toList.toArray 0), toks := tk }
  refine wpAny_bind (wpAny_holding (wpAny_call_entry PyProof.Rows.slot_list_sort ⟨_, hoL, rfl⟩ PyProof.Rows.entry_list_sort
    (SrtO.list_sort_ord (s := { s with heap := h'.push (seqObj "list" acc.toList.toArray 0), toks := tk }) SrtO.swo_int hoL hz2 (fun h2 => SrtO.ints_sortable hS h2) fun out g1 g2 => ⟨_, rfl, ?_⟩) (PyProof.Rows.args_list_sort _)))
  obtain ⟨k1, k2, k3⟩ := SrtO.ints_out hS g1 g2
  obtain ⟨e', he'⟩ := PyProof.Rows.sortedHeap_at (vs := acc.toList) (out := out.toArray) hoL
  have hlen : ((out.map SrtO.iv).map V.int).length ≤ sizeLine := by
    rw [List.length_map, k2.length_eq, ← hl]
    exact h16
  refine wpAny_pure ⟨_, rfl, .ref h'.objs.size, upd H h'.objs.size (.lst ((out.map SrtO.iv).map V.int)), I1.laid (t' := tk) (fun b u e => ?_) (Nat.le_refl _)
    (show ObjOk X.prog X.w _ _ _ (.lst ((out.map SrtO.iv).map V.int)) from ⟨hlen, out, e', vals_of_ints k1, he'⟩), rfl, q _ _ k2 k3 (I1.hok.fresh (Nat.le_refl _))⟩
  have hb : b < h'.objs.size := Heap.lt_size e
  rw [PyProof.Rows.sortedHeap_old (Nat.ne_of_lt hb) (by rw [size_push']; exact Nat.lt_succ_of_lt hb)]
  exact Heap.get?_push_of_some _ e
def sortedKD : List D → Option D
  | [.dct kvs] => (intsOf (kvs.map (·.1))).map fun ns => D.lst ((sortI ns).map D.int)
  | _ => none
theorem RpD.keys {o : Wo} {F : Hp} : ∀ {kvs : List (D × D)} {ks : List (Key × V)} {ns : List Int}, RpD o F kvs ks → kvs.map (·.1) = ns.map D.int → ks.map (·.1) = ns.map Sum.inl
  | [], _, ns, h, e => by
    cases ns with
    | nil => rw [show _ = _ from h]; rfl
    | cons a b => cases e
  | (x, d) :: r, _, ns, ⟨k, v, s, e1, e2, e3, e4⟩, e => by
    cases ns with
    | nil => cases e
    | cons a b =>
      rw [List.map_cons, List.map_cons] at e
      injection e with h1 h2
      rw [e1, List.map_cons, List.map_cons, RpD.keys e4 h2]
      have : k = .inl a := by
        have h1 : x = .int a := h1
        rw [h1] at e2
        cases k with
        | inl i => cases e2; rfl
        | inr z => cases e2
      rw [this]
theorem cr_sortedKD (hc : X.calm = true) : CallR X (.builtin "sorted") (rClF (wo X) sortedKD) := CallR.imp (call_sortedKI hc) fun xs H Q ⟨F, ds, d, ex, rv, e, k⟩ => by
  match ds, e, rv with
  | [.dct kvs], e, rv =>
    obtain ⟨v, rfl, a, ks, rfl, h1, hn, h2⟩ := rv.one
    cases h : intsOf (kvs.map (·.1)) with
    | none => rw [show sortedKD [.dct kvs] = (intsOf (kvs.map (·.1))).map _ from rfl, h] at e; cases e
    | some ns =>
      rw [show sortedKD [.dct kvs] = (intsOf (kvs.map (·.1))).map _ from rfl, h] at e; cases e
      refine ⟨a, ks, ns, rfl, .inl h1, h2.keys (intsOf_eq h), fun ys p hp hs hH => ?_⟩
      have e3 := sortI_eq hp hs
      subst e3
      exact k p _ _ (Stp.hid ex hH) hH (ex.none hH) ⟨_, upd_same, RpL.ints _⟩
end
end DL
set_option Elab.async false
set_option linter.all false
set_option maxRecDepth 100000
set_option maxHeartbeats 1000000
/-! {k: v for .. for ..}: a dict comprehension of two clauses (after the library's two-clause list comprehension and its one-clause dict comprehension). -/
namespace DC2
open PySem PySem.Spec PyProof.Rows L2
theorem compTurn2_outD (kx vx t0 i0 t1 i1 : Expr) (ifs0 ifs1 : List Expr) (scope : Scope) (pos : Pos) (it : Value) (DD : Addr) (env : Env) :
    compTurn (.DictComp kx vx [⟨t0, i0, ifs0, 0⟩, ⟨t1, i1, ifs1, 0⟩] scope pos) 0 it (.ref DD) env = (do
      standAt i0.pos
      match ← pyNext it with
      | none => pure (.done .next)
      | some v =>
        letOwnedTupleGo t0 it v
        assign t0 env v
        let mut ok := true
        for c in ifs0 do
          if ok then ok ← isTrue c env (eval c env)
        if ok then
          let x ← eval i1 env
          standAt i1.pos
          let x ← foldedSetIterable i1 env x
          let _ ← runOwn (.compStart (.DictComp kx vx [⟨t0, i0, ifs0, 0⟩, ⟨t1, i1, ifs1, 0⟩] scope pos) 1 (← holding [x] (pyIter x)) (.ref DD) env) env
        again (.compLoop (.DictComp kx vx [⟨t0, i0, ifs0, 0⟩, ⟨t1, i1, ifs1, 0⟩] scope pos) 0 it (.ref DD) env)) := by rfl
theorem compTurn2_inD (kx vx t0 i0 t1 i1 : Expr) (ifs0 ifs1 : List Expr) (scope : Scope) (pos : Pos) (it : Value) (DD : Addr) (env : Env) :
    compTurn (.DictComp kx vx [⟨t0, i0, ifs0, 0⟩, ⟨t1, i1, ifs1, 0⟩] scope pos) 1 it (.ref DD) env = (do
      standAt i1.pos
      match ← pyNext it with
      | none => pure (.done .next)
      | some v =>
        letOwnedTupleGo t1 it v
        assign t1 env v
        let mut ok := true
        for c in ifs1 do
          if ok then ok ← isTrue c env (eval c env)
        if ok then
          (do
            let kv ← eval kx env
            let vv ← holding [kv] (eval vx env)
            standAt { kx.pos with endLine := vx.pos.endLine, endCol := vx.pos.endCol }
            holding [kv, vv] (dictSet DD kv vv))
        again (.compLoop (.DictComp kx vx [⟨t0, i0, ifs0, 0⟩, ⟨t1, i1, ifs1, 0⟩] scope pos) 1 it (.ref DD) env)) := by rfl

section
variable {prog : Program} {w : World} {A : Around} {R : Result → Shared → Prop} {s : Shared} {kx vx t0 i0 t1 i1 : Expr} {ifs0 ifs1 : List Expr} {scope : Scope} {pos : Pos} {it : Value} {DD : Addr} {env : Env}
/-- the loop of the first clause -/
theorem compLoop2_outD (hs : ∀ x, foldedSetIterable i1 env x = pure x) (I : Nat → Shared → Prop)
    (turn : ∀ n s, I n s → wpAny (model prog w) A (pyNext it) (fun r v₁ => match r with
      | none => R (.ok .next) v₁
      | some v => wpAny (model prog w) A (letOwnedTupleGo t0 it v) (fun _ v₁' => wpAny (model prog w) A (assign t0 env v) (fun _ v₂ =>
          wpAny (model prog w) A (forIn ifs0 true fun c r => if r = true then do let ok ← isTrue c env (eval c env); pure (ForInStep.yield ok) else pure (ForInStep.yield r)) (fun ok v₃ =>
            if ok = true then wpAny (model prog w) A (eval i1 env) (fun x v₄ => wpAny (model prog w) A (pyIter x) (fun it1 v₅ =>
              codeAny (model prog w) A (.compStart (.DictComp kx vx [⟨t0, i0, ifs0, 0⟩, ⟨t1, i1, ifs1, 0⟩] scope pos) 1 it1 (.ref DD) env) (fun r s' => match r with
                | .ok _ => ∃ m, m < n ∧ I m s'
                | .error _ => False) v₅) (notedBy (model prog w) A env fun e s' => R (.error e) s') v₄) (notedBy (model prog w) A env fun e s' => R (.error e) s') v₃
            else ∃ m, m < n ∧ I m v₃) (notedBy (model prog w) A env fun e s' => R (.error e) s') v₂) (notedBy (model prog w) A env fun e s' => R (.error e) s') v₁') (notedBy (model prog w) A env fun e s' => R (.error e) s') v₁) (notedBy (model prog w) A env fun e s' => R (.error e) s') s)
    (n : Nat) (h : I n s) :
    codeAny (model prog w) A (.compLoop (.DictComp kx vx [⟨t0, i0, ifs0, 0⟩, ⟨t1, i1, ifs1, 0⟩] scope pos) 0 it (.ref DD) env) R s := by
  refine codeAny_loop rfl I (fun n s hI => ?_) n h
  show wpAny _ A ((compTurn (.DictComp kx vx [⟨t0, i0, ifs0, 0⟩, ⟨t1, i1, ifs1, 0⟩] scope pos) 0 it (.ref DD) env).onRaise (fun x => do noteFrame x env; theTreesLotGoes x)) _ _ s
  refine wpAny_noted ?_
  rw [compTurn2_outD]
  refine wpAny_bind (wpAny_standAt (wpAny_bind (wpAny_mono (turn n s hI) (fun r v₁ k₁ => ?_) fun _ _ h' => h')))
  cases r with
  | none => exact wpAny_pure k₁
  | some v =>
    refine wpAny_bind (wpAny_mono k₁ (fun _ v₁' k₁' => ?_) fun _ _ h' => h')
    refine wpAny_bind (wpAny_mono k₁' (fun _ v₂ k₂ => wpAny_bind (wpAny_mono k₂ (fun ok v₃ k₃ => ?_) fun _ _ h' => h')) fun _ _ h' => h')
    cases ok with
    | false => exact wpAny_pure ⟨rfl, k₃⟩
    | true =>
      refine wpAny_bind (wpAny_mono k₃ (fun x v₄ k₄ => ?_) fun _ _ h' => h')
      refine wpAny_bind (wpAny_standAt (wpAny_bind (wpAny_of_eq (hs x) (wpAny_bind (wpAny_holding (wpAny_mono k₄ (fun it1 v₅ k₅ => ?_) fun _ _ h' => h'))))))
      refine wpAny_bind (wpAny_runOwn ?_)
      rw [Around.mark_none]
      refine codeAny_mono k₅ fun r s' hr => ?_
      cases r with
      | ok f =>
        first
          | exact wpAny_pure ⟨rfl, hr⟩
          | exact wpAny_bind (wpAny_pure (wpAny_pure ⟨rfl, hr⟩))
      | error e => exact hr.elim
/-- the loop of the second -/
theorem compLoop2_inD (I : Nat → Shared → Prop)
    (turn : ∀ n s, I n s → wpAny (model prog w) A (pyNext it) (fun r v₁ => match r with
      | none => R (.ok .next) v₁
      | some v => wpAny (model prog w) A (letOwnedTupleGo t1 it v) (fun _ v₁' => wpAny (model prog w) A (assign t1 env v) (fun _ v₂ =>
          wpAny (model prog w) A (forIn ifs1 true fun c r => if r = true then do let ok ← isTrue c env (eval c env); pure (ForInStep.yield ok) else pure (ForInStep.yield r)) (fun ok v₃ =>
            if ok = true then wpAny (model prog w) A (eval kx env) (fun kv v₄ => wpAny (model prog w) A (eval vx env) (fun vv v₅ =>
              wpAny (model prog w) A (dictSet DD kv vv) (fun _ v₆ => ∃ m, m < n ∧ I m v₆) (notedBy (model prog w) A env fun e s' => R (.error e) s') v₅) (notedBy (model prog w) A env fun e s' => R (.error e) s') v₄) (notedBy (model prog w) A env fun e s' => R (.error e) s') v₃
            else ∃ m, m < n ∧ I m v₃) (notedBy (model prog w) A env fun e s' => R (.error e) s') v₂) (notedBy (model prog w) A env fun e s' => R (.error e) s') v₁') (notedBy (model prog w) A env fun e s' => R (.error e) s') v₁) (notedBy (model prog w) A env fun e s' => R (.error e) s') s)
    (n : Nat) (h : I n s) :
    codeAny (model prog w) A (.compLoop (.DictComp kx vx [⟨t0, i0, ifs0, 0⟩, ⟨t1, i1, ifs1, 0⟩] scope pos) 1 it (.ref DD) env) R s := by
  refine codeAny_loop rfl I (fun n s hI => ?_) n h
  show wpAny _ A ((compTurn (.DictComp kx vx [⟨t0, i0, ifs0, 0⟩, ⟨t1, i1, ifs1, 0⟩] scope pos) 1 it (.ref DD) env).onRaise (fun x => do noteFrame x env; theTreesLotGoes x)) _ _ s
  refine wpAny_noted ?_
  rw [compTurn2_inD]
  refine wpAny_bind (wpAny_standAt (wpAny_bind (wpAny_mono (turn n s hI) (fun r v₁ k₁ => ?_) fun _ _ h' => h')))
  cases r with
  | none => exact wpAny_pure k₁
  | some v =>
    refine wpAny_bind (wpAny_mono k₁ (fun _ v₁' k₁' => ?_) fun _ _ h' => h')
    refine wpAny_bind (wpAny_mono k₁' (fun _ v₂ k₂ => wpAny_bind (wpAny_mono k₂ (fun ok v₃ k₃ => ?_) fun _ _ h' => h')) fun _ _ h' => h')
    cases ok with
    | false => exact wpAny_pure ⟨rfl, k₃⟩
    | true =>
      exact wpAny_bind (wpAny_bind (wpAny_mono k₃ (fun kv v₄ k₄ => wpAny_bind (wpAny_holding (wpAny_mono k₄ (fun vv v₅ k₅ => wpAny_bind (wpAny_standAt (wpAny_holding (wpAny_mono k₅ (fun _ v₆ k₆ => wpAny_pure ⟨rfl, k₆⟩) fun _ _ h' => h')))) fun _ _ h' => h'))) fun _ _ h' => h'))
/-- the second clause's start -/
theorem compStart1_okD (h0 : codeAny (model prog w) A (.compLoop (.DictComp kx vx [⟨t0, i0, ifs0, 0⟩, ⟨t1, i1, ifs1, 0⟩] scope pos) 1 it (.ref DD) env) R s)
    (h : wpAny (model prog w) A (pyIter it) (fun it' s' => codeAny (model prog w) A (.compLoop (.DictComp kx vx [⟨t0, i0, ifs0, 0⟩, ⟨t1, i1, ifs1, 0⟩] scope pos) 1 it' (.ref DD) env) R s')
      (notedBy (model prog w) A env fun x s' => R (.error x) s') s) :
    codeAny (model prog w) A (.compStart (.DictComp kx vx [⟨t0, i0, ifs0, 0⟩, ⟨t1, i1, ifs1, 0⟩] scope pos) 1 it (.ref DD) env) R s := by
  refine codeAny_of_tree ?_
  show wpAny _ _ ((compStart (.DictComp kx vx [⟨t0, i0, ifs0, 0⟩, ⟨t1, i1, ifs1, 0⟩] scope pos) 1 it (.ref DD) env).onRaise (fun x => do noteFrame x env; standAt theWindowsPlace)) _ _ s
  refine wpAny_notedAt ?_
  unfold compStart
  show wpAny _ _ (ask >>= _) _ _ s
  refine wpAny_bind (wpAny_askSetting (wpAny_ite ?_))
  split
  · first
      | exact wpAny_bind (wpAny_pure (wpAny_pure (And.intro rfl h0)))
      | exact wpAny_pure (And.intro rfl h0)
  · first
      | exact wpAny_bind (wpAny_rule (wpAny_bind (wpAny_standAt (wpAny_bind (wpAny_mono h (fun it' s' h' => wpAny_pure (And.intro rfl h')) fun _ _ x => x)))))
      | (refine wpAny_bind (wpAny_rule ?_); show wpAny _ _ (standAt i1.pos >>= _) _ _ s; exact wpAny_bind (wpAny_standAt (wpAny_bind (wpAny_mono h (fun it' s' h' => wpAny_pure (And.intro rfl h')) fun _ _ x => x))))
end

section
variable {X : Cx}
def tDc2 (wi : TI) (g : TG) (tt : TT) (wi1 : TI) (g1 : TG) (tt1 : TT) (tk tv : TE) (vs vs1 : List Nat) : TE := fun σ H Q => wi σ H fun J Hp1 => ∀ D, Hp1 D = none → ∃ W : Nat → Nat → Hp → Prop, (∃ m, W 0 m (upd Hp1 D (.dK []))) ∧ ∀ i m H, W i m H →
  (J.stop i H ∧ Q (.ref D) H) ∨ (J.go i H ∧ ∃ Nx : Hp → Prop, (∀ H', Nx H' → ∃ m', m' < m ∧ W (i + 1) m' H') ∧ ∀ x H', J.yld i H x H' → g x (wipe σ vs) H' fun σ2 Hp2 => wipe σ2 vs = wipe σ vs ∧ tt σ2 Hp2 fun b Hp3 =>
    if b = true then wi1 σ2 Hp3 fun J1 Hp4 => ∃ W1 : Nat → Nat → Hp → Prop, (∃ m, W1 0 m Hp4) ∧ ∀ j k H, W1 j k H →
      (J1.stop j H ∧ Nx H) ∨ (J1.go j H ∧ ∃ Nx1 : Hp → Prop, (∀ H', Nx1 H' → ∃ k', k' < k ∧ W1 (j + 1) k' H') ∧ ∀ x H', J1.yld j H x H' → g1 x (wipe σ2 vs1) H' fun σ3 Hp5 => wipe σ3 vs1 = wipe σ2 vs1 ∧ tt1 σ3 Hp5 fun b Hp6 =>
        if b = true then tk σ3 Hp6 fun y Hp7 => tv σ3 Hp7 fun z Hp8 => ∃ kvs k, y = kV k ∧ Hp8 D = some (.dK kvs) ∧ kvs.length < sizeLine ∧ Nx1 (upd Hp8 D (.dK (putK kvs k z))) else Nx1 Hp6)
    else Nx Hp3)
theorem dc2_core {pn0 : List (Addr × Obj)} {s : Shared} {σ : L2.St} {H : Hp} {Q : VK} {kx vx tg iter tg1 iter1 : Expr} {ifs ifs1 : List Expr} {scope : Scope} {own : List (Str × Nat)} {vs1 : List Nat} {pos pos' : Pos} {wi wi1 : TI} {g g1 : TG} {tt tt1 : TT} {tk tv : TE} {use : Option (Value → Sem Unit)} {Qf : Value → Shared → Prop}
    (hc : X.calm = true) (once : X.N.Nodup) (I : Inv X pn0 σ H s) (hi : PI X tg iter wi) (ok : BlkOk X.N X.env.scope scope own) (hv : ∀ i ∈ vs1, i ∈ own.map (·.2))
    (hg : ∀ (s : Shared) (H : Hp) (C : Addr) (clo : List (Str × Addr)) (fp : List Addr), PG (X.blk s H scope (compEnvC scope clo C X.env) fp) tg g) (ht : ∀ (s : Shared) (H : Hp) (C : Addr) (clo : List (Str × Addr)) (fp : List Addr), PTs (X.blk s H scope (compEnvC scope clo C X.env) fp) ifs tt)
    (hk : ∀ (s : Shared) (H : Hp) (C : Addr) (clo : List (Str × Addr)) (fp : List Addr), PE (X.blk s H scope (compEnvC scope clo C X.env) fp) kx tk)
    (he : ∀ (s : Shared) (H : Hp) (C : Addr) (clo : List (Str × Addr)) (fp : List Addr), PE (X.blk s H scope (compEnvC scope clo C X.env) fp) vx tv) (hs : ∀ x, foldedSetIterable iter X.env x = pure x)
    (hi1 : ∀ (s : Shared) (H : Hp) (C : Addr) (clo : List (Str × Addr)) (fp : List Addr), PI (X.blk s H scope (compEnvC scope clo C X.env) fp) tg1 iter1 wi1)
    (hg1 : ∀ (s : Shared) (H : Hp) (C : Addr) (clo : List (Str × Addr)) (fp : List Addr), PG (X.blk s H scope (compEnvC scope clo C X.env) fp) tg1 g1)
    (ht1 : ∀ (s : Shared) (H : Hp) (C : Addr) (clo : List (Str × Addr)) (fp : List Addr), PTs (X.blk s H scope (compEnvC scope clo C X.env) fp) ifs1 tt1)
    (hs1 : ∀ env x, foldedSetIterable iter1 env x = pure x)
    (h : tDc2 wi g tt wi1 g1 tt1 tk tv (own.map (·.2)) vs1 σ H Q)
    (back : ∀ D C s' m H', Inv X pn0 σ H' s' → Q (.ref D) H' → s'.heap.Ns C m → FpOk X pn0 H' C → compPost (model X.prog X.w) X.A X.xe use Qf (.ref D) C (.ok .next) s') :
    wpAny (model X.prog X.w) X.A (comprehension (.DictComp kx vx [⟨tg, iter, ifs, 0⟩, ⟨tg1, iter1, ifs1, 0⟩] scope pos) scope X.env pos' (newDict) false (eval iter X.env) use) Qf X.xe s := by
  have closed : ∀ y ∈ scope.names, y.2 = .free → ∃ c, X.env.cells.lookup y.1 = some c := fun y hy e => by
    rcases ok.free y hy e with k | k
    · exact I.ok.has _ (.inl k)
    · exact I.ok.has _ (.inr k)
  refine wpAny_comprehension_free (use := use) rfl hs (closure_ok closed) ok.kind (fun y hy e => by rw [ok.uniq y hy, e])
    (thn (hi.run pn0 s σ H _ I h) fun xv cs1 hx => thn hx fun itv cs2 h2 => ?_)
  obtain ⟨it, fp, stands, J, Hp2, e, Jv2, T, at2, fresh2, q⟩ := h2
  subst e
  refine wpAny_newObj_type (newEnv_comp ?_)
  generalize hD : cs2.heap.objs.size = D
  have hDn : Hp2 D = none := Jv2.hok.fresh (Nat.le_of_eq hD)
  obtain ⟨W, ⟨m0, w0⟩, turn⟩ := q D hDn
  generalize hs3 : ({ cs2 with heap := cs2.heap.push { cls := .type "dict", data := .dict #[] } } : Shared) = cs3
  have Jv3 : Inv X pn0 σ (upd Hp2 D (.dK [])) cs3 := by
    rw [← hs3]
    refine Jv2.laid (t' := cs2.toks) (fun b o e => Heap.get?_push_of_some _ e) (Nat.le_of_eq hD) ?_
    rw [← hD]
    exact dk_empty cs2.heap Jv2.big
  have h3 : cs3.heap = cs2.heap.push { cls := .type "dict", data := .dict #[] } := by rw [← hs3]
  have sz : ∀ b ∈ fp, b < cs2.heap.objs.size := fun b hb => by
    obtain ⟨o, e, _⟩ := T.obj _ _ at2 b hb
    exact Heap.lt_size e
  have fresh3 : ∀ b ∈ fp, FpOk X pn0 (upd Hp2 D (.dK [])) b ∧ b < cs3.heap.objs.size := fun b hb => by
    have hlt := sz b hb
    refine ⟨⟨?_, (fresh2 b hb).2⟩, by rw [h3, Heap.size_push]; exact Nat.lt_succ_of_lt hlt⟩
    rw [upd_ne (by rw [← hD]; exact Nat.ne_of_lt hlt)]
    exact (fresh2 b hb).1
  have at3 : stands 0 cs3.heap := T.keep _ _ _ at2 fun b _ o e => by rw [h3]; exact Heap.get?_push_of_some _ e
  have Jv4 := block_start Jv3 ok once fresh3
  have pg_here := hg cs3 (upd Hp2 D (.dK [])) cs3.heap.objs.size (cellsFrom (cs3.heap.objs.size + 1) scope.names (cloFrom X.env.cells scope.names [])) fp
  have pt_here := ht cs3 (upd Hp2 D (.dK [])) cs3.heap.objs.size (cellsFrom (cs3.heap.objs.size + 1) scope.names (cloFrom X.env.cells scope.names [])) fp
  have pk_here := hk cs3 (upd Hp2 D (.dK [])) cs3.heap.objs.size (cellsFrom (cs3.heap.objs.size + 1) scope.names (cloFrom X.env.cells scope.names [])) fp
  have pe_here := he cs3 (upd Hp2 D (.dK [])) cs3.heap.objs.size (cellsFrom (cs3.heap.objs.size + 1) scope.names (cloFrom X.env.cells scope.names [])) fp
  have pi1_here := hi1 cs3 (upd Hp2 D (.dK [])) cs3.heap.objs.size (cellsFrom (cs3.heap.objs.size + 1) scope.names (cloFrom X.env.cells scope.names [])) fp
  have pg1_here := hg1 cs3 (upd Hp2 D (.dK [])) cs3.heap.objs.size (cellsFrom (cs3.heap.objs.size + 1) scope.names (cloFrom X.env.cells scope.names [])) fp
  have pt1_here := ht1 cs3 (upd Hp2 D (.dK [])) cs3.heap.objs.size (cellsFrom (cs3.heap.objs.size + 1) scope.names (cloFrom X.env.cells scope.names [])) fp
  show codeAny _ _ (.compStart (.DictComp kx vx [⟨tg, iter, ifs, 0⟩, ⟨tg1, iter1, ifs1, 0⟩] scope pos) 0 (.ref it) (.ref D) (compEnvC scope (cellsFrom (cs3.heap.objs.size + 1) scope.names (cloFrom X.env.cells scope.names [])) cs3.heap.objs.size X.env)) (compPost (model X.prog X.w) X.A X.xe use Qf (.ref D) cs3.heap.objs.size) { cs3 with heap := pushCells (cs3.heap.push { cls := .type "dict", data := .dict #[] }) scope.names }
  have free_fp : ∀ b ∈ fp, (upd Hp2 D (.dK [])) b = none := fun b hb => (fresh3 b hb).1.1
  generalize hce : compEnvC scope (cellsFrom (cs3.heap.objs.size + 1) scope.names (cloFrom X.env.cells scope.names [])) cs3.heap.objs.size X.env = blkEnv at Jv4 pg_here pt_here pk_here pe_here pi1_here pg1_here pt1_here ⊢
  have itsLocals : blkEnv.locals = cs3.heap.objs.size := by subst hce; rfl
  generalize hH3 : upd Hp2 D (.dK []) = Hp3 at Jv3 Jv4 pg_here pt_here pk_here pe_here pi1_here pg1_here pt1_here w0 free_fp fresh3
  generalize hs4 : ({ cs3 with heap := pushCells (cs3.heap.push { cls := .type "dict", data := .dict #[] }) scope.names } : Shared) = cs4 at Jv4 ⊢
  have at4 : stands 0 cs4.heap := T.keep _ _ _ at3 fun b _ o e => by rw [← hs4]; exact pushCells_keeps _ _ _ _ (Heap.get?_push_of_some _ e)
  have quiet : ∀ {σ' : L2.St} {H' : Hp} {s' : Shared}, Inv (X.blk cs3 Hp3 scope blkEnv fp) [] σ' H' s' → (∀ b ∈ fp, H' b = none) → ∀ b ∈ fp, FpOk (X.blk cs3 Hp3 scope blkEnv fp) [] H' b := fun {σ' H' s'} I' hn b hb =>
    ⟨hn b hb, (I'.ok.exf b hb).1, I'.ok.exfs b hb, .inl hb, fun x c e => (I'.ok.exf b hb).2 x c e, fun p hp => absurd (show p ∈ ([] : List (Addr × Obj)) ++ [] from hp) (by simp)⟩
  have loop : codeAny (model X.prog X.w) X.A (.compLoop (.DictComp kx vx [⟨tg, iter, ifs, 0⟩, ⟨tg1, iter1, ifs1, 0⟩] scope pos) 0 (.ref it) (.ref D) blkEnv) (compPost (model X.prog X.w) X.A X.xe use Qf (.ref D) cs3.heap.objs.size) cs4 := by
    refine compLoop2_outD (hs1 blkEnv) (fun n s' => ∃ i H', Inv (X.blk cs3 Hp3 scope blkEnv fp) [] (wipe σ (own.map (·.2))) H' s' ∧ stands i s'.heap ∧ (∀ b ∈ fp, H' b = none) ∧ W i n H') ?_ m0 ⟨0, Hp3, Jv4, at4, free_fp, w0⟩
    rintro n cs5 ⟨i, Hp5, Jv5, at5, un5, w5⟩
    rcases turn i n Hp5 w5 with ⟨stop, qq⟩ | ⟨go, Nx, nx_ok, go_on⟩
    · have td := T.done (X.blk cs3 Hp3 scope blkEnv fp) rfl rfl rfl hc i [] cs5 _ Hp5 (fun _ _ => False) Jv5 (quiet Jv5 un5) at5 stop
      refine thnF td fun r cs6 ⟨hr, Jv6⟩ => ?_
      subst hr
      have Jv7 : Inv X pn0 σ Hp5 cs6 := Jv3.call' (ch := fp) Jv6.os Jv6.base Jv6.hok Jv6.bare fun b hb => ⟨(fresh3 b hb).1.2.2.2.1, (fresh3 b hb).1.2.1, (fresh3 b hb).1.2.2.2.2.1, (fresh3 b hb).1.2.2.2.2.2⟩
      have noneThere : Hp5 cs3.heap.objs.size = none := by
        have z : Hp5 blkEnv.locals = none := Jv6.free
        rw [itsLocals] at z
        exact z
      obtain ⟨m, hn, _⟩ := Jv6.loc
      have hn : cs6.heap.Ns blkEnv.locals m := hn
      rw [itsLocals] at hn
      exact back D cs3.heap.objs.size cs6 m Hp5 Jv7 qq hn (Jv3.fpOk (Nat.le_refl _) noneThere)
    · have ti := T.item (X.blk cs3 Hp3 scope blkEnv fp) rfl rfl rfl hc i [] cs5 _ Hp5 (fun _ _ => False) Jv5 (quiet Jv5 un5) at5 go
      refine thnF ti fun r cs6 ⟨u, hr, h6⟩ => ?_
      subst hr
      refine thnF h6 fun _ cs7 ⟨x, Hp7, Jv7, rel7, y7, at7, un7⟩ => ?_
      have J7p := Jv7.pinned (quiet Jv7 un7) (T.obj _ _ at7)
      refine thnF (pg_here.run _ cs7 _ Hp7 x u _ J7p rel7 (go_on x Hp7 y7)) fun _ cs8 ⟨σ8, Hp8, Jv8, wp8, ask8⟩ => ?_
      refine thnF (pt_here.run _ cs8 σ8 Hp8 _ Jv8 ask8) fun b cs9 ⟨Hp9, Jv9, ask9⟩ => ?_
      have turn_end : ∀ {σ9 : L2.St} {s' : Shared} {H' : Hp}, Inv (X.blk cs3 Hp3 scope blkEnv fp) ([] ++ pinsAt fp cs7.heap) σ9 H' s' → (wipe σ (own.map (·.2))).length = σ9.length → (∀ (j : Nat) v, (wipe σ (own.map (·.2)))[j]? = some (some v) → σ9[j]? = some (some v)) → Nx H' →
          ∃ m, m < n ∧ ∃ i H', Inv (X.blk cs3 Hp3 scope blkEnv fp) [] (wipe σ (own.map (·.2))) H' s' ∧ stands i s'.heap ∧ (∀ b ∈ fp, H' b = none) ∧ W i m H' := fun {σ9 s' H'} I' hl hk nx => by
        obtain ⟨m', hm, w'⟩ := nx_ok H' nx
        have kept_pin : ∀ b ∈ fp, ∀ o, cs7.heap.get? b = some o → s'.heap.get? b = some o ∧ H' b = none := fun b hb o e =>
          let z := I'.pin (b, o) (List.mem_append_right _ (List.mem_append_right _ (mem_pinsAt hb e)))
          ⟨z.1, z.2.1⟩
        refine ⟨m', hm, i + 1, H', (I'.unpinned (pins := [])).weak hl hk, T.keep _ _ _ at7 fun b hb o e => (kept_pin b hb o e).1, fun b hb => ?_, w'⟩
        obtain ⟨o, e, _⟩ := T.obj _ _ at7 b hb
        exact (kept_pin b hb o e).2
      have len8 : (wipe σ (own.map (·.2))).length = σ8.length := by rw [← wp8, wipe_length]
      have old8 : ∀ (j : Nat) v, (wipe σ (own.map (·.2)))[j]? = some (some v) → σ8[j]? = some (some v) := fun j v e => by
        rw [← wp8] at e
        exact (wipe_some e).1
      have old9 : ∀ (j : Nat) v, (wipe σ (own.map (·.2)))[j]? = some (some v) → (wipe σ8 vs1)[j]? = some (some v) := fun j v e => by
        rw [← wp8] at e
        obtain ⟨e1, e2⟩ := wipe_some e
        rw [wipe_out fun z => e2 (hv j z)]
        exact e1
      cases b with
      | false =>
        simp only [Bool.false_eq_true, if_false] at ask9 ⊢
        exact turn_end Jv9 len8 old8 ask9
      | true =>
        simp only [if_true] at ask9 ⊢
        refine thnF (pi1_here.run _ cs9 σ8 Hp9 _ Jv9 ask9) fun xv cs10 hx => thnF hx fun itv cs11 got11 => ?_
        obtain ⟨it1, fp1, stands1, J1, Hp11, e1, Jv11, T1, at11, fresh11, W1, ⟨m1, w1⟩, lap1⟩ := got11
        subst e1
        have quiet1 : ∀ {H' : Hp}, (∀ b ∈ fp1, H' b = none) → ∀ b ∈ fp1, FpOk (X.blk cs3 Hp3 scope blkEnv fp) ([] ++ pinsAt fp cs7.heap) H' b := fun hn b hb => ⟨hn b hb, (fresh11 b hb).2⟩
        have loop1 : codeAny (model X.prog X.w) X.A (.compLoop (.DictComp kx vx [⟨tg, iter, ifs, 0⟩, ⟨tg1, iter1, ifs1, 0⟩] scope pos) 1 (.ref it1) (.ref D) blkEnv)
            (fun r s' => match r with
              | .ok _ => ∃ m, m < n ∧ ∃ i H', Inv (X.blk cs3 Hp3 scope blkEnv fp) [] (wipe σ (own.map (·.2))) H' s' ∧ stands i s'.heap ∧ (∀ b ∈ fp, H' b = none) ∧ W i m H'
              | .error _ => False) cs11 := by
          refine compLoop2_inD (fun k s' => ∃ j H', Inv (X.blk cs3 Hp3 scope blkEnv fp) ([] ++ pinsAt fp cs7.heap) (wipe σ8 vs1) H' s' ∧ stands1 j s'.heap ∧ (∀ b ∈ fp1, H' b = none) ∧ W1 j k H') ?_ m1 ⟨0, Hp11, Jv11.weak (wipe_length _ _) (fun j v e => (wipe_some e).1), at11, fun b hb => (fresh11 b hb).1, w1⟩
          rintro k cs12 ⟨j, Hp12, Jv12, at12, un12, w12⟩
          rcases lap1 j k Hp12 w12 with ⟨stop1, nx1⟩ | ⟨go1, Nx1, nx_ok1, go_on1⟩
          · refine thnF (T1.done (X.blk cs3 Hp3 scope blkEnv fp) rfl rfl rfl hc j _ cs12 (wipe σ8 vs1) Hp12 (fun _ _ => False) Jv12 (quiet1 un12) at12 stop1) fun r cs13 ⟨hr, Jv13⟩ => ?_
            subst hr
            exact turn_end Jv13 (len8.trans (wipe_length σ8 vs1).symm) old9 nx1
          · refine thnF (T1.item (X.blk cs3 Hp3 scope blkEnv fp) rfl rfl rfl hc j _ cs12 (wipe σ8 vs1) Hp12 (fun _ _ => False) Jv12 (quiet1 un12) at12 go1) fun r cs13 ⟨u1, hr, got13⟩ => ?_
            subst hr
            refine thnF got13 fun _ cs14 ⟨x1, Hp14, Jv14, rel14, y14, at14, un14⟩ => ?_
            have J14p := Jv14.pinned (quiet1 un14) (T1.obj _ _ at14)
            refine thnF (pg1_here.run _ cs14 (wipe σ8 vs1) Hp14 x1 u1 _ J14p rel14 (go_on1 x1 Hp14 y14)) fun _ cs15 ⟨σ15, Hp15, Jv15, wp15, ask15⟩ => ?_
            refine thnF (pt1_here.run _ cs15 σ15 Hp15 _ Jv15 ask15) fun b1 cs16 ⟨Hp16, Jv16, ask16⟩ => ?_
            have turn_end1 : ∀ {s' : Shared} {H' : Hp}, Inv (X.blk cs3 Hp3 scope blkEnv fp) (([] ++ pinsAt fp cs7.heap) ++ pinsAt fp1 cs14.heap) σ15 H' s' → Nx1 H' → ∃ m, m < k ∧ ∃ j H', Inv (X.blk cs3 Hp3 scope blkEnv fp) ([] ++ pinsAt fp cs7.heap) (wipe σ8 vs1) H' s' ∧ stands1 j s'.heap ∧ (∀ b ∈ fp1, H' b = none) ∧ W1 j m H' := fun {s' H'} I' nx => by
              obtain ⟨m', hm, w'⟩ := nx_ok1 H' nx
              have kept_pin : ∀ b ∈ fp1, ∀ o, cs14.heap.get? b = some o → s'.heap.get? b = some o ∧ H' b = none := fun b hb o e =>
                let z := I'.pin (b, o) (List.mem_append_right _ (List.mem_append_right _ (mem_pinsAt hb e)))
                ⟨z.1, z.2.1⟩
              refine ⟨m', hm, j + 1, H', I'.unpinned.weak (by rw [← wp15, wipe_length]) (fun j v e => by rw [← wp15] at e; exact (wipe_some e).1), T1.keep _ _ _ at14 fun b hb o e => (kept_pin b hb o e).1, fun b hb => ?_, w'⟩
              obtain ⟨o, e, _⟩ := T1.obj _ _ at14 b hb
              exact (kept_pin b hb o e).2
            cases b1 with
            | false =>
              simp only [Bool.false_eq_true, if_false] at ask16 ⊢
              exact turn_end1 Jv16 ask16
            | true =>
              simp only [if_true] at ask16 ⊢
              refine thnF (pk_here.run _ cs16 σ15 Hp16 _ Jv16 ask16) fun z cs17 ⟨yk, Hp17, Jv17, rel17, ask17⟩ => ?_
              refine thnF (pe_here.run _ cs17 σ15 Hp17 _ Jv17 ask17) fun z2 cs18 ⟨yv, Hp18, Jv18, rel18, kvs, k, ek, hD18, hz18, nx⟩ => ?_
              subst ek
              exact d_dictSet (X := X.blk cs3 Hp3 scope blkEnv fp) Jv18 hD18 hz18 rel17 rel18 fun cs19 Jv19 => turn_end1 Jv19 nx
        exact compStart1_okD loop1 (T1.self X.A 0 _ _ _ at11 loop1)
  exact codeAny_compStart_dict loop (T.self X.A 0 _ _ _ at4 loop)
/-- as a value -/
theorem pe_dc2 {kx vx tg iter tg1 iter1 : Expr} {ifs ifs1 : List Expr} {scope : Scope} {own : List (Str × Nat)} {vs1 : List Nat} {pos : Pos} {wi wi1 : TI} {g g1 : TG} {tt tt1 : TT} {tk tv : TE} (hc : X.calm = true) (once : X.N.Nodup) (hi : PI X tg iter wi) (ok : BlkOk X.N X.env.scope scope own) (hv : ∀ i ∈ vs1, i ∈ own.map (·.2))
    (hg : ∀ (s : Shared) (H : Hp) (C : Addr) (clo : List (Str × Addr)) (fp : List Addr), PG (X.blk s H scope (compEnvC scope clo C X.env) fp) tg g) (ht : ∀ (s : Shared) (H : Hp) (C : Addr) (clo : List (Str × Addr)) (fp : List Addr), PTs (X.blk s H scope (compEnvC scope clo C X.env) fp) ifs tt)
    (hi1 : ∀ (s : Shared) (H : Hp) (C : Addr) (clo : List (Str × Addr)) (fp : List Addr), PI (X.blk s H scope (compEnvC scope clo C X.env) fp) tg1 iter1 wi1)
    (hg1 : ∀ (s : Shared) (H : Hp) (C : Addr) (clo : List (Str × Addr)) (fp : List Addr), PG (X.blk s H scope (compEnvC scope clo C X.env) fp) tg1 g1) (ht1 : ∀ (s : Shared) (H : Hp) (C : Addr) (clo : List (Str × Addr)) (fp : List Addr), PTs (X.blk s H scope (compEnvC scope clo C X.env) fp) ifs1 tt1)
    (hk : ∀ (s : Shared) (H : Hp) (C : Addr) (clo : List (Str × Addr)) (fp : List Addr), PE (X.blk s H scope (compEnvC scope clo C X.env) fp) kx tk)
    (he : ∀ (s : Shared) (H : Hp) (C : Addr) (clo : List (Str × Addr)) (fp : List Addr), PE (X.blk s H scope (compEnvC scope clo C X.env) fp) vx tv) (hs : ∀ x, foldedSetIterable iter X.env x = pure x := by intro _; rfl) (hs1 : ∀ env x, foldedSetIterable iter1 env x = pure x := by intro _ _; rfl) :
    PE X (.DictComp kx vx [⟨tg, iter, ifs, 0⟩, ⟨tg1, iter1, ifs1, 0⟩] scope pos) (tDc2 wi g tt wi1 g1 tt1 tk tv (own.map (·.2)) vs1) := by
  refine ⟨fun pn0 s σ H Q I h => ?_⟩
  rw [arm_eval_DictComp]
  refine dc2_core hc once I hi ok hv hg ht hk he hs hi1 hg1 ht1 hs1 h fun D C s' m H' I' q hn f => ⟨m, hn, fun h'' sb => ?_⟩
  obtain ⟨f0, f1, fresh2, fresh3, f4, f5⟩ := f
  exact ⟨.ref D, H', I'.turned (t' := s'.toks) (fun b o hb e => (sb.2 b hb).trans e) f0 f1 fresh3 f4 f5, rfl, q⟩
end
end DC2
set_option Elab.async false
set_option linter.all false
set_option maxRecDepth 100000
set_option maxHeartbeats 1000000
/-! A dict of two clauses, by data. -/
namespace DL
open PySem PySem.Spec PyProof.Rows L2
def keyD : D → Option Key
  | .int i => some (.inl i)
  | .str x => some (.inr x)
  | _ => none
theorem keyD_eq {d : D} {k : Key} (h : keyD d = some k) : d = kD k := by
  cases d with
  | int i => cases h; rfl
  | str x => cases h; rfl
  | _ => cases h
def putKD (acc : List (Key × D)) (k : Key) (v : D) : List (Key × D) :=
  if (acc.any fun q => decide (q.1 = k)) = true then acc.map (fun q => if q.1 = k then (q.1, v) else q) else acc ++ [(k, v)]
def toD (acc : List (Key × D)) : List (D × D) := acc.map fun q => (kD q.1, q.2)
def AccR (o : Wo) (F : Hp) : List (Key × D) → List (Key × V) → Prop
  | [], ks => ks = []
  | (k, d) :: r, ks => ∃ v s, ks = (k, v) :: s ∧ Rp o F d v ∧ AccR o F r s
theorem AccR.mono {o : Wo} {F F' : Hp} (e : Ex F F') : ∀ {acc : List (Key × D)} {ks : List (Key × V)}, AccR o F acc ks → AccR o F' acc ks
  | [], _, h => h
  | (k, d) :: r, _, ⟨v, s, h1, h2, h3⟩ => ⟨v, s, h1, h2.mono e, AccR.mono e h3⟩
theorem AccR.dct {o : Wo} {F : Hp} : ∀ {acc : List (Key × D)} {ks : List (Key × V)}, AccR o F acc ks → RpD o F (toD acc) ks
  | [], _, h => h
  | (k, d) :: r, _, ⟨v, s, h1, h2, h3⟩ => ⟨k, v, s, h1, rfl, h2, AccR.dct h3⟩
theorem AccR.len {o : Wo} {F : Hp} : ∀ {acc : List (Key × D)} {ks : List (Key × V)}, AccR o F acc ks → acc.length = ks.length
  | [], _, h => by rw [show _ = _ from h]; rfl
  | (k, d) :: r, _, ⟨v, s, h1, h2, h3⟩ => by rw [h1, List.length_cons, List.length_cons, AccR.len h3]
theorem AccR.any {o : Wo} {F : Hp} {k : Key} : ∀ {acc : List (Key × D)} {ks : List (Key × V)}, AccR o F acc ks → (acc.any fun q => decide (q.1 = k)) = (ks.any fun q => decide (q.1 = k))
  | [], _, h => by rw [show _ = _ from h]; rfl
  | (k', d) :: r, _, ⟨v, s, h1, h2, h3⟩ => by rw [h1, List.any_cons, List.any_cons, AccR.any h3]
theorem AccR.over {o : Wo} {F : Hp} {k : Key} {d : D} {v : V} (rv : Rp o F d v) : ∀ {acc : List (Key × D)} {ks : List (Key × V)}, AccR o F acc ks → AccR o F (acc.map fun q => if q.1 = k then (q.1, d) else q) (ks.map fun q => if q.1 = k then (q.1, v) else q)
  | [], _, h => by rw [show _ = _ from h]; rfl
  | (k', d') :: r, _, ⟨v', s, h1, h2, h3⟩ => by
    rw [h1, List.map_cons, List.map_cons]
    by_cases e : k' = k
    · rw [if_pos e, if_pos e]; exact ⟨v, _, rfl, rv, AccR.over rv h3⟩
    · rw [if_neg e, if_neg e]; exact ⟨v', _, rfl, h2, AccR.over rv h3⟩
theorem AccR.snoc {o : Wo} {F : Hp} {k : Key} {d : D} {v : V} (rv : Rp o F d v) : ∀ {acc : List (Key × D)} {ks : List (Key × V)}, AccR o F acc ks → AccR o F (acc ++ [(k, d)]) (ks ++ [(k, v)])
  | [], _, h => by rw [show _ = _ from h]; exact ⟨v, [], rfl, rv, rfl⟩
  | (k', d') :: r, _, ⟨v', s, h1, h2, h3⟩ => by rw [h1]; exact ⟨v', _, rfl, h2, AccR.snoc rv h3⟩
theorem AccR.put {o : Wo} {F : Hp} {k : Key} {d : D} {v : V} (rv : Rp o F d v) {acc : List (Key × D)} {ks : List (Key × V)} (h : AccR o F acc ks) : AccR o F (putKD acc k d) (putK ks k v) := by
  unfold putKD putK
  rw [h.any (k := k)]
  split
  · exact h.over rv
  · exact h.snoc rv
section
variable {S : Type}
def cellL (g1 : D → Env → Option Env) (us1 : List Nat) (fk fv : Env → M S D) (ρ : Env) : List D → List (Key × D) → M S (List (Key × D))
  | [], acc, s => .ok acc s
  | y :: ys, acc, s => match g1 y (wipeE ρ us1) with
    | none => .stuck
    | some ρ' => match fk ρ' s with
      | .ok k s1 => (match fv ρ' s1 with
        | .ok v s2 => (match keyD k with
          | some kk => if acc.length < sizeLine then cellL g1 us1 fk fv ρ ys (putKD acc kk v) s2 else .stuck
          | none => .stuck)
        | _ => .stuck)
      | _ => .stuck
def dictL (g : D → Env → Option Env) (us : List Nat) (fi1 : Env → M S (List D)) (g1 : D → Env → Option Env) (us1 : List Nat) (fk fv : Env → M S D) (ρ : Env) : List D → List (Key × D) → M S (List (Key × D))
  | [], acc, s => .ok acc s
  | x :: xs, acc, s => match g x (wipeE ρ us) with
    | none => .stuck
    | some ρ' => match fi1 ρ' s with
      | .ok ys s1 => (match cellL g1 us1 fk fv ρ' ys acc s1 with
        | .ok acc' s2 => dictL g us fi1 g1 us1 fk fv ρ xs acc' s2
        | _ => .stuck)
      | _ => .stuck
def dDict2 (fi : Env → M S (List D)) (g : D → Env → Option Env) (us : List Nat) (fi1 : Env → M S (List D)) (g1 : D → Env → Option Env) (us1 : List Nat) (fk fv : Env → M S D) : Env → M S D := fun ρ => do
  let xs ← fi ρ
  let acc ← (dictL g us fi1 g1 us1 fk fv ρ xs []).nox
  M.pure (.dct (toD acc))
end
section
variable {o : Wo} {T : Tk} {Z : Fx} {W : WX}
theorem sh_all {m : List Mode} (h : (m.all fun x => x == .sh) = true) (i : Nat) : m.getD i .sh = .sh := by
  rw [List.getD_eq_getElem?_getD]
  cases e : m[i]? with
  | none => rfl
  | some x =>
    obtain ⟨hi, e2⟩ := List.getElem?_eq_some_iff.mp e
    exact eq_of_beq (List.all_eq_true.mp h x (e2 ▸ List.getElem_mem hi))
/-- where no slot owns, any other object may be changed -/
theorem Rl.mutN {F H : Hp} {ρ : Env} {s : T.S} {σ : L2.St} {p : Addr} {u : HO} (r : Rl o T Z F H ρ s σ) (hsh : (Z.m.all fun x => x == .sh) = true) (h0 : Z.H0 p = none) (hF : F p = none) (at' : T.At o F (upd H p u) Z.p Z.fp s) : Rl o T Z F (upd H p u) ρ s σ := by
  refine ⟨r.st.mut h0 hF, at', r.fpz, fun i d e => ?_, r.dis, r.len⟩
  obtain ⟨v, e1, h⟩ := r.sl i d e
  refine ⟨v, e1, ?_⟩
  unfold Slot at h ⊢
  have hm : Z.md i = .sh := sh_all hsh i
  rw [hm] at h ⊢
  exact h
theorem dc2_go {items : List D} {g g1 : D → Env → Option Env} {us us1 : List Nat} {fi1 : Env → M T.S (List D)} {fk fv : Env → M T.S D} {σ : L2.St} {ρ : Env} {F1 H1 : Hp} {s1 s' : T.S} {J : It} {p : Addr} {Q : Hp → Prop} {fin : List (Key × D)}
    (hsh : (Z.m.all fun x => x == .sh) = true) (r1 : Rl o T Z F1 H1 ρ s1 σ) (hJ : ItR o F1 items J) (hp : H1 p = none) (hall : dictL g us fi1 g1 us1 fk fv ρ items [] s1 = .ok fin s')
    (hQ : ∀ F' H' ks, Stp Z.fp F1 H1 F' H' → T.At o F' H' Z.p Z.fp s' → F' p = none → H' p = some (.dK ks) → AccR o F' fin ks → Q H') :
    ∃ Wd : Nat → Nat → Hp → Prop, (∃ m, Wd 0 m (upd H1 p (.dK []))) ∧ ∀ i m H, Wd i m H →
      (J.stop i H ∧ Q H) ∨ (J.go i H ∧ ∃ Nx : Hp → Prop, (∀ H', Nx H' → ∃ m', m' < m ∧ Wd (i + 1) m' H') ∧ ∀ x H', J.yld i H x H' → rdG o T Z us g x (wipe σ us) H' fun σ2 H2 => wipe σ2 us = wipe σ us ∧ rdT o T Z WF dYes σ2 H2 fun b H3 =>
        if b = true then rdI o T Z WF fi1 σ2 H3 fun J1 H4 => ∃ W1 : Nat → Nat → Hp → Prop, (∃ m, W1 0 m H4) ∧ ∀ j k H, W1 j k H →
          (J1.stop j H ∧ Nx H) ∨ (J1.go j H ∧ ∃ Nx1 : Hp → Prop, (∀ H', Nx1 H' → ∃ k', k' < k ∧ W1 (j + 1) k' H') ∧ ∀ x H', J1.yld j H x H' → rdG o T Z us1 g1 x (wipe σ2 us1) H' fun σ3 H5 => wipe σ3 us1 = wipe σ2 us1 ∧ rdT o T Z WF dYes σ3 H5 fun b H6 =>
            if b = true then rd o T Z WF fk σ3 H6 fun y H7 => rd o T Z WF fv σ3 H7 fun z H8 => ∃ kvs k, y = kV k ∧ H8 p = some (.dK kvs) ∧ kvs.length < sizeLine ∧ Nx1 (upd H8 p (.dK (putK kvs k z))) else Nx1 H6)
        else Nx H3) := by
  have nfp := r1.nfp hp
  have hF1 := r1.ex.none hp
  let Iv : Nat → Hp → Prop := fun i H => ∃ F s acc ks, i ≤ items.length ∧ Rl o T Z F H ρ s σ ∧ Stp Z.fp F1 H1 F H ∧ F p = none ∧ H p = some (.dK ks) ∧ AccR o F acc ks ∧ dictL g us fi1 g1 us1 fk fv ρ (items.drop i) acc s = .ok fin s'
  have hid := Stp.hid (fp := Z.fp) (o := .dK []) r1.ex hp
  refine ⟨fun i m H => m = items.length - i ∧ Iv i H, ⟨items.length, by simp, F1, s1, [], [], Nat.zero_le _, r1.step hid (Rl.atMut nfp r1.at_), hid, hF1, upd_same, rfl, hall⟩, ?_⟩
  rintro i m H ⟨rfl, F, s, acc, ks, hi, r, st, hF, hH, ha, hr⟩
  have jj := hJ F H st.ff r.ex i
  by_cases hlt : i < items.length
  · obtain ⟨go, yl⟩ := jj.1 hlt
    refine .inr ⟨go, Iv (i + 1), fun H' h' => ⟨items.length - (i + 1), by omega, rfl, h'⟩, fun x H2 y => ?_⟩
    obtain ⟨F2, st2, rp⟩ := yl x H2 y
    have hdi : items[i]? = some items[i] := List.getElem?_eq_getElem hlt
    rw [List.drop_eq_getElem_cons hlt] at hr
    unfold dictL at hr
    cases eg : g items[i] (wipeE ρ us) with
    | none => simp only [eg] at hr; cases hr
    | some ρ' =>
      simp only [eg] at hr
      have r2 : Rl o T Z F2 H2 ρ s σ := r.step st2.mono (r.at' st2)
      have hF2 := st2.keepF hF (by rw [hH]; exact nofun)
      have hH2 : H2 p = some (.dK ks) := st2.ex _ _ hH
      refine ⟨F2, wipeE ρ us, s, items[i], ρ', r2.wipe us, rp _ hdi, eg, fun σ2 r2' w2 => ⟨by rw [w2, wipe_wipe], F2, ρ', s, r2', ?_⟩⟩
      intro F3 H3 st3 at3
      show if true = true then _ else _
      rw [if_pos rfl]
      have r3 : Rl o T Z F3 H3 ρ s σ := r2.step st3 at3
      have r3' : Rl o T Z F3 H3 ρ' s σ2 := r2'.step st3 at3
      have stA : Stp Z.fp F1 H1 F3 H3 := (st.trans r.fpH st2.mono).trans r2.fpH st3
      have hF3 := st3.keepF hF2 (by rw [hH2]; exact nofun)
      have hH3 : H3 p = some (.dK ks) := st3.hh _ _ hH2 nfp
      have ha3 := (ha.mono st2.ff).mono st3.ff
      refine ⟨F3, ρ', s, r3', ?_⟩
      cases ef : fi1 ρ' s with
      | exc e s4 => simp only [ef] at hr; cases hr
      | stuck => simp only [ef] at hr; cases hr
      | ok ys s4 =>
        simp only [ef] at hr
        intro F4 H4 st4 at4 J1 hJ1
        cases ec : cellL g1 us1 fk fv ρ' ys acc s4 with
        | exc e s5 => simp only [ec] at hr; cases hr
        | stuck => simp only [ec] at hr; cases hr
        | ok acc' s5 =>
          simp only [ec] at hr
          have r4 : Rl o T Z F4 H4 ρ s4 σ := r3.step st4 at4
          have r4' : Rl o T Z F4 H4 ρ' s4 σ2 := r3'.step st4 at4
          have stB : Stp Z.fp F1 H1 F4 H4 := stA.trans r3.fpH st4
          have hF4 := st4.keepF hF3 (by rw [hH3]; exact nofun)
          have hH4 : H4 p = some (.dK ks) := st4.hh _ _ hH3 nfp
          let I2 : Nat → Hp → Prop := fun j H => ∃ F s acc ks, j ≤ ys.length ∧ Ex F4 F ∧ Rl o T Z F H ρ s σ ∧ Rl o T Z F H ρ' s σ2 ∧ Stp Z.fp F1 H1 F H ∧ F p = none ∧ H p = some (.dK ks) ∧ AccR o F acc ks ∧ cellL g1 us1 fk fv ρ' (ys.drop j) acc s = .ok acc' s5
          refine ⟨fun j k H => k = ys.length - j ∧ I2 j H, ⟨ys.length, by simp, F4, s4, acc, ks, Nat.zero_le _, Ex.refl F4, r4, r4', stB, hF4, hH4, ha3.mono st4.ff, ec⟩, ?_⟩
          rintro j k H ⟨rfl, Fa, sa, acca, ka, hj, exa, ra, ra', sta, hFa, hHa, haa, hra⟩
          have j1 := hJ1 Fa H exa ra.ex j
          by_cases hltj : j < ys.length
          · obtain ⟨go1, yl1⟩ := j1.1 hltj
            refine .inr ⟨go1, I2 (j + 1), fun H' h' => ⟨ys.length - (j + 1), by omega, rfl, h'⟩, fun x1 H5 y1 => ?_⟩
            obtain ⟨F5, st5, rp1⟩ := yl1 x1 H5 y1
            have hdj : ys[j]? = some ys[j] := List.getElem?_eq_getElem hltj
            rw [List.drop_eq_getElem_cons hltj] at hra
            unfold cellL at hra
            cases eg1 : g1 ys[j] (wipeE ρ' us1) with
            | none => simp only [eg1] at hra; cases hra
            | some ρ'' =>
              simp only [eg1] at hra
              have r5 : Rl o T Z F5 H5 ρ sa σ := ra.step st5.mono (ra.at' st5)
              have r5' : Rl o T Z F5 H5 ρ' sa σ2 := ra'.step st5.mono (ra'.at' st5)
              have hF5 := st5.keepF hFa (by rw [hHa]; exact nofun)
              have hH5 : H5 p = some (.dK ka) := st5.ex _ _ hHa
              refine ⟨F5, wipeE ρ' us1, sa, ys[j], ρ'', r5'.wipe us1, rp1 _ hdj, eg1, fun σ3 r5'' w3 => ⟨by rw [w3, wipe_wipe], F5, ρ'', sa, r5'', ?_⟩⟩
              intro F6 H6 st6 at6
              show if true = true then _ else _
              rw [if_pos rfl]
              have r6 : Rl o T Z F6 H6 ρ sa σ := r5.step st6 at6
              have r6' : Rl o T Z F6 H6 ρ' sa σ2 := r5'.step st6 at6
              have r6'' : Rl o T Z F6 H6 ρ'' sa σ3 := r5''.step st6 at6
              have stC : Stp Z.fp F1 H1 F6 H6 := (sta.trans ra.fpH st5.mono).trans r5.fpH st6
              have hF6 := st6.keepF hF5 (by rw [hH5]; exact nofun)
              have hH6 : H6 p = some (.dK ka) := st6.hh _ _ hH5 nfp
              refine ⟨F6, ρ'', sa, r6'', ?_⟩
              cases ek : fk ρ'' sa with
              | exc e s7 => simp only [ek] at hra; cases hra
              | stuck => simp only [ek] at hra; cases hra
              | ok kd s7 =>
                simp only [ek] at hra
                intro F7 H7 st7 at7 kv rk
                have r7 : Rl o T Z F7 H7 ρ s7 σ := r6.step st7 at7
                have r7' : Rl o T Z F7 H7 ρ' s7 σ2 := r6'.step st7 at7
                have r7'' : Rl o T Z F7 H7 ρ'' s7 σ3 := r6''.step st7 at7
                have stD := stC.trans r6.fpH st7
                have hF7 := st7.keepF hF6 (by rw [hH6]; exact nofun)
                have hH7 : H7 p = some (.dK ka) := st7.hh _ _ hH6 nfp
                refine ⟨F7, ρ'', s7, r7'', ?_⟩
                cases ev : fv ρ'' s7 with
                | exc e s8 => simp only [ev] at hra; cases hra
                | stuck => simp only [ev] at hra; cases hra
                | ok vd s8 =>
                  simp only [ev] at hra
                  intro F8 H8 st8 at8 vv rv
                  have r8 : Rl o T Z F8 H8 ρ s8 σ := r7.step st8 at8
                  have r8' : Rl o T Z F8 H8 ρ' s8 σ2 := r7'.step st8 at8
                  have stE := stD.trans r7.fpH st8
                  have hF8 := st8.keepF hF7 (by rw [hH7]; exact nofun)
                  have hH8 : H8 p = some (.dK ka) := st8.hh _ _ hH7 nfp
                  have ha8 := (((haa.mono st5.ff).mono st6.ff).mono st7.ff).mono st8.ff
                  cases eq : keyD kd with
                  | none => simp only [eq] at hra; cases hra
                  | some kk =>
                    simp only [eq] at hra
                    by_cases hz : acca.length < sizeLine
                    · rw [if_pos hz] at hra
                      have ekd := keyD_eq eq
                      subst ekd
                      refine ⟨ka, kk, ?_, hH8, by rw [← ha8.len]; exact hz, F8, s8, _, _, hltj, (((exa.trans st5.ff).trans st6.ff).trans st7.ff).trans st8.ff, r1.mut hp r8 hF8 (Rl.atMut nfp at8), ?_, stE.mut hp hF8, hF8, upd_same, ha8.put rv, hra⟩
                      · cases kk with
                        | inl a => exact rk
                        | inr a => exact rk
                      · exact r8'.mutN hsh (r1.st.back r1.fpH hp) hF8 (Rl.atMut nfp at8)
                    · rw [if_neg hz] at hra; cases hra
          · have ej : j = ys.length := by omega
            subst ej
            rw [List.drop_length] at hra
            have h1 : acca = acc' := by cases hra; rfl
            have h2 : sa = s5 := by cases hra; rfl
            rw [h1] at haa
            rw [h2] at ra
            exact .inl ⟨j1.2 (Nat.le_refl _), Fa, s5, acc', ka, hlt, ra, sta, hFa, hHa, haa, hr⟩
  · have ei : i = items.length := by omega
    subst ei
    rw [List.drop_length] at hr
    cases hr
    exact .inl ⟨jj.2 (Nat.le_refl _), hQ F H ks st r.at_ hF hH ha⟩
end
section
variable {X : Cx} {T : Tk} {Z : Fx} {W : WX}
theorem df_dict2 {kx vx tg iter tg1 iter1 : Expr} {scope : Scope} {own : List (Str × Nat)} {pos : Pos} {fi fi1 : Env → M T.S (List D)} {g g1 : D → Env → Option Env} {fk fv : Env → M T.S D} (own_ : List (Str × Nat)) (us1 : List Nat) (ho : own = own_ := by rfl) (hN : X.N.Nodup) (hc : X.calm = true) (hsh : (Z.m.all fun x => x == .sh) = true) (hv : ∀ i ∈ us1, i ∈ own.map (·.2)) (hi : DI X T Z W tg iter fi) (ok : BlkOk X.N X.env.scope scope own)
    (hg : ∀ (s : Shared) (H : Hp) (C : Addr) (cl : List (Str × Addr)) (fp : List Addr), DG (X.blk s H scope (compEnvC scope cl C X.env) fp) T Z (own.map (·.2)) tg g)
    (hi1 : ∀ (s : Shared) (H : Hp) (C : Addr) (cl : List (Str × Addr)) (fp : List Addr), DI (X.blk s H scope (compEnvC scope cl C X.env) fp) T Z WF tg1 iter1 fi1)
    (hg1 : ∀ (s : Shared) (H : Hp) (C : Addr) (cl : List (Str × Addr)) (fp : List Addr), DG (X.blk s H scope (compEnvC scope cl C X.env) fp) T Z us1 tg1 g1)
    (hk : ∀ (s : Shared) (H : Hp) (C : Addr) (cl : List (Str × Addr)) (fp : List Addr), DE (X.blk s H scope (compEnvC scope cl C X.env) fp) T Z WF kx fk)
    (he : ∀ (s : Shared) (H : Hp) (C : Addr) (cl : List (Str × Addr)) (fp : List Addr), DE (X.blk s H scope (compEnvC scope cl C X.env) fp) T Z WF vx fv) (hs : ∀ x, foldedSetIterable iter X.env x = pure x := by intro _; rfl) (hs1 : ∀ env x, foldedSetIterable iter1 env x = pure x := by intro _ _; rfl) :
    DF X T Z W (.DictComp kx vx [⟨tg, iter, [], 0⟩, ⟨tg1, iter1, [], 0⟩] scope pos) (dDict2 fi g (own.map (·.2)) fi1 g1 us1 fk fv) :=
  (DC2.pe_dc2 hc hN hi ok hv hg (fun _ _ _ _ _ => dts_nil (W := WF)) hi1 hg1 (fun _ _ _ _ _ => dts_nil (W := WF)) hk he hs hs1).imp fun σ H Q ⟨F, ρ, s, r, q⟩ => by
    refine ⟨F, ρ, s, r, q.bind.mono fun items s1 F1 H1 st1 at1 q1 J hJ p hp => ?_⟩
    have r1 := r.step st1 at1
    have q2 : Out (wo X) T Z W F1 H1 σ (M.bind (dictL g (own.map (·.2)) fi1 g1 us1 fk fv ρ items []).nox (fun acc => M.pure (D.dct (toD acc))) s1) _ := q1
    unfold M.bind M.nox at q2
    cases e : dictL g (own.map (·.2)) fi1 g1 us1 fk fv ρ items [] s1 with
    | exc x s2 => rw [e] at q2; exact q2.elim
    | stuck => rw [e] at q2; exact q2.elim
    | ok fin s2 =>
      rw [e] at q2
      have nfp := r1.nfp hp
      refine dc2_go (us1 := us1) hsh r1 hJ hp e fun F' H' ks st' at' hF' hH' ha => ?_
      have := q2 F' H' st' at' p (st1.back r1.fpH hp) hF' ⟨ks, hH', ha.dct⟩
      exact this
end
end DL
set_option Elab.async false
set_option linter.all false
set_option maxRecDepth 100000
set_option maxHeartbeats 1000000
/-! repr. -/
namespace DL
open PySem PySem.Spec PyProof.Rows L2
def reprD : List D → Option D
  | [d] => (d.py).bind fun p => if p.showable = true ∧ p.hasDict = false ∧ p.depth ≤ 60 ∧ p.shown.length ≤ sizeLine then some (.str p.shown) else none
  | _ => none
section
variable {X : Cx}
theorem call_reprDp (hg : X.A.guards = some []) (hu : X.A.units + 64 < cLine) : CallR X (.builtin "repr") (fun xs H Q => ∃ x d, xs = [x] ∧ Dp X.K H x d ∧ d.showable = true ∧ d.hasDict = false ∧ d.depth ≤ 60 ∧ d.shown.length ≤ sizeLine ∧ Q (.str d.shown) H) := by
  intro pins s σ H xs us Q I r h
  obtain ⟨x, d, rfl, hd, hs, hnd, hdep, hsz, q⟩ := h
  obtain ⟨u, rfl, ru⟩ := vals1 r
  obtain ⟨as, rr⟩ := Dp.reads I d x u hd ru
  have viaRef : ∀ {a : Addr}, u = .ref a → wpAny (model X.prog X.w) X.A (call (.builtin "repr") [u]) (EP X pins σ Q) X.xe s := fun {a} e => by
    subst e
    exact repr_of_reads' rr hs (PyData.noDict_hsm hnd) hg (by omega) (fun _ _ e => e) (fun h' t tk hk => ⟨.str _, H, I.kept hk, ⟨t, rfl⟩, q⟩) hsz
  cases rr with
  | none => exact PySem.P.repr_of_none ⟨.str _, H, I.tok _, ⟨_, rfl⟩, q⟩
  | bool => exact PySem.P.repr_of_bool ⟨.str _, H, I.tok _, ⟨_, rfl⟩, q⟩
  | int => exact PySem.P.repr_of_int (of_decide_eq_true hs) ⟨.str _, H, I.tok _, ⟨_, rfl⟩, q⟩
  | str => exact PySem.P.repr_of_str ⟨.str _, H, I.tok _, ⟨_, rfl⟩, q⟩ hsz
  | list h1 h2 h3 h4 => exact viaRef rfl
  | tuple h1 h2 h3 h4 => exact viaRef rfl
  | dict h1 h2 h3 h4 h5 => exact viaRef rfl
theorem cr_reprD (hg : X.A.guards = some []) (hu : X.A.units + 64 < cLine) : CallR X (.builtin "repr") (rCl (wo X) reprD) := CallR.imp (call_reprDp hg hu) fun xs H Q ⟨F, ds, d, ex, rv, e, k⟩ => by
  match ds, e, rv with
  | [x], e, rv =>
    obtain ⟨v, rfl, rx⟩ := rv.one
    cases hp : x.py with
    | none => rw [show reprD [x] = (x.py).bind _ from rfl, hp] at e; cases e
    | some p =>
      rw [show reprD [x] = (x.py).bind _ from rfl, hp] at e
      obtain ⟨⟨h1, h2, h3, h4⟩, rfl⟩ := ifs (show (if p.showable = true ∧ p.hasDict = false ∧ p.depth ≤ 60 ∧ p.shown.length ≤ sizeLine then some (D.str p.shown) else none) = some d from e)
      exact ⟨v, p, rfl, rx.dp ex hp, h1, h2, h3, h4, k _ F H (Stp.refl ex) rfl⟩
end
end DL
set_option Elab.async false
set_option linter.all false
set_option maxRecDepth 100000
set_option maxHeartbeats 2000000
/-! A law's call where its own body may ask what is being shown (after the library's law_call and walk_ofE). -/
namespace L2
open PySem PySem.Spec PyProof.Rows
theorem law_callG {P : Program} {w : World} {K : PySem.W.Frag} {mg mb : Str → Option Value} {CX : CXT} {fa a : Addr} {sp : Sp} {s₁ : Shared} {vs : List Value} {ns : List Int}
    (KX : K.In s₁.heap) (hns : s₁.heap.Ns mainGlobals mg) (hb : s₁.heap.Ns builtinsNs mb) (hbb : ∀ x : Str, x ≠ "__name__" → mb x = bootBuiltins x) (hlim : s₁.heap.NoLimit) (hg : s₁.gens = #[])
    (ha : s₁.heap.get? a = some { cls := .type "list", data := .seq vs.toArray }) (hi : IntsAre vs ns) (hl : ns.length ≤ sizeLine) 
    (F : ∀ base : Heap, K.In base → base.Ns mainGlobals mg → ∀ (H : Hp) (Q : VK) (E : XK), Env0 P w K mg base callerA [] s₁ H → sp [.ref a] H Q E → codeAny (model P w) callerA (.call (.ref fa) ⟨[.ref a], []⟩) (CR CX [] P w H s₁ Q E) s₁)
    (hsp : ∀ H : Hp, Only H → SqL K H a (ns.map V.int) → sp [.ref a] H (fun v _ => v = .bl true) fun _ _ _ => False)
    (hCX : ∀ H e s', CX [] H s₁ (fun _ _ _ => False) e s' → False) :
    codeAny (model P w) callerA (.call (.ref fa) ⟨[.ref a], []⟩) (fun r s' => r = .ok (.ret (.bool true)) ∧ OldK s₁.heap s'.heap ∧ s'.os = s₁.os ∧ AllBare s'.gens) s₁ := by
  have valsA := vals_ints hi
  have lenA := hi.length
  have from_H : ∀ H : Hp, Only H → SqL K H a (ns.map V.int) → HOk P w H s₁.heap → (∀ b, H b ≠ none → b = a) → (H a ≠ none → K.lookup a = none) →
      codeAny (model P w) callerA (.call (.ref fa) ⟨[.ref a], []⟩) (fun r s' => r = .ok (.ret (.bool true)) ∧ OldK s₁.heap s'.heap ∧ s'.os = s₁.os ∧ AllBare s'.gens) s₁ := by
    intro H onlyH seqA hokH onlyA notK
    have low_of : ∀ {b : Addr} {o : Obj}, s₁.heap.get? b = some o → H b = none → (hidT s₁.heap H).get? b = some o := fun e n => hidT_get e n
    have noDict : ∀ {b : Addr} {o : Obj} {es : Array DictEntry} {ep : Nat}, s₁.heap.get? b = some o → o.data = .dict es ep → H b = none := fun {b o es ep} e d => by
      cases q : H b with
      | none => rfl
      | some u =>
        have e' : b = a := onlyA b (by rw [q]; simp)
        subst e'
        rw [ha] at e; cases e
        have d' : Data.seq vs.toArray _ = Data.dict es ep := d
        cases d'
    have names_low : ∀ {b : Addr} {m : Str → Option Value}, s₁.heap.Ns b m → (hidT s₁.heap H).Ns b m := fun {b m} ⟨o, es, ep, e, d, r⟩ => ⟨o, es, ep, low_of e (noDict e d), d, r⟩
    have kLow : K.In (hidT s₁.heap H) := fun b o e => low_of (KX b o e) (by
      cases q : H b with
      | none => rfl
      | some u =>
        have e' : b = a := onlyA b (by rw [q]; simp)
        subst e'
        rw [notK (by rw [q]; simp)] at e; cases e)
    have modLow : Mod K mg (hidT s₁.heap H) := ⟨kLow, names_low hns, ⟨mb, names_low hb, hbb⟩, let ⟨mc, h1, h2⟩ := hlim; ⟨mc, names_low h1, h2⟩⟩
    have env_0 : Env0 P w K mg (hidT s₁.heap H) callerA [] s₁ H := ⟨rfl, modLow, fun b o e => of_hidT e, Nat.le_of_eq (hidT_size _ _), trivial, fun b hb => absurd (show b ∈ ([] : List Addr) from hb) (by simp), hokH, .of_eq hg⟩
    refine codeAny_mono (F _ kLow (names_low hns) H _ _ env_0 (hsp H onlyH seqA)) fun r s' h => ?_
    cases r with
    | error e => exact (hCX H e s' h).elim
    | ok fl =>
      cases fl with
      | next => exact False.elim h
      | brk => exact False.elim h
      | cont => exact False.elim h
      | ret u =>
        obtain ⟨v, H', os, bare, un, hok_2, r', q⟩ := h
        have q' : v = .bl true := q
        subst q'
        obtain rfl : u = Value.bool true := r'
        refine ⟨rfl, OldK.of_keep fun b o e => ?_, os, bare⟩
        cases q : H b with
        | none => exact un.keep b o e q (by intro z; exact absurd (show b ∈ ([] : List Addr) from z) (by simp)) (by simp)
        | some u =>
          rcases onlyH b with z | ⟨ob, xs, z⟩
          · rw [q] at z; cases z
          · have zz := un.frzs b ob _ z
            obtain ⟨g1, _⟩ := hokH b _ z
            obtain ⟨g2, _⟩ := hok_2 b _ zz
            rw [e] at g1; cases g1
            exact g2
  cases hk : K.lookup a with
  | some o =>
    have e := KX a o hk
    rw [ha] at e
    cases e
    refine from_H (fun _ => none) (fun _ => .inl rfl) (.inr ⟨_, vs.toArray, _, hk, rfl, rfl, rfl, by rw [List.size_toArray, lenA]; exact hl, by simpa using valsA⟩) (fun b u z => by have z' : (none : Option HO) = some u := z; cases z') (fun b z => absurd rfl z) fun z => absurd rfl z
  | none =>
    refine from_H (fun b => if b = a then some (.frz { cls := .type "list", data := .seq vs.toArray } (.lst (ns.map V.int))) else none) (fun b => ?_) (.inl (.inr ⟨{ cls := .type "list", data := .seq vs.toArray }, if_pos rfl⟩)) (fun b u z => ?_) (fun b z => ?_) fun _ => hk
    · by_cases hb : b = a
      · exact .inr ⟨_, _, if_pos hb⟩
      · exact .inl (if_neg hb)
    · by_cases hb : b = a
      · have z' := (if_pos hb).symm.trans z
        cases z'
        subst hb
        exact ⟨ha, by rw [List.length_map]; exact hl, vs, _, valsA, ha⟩
      · have z' := (if_neg hb).symm.trans z
        cases z'
    · by_cases hb : b = a
      · exact hb
      · exact absurd (if_neg hb) z

theorem walk_ofG {l : PySem.W.OpenLaw} {n : Nat} {q : Program} {loose : List Str} {XP : (Str → Option Value) → Heap → Prop} {YP : World → Heap → Prop} {d : DefRec}
    (hn : l.most = some n) (hn2 : n ≤ sizeLine) (hdf : d.params.defaults = [])
    (F : ∀ (w : World) (mg : Str → Option Value) (fa : Addr) (h : Heap), YP w h → h.Ns mainGlobals mg → mg d.name = some (.ref fa) →
      ∃ (K : PySem.W.Frag) (sp : Sp), K.In h ∧
        (∀ (H : Hp) (a : Addr) (ns : List Int), ns.length ≤ n → Only H → SqL K H a (ns.map V.int) → sp [.ref a] H (fun v _ => v = .bl true) fun _ _ _ => False) ∧
        ∀ base : Heap, K.In base → base.Ns mainGlobals mg → ∀ (s₁ : Shared) (a : Addr) (H : Hp) (Q : VK) (E : XK), Env0 l.prog w K mg base callerA [] s₁ H → sp [.ref a] H Q E → codeAny (model l.prog w) callerA (.call (.ref fa) ⟨[.ref a], []⟩) (CR (L2.CX l.prog w) [] l.prog w H s₁ Q E) s₁) :
    PySem.W.WalkO q loose XP YP l.row.toRowW d [] (fun f vs => PySem.call f vs) := by
  refine Att.attach_call hn hdf fun w s₀ s₁ mg mb fa o pm cd doc a vs ns G Y ho hd hcd hmg hobj hints hlen hg => ?_
  obtain ⟨K, sp, KX, hsp, hF⟩ := F w mg fa _ Y G.T.g hmg
  exact law_callG KX G.T.g G.T.b G.T.builtins G.T.nolimit hg hobj hints (Nat.le_trans hlen hn2) (fun base h1 h2 H Q E e0 hs => hF base h1 h2 s₁ a H Q E e0 hs) (fun H hO hS => hsp H a ns hlen hO hS) fun H e s' ⟨_, _, _, _, _, _, _, _, _, _, _, _, z⟩ => z
/-- a def's call at one place, by its body -/
theorem fn_at {CX : CXT} {P : Program} {w : World} {K : PySem.W.Frag} {mg : Str → Option Value} {base : Heap} {k : Nat} {x qual : Str} {params : Arguments} {body : List Stmt} {scope : Scope} {dvs : List V} {kws : List (Str × V)} {f : Addr} {fd : FuncData} {N ps : List Str} {A : Around} {outer : List Env} {s : Shared} {H : Hp} {us : List Value} {vs : List V} {Q : VK} {E : XK}
    (F : FunD K x qual params body scope dvs kws f fd) (S : FnScope N ps scope) (hr : Room (k + 1) A) (env_0 : Env0 P w K mg base A outer s H) (hb : BindsTo s fd ⟨us, []⟩ (ps.zip us)) (valsA : Vals vs us) (hl : vs.length = ps.length)
    (hbody : ∀ cdv : Value, Room k (A.deeper (envOfC qual scope s.heap.objs.size f cdv)) → ∃ t, PSs (cxOf CX P w K mg base N qual scope f cdv A outer s H E) body t ∧ t { nx := fun _ H' => Q .non H', rt := Q } (start N vs) H) :
    codeAny (model P w) A (.call (.ref f) ⟨us, []⟩) (CR CX outer P w H s Q E) s := by
  obtain ⟨oc, od, dV, kV, doc, pm, an, cdv, ct, osl, rfl, lk, hcd, _, _⟩ := F.ex
  have inK : K.In s.heap := env_0.mod.kin.keeps fun b o e => (env_0.bs b o e).1
  have free : s.heap.NoLimit := env_0.mod.nolimit.keeps fun b o e => (env_0.bs b o e).1
  refine codeAny_call_function hr.depth (inK _ _ lk) rfl S.co S.gen rfl (PySem.W.codeRec_of inK hcd) (hb _ _ _ _ ?_)
  refine wpAny_newFunctionEnv_cells S.kind (fun ⟨n, v⟩ hy => ?_) fun env he s1 entry => ?_
  · rcases S.par n (List.of_mem_zip hy).1 with par | par
    · exact .inl par
    · exact .inr ⟨par, PySem.W.cellsFrom_some _ _ _ (.inl par)⟩
  subst he
  refine ⟨free.keeps entry.toInCall.keep, codeAny_func ?_⟩
  obtain ⟨t, ht, hq⟩ := hbody cdv (hr.deeper _)
  have begin_ : Inv (cxOf CX P w K mg base N qual scope f cdv A outer s H E) [] (start N vs) H s1 := inv_start S hr.hd env_0 hl valsA entry
  refine wpAny_mono (ht.run [] s1 (start N vs) H _ begin_ hq) (fun fl s2 hs => ?_) fun _ _ hs => hs
  cases fl with
  | ret u =>
    obtain ⟨v, σ2, H2, J, rv, q⟩ := hs
    exact ⟨v, H2, J.os, J.bare, J.base, J.hok, rv, q⟩
  | next =>
    obtain ⟨σ2, H2, J, q⟩ := hs
    exact ⟨V.non, H2, J.os, J.bare, J.base, J.hok, rfl, q⟩
  | brk => obtain ⟨_, _, _, q⟩ := hs; exact q.elim
  | cont => obtain ⟨_, _, _, q⟩ := hs; exact q.elim
end L2
set_option Elab.async false
set_option linter.all false
set_option maxRecDepth 100000
set_option maxHeartbeats 1000000
/-! Calls by keywords. -/
namespace DL
open PySem PySem.Spec PyProof.Rows L2
/-- the values in the parameters' order -/
def permL {α : Type} (d : α) (perm : List Nat) (xs : List α) : List α := perm.map fun i => xs.getD i d
theorem Vals.perm {vs : List V} {us : List Value} (r : Vals vs us) : ∀ perm : List Nat, Vals (permL .non perm vs) (permL .none perm us)
  | [] => .nil
  | i :: perm => by
    refine .cons ?_ (Vals.perm r perm)
    dsimp only
    rw [List.getD_eq_getElem?_getD, List.getD_eq_getElem?_getD]
    cases e : vs[i]? with
    | none =>
      have : us[i]? = none := by rw [List.getElem?_eq_none_iff] at e ⊢; rw [← r.length]; exact e
      rw [this]; exact rfl
    | some v =>
      obtain ⟨w, ew, rw'⟩ := r.get e
      rw [ew]; exact rw'
theorem RpL.perm {o : Wo} {F : Hp} {ds : List D} {vs : List V} (r : RpL o F ds vs) : ∀ perm : List Nat, RpL o F (permL .non perm ds) (permL .non perm vs)
  | [] => rfl
  | i :: perm => by
    refine ⟨_, _, rfl, ?_, RpL.perm r perm⟩
    dsimp only
    rw [List.getD_eq_getElem?_getD, List.getD_eq_getElem?_getD]
    cases e : ds[i]? with
    | none =>
      have : vs[i]? = none := by rw [List.getElem?_eq_none_iff] at e ⊢; rw [← r.length]; exact e
      rw [this]; exact rfl
    | some v =>
      obtain ⟨w, ew, rw'⟩ := r.get e
      rw [ew]; exact rw'
/-- a def, by its name, called with n values and the keywords ks; perm: where each parameter's value stands -/
structure HasKw (P : Program) (w : World) (K : PySem.W.Frag) (mg : Str → Option Value) (base : Heap) (k : Nat) (x : Str) (ps ks : List Str) (n : Nat) (perm : List Nat) (sp : Sp) : Prop where
  ex : ∃ f fd, mg x = some (.ref f) ∧ PySem.W.keepIn K (.ref f) = true ∧ (∀ (s : Shared) (us ws : List Value), K.In s.heap → us.length = n → ws.length = ks.length → BindsTo s fd ⟨us, ks.zip ws⟩ (ps.zip (permL .none perm (us ++ ws)))) ∧ FnOk P w K mg base (L2.CX P w) k f fd ps sp
theorem HasKw.mono {P : Program} {w : World} {K : PySem.W.Frag} {mg : Str → Option Value} {base : Heap} {j k : Nat} {x : Str} {ps ks : List Str} {n : Nat} {perm : List Nat} {sp : Sp} (h : HasKw P w K mg base j x ps ks n perm sp) (hk : j ≤ k) : HasKw P w K mg base k x ps ks n perm sp := by
  obtain ⟨f, fd, h1, h2, h3, h4⟩ := h
  exact ⟨f, fd, h1, h2, h3, h4.mono hk⟩
section
variable {X : Cx} {T : Tk} {Z : Fx} {W : WX} {k : Nat} {x : Str} {ps ks : List Str} {n : Nat} {perm : List Nat} {p pos : Pos} {e : Expr} {es : List Expr} {kws : List Keyword}
def tKw (sp : Sp) (n m : Nat) (perm : List Nat) (E : L2.St → XK) (t tk : TA) : TE := fun σ H Q => t σ H fun vs H1 => tk σ H1 fun zs H2 => vs.length = n ∧ zs.length = m ∧ sp (permL .non perm (vs ++ zs)) H2 Q (E σ)
theorem run_kw {f : Addr} {fd : FuncData} {sp : Sp} {E : L2.St → XK} {pins : List (Addr × Obj)} {σ : L2.St} {H : Hp} {s : Shared} {Q : VK} {us ws : List Value} {vs zs : List V} (F : FnOk X.prog X.w X.K X.mg X.base (L2.CX X.prog X.w) k f fd ps sp) (hr : Room k X.A)
    (hb : ∀ (s : Shared) (us ws : List Value), X.K.In s.heap → us.length = n → ws.length = ks.length → BindsTo s fd ⟨us, ks.zip ws⟩ (ps.zip (permL .none perm (us ++ ws)))) (hx : PassesAt (L2.CX X.prog X.w) X σ (E σ))
    (I : Inv X pins σ H s) (r : Vals vs us) (rz : Vals zs ws) (l1 : vs.length = n) (l2 : zs.length = ks.length) (h : sp (permL .non perm (vs ++ zs)) H Q (E σ)) : wpAny (model X.prog X.w) X.A (call (.ref f) us (ks.zip ws)) (EP X pins σ Q) X.xe s := by
  refine wpAny_call (codeAny_mono (F.run X.A X.stack s H ⟨us, ks.zip ws⟩ _ _ Q (E σ) hr I.env0 (hb s us ws I.kIn (r.length.symm.trans l1) (rz.length.symm.trans l2)) (Vals.perm (r.append rz) perm) h) fun r s' hq => ?_)
  cases r with
  | error e => exact hx pins H s e s' I hq
  | ok fl =>
    cases fl with
    | ret u => exact I.after hq
    | next => exact hq.elim
    | brk => exact hq.elim
    | cont => exact hq.elim
theorem pe_kw0 {f : Addr} {fd : FuncData} {sp : Sp} {E : L2.St → XK} {tk : TA} (F : FnOk X.prog X.w X.K X.mg X.base (L2.CX X.prog X.w) k f fd ps sp) (hr : Room k X.A) (hg : Gl X x) (hm : X.mg x = some (.ref f)) (hk : PySem.W.keepIn X.K (.ref f) = true)
    (hb : ∀ (s : Shared) (us ws : List Value), X.K.In s.heap → us.length = 0 → ws.length = ks.length → BindsTo s fd ⟨us, ks.zip ws⟩ (ps.zip (permL .none perm (us ++ ws)))) (hx : ∀ σ, PassesAt (L2.CX X.prog X.w) X σ (E σ)) (hkw : PK X kws tk)
    (hall : (backToKw pos (keywordEach kws X.env)).all (·.1.isSome) = true) (hks : (backToKw pos (keywordEach kws X.env)).filterMap (·.1) = ks) (hdb : (x == ("__debug__" : Str)) = false)
    (hpl : ((backTo pos (starEach [] X.env)).any (·.1) || (backToKw pos (keywordEach kws X.env)).any (·.1.isNone)) = false) : PE X (.Call (.Name x p) [] kws pos) (tKw sp 0 ks.length perm E tNil tk) := by
  refine ⟨fun pins s σ H Q I h => ?_⟩
  refine wpAny_Call_Name_kw (ld_glob I hg hm ?_ hdb)
  refine PySem.W.callWith_KW0 (h₀ := X.base) I.ok.mod.kin hk hall ?_ hpl
  refine thn (hkw.run pos pins s σ H _ I h) fun ws s2 ⟨zs, H2, I2, rz, l1, l2, q2⟩ => ⟨I2.kIn, ?_⟩
  rw [hks]
  exact run_kw (us := []) (vs := []) F hr hb (hx σ) I2 .nil rz rfl l2 q2
theorem pe_kwN {f : Addr} {fd : FuncData} {sp : Sp} {E : L2.St → XK} {t tk : TA} (F : FnOk X.prog X.w X.K X.mg X.base (L2.CX X.prog X.w) k f fd ps sp) (hr : Room k X.A) (hg : Gl X x) (hm : X.mg x = some (.ref f)) (hk : PySem.W.keepIn X.K (.ref f) = true)
    (hb : ∀ (s : Shared) (us ws : List Value), X.K.In s.heap → us.length = n → ws.length = ks.length → BindsTo s fd ⟨us, ks.zip ws⟩ (ps.zip (permL .none perm (us ++ ws)))) (hx : ∀ σ, PassesAt (L2.CX X.prog X.w) X σ (E σ)) (ha : PA X (e :: es) t) (hkw : PK X kws tk)
    (hall : (backToKw pos (keywordEach kws X.env)).all (·.1.isSome) = true) (hks : (backToKw pos (keywordEach kws X.env)).filterMap (·.1) = ks) (hdb : (x == ("__debug__" : Str)) = false) (he : starEach (e :: es) X.env = (false, eval e X.env) :: starEach es X.env)
    (hpl : ((backTo pos (starEach (e :: es) X.env)).any (·.1) || (backToKw pos (keywordEach kws X.env)).any (·.1.isNone)) = false) : PE X (.Call (.Name x p) (e :: es) kws pos) (tKw sp n ks.length perm E t tk) := by
  refine ⟨fun pins s σ H Q I h => ?_⟩
  refine wpAny_Call_Name_kw (ld_glob I hg hm ?_ hdb)
  refine PySem.W.callWith_KW (h₀ := X.base) I.ok.mod.kin hk hall (thn (ha.run pos pins s σ H _ I h) fun us s1 ⟨vs, H1, I1, r, q⟩ => ?_) hpl he
  refine thn (hkw.run pos pins s1 σ H1 _ I1 q) fun ws s2 ⟨zs, H2, I2, rz, l1, l2, q2⟩ => ⟨I2.kIn, ?_⟩
  rw [hks]
  exact run_kw F hr hb (hx σ) I2 r rz l1 l2 q2
/-- keywords' values -/
abbrev DKw (X : Cx) (T : Tk) (Z : Fx) (W : WX) (kws : List Keyword) (f : Env → M T.S (List D)) : Prop := PK X kws (rdA (wo X) T Z W f)
theorem _root_.L2.PK.imp {X : Cx} {kws : List Keyword} {t t' : TA} (h : PK X kws t) (k : ∀ σ H Q, t' σ H Q → t σ H Q) : PK X kws t' := ⟨fun pos pins s σ H Q I q => h.run pos pins s σ H Q I (k σ H Q q)⟩
theorem dk_nil : DKw X T Z W [] dNil := pk_nil.imp fun σ H Q ⟨F, ρ, s, r, q⟩ => q.here r _ rfl
theorem dk_cons {nm : Option Str} {kpos : Pos} {f : Env → M T.S D} {g : Env → M T.S (List D)} (h : DE X T Z W e f) (hr : DKw X T Z W kws g) : DKw X T Z W (⟨nm, e, kpos⟩ :: kws) (dCons f g) :=
  (pk_cons h hr).imp fun σ H Q ⟨F, ρ, s, r, q⟩ => rd.seq r q fun d s1 F1 H1 v r1 st1 rv q1 => ⟨F1, ρ, s1, r1, q1.bind.mono fun ds s2 F2 H2 st2 at2 q2 vs rvs => q2.here (r1.step st2 at2) _ ⟨v, vs, rfl, rv.mono st2.ff, rvs⟩⟩
def dKw {S : Type} (f : Fn S) (perm : List Nat) (fa fk : Env → M S (List D)) : Env → M S D := fun ρ => do
  let ds ← fa ρ
  let es ← fk ρ
  f (permL .non perm (ds ++ es))
theorem RpP.shL {o : Wo} {Z : Fx} {F H : Hp} : ∀ {ds : List D} {vs : List V} {ms : List Mode}, RpL o F ds vs → ds.length = ms.length → (ms.all fun m => m == .sh) = true → RpP o Z F H ms ds vs
  | [], vs, ms, h, e, hm => by
    have : ms = [] := List.length_eq_zero_iff.mp e.symm
    rw [this, show vs = [] from h]
    exact ⟨rfl, rfl⟩
  | d :: ds, _, [], _, e, _ => by cases e
  | d :: ds, _, m :: ms, ⟨v, r, e1, e2, e3⟩, e, hm => by
    rw [List.all_cons, Bool.and_eq_true] at hm
    have := eq_of_beq hm.1
    subst this
    rw [e1]
    exact ⟨d, ds, v, r, rfl, rfl, e2, RpP.shL e3 (by simpa using e) hm.2⟩
theorem de_kw0 {ms : List Mode} {f : Fn Unit} {fk : Env → M T.S (List D)} (hs : HasKw X.prog X.w X.K X.mg X.base k x ps ks 0 perm (spC (wo X) Tk.no ms f)) (hr : Room k X.A) (tk : Takes X W) (hk : DKw X T Z W kws fk) (hsh : (ms.all fun m => m == .sh) = true := by rfl) (hl : perm.length = ms.length := by rfl)
    (hlen : ∀ ρ s ds s', fk ρ s = .ok ds s' → ds.length = ks.length) (hg : Gl X x := by rfl) (hdb : (x == ("__debug__" : Str)) = false := by decide) (hall : (backToKw pos (keywordEach kws X.env)).all (·.1.isSome) = true := by rfl) (hks : (backToKw pos (keywordEach kws X.env)).filterMap (·.1) = ks := by rfl)
    (hpl : ((backTo pos (starEach [] X.env)).any (·.1) || (backToKw pos (keywordEach kws X.env)).any (·.1.isNone)) = false := by rfl) : DE X T Z W (.Call (.Name x p) [] kws pos) (dKw (fun ds => liftP (f ds)) perm dNil fk) := by
  obtain ⟨a, fd, h1, h2, h3, h4⟩ := hs
  refine (pe_kw0 (perm := perm) h4 hr hg h1 h2 h3 (passAt tk) hk hall hks hdb hpl).imp fun σ H Q ⟨F, ρ, s, r, q⟩ => ?_
  have q : Out (wo X) T Z W F H σ ((fk ρ >>= fun es => liftP (f (permL .non perm es))) s) _ := q
  have q := q.bind
  refine ⟨F, ρ, s, r, ?_⟩
  cases ef : fk ρ s with
  | stuck => rw [ef] at q; exact q
  | exc x s1 => rw [ef] at q; exact q
  | ok ds s1 =>
    rw [ef] at q
    intro F1 H1 st1 at1 vs rv
    have q := q F1 H1 st1 at1
    have r1 := r.step st1 at1
    refine ⟨rfl, by rw [← rv.length]; exact hlen ρ s ds s1 ef, Z.p, [], F1, (), permL .non perm ds, r1.ex, rfl, (by intro a ha; cases ha), RpP.shL (rv.perm perm) (by unfold permL; rw [List.length_map]; exact hl) hsh, ?_⟩
    have q : Out (wo X) T Z W F1 H1 σ (liftP (f (permL .non perm ds)) s1) _ := q
    unfold liftP at q
    cases e2 : f (permL .non perm ds) () with
    | stuck => rw [e2] at q; exact q
    | exc x s2 => rw [e2] at q; exact fun F' H' cls dd st' _ er => q cls dd F' H' st'.mono (r1.at' st') er
    | ok d s2 => rw [e2] at q; exact fun F' H' v st' _ rv' => q F' H' st'.mono (r1.at' st') v rv'
theorem dNil_len {S : Type} : ∀ (ρ : Env) (s : S) (ds : List D) (s' : S), (dNil : Env → M S (List D)) ρ s = .ok ds s' → ds.length = 0 := fun ρ s ds s' h => by cases h; rfl
theorem dCons_len {S : Type} {f : Env → M S D} {g : Env → M S (List D)} {n : Nat} (hg : ∀ (ρ : Env) (s : S) (ds : List D) (s' : S), g ρ s = .ok ds s' → ds.length = n) : ∀ (ρ : Env) (s : S) (ds : List D) (s' : S), dCons f g ρ s = .ok ds s' → ds.length = n + 1 := fun ρ s ds s' h => by
  have h : M.bind (f ρ) (fun a => M.bind (g ρ) fun r => M.pure (a :: r)) s = .ok ds s' := h
  unfold M.bind at h
  cases e : f ρ s with
  | ok a s1 =>
    simp only [e] at h
    cases e2 : g ρ s1 with
    | ok r s2 =>
      simp only [e2] at h
      have := hg ρ s1 r s2 e2
      cases h
      rw [List.length_cons, this]
    | exc x s2 => simp only [e2] at h; cases h
    | stuck => simp only [e2] at h; cases h
  | exc x s1 => simp only [e] at h; cases h
  | stuck => simp only [e] at h; cases h
end
end DL
set_option Elab.async false
set_option linter.all false
set_option maxRecDepth 100000
set_option maxHeartbeats 1000000
/-! A law's begin. -/
namespace DL
open PySem PySem.Spec PyProof.Rows L2
def mag (n : Int) : Int := if n < 0 then -n else n
theorem PSs.all {X : Cx} {sts : List Stmt} {ι : Type} {t : ι → TS} (h : ∀ i, PSs X sts (t i)) : PSs X sts (fun D σ H => ∃ i, t i D σ H) := ⟨fun pins s σ H D I ⟨i, q⟩ => (h i).run pins s σ H D I q⟩
theorem FunD.bindsKw {K : PySem.W.Frag} {x qual : Str} {params : Arguments} {body : List Stmt} {scope : Scope} {kws : List (Str × V)} {f : Addr} {fd : FuncData} {binds : List (Str × Value)} {args : Args} {s : Shared} (F : FunD K x qual params body scope [] kws f fd)
    (h : ∀ (kV doc pm : Value) (an : Option Addr) (cdv ct : Value), bindArgs (PySem.W.fnOf x qual params body scope .none kV doc pm an cdv ct) args = pure binds) : BindsTo s fd args binds := by
  obtain ⟨oc, od, dV, kV, doc, pm, an, cdv, ct, osl, rfl, lk, hcd, hD, hK⟩ := F.ex
  rcases hD with ⟨_, rfl⟩ | ⟨e, _⟩
  · exact .of_eq (h kV doc pm an cdv ct)
  · exact absurd rfl e
def spBeg (o : Wo) (b : List Int → Dr) : Sp := fun vs H Q _ => ∃ F a ns, Ex F H ∧ vs = [V.ref a] ∧ SqL o.K F a (ns.map V.int) ∧ ns.length ≤ sizeLine ∧ ∀ F' H' p fp, Stp [] F H F' H' → (∀ b ∈ fp, H b = none ∧ F' b = none) → tkD.At o F' H' p fp (b ns) → Q (.ref p) H'
theorem rl_law {o : Wo} {p a : Addr} {fp : List Addr} {F H : Hp} {d : Dr} {ns : List Int} {m : List Mode} {k : Nat} (ex : Ex F H) (hat : tkD.At o F H p fp d) (hfp : ∀ b ∈ fp, F b = none) (hS : SqL o.K F a (ns.map V.int)) (hm0 : m.getD 0 .sh = .sh) (hm1 : m.getD 1 .sh = .tok) :
    Rl o tkD ⟨p, fp, F, H, m⟩ F H (some (.st (ns.map D.int)) :: some .tok :: List.replicate k none) d (some (.ref a) :: some (.ref p) :: List.replicate k none) := by
  have none_at : ∀ {α : Type} (i : Nat) (x : α), (List.replicate k (none : Option α))[i]? = some (some x) → False := fun i x h => by
    rw [List.getElem?_replicate] at h
    split at h <;> cases h
  refine ⟨Stp.refl ex, hat, fun b hb => ⟨hfp b hb, tkD.tr hat b hb⟩, fun i e he => ?_, fun i j b d1 e1 hij h1 h2 h3 h4 h5 h6 => ?_, by simp⟩
  · match i, he with
    | 0, he =>
      cases he
      refine ⟨_, rfl, ?_⟩
      unfold Slot
      rw [show Fx.md ⟨p, fp, F, H, m⟩ 0 = .sh from hm0]
      exact ⟨a, _, rfl, hS, RpL.ints ns⟩
    | 1, he =>
      cases he
      refine ⟨_, rfl, ?_⟩
      unfold Slot
      rw [show Fx.md ⟨p, fp, F, H, m⟩ 1 = .tok from hm1]
      exact ⟨rfl, rfl⟩
    | i + 2, he => exact (none_at i e he).elim
  · match i, j, h1, h2, h3, h4 with
    | 0, _, h1, _, _, _ => rw [show Fx.md ⟨p, fp, F, H, m⟩ 0 = .sh from hm0] at h1; cases h1
    | 1, _, h1, _, _, _ => rw [show Fx.md ⟨p, fp, F, H, m⟩ 1 = .tok from hm1] at h1; cases h1
    | i + 2, _, _, _, h3, _ => exact none_at i d1 h3
theorem rl_one {o : Wo} {T : Tk} {p a : Addr} {F H : Hp} {s : T.S} {ns : List Int} {m : List Mode} {k : Nat} (ex : Ex F H) (hat : T.At o F H p [] s) (hS : SqL o.K F a (ns.map V.int)) (hm0 : m.getD 0 .sh = .sh) :
    Rl o T ⟨p, [], F, H, m⟩ F H (some (.st (ns.map D.int)) :: List.replicate k none) s (some (.ref a) :: List.replicate k none) := by
  have none_at : ∀ {α : Type} (i : Nat) (x : α), (List.replicate k (none : Option α))[i]? = some (some x) → False := fun i x h => by
    rw [List.getElem?_replicate] at h
    split at h <;> cases h
  refine ⟨Stp.refl ex, hat, fun b hb => (by cases hb), fun i e he => ?_, fun i j b d1 e1 hij h1 h2 h3 h4 h5 h6 => ?_, by simp⟩
  · match i, he with
    | 0, he =>
      cases he
      refine ⟨_, rfl, ?_⟩
      unfold Slot
      rw [show Fx.md ⟨p, [], F, H, m⟩ 0 = .sh from hm0]
      exact ⟨a, _, rfl, hS, RpL.ints ns⟩
    | i + 1, he => exact (none_at i e he).elim
  · match i, h1, h3 with
    | 0, h1, _ => rw [show Fx.md ⟨p, [], F, H, m⟩ 0 = .sh from hm0] at h1; cases h1
    | i + 1, _, h3 => exact none_at i d1 h3
theorem dComp_pure {S : Type} {fi : Env → M S (List D)} {g : D → Env → Option Env} {us : List Nat} {ft : Env → M S Bool} {fe : Env → M S D} {ρ : Env} {s : S} {xs : List D} (P : D → Bool) (f : D → D) (hi : fi ρ s = .ok xs s) (hz : xs.length ≤ sizeLine)
    (h : ∀ x ∈ xs, ∃ ρ', g x (wipeE ρ us) = some ρ' ∧ ft ρ' s = .ok (P x) s ∧ (P x = true → fe ρ' s = .ok (f x) s)) : dComp fi g us ft fe ρ s = .ok (.lst ((xs.filter P).map f)) s := by
  show M.bind (fi ρ) (fun xs => M.bind (M.opt (if xs.length ≤ sizeLine then some xs else none)) fun xs => M.bind (compL g us ft fe ρ xs) fun ys => M.pure (D.lst ys)) s = _
  unfold M.bind
  rw [hi]
  dsimp only
  rw [if_pos hz]
  unfold M.opt
  dsimp only
  rw [compL_pure P f h]
  rfl
end DL
set_option Elab.async false
set_option linter.all false
set_option maxRecDepth 100000
set_option maxHeartbeats 1000000
/-! name = [.. for ..]. -/
namespace DL
open PySem PySem.Spec PyProof.Rows L2
section
variable {X : Cx} {T : Tk} {Z : Fx} {W : WX}
theorem lc_conv {o : Wo} {us : List Nat} {fi : Env → M T.S (List D)} {g : D → Env → Option Env} {ft : Env → M T.S Bool} {fe : Env → M T.S D} {σ : L2.St} {H : Hp} {Q : VK} (h : rdF o T Z W (dComp fi g us ft fe) σ H Q) : tLc (rdI o T Z W fi) (rdG o T Z us g) (rdT o T Z WF ft) (rd o T Z WF fe) us σ H Q := by
  obtain ⟨F, ρ, s, r, q⟩ := h
  refine ⟨F, ρ, s, r, q.bind.mono fun items s1 F1 H1 st1 at1 q1 J hJ p hp => ?_⟩
  have r1 := r.step st1 at1
  obtain ⟨xs, e, k⟩ := q1.bind.opt
  obtain ⟨hz, rfl⟩ := ifs e
  have k := k F1 H1 (Stp.refl r1.ex) r1.at_
  refine lc_go (W := W) (g := g) (ft := ft) (fe := fe) (Q := Q (.ref p)) r1 hJ hp hz ?_
  have k : Out o T Z W F1 H1 σ (M.bind (compL g us ft fe ρ items) (fun ys => M.pure (D.lst ys)) s1) _ := k
  unfold M.bind at k
  cases e : compL g us ft fe ρ items s1 with
  | exc x s2 => rw [e] at k; exact k
  | stuck => rw [e] at k; exact k
  | ok ys s2 =>
    rw [e] at k
    intro F' H' st' at' vs rvs hFp
    exact k F' _ (st'.mut hp hFp) (Rl.atMut (r1.nfp hp) at') p (st1.back r1.fpH hp) hFp ⟨vs, upd_same, rvs⟩
theorem rdF.frz {o : Wo} {f : Env → M T.S D} {σ : L2.St} {H : Hp} {Q : VK} (h : rd o T Z W f σ H Q) : rdF o T Z W f σ H Q := by
  obtain ⟨F, ρ, s, r, q⟩ := h
  refine ⟨F, ρ, s, r, ?_⟩
  cases e : f ρ s with
  | ok d s' =>
    rw [e] at q
    intro F' H' st at' a hH hF ow
    obtain ⟨u, hu, ex, rp⟩ := ow.freeze hF st.fh
    exact q _ H' (st.frz hH hF ex) (T.loc at' (Ex.new hF) fun _ _ => rfl) _ rp
  | exc x s' => rw [e] at q; exact q
  | stuck => rw [e] at q; exact q
section
variable {elt tg iter : Expr} {tests : List Expr} {scope : Scope} {own : List (Str × Nat)} {pos py spos : Pos} {y : Str} {fi : Env → M T.S (List D)} {g : D → Env → Option Env} {ft : Env → M T.S Bool} {fe : Env → M T.S D}
theorem ds_setOC (i : Nat) (own_ : List (Str × Nat)) (ho : own = own_ := by rfl) (hN : X.N.Nodup) (hc : X.calm = true) (hi : DI X T Z W tg iter fi) (ok : BlkOk X.N X.env.scope scope own)
    (hg : ∀ (s : Shared) (H : Hp) (C : Addr) (cl : List (Str × Addr)) (fp : List Addr), DG (X.blk s H scope (compEnvC scope cl C X.env) fp) T Z (own.map (·.2)) tg g) (ht : ∀ (s : Shared) (H : Hp) (C : Addr) (cl : List (Str × Addr)) (fp : List Addr), DTs (X.blk s H scope (compEnvC scope cl C X.env) fp) T Z WF tests ft)
    (he : ∀ (s : Shared) (H : Hp) (C : Addr) (cl : List (Str × Addr)) (fp : List Addr), DE (X.blk s H scope (compEnvC scope cl C X.env) fp) T Z WF elt fe) (hm : Z.md i = .own := by rfl) (hy : X.N[i]? = some y := by rfl) (hyl : X.env.scope.names.lookup y = some .local := by rfl) (hs : ∀ x, foldedSetIterable iter X.env x = pure x := by intro _; rfl)
    (hsw : swapsWith (.ListComp elt [⟨tg, iter, tests, 0⟩] scope pos) (some (.Name y py)) spos.line X.env = pure true := by rfl) :
    DS X T Z W (.Assign [.Name y py] (.ListComp elt [⟨tg, iter, tests, 0⟩] scope pos) spos) (sSet (dComp fi g (own.map (·.2)) ft fe) i) :=
  (ps_setLc hc hN hy hyl hsw hi ok hg ht he hs).imp fun E σ H ⟨F, ρ, s, r, q⟩ =>
    lc_conv (rdF.sq r q fun d s1 F1 H1 a r1 st h1 h2 h3 k => k F1 H1 _ (Ex.refl F1) (Rl.setO r h1 r1 hm h2 h3))
theorem ds_setC (i : Nat) (own_ : List (Str × Nat)) (ho : own = own_ := by rfl) (hN : X.N.Nodup) (hc : X.calm = true) (hi : DI X T Z W tg iter fi) (ok : BlkOk X.N X.env.scope scope own)
    (hg : ∀ (s : Shared) (H : Hp) (C : Addr) (cl : List (Str × Addr)) (fp : List Addr), DG (X.blk s H scope (compEnvC scope cl C X.env) fp) T Z (own.map (·.2)) tg g) (ht : ∀ (s : Shared) (H : Hp) (C : Addr) (cl : List (Str × Addr)) (fp : List Addr), DTs (X.blk s H scope (compEnvC scope cl C X.env) fp) T Z WF tests ft)
    (he : ∀ (s : Shared) (H : Hp) (C : Addr) (cl : List (Str × Addr)) (fp : List Addr), DE (X.blk s H scope (compEnvC scope cl C X.env) fp) T Z WF elt fe) (hm : Z.md i = .sh := by rfl) (hy : X.N[i]? = some y := by rfl) (hyl : X.env.scope.names.lookup y = some .local := by rfl) (hs : ∀ x, foldedSetIterable iter X.env x = pure x := by intro _; rfl)
    (hsw : swapsWith (.ListComp elt [⟨tg, iter, tests, 0⟩] scope pos) (some (.Name y py)) spos.line X.env = pure true := by rfl) :
    DS X T Z W (.Assign [.Name y py] (.ListComp elt [⟨tg, iter, tests, 0⟩] scope pos) spos) (sSet (dComp fi g (own.map (·.2)) ft fe) i) :=
  (ps_setLc hc hN hy hyl hsw hi ok hg ht he hs).imp fun E σ H ⟨F, ρ, s, r, q⟩ =>
    lc_conv (rdF.frz (rd.sq r q fun d s1 F1 H1 v r1 st rv k => k F1 H1 _ (Ex.refl F1) (r1.set hm rv)))
end
end
end DL
set_option Elab.async false
set_option linter.all false
set_option maxRecDepth 100000
set_option maxHeartbeats 1000000
/-! Plain reckoning with the semantic functions. -/
namespace DL
open PySem L2
section
variable {S α β : Type} {ρ : Env} {s s1 s2 s3 : S}
@[simp] theorem bind_eq {m : M S α} {k : α → M S β} : (m >>= k) s = match m s with
  | .ok a s' => k a s'
  | .exc e s' => .exc e s'
  | .stuck => .stuck := rfl
@[simp] theorem dVar_eq {i : Nat} : (dVar i ρ s : Res S D) = match ρ[i]? with
  | some (some d) => .ok d s
  | _ => .stuck := by
  unfold dVar
  cases ρ[i]? with
  | none => rfl
  | some x => cases x <;> rfl
@[simp] theorem dC_eq {d : D} : dC d ρ s = .ok d s := rfl
@[simp] theorem opt_eq {x : Option α} : (M.opt x s : Res S α) = match x with
  | some a => .ok a s
  | none => .stuck := by cases x <;> rfl
@[simp] theorem pure_eq {a : α} : (M.pure a s : Res S α) = .ok a s := rfl
@[simp] theorem pure_eq2 {a : α} : ((pure a : M S α) s : Res S α) = .ok a s := rfl
@[simp] theorem nox_eq {m : M S α} : m.nox s = match m s with
  | .ok a s' => .ok a s'
  | _ => .stuck := rfl
/-- loops -/
theorem forL_ind {g : D → Env → Option Env} {body : G S} (I : List D → Env → S → Prop) (step : ∀ x xs ρ s, I (x :: xs) ρ s → ∃ ρ1 ρ2 s2, g x ρ = some ρ1 ∧ body ρ1 s = .nx ρ2 s2 ∧ I xs ρ2 s2) : ∀ (xs : List D) (ρ : Env) (s : S), I xs ρ s → ∃ ρ' s', forL g body xs ρ s = .nx ρ' s' ∧ I [] ρ' s'
  | [], ρ, s, h => ⟨ρ, s, rfl, h⟩
  | x :: xs, ρ, s, h => by
    obtain ⟨ρ1, ρ2, s2, h1, h2, h3⟩ := step x xs ρ s h
    obtain ⟨ρ', s', h4, h5⟩ := forL_ind I step xs ρ2 s2 h3
    refine ⟨ρ', s', ?_, h5⟩
    rw [forL_cons, h1]
    simp only [h2]
    exact h4
theorem forL_brk {g : D → Env → Option Env} {body : G S} (I : List D → Env → S → Prop) (B : Env → S → Prop) (step : ∀ x xs ρ s, I (x :: xs) ρ s → ∃ ρ1 ρ2 s2, g x ρ = some ρ1 ∧ ((body ρ1 s = .nx ρ2 s2 ∧ I xs ρ2 s2) ∨ (body ρ1 s = .bk ρ2 s2 ∧ B ρ2 s2))) : ∀ (xs : List D) (ρ : Env) (s : S), I xs ρ s → ∃ ρ' s', forL g body xs ρ s = .nx ρ' s' ∧ (I [] ρ' s' ∨ B ρ' s')
  | [], ρ, s, h => ⟨ρ, s, rfl, .inl h⟩
  | x :: xs, ρ, s, h => by
    obtain ⟨ρ1, ρ2, s2, h1, h2⟩ := step x xs ρ s h
    rcases h2 with ⟨h2, h3⟩ | ⟨h2, h3⟩
    · obtain ⟨ρ', s', h4, h5⟩ := forL_brk I B step xs ρ2 s2 h3
      refine ⟨ρ', s', ?_, h5⟩
      rw [forL_cons, h1]
      simp only [h2]
      exact h4
    · refine ⟨ρ2, s2, ?_, .inr h3⟩
      rw [forL_cons, h1]
      simp only [h2]
theorem whileL_ind {c : Env → M S Bool} {body : G S} (I : Env → S → Prop) (J : Env → S → Prop) (μ : Env → S → Nat) (step : ∀ ρ s, I ρ s → (c ρ s = .ok false s ∧ J ρ s) ∨ (c ρ s = .ok true s ∧ ∃ ρ' s', body ρ s = .nx ρ' s' ∧ I ρ' s' ∧ μ ρ' s' < μ ρ s)) :
    ∀ (n : Nat) (ρ : Env) (s : S), I ρ s → μ ρ s < n → ∃ ρ' s', whileL c body n ρ s = .nx ρ' s' ∧ J ρ' s'
  | 0, ρ, s, _, hn => absurd hn (Nat.not_lt_zero _)
  | n + 1, ρ, s, h, hn => by
    unfold whileL
    rcases step ρ s h with ⟨h1, h2⟩ | ⟨h1, ρ', s', h2, h3, h4⟩
    · exact ⟨ρ, s, by rw [h1], h2⟩
    · obtain ⟨ρ'', s'', h5, h6⟩ := whileL_ind I J μ step n ρ' s' h3 (by omega)
      exact ⟨ρ'', s'', by rw [h1]; simp only [h2]; exact h5, h6⟩
theorem compL_ind {g : D → Env → Option Env} {us : List Nat} {ft : Env → M S Bool} {fe : Env → M S D} (I : S → Prop) (R : D → Prop) (step : ∀ (x : D) (s : S), I s → ∃ ρ' y s2, g x (wipeE ρ us) = some ρ' ∧ ft ρ' s = .ok true s ∧ fe ρ' s = .ok y s2 ∧ R y ∧ I s2) : ∀ (xs : List D) (s : S), I s → ∃ ys s', compL g us ft fe ρ xs s = .ok ys s' ∧ I s' ∧ ys.length = xs.length ∧ ∀ y ∈ ys, R y
  | [], s, h => ⟨[], s, rfl, h, rfl, fun y hy => by cases hy⟩
  | x :: xs, s, h => by
    obtain ⟨ρ', y, s2, h1, h2, h3, h4, h5⟩ := step x s h
    obtain ⟨ys, s', k1, k2, k3, k4⟩ := compL_ind I R step xs s2 h5
    refine ⟨y :: ys, s', ?_, k2, by simp [k3], fun z hz => ?_⟩
    · rw [compL_cons, h1]
      simp only [h2, h3]
      unfold M.bind
      rw [k1]
      rfl
    · rcases List.mem_cons.mp hz with rfl | hz
      · exact h4
      · exact k4 z hz
end

section
variable {S : Type} {ρ : Env} {s : S} {f g fa fb fc : Env → M S D} {t u : Env → M S Bool} {l r : Env → M S (List D)} {a b c : G S}
@[simp] theorem e_bin {o : D → D → Option D} : dBin o fa fb ρ s = (fa ρ >>= fun a => fb ρ >>= fun b => M.opt (o a b)) s := rfl
@[simp] theorem e_un {o : D → Option D} : dUn o fa ρ s = (fa ρ >>= fun a => M.opt (o a)) s := rfl
@[simp] theorem e_nil : (dNil : Env → M S (List D)) ρ s = .ok [] s := rfl
@[simp] theorem e_cons : dCons fa l ρ s = (fa ρ >>= fun a => l ρ >>= fun r => M.pure (a :: r)) s := rfl
@[simp] theorem e_call {o : List D → Option D} : dCall o l ρ s = (l ρ >>= fun ds => M.opt (o ds)) s := rfl
@[simp] theorem e_callF {o : Fn S} : dCallF o l ρ s = (l ρ >>= fun ds => o ds) s := rfl
@[simp] theorem e_kw {o : Fn S} {p : List Nat} : dKw o p l r ρ s = (l ρ >>= fun ds => r ρ >>= fun es => o (permL .non p (ds ++ es))) s := rfl
@[simp] theorem e_cmpT {o : D → D → Option D} : dCmpT o fa fb ρ s = (fa ρ >>= fun a => fb ρ >>= fun b => M.opt (o a b) >>= fun d => M.opt (blD d)) s := rfl
@[simp] theorem e_tru : dTru f ρ s = (f ρ >>= fun d => M.opt (truD d)) s := rfl
@[simp] theorem e_and : dAnd t u ρ s = (t ρ >>= fun x => if x = true then u ρ else M.pure false) s := rfl
@[simp] theorem e_or : dOr t u ρ s = (t ρ >>= fun x => if x = true then M.pure true else u ρ) s := rfl
@[simp] theorem e_not : dNot t ρ s = (t ρ >>= fun x => M.pure (!x)) s := rfl
@[simp] theorem e_if : dIf t f g ρ s = (t ρ >>= fun x => if x = true then f ρ else g ρ) s := rfl
@[simp] theorem e_items : dItems f ρ s = (f ρ >>= fun d => M.opt (itemsD d)) s := rfl
@[simp] theorem e_seq {o : List D → Option (List D)} : dSeq o l ρ s = (l ρ >>= fun d => M.opt (o d)) s := rfl
@[simp] theorem e_yes : (dYes : Env → M S Bool) ρ s = .ok true s := rfl
@[simp] theorem e_ite {α : Type} {p : Prop} [Decidable p] {m n : M S α} : (if p then m else n) s = if p then m s else n s := by split <;> rfl
@[simp] theorem r_ret : sRet f ρ s = match f ρ s with | .ok d s => .rt d s | .exc e s => .ex e ρ s | .stuck => .stuck := by unfold sRet sE; cases f ρ s <;> rfl
@[simp] theorem r_retF : sRetF f ρ s = match f ρ s with | .ok d s => .rf d s | .exc e s => .ex e ρ s | .stuck => .stuck := by unfold sRetF sE; cases f ρ s <;> rfl
@[simp] theorem r_set {i : Nat} : sSet f i ρ s = match f ρ s with | .ok d s => .nx (ρ.set i (some d)) s | .exc e s => .ex e ρ s | .stuck => .stuck := by unfold sSet sE; cases f ρ s <;> rfl
@[simp] theorem r_drop : sDrop f ρ s = match f ρ s with | .ok _ s => .nx ρ s | .exc e s => .ex e ρ s | .stuck => .stuck := by unfold sDrop sE; cases f ρ s <;> rfl
@[simp] theorem r_seq : sSeq a b ρ s = match a ρ s with | .nx ρ s => b ρ s | r => r := by unfold sSeq; cases a ρ s <;> rfl
@[simp] theorem r_if : sIf t a b ρ s = match t ρ s with | .ok x s => (if x = true then a ρ s else b ρ s) | .exc e s => .ex e ρ s | .stuck => .stuck := by unfold sIf sE; cases t ρ s <;> rfl
@[simp] theorem r_next : (sNext : G S) ρ s = .nx ρ s := rfl
@[simp] theorem r_break : (sBreak : G S) ρ s = .bk ρ s := rfl
@[simp] theorem r_par {i j : Nat} : sPar i j f g ρ s = match f ρ s with | .ok d s => (match g ρ s with | .ok e s => .nx ((ρ.set i (some d)).set j (some e)) s | .exc e s => .ex e ρ s | .stuck => .stuck) | .exc e s => .ex e ρ s | .stuck => .stuck := by
  unfold sPar sE
  cases f ρ s with
  | ok d s1 =>
    dsimp only
    cases g ρ s1 <;> rfl
  | exc e s1 => rfl
  | stuck => rfl
@[simp] theorem r_for {fi : Env → M S (List D)} {h : D → Env → Option Env} : sFor fi h a ρ s = match fi ρ s with | .ok xs s => forL h a xs ρ s | .exc e s => .ex e ρ s | .stuck => .stuck := by unfold sFor sE; cases fi ρ s <;> rfl
@[simp] theorem r_while : sWhile bigF t a ρ s = whileL t a 4611686018427387904 ρ s := rfl
@[simp] theorem v_add (i j : Int) : addD (.int i) (.int j) = some (.int (i + j)) := rfl
@[simp] theorem v_sub (i j : Int) : subD (.int i) (.int j) = some (.int (i - j)) := rfl
@[simp] theorem v_addI (i j : Int) : addI (.int i) (.int j) = some (.int (i + j)) := rfl
@[simp] theorem v_lt (i j : Int) : ltD (.int i) (.int j) = some (.bl (decide (i < j))) := rfl
@[simp] theorem v_le (i j : Int) : leD (.int i) (.int j) = some (.bl (decide (i ≤ j))) := rfl
@[simp] theorem v_gt (i j : Int) : gtD (.int i) (.int j) = some (.bl (decide (j < i))) := rfl
@[simp] theorem v_ge (i j : Int) : geD (.int i) (.int j) = some (.bl (decide (j ≤ i))) := rfl
@[simp] theorem v_bl (b : Bool) : blD (.bl b) = some b := rfl
@[simp] theorem v_tru (b : Bool) : truD (.bl b) = some b := rfl
@[simp] theorem v_neg (i : Int) : negD (.int i) = some (.int (-i)) := rfl
@[simp] theorem v_lenL (xs : List D) : lenD [.lst xs] = some (.int xs.length) := rfl
@[simp] theorem v_lenT (xs : List D) : lenD [.tup xs] = some (.int xs.length) := rfl
@[simp] theorem v_lenS (xs : List D) : lenD [.st xs] = some (.int xs.length) := rfl
@[simp] theorem v_itL (xs : List D) : itemsD (.lst xs) = some xs := rfl
@[simp] theorem v_itT (xs : List D) : itemsD (.tup xs) = some xs := rfl
@[simp] theorem v_min (i j : Int) : min2D [.int i, .int j] = some (.int (if j < i then j else i)) := rfl
@[simp] theorem v_max (i j : Int) : max2D [.int i, .int j] = some (.int (if j > i then j else i)) := rfl
@[simp] theorem v_intI (i : Int) : intD [.int i] = some (.int i) := rfl
@[simp] theorem v_gSet {i : Nat} {d : D} : gSet i d ρ = some (ρ.set i (some d)) := rfl
theorem v_eqI (i j : Int) : eqD (.int i) (.int j) = some (.bl (decide (i = j))) := by
  show (if SeqAt.shaped (.int i) = true ∧ SeqAt.shaped (.int j) = true then some (D.bl (PyData.eqv (.int i) (.int j))) else none) = _
  rw [if_pos ⟨rfl, rfl⟩]
  show some (D.bl (i == j)) = _
  by_cases h : i = j <;> simp [h]
theorem v_neI (i j : Int) : neD (.int i) (.int j) = some (.bl (!decide (i = j))) := by
  unfold neD
  rw [v_eqI]
  rfl
theorem ix_nat {α : Type} (xs : List α) (i : Nat) : atI xs (i : Int) = xs[i]? := by
  cases e : xs[i]? with
  | some v => exact atI_nat e
  | none =>
    unfold atI
    cases h : ixN xs.length (i : Int) with
    | none => rfl
    | some j =>
      obtain ⟨_, h1, _, h2⟩ := ixN_seq h
      rw [List.getElem?_eq_none_iff] at e
      omega
@[simp] theorem v_ixL (xs : List D) (i : Nat) : ixD (.lst xs) (.int (i : Int)) = xs[i]? := by
  exact ix_nat xs i
@[simp] theorem v_ixT (xs : List D) (i : Nat) : ixD (.tup xs) (.int (i : Int)) = xs[i]? := by
  exact ix_nat xs i
theorem ix0 (xs : List D) : ixD (.tup xs) (.int 0) = xs[0]? := v_ixT xs 0
theorem ix1 (xs : List D) : ixD (.tup xs) (.int 1) = xs[1]? := v_ixT xs 1
theorem ix2 (xs : List D) : ixD (.tup xs) (.int 2) = xs[2]? := v_ixT xs 2
theorem ix3 (xs : List D) : ixD (.tup xs) (.int 3) = xs[3]? := v_ixT xs 3
theorem il0 (xs : List D) : ixD (.lst xs) (.int 0) = xs[0]? := v_ixL xs 0
theorem il1 (xs : List D) : ixD (.lst xs) (.int 1) = xs[1]? := v_ixL xs 1
theorem il2 (xs : List D) : ixD (.lst xs) (.int 2) = xs[2]? := v_ixL xs 2
theorem il3 (xs : List D) : ixD (.lst xs) (.int 3) = xs[3]? := v_ixL xs 3
theorem lstOk_eq {xs : List D} (h : xs.length ≤ 16777216) : lstOk xs = some (.lst xs) := by
  unfold lstOk
  rw [if_pos (by rw [sizeLine_eq]; exact h)]
theorem tupOk_eq {xs : List D} (h : xs.length ≤ 16777216) : tupOk xs = some (.tup xs) := by
  unfold tupOk
  rw [if_pos (by rw [sizeLine_eq]; exact h)]
end

section
variable {S : Type} {ρ : Env} {s : S} {f fa : Env → M S D} {l r : Env → M S (List D)} {a b c : G S}
@[simp] theorem r_ext {i : Nat} : sExt i f ρ s = match ρ[i]? with
  | some (some (.lst xs)) => (match f ρ s with
    | .ok y s => (match extD (.lst xs) y with
      | some z => .nx (ρ.set i (some z)) s
      | none => .stuck)
    | .exc e s => .ex e ρ s
    | .stuck => .stuck)
  | _ => .stuck := by
  unfold sExt sOwnL sE sOpt
  cases ρ[i]? with
  | none => rfl
  | some x =>
    cases x with
    | none => rfl
    | some d =>
      cases d with
      | lst xs =>
        dsimp only
        cases f ρ s with
        | ok y s1 => dsimp only; cases extD (.lst xs) y <;> rfl
        | exc e s1 => rfl
        | stuck => rfl
      | _ => rfl
theorem ext_ok {xs ys : List D} (h : xs.length + ys.length ≤ 16777216) : extD (.lst xs) (.lst ys) = some (.lst (xs ++ ys)) := by
  show (if xs.length + ys.length ≤ sizeLine then some (D.lst (xs ++ ys)) else none) = _
  rw [if_pos (by rw [sizeLine_eq]; exact h)]
theorem mul_ok (i j : Int) (h : i.natAbs < 2 ^ 64 ∨ j.natAbs < 2 ^ 64) : mulD (.int i) (.int j) = some (.int (i * j)) := by
  show (if i.natAbs.log2 + j.natAbs.log2 < 1000000 ∨ i.natAbs < 2 ^ 64 ∨ j.natAbs < 2 ^ 64 then some (D.int (i * j)) else none) = _
  rw [if_pos (.inr h)]
@[simp] theorem r_aug {i : Nat} {o : D → D → Option D} : sAug i o f ρ s = match ρ[i]? with
  | some (some x) => (match f ρ s with
    | .ok y s => (match o x y with
      | some z => .nx (ρ.set i (some z)) s
      | none => .stuck)
    | .exc e s => .ex e ρ s
    | .stuck => .stuck)
  | _ => .stuck := by
  unfold sAug
  cases ρ[i]? with
  | none => rfl
  | some x =>
    cases x with
    | none => rfl
    | some d =>
      dsimp only
      unfold sE sOpt
      cases f ρ s with
      | ok y s1 => dsimp only; cases o d y <;> rfl
      | exc e s1 => rfl
      | stuck => rfl
end
end DL
set_option Elab.async false
set_option linter.all false
set_option maxRecDepth 100000
set_option maxHeartbeats 1000000
/-! sum of a list or a tuple. -/
namespace DL
open PySem PySem.Spec PyProof.Rows L2
section
variable {X : Cx}
theorem call_sumT (hc : X.calm = true) : CallR X (.builtin "sum") (fun vs H Q => ∃ (a : Addr) (ns : List Int), vs = [V.ref a] ∧ SqT X.K H a (ns.map V.int) ∧ Q (.int ns.sum) H) := by
  intro pins s σ H vs us Q I r h
  obtain ⟨a, ns, rfl, hs, q⟩ := h
  obtain ⟨its, valsA, isT, _⟩ := I.tuple hs
  rw [Vals.ref1 r]
  have hI := valsA.ints
  obtain ⟨xs, e⟩ := hI.allInts.items
  have hn : numsOf (intItems xs).toList = ns := by rw [← e]; exact hI.numsOf
  rw [nums_intItems] at hn
  have isT : s.heap.IsTuple a its.toArray := isT
  rw [e] at isT
  refine PySem.W.ktm_sumG (I.ok.hd hc) isT fun h' tk t' hk => ?_
  rw [preSum_eq, List.take_of_length_le (by simp), hn]
  exact ⟨.int _, H, I.kept hk, ⟨_, rfl⟩, q⟩
def sumAD : List D → Option D
  | [.lst ys] => (intsOf ys).map fun ns => .int ns.sum
  | [.tup ys] => (intsOf ys).map fun ns => .int ns.sum
  | _ => none
theorem cr_sumAD (hc : X.calm = true) : CallR X (.builtin "sum") (rCl (wo X) sumAD) := CallR.imp (CallR.or (cr_sum hc) (call_sumT hc)) fun xs H Q ⟨F, ds, d, ex, rv, e, k⟩ => by
  match ds, e, rv with
  | [.lst ys], e, rv =>
    obtain ⟨v, rfl, a, vs, rfl, h1, h2⟩ := rv.one
    cases h : intsOf ys with
    | none => rw [show sumAD [.lst ys] = (intsOf ys).map _ from rfl, h] at e; cases e
    | some ns =>
      rw [show sumAD [.lst ys] = (intsOf ys).map _ from rfl, h] at e; cases e
      have e2 := intsOf_eq h
      subst e2
      have e3 := h2.int_inv
      subst e3
      exact .inl ⟨a, ns, rfl, h1.l, k _ F H (Stp.refl ex) rfl⟩
  | [.tup ys], e, rv =>
    obtain ⟨v, rfl, a, vs, rfl, h1, h2⟩ := rv.one
    cases h : intsOf ys with
    | none => rw [show sumAD [.tup ys] = (intsOf ys).map _ from rfl, h] at e; cases e
    | some ns =>
      rw [show sumAD [.tup ys] = (intsOf ys).map _ from rfl, h] at e; cases e
      have e2 := intsOf_eq h
      subst e2
      have e3 := h2.int_inv
      subst e3
      exact .inr ⟨a, ns, rfl, ex.t h1, k _ F H (Stp.refl ex) rfl⟩
end
theorem sumA_l (ns : List Int) : sumAD [.lst (ns.map D.int)] = some (.int ns.sum) := by
  show (intsOf (ns.map D.int)).map _ = _
  rw [intsOf_map]; rfl
theorem sumA_t (ns : List Int) : sumAD [.tup (ns.map D.int)] = some (.int ns.sum) := by
  show (intsOf (ns.map D.int)).map _ = _
  rw [intsOf_map]; rfl
end DL
set_option Elab.async false
set_option linter.all false
set_option maxRecDepth 100000
set_option maxHeartbeats 2000000
/-! An error that is caught and held: try: body / except x as n: y = n. -/
namespace DL
open PySem PySem.Spec PyProof.Rows L2
theorem xo_ok {P : Program} {w : World} {H : Hp} {h : Heap} {C a : Addr} {oe : Obj} {vs : Array Value} (e : h.get? a = some oe) (z : Zc (.ref C) none oe) (d : oe.data = .fields vs) : ObjOk P w H h a (XO C a) :=
  ⟨⟨oe, vs, e, z, d⟩, ⟨oe, e⟩, fun _ _ ⟨o, v, q, r⟩ k => ⟨o, v, k o q, r⟩⟩
section
variable {X : Cx} {pins : List (Addr × Obj)} {σ : L2.St} {H : Hp} {s : Shared}
/-- an object that stands there untracked, new since the def was entered, is tracked from now on -/
theorem inv_track {a C : Addr} {oe : Obj} {vs : Array Value} (I : Inv X pins σ H s) (ha : s.heap.get? a = some oe) (z : Zc (.ref C) none oe) (hd : oe.data = .fields vs) (na : H a = none) (n0 : X.s_0.heap.get? a = none) (nl : a ≠ X.env.locals) (np : ∀ p ∈ X.pn ++ pins, p.1 ≠ a) :
    Inv X pins σ (upd H a (XO C a)) s := by
  have ne0 : ∀ b o, X.s_0.heap.get? b = some o → b ≠ a := fun b o e q => by rw [q, n0] at e; cases e
  have neC : ∀ x c, X.env.cells.lookup x = some c → c ≠ a := fun x c e q => by
    obtain ⟨v, o, ho, hv⟩ := I.cell x c e
    rw [q, ha] at ho
    cases ho
    rw [hd] at hv
    cases hv
  have neS : ∀ b u, H b = some u → b ≠ a := fun b u e => ne_of_none e na
  refine ⟨I.ok, I.os, I.bare, ⟨I.base.keep, I.base.slot, fun b o e n hq => ?_, I.base.there, fun b xs e => ?_, fun b o u e => ?_, fun b ps e => ?_⟩, I.loc, I.cell, ?_, fun x c e => ?_, fun p hp => ?_, fun b u e => ?_, I.len⟩
  · rw [upd_ne (ne0 b o e)]
    exact I.base.free b o e n hq
  · have q := I.base.tups b xs e
    rw [upd_ne (neS b _ q)]
    exact q
  · have q := I.base.frzs b o u e
    rw [upd_ne (neS b _ q)]
    exact q
  · obtain ⟨m, q⟩ := I.base.tbls b ps e
    exact ⟨m, by rw [upd_ne (neS b _ q)]; exact q⟩
  · rw [upd_ne (Ne.symm nl)]
    exact I.free
  · rw [upd_ne (neC x c e)]
    exact I.freeC x c e
  · obtain ⟨e, n, r⟩ := I.pin p hp
    exact ⟨e, by rw [upd_ne (np p hp)]; exact n, r⟩
  · by_cases hb : b = a
    · rw [hb, upd_same] at e
      cases e
      rw [hb]
      exact xo_ok ha z hd
    · rw [upd_ne hb] at e
      refine (I.hok b u e).stay (fun d v _ q => q) (fun d q => ?_) fun d xs q => ?_
      · rw [upd_ne (neS d _ q)]; exact q
      · rw [upd_ne (neS d _ q)]; exact q
/-- into the suite, without its error being pinned -/
theorem inv_suite {a : Addr} (I : Inv X pins σ H s) : Inv (X.suite a (X.pn ++ pins)) [] σ H s :=
  ⟨I.ok.suite _ _, I.os, I.bare, I.base, I.loc, I.cell, I.free, I.freeC, fun p hp => I.pin p (by rw [List.append_nil] at hp; exact hp), I.hok, I.len⟩
theorem inv_unsuite {a : Addr} (I : Inv (X.suite a (X.pn ++ pins)) [] σ H s) (ok : X.Ok) : Inv X pins σ H s :=
  ⟨ok, I.os, I.bare, I.base, I.loc, I.cell, I.free, I.freeC, fun p hp => I.pin p (by rw [List.append_nil]; exact hp), I.hok, I.len⟩
end
/-- what is wished of the body's error: slot i is n's, slot j is y's -/
def wTake (K : PySem.W.Frag) (c : Value) (L i j : Nat) (E : Ends) : WX := fun cls d σ H =>
  PySem.W.exmOne K cls c = some true ∧ d = none ∧ ∃ C, cls = .ref C ∧ ∀ a, H a = none → σ.length = L → E.nx ((((σ.set i (some (.ref a))).set j (some (.ref a)))).set i none) (upd H a (XO C a))
section
variable {X : Cx} {x n y : Str} {c : Value} {i j : Nat} {body : List Stmt} {np yp nq pa pos pos' : Pos} {tb : WX → TS}
theorem ps_try_take (hs : X.stack = X.env :: X.outer) (hf : X.env.frame = some X.env.locals) (hx : X.ex = []) (hN : X.N.Nodup) (hi : X.N[i]? = some n) (hj : X.N[j]? = some y) (hij : i ≠ j) (hln : X.env.kindOf n = some .local) (hly : X.env.kindOf y = some .local) (hc : Names X x c) (hd : (n == ("__debug__" : Str)) = false) (hcd : (n == ("__classdict__" : Str)) = false)
    (hb : ∀ (W : WX) (pn : List (Addr × Obj)) (xe : Value → Shared → Prop), Takes (X.tr pn xe) W → PassesOwn (model X.prog X.w) X.A X.env xe → PSs (X.tr pn xe) body (tb W)) :
    PS X (.Try body [.ExceptHandler (some (.Name x np)) (some n) [.Assign [.Name y yp] (.Name n nq) pa] pos'] [] [] pos) (fun E σ H => tb (wTake X.K c X.N.length i j E) E σ H) := by
  refine ⟨fun pins s σ H E I h => ?_⟩
  have ok := I.ok
  have frA : X.A.frames = some (X.env :: X.outer) := by rw [ok.frames, hs]
  have locN : Loc X.env.scope n := .inl hln
  have locY : Loc X.env.scope y := .inl hly
  refine wpAny_Try_except ?_
  refine wpAny_mono ((hb (wTake X.K c X.N.length i j E) (X.pn ++ pins) (fun e s₁ => wpAny (model X.prog X.w) X.A (noteFrame e X.env) (fun _ s₂ => wpAny (model X.prog X.w) X.A (setFlight e none) (fun _ s₃ =>
    wpAny (model X.prog X.w) X.A (handleBy e X.env [.ExceptHandler (some (.Name x np)) (some n) [.Assign [.Name y yp] (.Name n nq) pa] pos']) (SP X pins E) X.xe s₃) X.xe s₂) X.xe s₁) (fun u s' caught => ?_) PassesOwn.looking).run [] s σ H E (I.toTry _) h) (fun f s1 hsp => ?_) (fun e s1 he => he)
  · obtain ⟨a, B, sI, pins', σ', H', cls, d, rfl, J', nb, up, sky, na, os, ag, hb1, hd0, C, hC, hyes⟩ := caught
    subst hd0 hC
    have J : Inv X pins σ' H' sI := J'.ofTry ok
    have skyE : Sky B (X.env :: X.outer) a (Zc (.ref C) none) X.env.locals s'.heap := by rw [← hs]; exact sky
    show wpAny (model X.prog X.w) X.A (noteFrame (.ref a) X.env) _ _ _
    refine Sky.land Zc.steady frA hf skyE fun h3 fl3 up3 => ?_
    have J3 : Inv X pins σ' H' { s' with heap := h3 } := J.landed nb fl3.1 (up.trans up3) os ag
    obtain ⟨oe3, vs3, he3, hz3, hd3⟩ := fl3.there
    have noFrame : a ∉ frs (X.env :: X.outer) := fun hm => by
      obtain ⟨_, o', e', hnf⟩ := fl3.2.2.1.mem hm
      rw [he3] at e'; cases e'
      exact hnf _ hd3
    have nL : a ≠ X.env.locals := fun z => noFrame (List.mem_filterMap.mpr ⟨X.env, List.mem_cons_self, by rw [hf, z]⟩)
    have nS : a ∉ frs X.stack := by rw [hs]; exact noFrame
    have nI : sI.heap.get? a = none := by
      cases e : sI.heap.get? a with
      | none => rfl
      | some o =>
        have q := nb a o e nS
        rw [fl3.2.1] at q
        cases q
    have n0 : X.s_0.heap.get? a = none := by
      cases e : X.s_0.heap.get? a with
      | none => rfl
      | some o =>
        obtain ⟨o', q⟩ := J.base.there a o e (by rw [hx]; simp)
        rw [nI] at q
        cases q
    have npin : ∀ p ∈ X.pn ++ pins, p.1 ≠ a := fun p hp z => by
      obtain ⟨e, _⟩ := J.pin p hp
      rw [z, nI] at e
      cases e
    have T3 := inv_suite (a := a) J3
    refine wpAny_handleBy_cons (codeAny_handlers_test ?_) (by intro q; cases q)
    have LT : PySem.W.Looks (model X.prog X.w) h3 (typeOf (.ref a)) (.ref C) := fun A Q E s k q => wpAny_typeOf_ref (k _ _ he3) (by rw [hz3.1]; exact q)
    have LM := PySem.W.exm_one (M := model X.prog X.w) (J3.kIn) LT hb1
    have asked : ∀ {Q : Value → Shared → Prop} {E : Value → Shared → Prop}, Q c { s' with heap := h3 } → wpAny (model X.prog X.w) (X.A.mark (some (.ref a))) (eval (.Name x np) X.env) Q E { s' with heap := h3 } := fun {Q E} q => by
      obtain ⟨hg, hdbg, hm | ⟨hm, hv, hnn⟩⟩ := hc
      · exact ld_glob (X := X.suite a (X.pn ++ pins)) T3 hg hm q hdbg
      · exact ld_blt (X := X.suite a (X.pn ++ pins)) T3 hg hm hv q hnn hdbg
    refine asked (LM.here ?_)
    refine codeAny_handlers_suite_as ?_
    refine HandSPX.lands_againZ fl3 fun h4 fl4 up4 => ?_
    have J4 : Inv X pins σ' H' { s' with heap := h4 } := J.landed nb fl4.1 ((up.trans up3).trans up4) os ag
    obtain ⟨oe4, vs4, he4, hz4, hd4⟩ := fl4.there
    have T4 := inv_suite (a := a) (inv_track J4 he4 hz4 hd4 na n0 nL npin)
    refine store_ok (X := X.suite a (X.pn ++ pins)) (v := .ref a) T4 hN hi locN rfl (fun s5 S5 => ?_) (.inr hln)
    have one : PSs (X.suite a (X.pn ++ pins)) [.Assign [.Name y yp] (.Name n nq) pa] _ := pss_one (ps_set (X := X.suite a (X.pn ++ pins)) (i := j) hN hj (.inl hly) (pe_var (X := X.suite a (X.pn ++ pins)) (i := i) hi (.inl hln) hd hcd) (hf := .inr hly))
    have hlen : i < σ'.length := by
      have q1 : X.N.length = σ'.length := J4.len.symm
      have q2 := (List.getElem?_eq_some_iff.mp hi).1
      omega
    refine wpAny_mono (one.run [] s5 _ (upd H' a (XO C a)) { nx := fun σ6 H6 => E.nx (σ6.set i none) H6, rt := fun _ _ => False, bk := fun _ _ => False, ct := fun _ _ => False } S5 ⟨.ref a, List.getElem?_set_self hlen, hyes a na J4.len⟩) (fun f s6 hsp => ?_) (fun _ _ z => False.elim z)
    have end_ : ∀ {σ6 : L2.St} {H6 : Hp} {Q : Shared → Prop}, Inv (X.suite a (X.pn ++ pins)) [] σ6 H6 s6 → (∀ s7, Inv X pins (σ6.set i none) H6 s7 → Q s7) →
        wpAny (model X.prog X.w) X.A (do bindName X.env n .none; unbindBehindTheSuite X.env n pos') (fun _ s7 => Q s7) X.xe s6 := fun {σ6 H6 Q} S6 hq => gone_ok (inv_unsuite S6 ok) hN hi hln hq
    cases f with
    | next =>
      obtain ⟨σ6, H6, S6, q6⟩ := hsp
      exact end_ S6 fun s7 J7 => ⟨_, _, J7, q6⟩
    | brk =>
      obtain ⟨σ6, H6, S6, q6⟩ := hsp
      exact q6.elim
    | cont =>
      obtain ⟨σ6, H6, S6, q6⟩ := hsp
      exact q6.elim
    | ret u =>
      obtain ⟨v6, σ6, H6, S6, r6, q6⟩ := hsp
      exact q6.elim
  · cases f with
    | next =>
      obtain ⟨σ', H', J', q⟩ := hsp
      exact wpAny_execs_nil ⟨σ', H', J'.ofTry ok, q⟩
    | brk =>
      obtain ⟨σ', H', J', q⟩ := hsp
      exact ⟨σ', H', J'.ofTry ok, q⟩
    | cont =>
      obtain ⟨σ', H', J', q⟩ := hsp
      exact ⟨σ', H', J'.ofTry ok, q⟩
    | ret u =>
      obtain ⟨v, σ', H', J', r, q⟩ := hsp
      exact ⟨v, σ', H', J'.ofTry ok, r, q⟩
end
end DL
set_option Elab.async false
set_option linter.all false
set_option maxRecDepth 100000
set_option maxHeartbeats 2000000
/-! A caught error as data; isinstance of it. -/
namespace DL
open PySem PySem.Spec PyProof.Rows L2
/-- try: body / except c as n (slot i): y (slot j) = n; names: the classes that the clause takes -/
def sTake {S : Type} (i j : Nat) (names : List Str) (body : G S) : G S := fun ρ s => match body ρ s with
  | .ex e ρ' s' => if names.contains e.name = true ∧ e.fs = [] then .nx (((ρ'.set i (some (.exc e.name []))).set j (some (.exc e.name []))).set i none) s' else .stuck
  | r => r
/-- what is known of the classes that a clause takes -/
def Taken (X : Cx) (c : Value) (names : List Str) : Prop := ∀ x ∈ names, ∃ C, X.mg x = some (.ref C) ∧ PySem.W.exmOne X.K (.ref C) c = some true
section
variable {X : Cx} {T : Tk} {Z : Fx} {W : WX}
theorem ds_try_take {names : List Str} {x n y : Str} {c : Value} (i j : Nat) {body : List Stmt} {np yp nq pa pos pos' : Pos} {g : G T.S} (hN : X.N.Nodup) (ht : Taken X c names) (hc : Names X x c)
    (hb : ∀ (W : WX) (pn : List (Addr × Obj)) (xe : Value → Shared → Prop), Takes (X.tr pn xe) W → PassesOwn (model X.prog X.w) X.A X.env xe → DSs (X.tr pn xe) T Z W body g)
    (hs : X.stack = X.env :: X.outer := by rfl) (hf : X.env.frame = some X.env.locals := by rfl) (hx : X.ex = [] := by rfl) (hi : X.N[i]? = some n := by rfl) (hj : X.N[j]? = some y := by rfl) (hij : i ≠ j := by decide) (hln : X.env.kindOf n = some .local := by rfl) (hly : X.env.kindOf y = some .local := by rfl)
    (hd : (n == ("__debug__" : Str)) = false := by decide) (hcd : (n == ("__classdict__" : Str)) = false := by decide) (hmi : Z.md i = .sh := by rfl) (hmj : Z.md j = .sh := by rfl) :
    DS X T Z W (.Try body [.ExceptHandler (some (.Name x np)) (some n) [.Assign [.Name y yp] (.Name n nq) pa] pos'] [] [] pos) (sTake i j names g) :=
  (ps_try_take (tb := fun W => rdS (wo X) T Z W g) hs hf hx hN hi hj hij hln hly hc hd hcd hb).imp fun E σ H ⟨F, ρ, s, r, q⟩ => ⟨F, ρ, s, r, by
    unfold sTake at q
    cases e : g ρ s with
    | nx ρ' s' => rw [e] at q; exact q
    | bk ρ' s' => rw [e] at q; exact q
    | ct ρ' s' => rw [e] at q; exact q
    | rt d s' => rw [e] at q; exact q
    | rf d s' => rw [e] at q; exact q
    | stuck => rw [e] at q; exact q
    | ex er ρ' s' =>
      rw [e] at q
      dsimp only at q
      by_cases hcond : names.contains er.name = true ∧ er.fs = []
      · rw [if_pos hcond] at q
        intro F' H' σ' cls dd ex' r' ⟨hcls, hfs⟩
        obtain ⟨C, hC, hexm⟩ := ht er.name (List.contains_iff_mem.mp hcond.1)
        have e1 : cls = .ref C := Option.some.inj (hcls.symm.trans hC)
        subst e1
        have e2 : dd = none := by
          rcases hfs with ⟨_, h⟩ | ⟨h, _⟩
          · exact h
          · exact absurd hcond.2 h
        subst e2
        refine ⟨hexm, rfl, C, rfl, fun a na _ => ?_⟩
        have st := Stp.laid (fp := []) (o := XO C a) r'.ex na
        have r2 := r'.step st.mono (r'.at' st)
        have rv : Rp (wo X) (upd F' a (XO C a)) (.exc er.name []) (.ref a) := ⟨a, C, rfl, hC, upd_same⟩
        have r3 := ((r2.set hmi rv).set hmj rv).unset (i := i)
        exact q _ _ _ (ex'.trans (Ex.new (r'.ex.none na))) r3
      · rw [if_neg hcond] at q
        exact q.elim⟩
/-! ### isinstance of a caught error, or of None -/
def isxD (all sub : List Str) : D → Option D
  | .exc x _ => if all.contains x = true then some (.bl (sub.contains x)) else none
  | .non => some (.bl false)
  | _ => none
theorem call_isX : CallR X (.builtin "isinstance") (fun xs H Q => ∃ a C c cv b, xs = [.ref a, c] ∧ H a = some (XO C a) ∧ ExcC X.K C ∧ (∀ u, RelV c u → u = cv) ∧ PySem.W.kitOne X.K (.ref C) cv = some b ∧ Q (.bl b) H) := by
  intro pins s σ H xs us Q I r h
  obtain ⟨a, C, c, cv, b, rfl, hH, hC, hcv, e, q⟩ := h
  obtain ⟨u1, u2, rfl, r1, r2⟩ := vals2 r
  cases (show u1 = Value.ref a from r1)
  have ec := hcv _ r2
  subst ec
  obtain ⟨⟨oe, vs, hget, hz, hv⟩, _, _⟩ := I.hok a _ hH
  have J : PySem.W.InstAt s.heap a oe C none := by
    obtain ⟨oc, od, oda, osl⟩ := oe
    obtain ⟨h1, h2⟩ := hz
    dsimp only at h1 h2 hv
    subst h1 h2 hv
    exact ⟨hget, rfl, rfl, trivial⟩
  exact PySem.W.kia_one (PySem.W.handS_kitx_exc hC.hg hC.hk hC.hs hC.hd hC.ha hC.hn hC.ht hC.hm) I.kIn J e (fun z => nomatch z) fun tk => ⟨.bl b, H, I.kept (t' := tk) fun _ _ z => z, rfl, q⟩
/-- the class x as the second argument: of each known error whether it is one -/
structure IsX (X : Cx) (x : Str) (all sub : List Str) : Prop where
  ex : ∃ C, X.mg x = some (.ref C) ∧ PySem.W.kitOne X.K (.type "NoneType") (.ref C) = some false ∧ ∀ y ∈ all, ∃ D, X.mg y = some (.ref D) ∧ ExcC X.K D ∧ PySem.W.kitOne X.K (.ref D) (.ref C) = some (sub.contains y)
theorem de_isx {all sub : List Str} {x : Str} {p p2 pos : Pos} {e : Expr} {f : Env → M T.S D} (hk : IsX X x all sub) (hi : X.mg "isinstance" = none) (h : DE X T Z W e f) (hg : Gl X "isinstance" := by rfl) (hg2 : Gl X x := by rfl) (hdb : (x == ("__debug__" : Str)) = false := by decide)
    (he : starEach [e, .Name x p2] X.env = (false, eval e X.env) :: starEach [.Name x p2] X.env := by rfl) (he2 : starEach [.Name x p2] X.env = (false, eval (.Name x p2) X.env) :: starEach [] X.env := by rfl) (hpl : (backTo pos (starEach [.Name x p2] X.env)).any (·.1) = false := by rfl) :
    DE X T Z W (.Call (.Name "isinstance" p) [e, .Name x p2] [] pos) (dUn (isxD all sub) f) := by
  obtain ⟨C, hC, hnone, hex⟩ := hk
  refine (pe_callB (CallR.or call_isi call_isX) hg hi (by decide +kernel) (pa_cons h (pa_cons (pe_glob (v := .ref C) hg2 hC rfl hdb) pa_nil he2) he) (by decide) (by decide) he hpl).imp fun σ H Q ⟨F, ρ, s, r, q⟩ => ⟨F, ρ, s, r, ?_⟩
  have q : Out (wo X) T Z W F H σ ((f ρ >>= fun a => M.opt (isxD all sub a)) s) _ := q
  have qb := q.bind
  cases ef : f ρ s with
  | stuck => rw [ef] at qb; exact qb
  | exc z s' => rw [ef] at qb; exact qb
  | ok d s' =>
    rw [ef] at qb
    intro F1 H1 st1 at1 v rv
    have q1 := qb F1 H1 st1 at1
    obtain ⟨z, e, k⟩ := q1.opt
    have r1 := r.step st1 at1
    have k := k F1 H1 (Stp.refl r1.ex) r1.at_
    cases d with
    | non =>
      cases e
      rw [show v = V.non from rv]
      exact .inl ⟨.non, .ref C, .type "NoneType", .ref C, false, rfl, .own C, .base .non, hnone, k _ rfl⟩
    | exc y fs =>
      obtain ⟨hy, e⟩ := ifs (show (if all.contains y = true then some (D.bl (sub.contains y)) else none) = some z from e)
      subst e
      obtain ⟨a, D, e1, e2, e3⟩ := rv
      obtain ⟨D', h1, h2, h3⟩ := hex y (List.contains_iff_mem.mp hy)
      have ed : D' = D := by
        have := h1.symm.trans e2
        cases this
        rfl
      subst ed
      subst e1
      exact .inr ⟨a, D', .ref C, .ref C, _, rfl, r1.ex _ _ e3, h2, fun u hu => hu, h3, k _ rfl⟩
    | _ => cases e
end
end DL
set_option Elab.async false
set_option linter.all false
set_option maxRecDepth 100000
set_option maxHeartbeats 4000000
/-! A lambda handed to a def that calls it in a try. -/
namespace DL
open PySem PySem.Spec PyProof.Rows L2 LamX
/-- the table at P, its code objects standing still -/
def TabF (F H : Hp) (P : Addr) (q : Str) : Prop := ∃ ps : Array Value, H P = some (.tbl ps) ∧ TriplesOk ps.toList ∧ ∀ (pos : Pos) (cv : Value), codeAmong pos ps.toList = some cv → ∃ c, cv = .ref c ∧ F c = some (CodeO c q)
theorem TabF.up {F F' H H' : Hp} {P : Addr} {q : Str} (x : TabF F H P q) (e : Ex F F') (h : H' P = H P) : TabF F' H' P q := by
  obtain ⟨ps, h1, h2, h3⟩ := x
  refine ⟨ps, h.trans h1, h2, fun pos cv k => ?_⟩
  obtain ⟨c, e1, e2⟩ := h3 pos cv k
  exact ⟨c, e1, e _ _ e2⟩
/-- a token and the tables of code objects -/
def tkT (T : Tk) (tabs : List (Addr × Str)) : Tk where
  S := T.S
  At := fun o F H p fp s => ∃ fp0, fp = fp0 ++ tabs.map (·.1) ∧ (∀ a ∈ fp0, a ∉ tabs.map (·.1)) ∧ T.At o F H p fp0 s ∧ ∀ t ∈ tabs, TabF F H t.1 t.2
  loc := fun ⟨fp0, h1, h2, h3, h4⟩ e h => by
    subst h1
    exact ⟨fp0, rfl, h2, T.loc h3 e fun a ha => h a (List.mem_append_left _ ha), fun t ht => (h4 t ht).up e (h _ (List.mem_append_right _ (List.mem_map.mpr ⟨t, ht, rfl⟩)))⟩
  tr := fun ⟨fp0, h1, h2, h3, h4⟩ a ha => by
    subst h1
    rcases List.mem_append.mp ha with ha | ha
    · exact T.tr h3 a ha
    · obtain ⟨t, ht, rfl⟩ := List.mem_map.mp ha
      obtain ⟨ps, h5, _⟩ := h4 t ht
      rw [h5]
      exact nofun
section
variable {X : Cx} {pins : List (Addr × Obj)} {σ : L2.St} {H HZ : Hp} {s s1 : Shared}
/-- the lambda is made: its code object is new, or found in the table; what is tracked behind it -/
theorem lam_make3 {c P : Addr} {ps : Array Value} {params : Arguments} {body : Expr} {scope : Scope} {pos : Pos} {E : Value → Shared → Prop} {Q : Value → Shared → Prop} (I : Inv X pins σ H s) (TB : TabB X.base X.mg c P) (hcode : X.env.code = .ref c)
    (hP : H P = some (.tbl ps)) (trip : TriplesOk ps.toList) (known : ∀ (pos : Pos) (cv : Value), codeAmong pos ps.toList = some cv → ∃ c, cv = .ref c ∧ H c = some (CodeO c (X.env.qual ++ "<lambda>"))) (hdef : defaultsOf params X.env = ([], [])) (hfree : ∀ y ∈ scope.names, y.2 = .free → ∃ c, X.env.cells.lookup y.1 = some c)
    (h : ∀ (f c' : Addr) (pm ctv : Value) (H1 : Hp) (sN : Shared), Inv X pins σ H1 sN →
      (H1 = H ∨ ∃ more : Array Value, H c' = none ∧ H1 = upd (upd H P (.tbl more)) c' (CodeO c' (X.env.qual ++ "<lambda>")) ∧ TriplesOk more.toList ∧ ∀ (pos : Pos) (cv : Value), codeAmong pos more.toList = some cv → codeAmong pos ps.toList = some cv ∨ cv = .ref c') →
      sN.heap.get? f = some (PySem.W.kla_obj "<lambda>" (X.env.qual ++ "<lambda>") params body scope (cloFrom X.env.cells scope.names []) pm c' ctv) → H1 f = none → f ∉ frs X.stack → H1 c' = some (CodeO c' (X.env.qual ++ "<lambda>")) → Q (.ref f) sN) :
    wpAny (model X.prog X.w) X.A (eval (.Lambda params body scope pos) X.env) Q E s := by
  refine PySem.W.kla_eval hdef ?_
  have baseP : s.heap.BuiltinsAt X.mg P := TB.bm.keeps I.bk
  have objP : s.heap.get? P = some { cls := .none, data := .fields ps } := I.hok P _ hP
  have offStack : ∀ f, s.heap.objs.size ≤ f → f ∉ frs X.stack := fun f hf z => by
    rcases List.mem_cons.mp (I.stkSub _ z) with e | e
    · have low := I.lt
      rw [← e] at low
      exact absurd (Nat.lt_of_lt_of_le low hf) (Nat.lt_irrefl _)
    · exact I.nofs hf e
  cases look : codeAmong pos ps.toList with
  | some cv =>
    obtain ⟨c', e, tracked⟩ := known pos cv look
    subst e
    refine PySem.W.kla_makeFunctionHit (mg := X.mg) (c := c) (P := P) (ps := ps) (closure_ok hfree) I.ok.glob (I.mod.glob.keeps I.bk) hcode (TB.code.keeps I.bk) objP trip look baseP fun ctv hN tk grow sizeLe => ?_
    have IN : Inv X pins σ H { s with heap := hN.push (PySem.W.kla_obj "<lambda>" (X.env.qual ++ "<lambda>") params body scope (cloFrom X.env.cells scope.names []) ((X.mg "__name__").getD .none) c' ctv), toks := tk } := I.kept fun b o e => Heap.get?_push_of_some _ (grow b o e)
    exact h hN.objs.size c' ((X.mg "__name__").getD .none) ctv H _ IN (.inl rfl) (Heap.get?_push_size _ rfl) (I.hok.fresh sizeLe) (offStack _ sizeLe) tracked
  | none =>
    refine PySem.W.kla_makeFunction (mg := X.mg) (c := c) (P := P) (ps := ps) (closure_ok hfree) I.ok.glob (I.mod.glob.keeps I.bk) hcode (TB.code.keeps I.bk) objP trip look TB.gP baseP fun c' ctv hN tk grow geC ltC rec_ tabN => ?_
    obtain ⟨c2, oc, vs, t, e2, hoc, hdat, hname⟩ := rec_
    cases e2
    have sizeLe : s.heap.objs.size ≤ hN.objs.size := Nat.le_trans geC (Nat.le_of_lt ltC)
    have freeC : H c' = none := I.hok.fresh geC
    have IN := inv_table (t' := tk) (more := #[rawInt pos.line, rawInt pos.col, .ref c']) (h' := hN.push (PySem.W.kla_obj "<lambda>" (X.env.qual ++ "<lambda>") params body scope (cloFrom X.env.cells scope.names []) ((X.mg "__name__").getD .none) c' ctv)) I hP
      (fun b o hb e => Heap.get?_push_of_some _ (grow b o hb e)) (Heap.get?_push_of_some _ tabN) geC ⟨oc, vs, t, Heap.get?_push_of_some _ hoc, hdat, hname⟩
    have listed : (ps ++ #[rawInt pos.line, rawInt pos.col, .ref c']).toList = ps.toList ++ [rawInt pos.line, rawInt pos.col, .ref c'] := by simp
    refine h hN.objs.size c' ((X.mg "__name__").getD .none) ctv _ _ IN (.inr ⟨_, freeC, rfl, by rw [listed]; exact PySem.TriplesOk_snoc _ _ _ _ trip, fun p' cv k => ?_⟩) (Heap.get?_push_size _ rfl) ?_ (offStack _ sizeLe) upd_same
    · rw [listed] at k
      exact among_app _ trip k
    · have apart1 : hN.objs.size ≠ c' := Nat.ne_of_gt ltC
      have apart2 : hN.objs.size ≠ P := Nat.ne_of_gt (Nat.lt_of_lt_of_le (Heap.lt_size objP) sizeLe)
      rw [upd_ne apart1, upd_ne apart2]
      exact I.hok.fresh sizeLe
end
/-- told of the one that calls: y = None / try: a() / except x as n: y = n / return y -/
def TCaught (K : PySem.W.Frag) (c : Value) : (XK → Hp → VK → Prop) → Hp → VK → Prop := fun tl H Q =>
  tl (fun cls d H' => PySem.W.exmOne K cls c = some true ∧ d = none ∧ ∃ C, cls = .ref C ∧ ∀ a, H' a = none → Q (.ref a) (upd H' a (XO C a))) H fun _ H' => Q .non H'
section
variable {X : Cx}
theorem caught_gives {Ng : List Str} {x a y n e q : Str} {sg : Scope} {g : Addr} {c : Value} {cdg : Value} {j1 : Nat} {p0 p1 p2 p3 p4 p5 p6 p7 p8 p9 pa pb pc pd : Pos} (hNg : Ng = [a, y, n]) (hnd : Ng.Nodup) (hge : sg.names.lookup e = some .globalImplicit) (hme : X.mg e = some c) (hde : (e == ("__debug__" : Str)) = false)
    (ly : sg.names.lookup y = some .local) (ln : sg.names.lookup n = some .local) (hky : sg.kind = .function) (dn : (n == ("__debug__" : Str)) = false) (cn : (n == ("__classdict__" : Str)) = false) (dy : (y == ("__debug__" : Str)) = false) (cy : (y == ("__classdict__" : Str)) = false) (kl : ∀ X : Cx, X.env.scope = sg → X.env.kindOf n = some .local ∧ X.env.kindOf y = some .local) :
    GivesTo X Ng x sg g cdg [.Assign [.Name y p0] (.Constant .none j1 p1) p2, .Try [.Expr (.Call (.Name a p3) [] [] p4) p5] [.ExceptHandler (some (.Name e p6)) (some n) [.Assign [.Name y p7] (.Name n p8) p9] pa] [] [] pb, .Return (some (.Name y pc)) pd] a q (TCaught X.K c) := by
  intro f c' s H Q tl act hc h
  subst hNg
  have hgl : Gl (cxOf C8.CX0 X.prog X.w X.K X.mg X.base [a, y, n] x sg g cdg X.A X.stack s H C8.E0).nox e := hge
  refine ⟨_, pss_cons (ps_set (X := (cxOf C8.CX0 X.prog X.w X.K X.mg X.base [a, y, n] x sg g cdg X.A X.stack s H C8.E0).nox) (i := 1) hnd rfl (.inl ly) pe_non (hf := .inr ly)) (pss_cons (ps_try_take (X := (cxOf C8.CX0 X.prog X.w X.K X.mg X.base [a, y, n] x sg g cdg X.A X.stack s H C8.E0).nox) (i := 2) (j := 1) (c := c)
      (tb := fun W D σ H => ∃ Ech : XK, (∀ cls d σ' H', Ech cls d H' → W cls d σ' H') ∧ σ[0]? = some (some (.ref f)) ∧ H c' = some (CodeO c' q) ∧ tl Ech H fun _ H1 => D.nx σ H1)
      rfl rfl rfl hnd rfl rfl (by decide) (kl _ rfl).1 (kl _ rfl).2 ⟨hgl, hde, .inl hme⟩ dn cn (fun W pn xe tk _ => ?_))
      (pss_one (ps_ret (pe_var (X := (cxOf C8.CX0 X.prog X.w X.K X.mg X.base [a, y, n] x sg g cdg X.A X.stack s H C8.E0).nox) (i := 1) rfl (.inl ly) dy cy)))), ?_⟩
  · refine ⟨fun pins s' σ H' D I h' => ?_⟩
    obtain ⟨Ech, hW, h1, h2, h3⟩ := h'
    have call := act W pn xe Ech p3 p4 tk hW
    exact (pss_one (ps_expr (pos := p5) call)).run pins s' σ H' D I ⟨h1, h2, h3⟩
  · have back : ∀ (σ' : L2.St) (a : Addr), σ'.length = 3 → ((((σ'.set 2 (some (V.ref a))).set 1 (some (.ref a)))).set 2 none)[1]? = some (some (.ref a)) := fun σ' a hl => by
      match σ', hl with
      | [u, v, w], _ => rfl
    refine ⟨fun cls d H' => PySem.W.exmOne X.K cls c = some true ∧ d = none ∧ ∃ C, cls = .ref C ∧ ∀ a, H' a = none → Q (.ref a) (upd H' a (XO C a)), fun cls d σ' H' hh => ?_, rfl, hc, ?_⟩
    · obtain ⟨k1, k2, C, k3, k4⟩ := hh
      refine ⟨k1, k2, C, k3, fun a na hl => ?_⟩
      have goal : ∃ v, ((((σ'.set 2 (some (V.ref a))).set 1 (some (.ref a)))).set 2 none)[1]? = some (some v) ∧ Q v (upd H' a (XO C a)) := ⟨_, back σ' a hl, k4 a na⟩
      exact goal
    · have eQ : (fun (_ : V) (H1 : Hp) => ∃ v, some (some V.non) = some (some v) ∧ Q v H1) = fun _ H1 => Q .non H1 := by
        funext _ H1
        exact propext ⟨fun ⟨v, e, k⟩ => by cases e; exact k, fun k => ⟨_, rfl, k⟩⟩
      have h2 : tl (fun cls d H' => PySem.W.exmOne X.K cls c = some true ∧ d = none ∧ ∃ C, cls = .ref C ∧ ∀ a, H' a = none → Q (.ref a) (upd H' a (XO C a))) H (fun _ H1 => ∃ v, some (some V.non) = some (some v) ∧ Q v H1) := by
        rw [eQ]
        exact h
      exact h2
end
end DL
set_option Elab.async false
set_option linter.all false
set_option maxRecDepth 100000
set_option maxHeartbeats 4000000
/-! f(lambda: e), f catching what e raises. -/
namespace DL
open PySem PySem.Spec PyProof.Rows L2 LamX
def dCaught {S : Type} (names : List Str) (fb : Env → M S D) : Env → M S D := fun ρ s => match fb ρ s with
  | .ok _ s' => .ok .non s'
  | .exc e s' => if names.contains e.name = true ∧ e.fs = [] then .ok (.exc e.name []) s' else .stuck
  | .stuck => .stuck
section
variable {o : Wo} {T : Tk} {Z : Fx} {F H : Hp} {ρ : Env} {σ : L2.St} {tabs : List (Addr × Str)}
/-- behind the making of a lambda -/
theorem rl_lam {s : T.S} {P c' : Addr} {q : Str} {ps : Array Value} {H1 : Hp} (r : Rl o (tkT T tabs) Z F H ρ s σ) (hm : (P, q) ∈ tabs) (one : ∀ t ∈ tabs, t.1 = P → t.2 = q) (hP : H P = some (.tbl ps)) (known : ∀ (pos : Pos) (cv : Value), codeAmong pos ps.toList = some cv → ∃ c, cv = .ref c ∧ F c = some (CodeO c q))
    (sh : H1 = H ∨ ∃ more : Array Value, H c' = none ∧ H1 = upd (upd H P (.tbl more)) c' (CodeO c' q) ∧ TriplesOk more.toList ∧ ∀ (pos : Pos) (cv : Value), codeAmong pos more.toList = some cv → codeAmong pos ps.toList = some cv ∨ cv = .ref c') :
    ∃ F1, Rl o (tkT T tabs) Z F1 H1 ρ s σ ∧ Stp Z.fp F H F1 H1 := by
  rcases sh with rfl | ⟨more, n1, rfl, trip, mem⟩
  · exact ⟨F, r, Stp.refl r.ex⟩
  · obtain ⟨fp0, hfp, dis, at0, tb⟩ := r.at_
    have inFp : P ∈ Z.fp := by
      rw [hfp]
      exact List.mem_append_right _ (List.mem_map.mpr ⟨_, hm, rfl⟩)
    have nPc : P ≠ c' := ne_of_none hP n1
    have hFP : F P = none := r.fpF P inFp
    have hFc : F c' = none := r.ex.none n1
    have st : Stp Z.fp F H (upd F c' (CodeO c' q)) (upd (upd H P (.tbl more)) c' (CodeO c' q)) := by
      refine ⟨Ex.new hFc, fun a u e => ?_, fun a h1 h2 => ?_, fun a u e na => ?_⟩
      · by_cases ha : a = c'
        · subst ha; rw [upd_same] at e ⊢; exact e
        · rw [upd_ne ha] at e ⊢
          have : a ≠ P := fun z => by rw [z, hFP] at e; cases e
          rw [upd_ne this]
          exact r.ex a u e
      · by_cases ha : a = c'
        · subst ha; exact n1
        · rw [upd_ne ha] at h2; exact absurd h1 h2
      · have h1 : a ≠ P := fun z => na (z ▸ inFp)
        rw [upd_ne (ne_of_none e n1), upd_ne h1]
        exact e
    refine ⟨_, r.step st ⟨fp0, hfp, dis, T.loc at0 st.ff fun a ha => ?_, fun t ht => ?_⟩, st⟩
    · have h1 : a ≠ P := fun z => dis a ha (z ▸ List.mem_map.mpr ⟨_, hm, rfl⟩)
      have h2 : a ≠ c' := fun z => T.tr at0 a ha (z ▸ n1)
      rw [upd_ne h2, upd_ne h1]
    · by_cases hb : t.1 = P
      · rw [one t ht hb, hb]
        refine ⟨more, by rw [upd_ne nPc, upd_same], trip, fun pos cv k => ?_⟩
        rcases mem pos cv k with k | k
        · obtain ⟨c, e1, e2⟩ := known pos cv k
          exact ⟨c, e1, st.ff _ _ e2⟩
        · exact ⟨c', k, upd_same⟩
      · have x := tb t ht
        obtain ⟨ps', h5, _⟩ := id x
        exact x.up st.ff (by rw [upd_ne (ne_of_none h5 n1), upd_ne hb])
end
section
variable {X : Cx} {T : Tk} {Z : Fx} {W : WX} {tabs : List (Addr × Str)}
theorem de_caught {names : List Str} {x a : Str} {g c P : Addr} {cT : Value} {k : Nat} {pg : Arguments} {bg : List Stmt} {sg : Scope} {fd : FuncData} {Ng : List Str} {params : Arguments} {body : Expr} {scope : Scope} {p lpos pos : Pos} {fb : Env → M T.S D}
    (hm : X.mg x = some (.ref g)) (hk : PySem.W.keepIn X.K (.ref g) = true) (Fg : FunD X.K x x pg bg sg [] [] g fd) (hb : L2.Binds X.K fd [a] []) (Sg : FnScope Ng [a] sg) (hNg : Ng[0]? = some a) (hva : Vis sg a)
    (hG : ∀ cdg, GivesTo X Ng x sg g cdg bg a (X.env.qual ++ "<lambda>") (TCaught X.K cT)) (ht : Taken X cT names)
    (TB : TabB X.base X.mg c P) (hcode : X.env.code = .ref c) (hmT : (P, X.env.qual ++ "<lambda>") ∈ tabs) (one : ∀ t ∈ tabs, t.1 = P → t.2 = X.env.qual ++ "<lambda>") (hr : Room (k + 2) X.A) (L : LamS X.env.scope scope) (hdef : defaultsOf params X.env = ([], []))
    (hbind : ∀ (q : Str) (cl : List (Str × Addr)) (pm cv ctv : Value), bindArgs (PySem.W.kla_fn "<lambda>" q params body scope cl pm cv ctv) ⟨[], []⟩ = pure [])
    (hbody : ∀ (A : Around) (outer : List PySem.Env) (s : Shared) (H : Hp) (E : XK) (f c' : Addr), Room k (A.deeper (lamEnv X scope s.heap.objs.size f c')) → Takes (lamCx X A outer s H E scope f c') (fun cls d _ H => E cls d H) → DE (lamCx X A outer s H E scope f c') (tkT T tabs) Z (fun cls d _ H => E cls d H) body fb)
    (hg : Gl X x := by rfl) (hdb : (x == ("__debug__" : Str)) = false := by decide) (hd : (a == ("__debug__" : Str)) = false := by decide) (hcd : (a == ("__classdict__" : Str)) = false := by decide) :
    DE X (tkT T tabs) Z W (.Call (.Name x p) [.Lambda params body scope lpos] [] pos) (dCaught names fb) := by
  obtain ⟨oc, od, dV, kV, doc, pm, an, cdv, ct, osl, rfl, lk, hcg, _, _⟩ := Fg.ex
  refine ⟨fun pins s σ H Q I ⟨F, ρ, s0, r, out⟩ => ?_⟩
  obtain ⟨fp0, hfp, dis, at0, tb⟩ := id r.at_
  obtain ⟨ps, hP, trip, known⟩ := tb _ hmT
  refine wpAny_Call_Name_kw (ld_glob I hg hm ?_ hdb)
  refine PySem.W.callWith_K (h₀ := X.base) I.ok.mod.kin hk ?_ (by rfl) (by rfl)
  show wpAny _ _ (spliced ((false, eval (.Lambda params body scope lpos) X.env) :: backTo pos (starEach [] X.env))) _ _ s
  refine Calls.spliced_cons (lam_make3 I TB hcode hP trip (fun pos cv h => let ⟨c, e1, e2⟩ := known pos cv h; ⟨c, e1, r.ex _ _ e2⟩) hdef (L.has I.ok) fun f c' pm' ctv H1 sN I1 shape hf hfn hfr hco => ?_)
  obtain ⟨F1, r1, st1⟩ := rl_lam r hmT one hP known shape
  refine Calls.spliced_nil ⟨I1.kIn, ?_⟩
  have told : TCaught X.K cT (fun E H' Q' => rd (wo X) (tkT T tabs) Z (fun cls d _ H => E cls d H) fb σ H' Q') H1 Q := by
    refine ⟨F1, ρ, s0, r1, ?_⟩
    have out : Out (wo X) (tkT T tabs) Z W F H σ (dCaught names fb ρ s0) _ := out
    unfold dCaught at out
    cases ef : fb ρ s0 with
    | stuck => simp only [ef] at out; exact out
    | ok d s2 =>
      simp only [ef] at out
      exact fun F' H' st' at' v rv => out F' H' (st1.trans r1.fpH st') at' .non rfl
    | exc er s2 =>
      simp only [ef] at out
      by_cases hcond : names.contains er.name = true ∧ er.fs = []
      · rw [if_pos hcond] at out
        intro cls dd F' H' st' at' ⟨hcls, hfs⟩
        obtain ⟨C, hC, hexm⟩ := ht er.name (List.contains_iff_mem.mp hcond.1)
        have e1 : cls = .ref C := Option.some.inj (hcls.symm.trans hC)
        subst e1
        have e2 : dd = none := by
          rcases hfs with ⟨_, h⟩ | ⟨h, _⟩
          · exact h
          · exact absurd hcond.2 h
        subst e2
        refine ⟨hexm, rfl, C, rfl, fun a na => ?_⟩
        have r2 := r1.step st' at'
        have st3 := Stp.laid (fp := []) (o := XO C a) r2.ex na
        exact out _ _ ((st1.trans r1.fpH st').trans r2.fpH st3.mono) (r2.at' st3) _ ⟨a, C, rfl, hC, upd_same⟩
      · rw [if_neg hcond] at out
        exact out.elim
  have run : codeAny (model X.prog X.w) X.A (.call (.ref g) ⟨[.ref f], []⟩) (CR C8.CX0 X.stack X.prog X.w H1 sN Q C8.E0) sN := by
    refine run_ofS (N := Ng) (ps := [a]) (us := [.ref f]) (vs := [.ref f]) lk hcg Sg hr I1.env0 (hb sN [.ref f] I1.kIn rfl) (.cons rfl .nil) rfl fun hr' => ?_
    obtain ⟨t', ht', hq'⟩ := hG cdv f c' sN H1 Q (fun E H' Q' => rd (wo X) (tkT T tabs) Z (fun cls d _ H => E cls d H) fb σ H' Q') (fun W pn xe E p1 p2 tk hW => pe_act (i := 0) I1 L hf hfn hfr (hbind _ _ _ _ _) tk hW hr' (fun A outer s H hr2 => hbody A outer s H E f c' hr2 (takes_of rfl rfl rfl rfl)) hNg hva hd hcd) hco told
    exact ⟨t', ht'.nox, hq'⟩
  refine wpAny_call (codeAny_mono run fun r s2 hq => ?_)
  cases r with
  | error e => exact (show False from hq).elim
  | ok fl =>
    cases fl with
    | ret u => exact I1.after hq
    | next => exact False.elim hq
    | brk => exact False.elim hq
    | cont => exact False.elim hq
end
end DL
set_option Elab.async false
set_option linter.all false
set_option maxRecDepth 100000
set_option maxHeartbeats 4000000
/-! Promises carried to the wider token; defs as values, called; three names at once; an empty dict. -/
namespace DL
open PySem PySem.Spec PyProof.Rows L2 LamX
theorem Stp.sub {fp fp0 : List Addr} {F H F' H' : Hp} (st : Stp fp0 F H F' H') (h : ∀ a ∈ fp0, a ∈ fp) : Stp fp F H F' H' := ⟨st.ff, st.fh, st.new, fun a o e na => st.hh a o e fun ha => na (h a ha)⟩
section
variable {o : Wo} {p : Addr} {fp fp0 : List Addr} {F H : Hp}
theorem RpR.sub (h : ∀ a ∈ fp0, a ∈ fp) {d : D} {v : V} (x : RpR o fp F H d v) : RpR o fp0 F H d v := by
  cases d with
  | lst xs => obtain ⟨a, vs, e1, ⟨e2, e4⟩, e3⟩ := x; exact ⟨a, vs, e1, ⟨e2, fun ha => e4 (h a ha)⟩, e3⟩
  | dct xs => obtain ⟨a, vs, e1, e2, e4, e3⟩ := x; exact ⟨a, vs, e1, e2, fun ha => e4 (h a ha), e3⟩
  | _ => exact x
theorem RpP.sub (h : ∀ a ∈ fp0, a ∈ fp) : ∀ {ms : List Mode} {ds : List D} {vs : List V}, RpP o ⟨p, fp, F, H, []⟩ F H ms ds vs → RpP o ⟨p, fp0, F, H, []⟩ F H ms ds vs
  | [], _, _, x => x
  | m :: ms, _, _, ⟨d, dr, v, vr, e1, e2, sl, r⟩ => by
    refine ⟨d, dr, v, vr, e1, e2, ?_, RpP.sub h r⟩
    cases m with
    | sh => exact sl
    | bor => exact RpR.sub h sl
    | own => exact sl
    | tok => exact sl
theorem tkT.back {T : Tk} {tabs : List (Addr × Str)} {s : T.S} {F' H' : Hp} {s' : T.S} (hfp : fp = fp0 ++ tabs.map (·.1)) (dis : ∀ a ∈ fp0, a ∉ tabs.map (·.1)) (tb : ∀ t ∈ tabs, TabF F H t.1 t.2) (st : Stp fp0 F H F' H') (at' : T.At o F' H' p fp0 s') : (tkT T tabs).At o F' H' p fp s' := by
  refine ⟨fp0, hfp, dis, at', fun t ht => ?_⟩
  have x := tb t ht
  obtain ⟨ps, h5, _⟩ := id x
  have n : t.1 ∉ fp0 := fun z => dis _ z (List.mem_map.mpr ⟨t, ht, rfl⟩)
  exact x.up st.ff (by rw [h5]; exact st.hh _ _ h5 n)
end
section
variable {P : Program} {w : World} {K : PySem.W.Frag} {mg : Str → Option Value} {base : Heap} {k : Nat} {x : Str} {ps : List Str} {T : Tk} {tabs : List (Addr × Str)} {ms : List Mode} {o : Wo}
theorem Has.imp {sp sp' : Sp} (h : Has P w K mg base k x ps sp) (i : ∀ vs H Q E, sp' vs H Q E → sp vs H Q E) : Has P w K mg base k x ps sp' := by
  obtain ⟨f, fd, h1, h2, h3, h4⟩ := h
  exact ⟨f, fd, h1, h2, h3, h4.imp i⟩
theorem Has.lift {f : Fn T.S} (h : Has P w K mg base k x ps (spC o T ms f)) : Has P w K mg base k x ps (spC o (tkT T tabs) ms f) := h.imp fun vs H Q E ⟨p, fp, F, s, ds, ex, ⟨fp0, hfp, dis, at0, tb⟩, fz, rp, out⟩ => by
  have sub : ∀ a ∈ fp0, a ∈ fp := fun a ha => by rw [hfp]; exact List.mem_append_left _ ha
  refine ⟨p, fp0, F, s, ds, ex, at0, fun a ha => fz a (sub a ha), rp.sub sub, ?_⟩
  unfold OutC at out ⊢
  cases e : f ds s with
  | stuck => rw [e] at out; exact out
  | ok d s' => rw [e] at out; exact fun F' H' v st at' rv => out F' H' v (st.sub sub) (tkT.back (T := T) (s := s) hfp dis tb st at') rv
  | exc er s' => rw [e] at out; exact fun F' H' cls dd st at' rv => out F' H' cls dd (st.sub sub) (tkT.back (T := T) (s := s) hfp dis tb st at') rv
theorem Has.liftN {f : Fn T.S} (h : Has P w K mg base k x ps (spN o T ms f)) : Has P w K mg base k x ps (spN o (tkT T tabs) ms f) := h.imp fun vs H Q E ⟨p, fp, F, s, ds, ex, ⟨fp0, hfp, dis, at0, tb⟩, fz, rp, out⟩ => by
  have sub : ∀ a ∈ fp0, a ∈ fp := fun a ha => by rw [hfp]; exact List.mem_append_left _ ha
  refine ⟨p, fp0, F, s, ds, ex, at0, fun a ha => fz a (sub a ha), rp.sub sub, ?_⟩
  unfold OutN at out ⊢
  cases e : f ds s with
  | stuck => rw [e] at out; exact out
  | ok d s' => rw [e] at out; exact fun F' H' v st at' h1 h2 rv => out F' H' v (st.sub sub) (tkT.back (T := T) (s := s) hfp dis tb st at') h1 h2 rv
  | exc er s' => rw [e] at out; exact fun F' H' cls dd st at' rv => out F' H' cls dd (st.sub sub) (tkT.back (T := T) (s := s) hfp dis tb st at') rv
end
/-! ### the code of a def -/
def codeK (K : PySem.W.Frag) (f : Addr) : Option Addr := match K.lookup f with
  | some ⟨_, _, .func fd, _⟩ => (match fd.code with
    | .ref c => some c
    | _ => none)
  | _ => none
section
variable {P : Program} {w : World} {K : PySem.W.Frag} {mg : Str → Option Value} {base : Heap} {x qual : Str} {params : Arguments} {body : List Stmt} {scope : Scope} {f : Addr} {fd : FuncData} {N ps : List Str} {k : Nat} {T : Tk}
theorem FunD.okC {CX : CXT} {dvs : List V} {kws : List (Str × V)} {sp : Sp} {c : Addr} (F : FunD K x qual params body scope dvs kws f fd) (hc : codeK K f = some c) (S : FnScope N ps scope) (len : ∀ vs H Q E, sp vs H Q E → vs.length = ps.length)
    (hbody : ∀ (A : Around) (outer : List PySem.Env) (s : Shared) (H : Hp) (vs : List V) (Q : VK) (E : XK), Room k (A.deeper (envOfC qual scope s.heap.objs.size f (.ref c))) → sp vs H Q E →
      ∃ t, PSs (cxOf CX P w K mg base N qual scope f (.ref c) A outer s H E) body t ∧ t { nx := fun _ H' => Q .non H', rt := Q } (L2.start N vs) H) : FnOk P w K mg base CX (k + 1) f fd ps sp := by
  obtain ⟨oc, od, dV, kV, doc, pm, an, cdv, ct, osl, rfl, lk, hcd, _, _⟩ := F.ex
  have ec : cdv = .ref c := by
    unfold codeK at hc
    rw [lk] at hc
    dsimp only at hc
    cases cdv with
    | ref c' => cases hc; rfl
    | _ => cases hc
  subst ec
  exact fn_of lk hcd S len fun A outer s H vs Q E hr hsp => hbody A outer s H vs Q E hr hsp
/-- as fn_clean, of a def whose code is known -/
theorem fn_cleanC {dvs : List V} {kws : List (Str × V)} {g : G T.S} {c : Addr} (ms : List Mode) {ms' : List Mode} (F : FunD K x qual params body scope dvs kws f fd) (hc : codeK K f = some c) (S : FnScope N ps scope) (hl : ms.length = ps.length) (hms : ∀ i, i < ms.length → ms'.getD i .sh = ms.getD i .sh)
    (hb : ∀ (A : Around) (outer : List PySem.Env) (s : Shared) (H : Hp) (E : XK) (p : Addr) (fp : List Addr) (F0 : Hp), Room k (cxD P w K mg base N qual scope f (.ref c) A outer s H E).A → Takes (cxD P w K mg base N qual scope f (.ref c) A outer s H E) (fun cls d _ H => E cls d H) →
      PassesOwn (model P w) (cxD P w K mg base N qual scope f (.ref c) A outer s H E).A (cxD P w K mg base N qual scope f (.ref c) A outer s H E).env (cxD P w K mg base N qual scope f (.ref c) A outer s H E).xe →
      DSs (cxD P w K mg base N qual scope f (.ref c) A outer s H E) T ⟨p, fp, F0, H, ms'⟩ (fun cls d _ H => E cls d H) body g) :
    FnOk P w K mg base (L2.CX P w) (k + 1) f fd ps (spC ⟨K, mg⟩ T ms (runB N.length g)) := by
  refine FunD.okC F hc S (fun vs H Q E ⟨p, fp, F0, s0, ds, h1, h2, h3, h4, h5⟩ => ?_) fun A outer s H vs Q E hr ⟨p, fp, F0, s0, ds, ex, at_, fpz, rp, out⟩ => ⟨_, hb A outer s H E p fp F0 hr (takes_of rfl rfl rfl rfl) (passes_of rfl), F0, _, s0, Rl.start ex at_ fpz rp hms, ?_⟩
  · rw [h4.len.2, hl]
  · unfold runB at out
    cases e : g (st0 N.length ds) s0 with
    | nx ρ' s' => rw [e] at out; exact fun F' H' σ' _ r' => out F' H' _ r'.st r'.at_ rfl
    | bk ρ' s' => rw [e] at out; exact out.elim
    | ct ρ' s' => rw [e] at out; exact out.elim
    | rt d s' => rw [e] at out; exact fun F' H' v st at' rv => out F' H' v st at' rv
    | rf d s' =>
      rw [e] at out
      intro F' H' a st at' hH hF ow
      obtain ⟨u, hu, ex', rp'⟩ := ow.freeze hF st.fh
      exact out _ H' _ (st.frz hH hF ex') (T.loc at' (Ex.new hF) fun _ _ => rfl) rp'
    | ex x ρ' s' => rw [e] at out; exact fun F' H' σ' cls dd _ r' er => out F' H' cls dd r'.st r'.at_ er
    | stuck => rw [e] at out; exact out.elim
end
section
variable {X : Cx} {T : Tk} {Z : Fx}
/-- a def as a value -/
theorem de_fn {W : WX} {x : Str} {a : Addr} {pos : Pos} (hm : X.mg x = some (.ref a)) (hg : Gl X x := by rfl) (hd : (x == ("__debug__" : Str)) = false := by decide) : DE X T Z W (.Name x pos) (dC (.fn x)) :=
  de_glob (v := .ref a) hm rfl (fun _ => ⟨a, rfl, hm⟩) hg hd
/-- v(e, ..), v a slot that holds one of several defs -/
def dCallV {S : Type} (i : Nat) (tbl : Str → Option (Fn Unit)) (fa : Env → M S (List D)) : Env → M S D := fun ρ => do
  let v ← dVar i ρ
  match v with
  | .fn x => (match tbl x with
    | some f => dCallF (fun ds => liftP (f ds)) fa ρ
    | none => M.stuck)
  | _ => M.stuck
theorem de_callV {E : XK} {k i : Nat} {x : Str} {p pos : Pos} {e : Expr} {es : List Expr} {ms : List Mode} {tbl : Str → Option (Fn Unit)} {fa : Env → M T.S (List D)} (hs : ∀ y f, tbl y = some f → ∃ ps, Has X.prog X.w X.K X.mg X.base k y ps (spC (wo X) Tk.no ms f)) (hr : Room k X.A) (tk : Takes X (fun cls d _ H => E cls d H))
    (ha : DM X T Z (fun cls d _ H => E cls d H) ms (e :: es) fa) (hmi : Z.md i = .sh := by rfl) (hm : (ms.all fun m => m == .sh || m == .bor) = true := by rfl) (hN : X.N[i]? = some x := by rfl) (hv : Vis X.env.scope x := by first | exact Or.inl rfl | exact Or.inr (Or.inl rfl) | exact Or.inr (Or.inr rfl)) (hdb : (x == ("__debug__" : Str)) = false := by decide) (hcd : (x == ("__classdict__" : Str)) = false := by decide)
    (he : starEach (e :: es) X.env = (false, eval e X.env) :: starEach es X.env := by rfl) (hpl : (backTo pos (starEach es X.env)).any (·.1) = false := by rfl) : DE X T Z (fun cls d _ H => E cls d H) (.Call (.Name x p) (e :: es) [] pos) (dCallV i tbl fa) := by
  refine ⟨fun pins s σ H Q I ⟨F, ρ, s0, r, q⟩ => ?_⟩
  have q : Out (wo X) T Z (fun cls d _ H => E cls d H) F H σ ((dVar i ρ >>= fun v => (match v with
    | .fn x => (match tbl x with
      | some f => dCallF (fun ds => liftP (f ds)) fa ρ
      | none => M.stuck)
    | _ => M.stuck : M T.S D)) s0) _ := q
  obtain ⟨d, ed, q1⟩ := dVar_out q.bind
  have q1 := q1.here r
  obtain ⟨v, e1, h⟩ := r.sl i d ed
  unfold Slot at h
  rw [hmi] at h
  cases d with
  | fn y =>
    dsimp only at q1
    cases et : tbl y with
    | none => rw [et] at q1; exact q1.elim
    | some f =>
      rw [et] at q1
      obtain ⟨a, rfl, hma⟩ := h
      obtain ⟨ps, a', fd, h1, h2, h3, h4⟩ := hs y f et
      have ea : a' = a := by
        have := h1.symm.trans hma
        cases this
        rfl
      subst ea
      refine (pe_callL (i := i) (f := a') (E := E) h4 hr hN hv h2 h3 .nil (passes_call tk fun _ _ _ _ h => h) ha hdb hcd he hpl).run pins s σ H Q I ⟨e1, ?_⟩
      refine ⟨F, ρ, s0, r, ?_⟩
      have q1 : Out (wo X) T Z (fun cls d _ H => E cls d H) F H σ ((fa ρ >>= fun ds => liftP (f ds)) s0) _ := q1
      refine q1.bind.mono fun ds s1 F1 H1 st1 at1 q2 vs rp => ?_
      have r1 := r.step st1 at1
      show spC (wo X) Tk.no ms f (vs ++ []) H1 Q E
      rw [List.append_nil]
      refine ⟨Z.p, [], F1, (), ds, r1.ex, rfl, (by intro a ha; cases ha), rp.clean hm, ?_⟩
      unfold liftP at q2
      cases e2 : f ds () with
      | stuck => rw [e2] at q2; exact q2
      | exc x s2 => rw [e2] at q2; exact fun F' H' cls dd st' _ er => q2 cls dd F' H' st'.mono (r1.at' st') er
      | ok d s2 => rw [e2] at q2; exact fun F' H' v st' _ rv' => q2 F' H' st'.mono (r1.at' st') v rv'
  | _ => exact q1.elim
/-- {} -/
theorem df_dict0 {W : WX} {pos : Pos} : DF X T Z W (.Dict [] [] pos) (dC (.dct [])) := pe_dnewK.imp fun σ H Q ⟨F, ρ, s, r, q⟩ => fun p hp =>
  q F _ (Stp.hid r.ex hp) (r.at' (Stp.hid r.ex hp)) p hp (r.ex.none hp) ⟨[], upd_same, rfl⟩
end
/-- what is never reached -/
def sStuck {S : Type} : G S := fun _ _ => .stuck
theorem dss_stuck {X : Cx} {T : Tk} {Z : Fx} {W : WX} {sts : List Stmt} : DSs X T Z W sts sStuck := ⟨fun pins s σ H D I ⟨F, ρ, s0, r, q⟩ => False.elim q⟩
theorem de_stuck {X : Cx} {T : Tk} {Z : Fx} {W : WX} {e : Expr} : DE X T Z W e (fun _ => M.stuck) := ⟨fun pins s σ H Q I ⟨F, ρ, s0, r, q⟩ => False.elim q⟩
/-- a, b, c = x, y, z -/
def sPar3 {S : Type} (i j l : Nat) (f g h : Env → M S D) : G S := sE f fun ρ d s => sE g (fun ρ e s => sE h (fun ρ u s => .nx (((ρ.set i (some d)).set j (some e)).set l (some u)) s) ρ s) ρ s
section
variable {X : Cx} {T : Tk} {Z : Fx} {W : WX}
theorem ds_par3 (i j l : Nat) {x y z : Str} {a b c : Expr} {px py pz pt pos : Pos} {kt k2 pt2} {f g h : Env → M T.S D} (hc : X.calm = true) (hN : X.N.Nodup) (ha : DE X T Z W a f) (hb : DE X T Z W b g) (hcc : DE X T Z W c h) (hm1 : Z.md i = .sh := by rfl) (hm2 : Z.md j = .sh := by rfl) (hm3 : Z.md l = .sh := by rfl)
    (hi : X.N[i]? = some x := by rfl) (hj : X.N[j]? = some y := by rfl) (hl : X.N[l]? = some z := by rfl) (hij : i ≠ j := by decide) (hil : i ≠ l := by decide) (hjl : j ≠ l := by decide)
    (hx : X.env.scope.names.lookup x = some .local := by rfl) (hy : X.env.scope.names.lookup y = some .local := by rfl) (hz : X.env.scope.names.lookup z = some .local := by rfl) (sa : starEach [a, b, c] X.env = (false, eval a X.env) :: starEach [b, c] X.env := by rfl) (sb : starEach [b, c] X.env = (false, eval b X.env) :: starEach [c] X.env := by rfl) (sc : starEach [c] X.env = (false, eval c X.env) :: starEach [] X.env := by rfl)
    (hw : swappedStores [.Tuple [.Name x px, .Name y py, .Name z pz] kt pt] (.Tuple [a, b, c] k2 pt2) X.env = pure (some [x, y, z]) := by rfl)
    (hs : swapsWithSole [.Tuple [.Name x px, .Name y py, .Name z pz] kt pt] (.Tuple [a, b, c] k2 pt2) pos.line X.env = pure false := by rfl) :
    DS X T Z W (.Assign [.Tuple [.Name x px, .Name y py, .Name z pz] kt pt] (.Tuple [a, b, c] k2 pt2) pos) (sPar3 i j l f g h) :=
  (ps_par3 hc hN hi hj hl hij hil hjl hx hy hz (pa_cons ha (pa_cons hb (pa_cons hcc pa_nil sc) sb) sa) hw hs).imp fun E σ H ⟨F, ρ, s, r, q⟩ =>
  rd.sq r q fun d s1 F1 H1 v r1 st1 rv k => rd.sq r1 k fun e s2 F2 H2 w r2 st2 rw' k => rd.sq r2 k fun u s3 F3 H3 t r3 st3 rt k =>
    ⟨v, w, t, rfl, k F3 H3 _ (Ex.refl F3) (((r3.set hm1 ((rv.mono st2.ff).mono st3.ff)).set hm2 (rw'.mono st3.ff)).set hm3 rt)⟩
end
end DL
set_option Elab.async false
set_option linter.all false
set_option maxRecDepth 100000
set_option maxHeartbeats 4000000
/-! A law's call where its body may ask what is being shown, and lambdas are made. -/
namespace DL
open PySem PySem.Spec PyProof.Rows L2 LamX
/-- what may be tracked at a law's entry: the script, the empty tables -/
structure Entry (cs : List (Addr × Addr)) (a : Addr) (H : Hp) : Prop where
  tab : ∀ p ∈ cs, H p.2 = some (.tbl #[])
  only : ∀ b, H b ≠ none → b = a ∨ b ∈ cs.map (·.2)
  kind : ∀ b, H b = none ∨ b ∈ cs.map (·.2) ∨ ∃ o xs, H b = some (.frz o (.lst xs))
theorem law_callGT {P : Program} {w : World} {K : PySem.W.Frag} {mg mb : Str → Option Value} {CX : CXT} {fa a : Addr} {sp : Sp} {cs : List (Addr × Addr)} {s₁ : Shared} {vs : List Value} {ns : List Int}
    (KX : K.In s₁.heap) (hns : s₁.heap.Ns mainGlobals mg) (hb : s₁.heap.Ns builtinsNs mb) (hbb : ∀ x : Str, x ≠ "__name__" → mb x = bootBuiltins x) (hlim : s₁.heap.NoLimit) (hg : s₁.gens = #[])
    (tab0 : ∀ p ∈ cs, s₁.heap.get? p.2 = some { cls := .none, data := .fields #[] }) (tabK : ∀ p ∈ cs, K.lookup p.2 = none) (cod : ∀ p ∈ cs, PySem.W.CodeHd s₁.heap p.1 p.2)
    (bmain : ∃ (bm : Addr) (ob : Obj), mg "__builtins__" = some (.ref bm) ∧ bm ≠ builtinsNs ∧ s₁.heap.get? bm = some ob ∧ ob.cls = .type "module" ∧ ob.dict = some builtinsNs ∧ ob.data = .plain)
    (ha : s₁.heap.get? a = some { cls := .type "list", data := .seq vs.toArray }) (hi : IntsAre vs ns) (hl : ns.length ≤ sizeLine)
    (F : ∀ base : Heap, K.In base → base.Ns mainGlobals mg → (∀ p ∈ cs, TabB base mg p.1 p.2) → ∀ (H : Hp) (Q : VK) (E : XK), Env0 P w K mg base callerA [] s₁ H → sp [.ref a] H Q E → codeAny (model P w) callerA (.call (.ref fa) ⟨[.ref a], []⟩) (CR CX [] P w H s₁ Q E) s₁)
    (hsp : ∀ H : Hp, (∀ p ∈ cs, H p.2 = some (.tbl #[])) → SqL K H a (ns.map V.int) → sp [.ref a] H (fun v _ => v = .bl true) fun _ _ _ => False)
    (hCX : ∀ H e s', CX [] H s₁ (fun _ _ _ => False) e s' → False) :
    codeAny (model P w) callerA (.call (.ref fa) ⟨[.ref a], []⟩) (fun r s' => r = .ok (.ret (.bool true)) ∧ OldK s₁.heap s'.heap ∧ s'.os = s₁.os ∧ AllBare s'.gens) s₁ := by
  have valsA := vals_ints hi
  have lenA := hi.length
  have objT : ∀ b, b ∈ cs.map (·.2) → s₁.heap.get? b = some { cls := .none, data := .fields #[] } := fun b hb => by
    obtain ⟨p, hp, rfl⟩ := List.mem_map.mp hb
    exact tab0 p hp
  have offT : a ∉ cs.map (·.2) := fun z => by
    have q := objT a z
    rw [ha] at q
    cases q
  have inT : ∀ p ∈ cs, p.2 ∈ cs.map (·.2) := fun p hp => List.mem_map.mpr ⟨p, hp, rfl⟩
  have from_H : ∀ H : Hp, Entry cs a H → SqL K H a (ns.map V.int) → HOk P w H s₁.heap → (H a ≠ none → K.lookup a = none) →
      codeAny (model P w) callerA (.call (.ref fa) ⟨[.ref a], []⟩) (fun r s' => r = .ok (.ret (.bool true)) ∧ OldK s₁.heap s'.heap ∧ s'.os = s₁.os ∧ AllBare s'.gens) s₁ := by
    intro H ent seqA hokH notK
    have low_of : ∀ {b : Addr} {o : Obj}, s₁.heap.get? b = some o → H b = none → (hidT s₁.heap H).get? b = some o := fun e n => hidT_get e n
    -- an object that is neither the script nor a table is not tracked
    have untracked : ∀ {b : Addr} {o : Obj}, s₁.heap.get? b = some o → (∀ ws n, o.data ≠ .seq ws n) → o.data ≠ .fields #[] → H b = none := fun {b o} e h1 h2 => by
      cases q : H b with
      | none => rfl
      | some u =>
        rcases ent.only b (by rw [q]; simp) with z | z
        · rw [z, ha] at e
          cases e
          exact (h1 _ _ rfl).elim
        · rw [objT b z] at e
          cases e
          exact (h2 rfl).elim
    have names_low : ∀ {b : Addr} {m : Str → Option Value}, s₁.heap.Ns b m → (hidT s₁.heap H).Ns b m := fun {b m} ⟨o, es, ep, e, d, r⟩ =>
      ⟨o, es, ep, low_of e (untracked e (fun ws n z => by rw [d] at z; cases z) fun z => by rw [d] at z; cases z), d, r⟩
    have kLow : K.In (hidT s₁.heap H) := fun b o e => low_of (KX b o e) (by
      cases q : H b with
      | none => rfl
      | some u =>
        rcases ent.only b (by rw [q]; simp) with z | z
        · subst z
          rw [notK (by rw [q]; simp)] at e
          cases e
        · obtain ⟨p, hp, rfl⟩ := List.mem_map.mp z
          rw [tabK p hp] at e
          cases e)
    have modLow : Mod K mg (hidT s₁.heap H) := ⟨kLow, names_low hns, ⟨mb, names_low hb, hbb⟩, let ⟨mc, h1, h2⟩ := hlim; ⟨mc, names_low h1, h2⟩⟩
    have tables : ∀ p ∈ cs, TabB (hidT s₁.heap H) mg p.1 p.2 := fun p hp => by
      refine ⟨?_, ?_, fun z => ?_⟩
      · obtain ⟨o, us, file, tf, flags, tg, inF, text, tt, e1, r1, r2, r3, rest⟩ := cod p hp
        refine ⟨o, us, file, tf, flags, tg, inF, text, tt, low_of e1 (untracked e1 (fun ws n z => by rw [r2] at z; cases z) fun z => ?_), r1, r2, r3, rest⟩
        rw [r2] at z
        cases z
        simp at r3
      · obtain ⟨bm, ob, b1, b2, b3, b4, b5, b6⟩ := bmain
        have nG : bm ≠ mainGlobals := fun q => by
          obtain ⟨o, es, ep, e, hd, _⟩ := hns
          rw [q, e] at b3
          cases b3
          rw [hd] at b6
          cases b6
        have nP : bm ≠ p.2 := fun q => by
          rw [q, tab0 p hp] at b3
          cases b3
          cases b6
        exact ⟨bm, ob, b1, b2, nG, nP, low_of b3 (untracked b3 (fun ws n z => by rw [b6] at z; cases z) fun z => by rw [b6] at z; cases z), b4, b5, b6⟩
      · obtain ⟨o, es, ep, e, hd, _⟩ := hns
        rw [z, tab0 p hp] at e
        cases e
        cases hd
    have env_0 : Env0 P w K mg (hidT s₁.heap H) callerA [] s₁ H := ⟨rfl, modLow, fun b o e => of_hidT e, Nat.le_of_eq (hidT_size _ _), trivial, fun b hb => absurd (show b ∈ ([] : List Addr) from hb) (by simp), hokH, .of_eq hg⟩
    refine codeAny_mono (F _ kLow (names_low hns) tables H _ _ env_0 (hsp H ent.tab seqA)) fun r s' h => ?_
    cases r with
    | error e => exact (hCX H e s' h).elim
    | ok fl =>
      cases fl with
      | next => exact False.elim h
      | brk => exact False.elim h
      | cont => exact False.elim h
      | ret u =>
        obtain ⟨v, H', os, bare, un, hok_2, r', q⟩ := h
        have q' : v = .bl true := q
        subst q'
        obtain rfl : u = Value.bool true := r'
        have plainly : ∀ b o, b ∉ cs.map (·.2) → s₁.heap.get? b = some o → s'.heap.get? b = some o := fun b o nb e => by
          cases q : H b with
          | none => exact un.keep b o e q (by intro z; exact absurd (show b ∈ ([] : List Addr) from z) (by simp)) (by simp)
          | some u =>
            rcases ent.kind b with z | z | ⟨ob, xs, z⟩
            · rw [q] at z; cases z
            · exact absurd z nb
            · have zz := un.frzs b ob _ z
              obtain ⟨g1, _⟩ := hokH b _ z
              obtain ⟨g2, _⟩ := hok_2 b _ zz
              rw [e] at g1; cases g1
              exact g2
        have tabEnd : ∀ p ∈ cs, ∃ more : Array Value, s'.heap.get? p.2 = some { cls := .none, data := .fields more } := fun p hp => by
          obtain ⟨more, z⟩ := un.tbls p.2 #[] (ent.tab p hp)
          exact ⟨_, hok_2 p.2 _ z⟩
        refine ⟨rfl, ⟨fun b o e => ?_, fun b o e => ?_⟩, os, bare⟩
        · by_cases hb : b ∈ cs.map (·.2)
          · obtain ⟨p, hp, rfl⟩ := List.mem_map.mp hb
            obtain ⟨more, hm⟩ := tabEnd p hp
            rw [tab0 p hp] at e
            cases e
            exact .inr (.inl ⟨((cod p hp).tab (tab0 p hp)).isCodeTable, rfl, #[], more, rfl, by rw [Array.empty_append]; exact hm⟩)
          · exact .inl (plainly b o hb e)
        · by_cases hb : b ∈ cs.map (·.2)
          · obtain ⟨p, hp, rfl⟩ := List.mem_map.mp hb
            obtain ⟨more, hm⟩ := tabEnd p hp
            exact ⟨_, hm⟩
          · exact ⟨o, plainly b o hb e⟩
  have atTab : ∀ (b : Addr) (u : HO), (if b ∈ cs.map (·.2) then some (HO.tbl #[]) else none) = some u → b ∈ cs.map (·.2) ∧ u = .tbl #[] := fun b u z => by
    by_cases hb : b ∈ cs.map (·.2)
    · rw [if_pos hb] at z
      cases z
      exact ⟨hb, rfl⟩
    · rw [if_neg hb] at z
      cases z
  cases hk : K.lookup a with
  | some o =>
    have e := KX a o hk
    rw [ha] at e
    cases e
    refine from_H (fun b => if b ∈ cs.map (·.2) then some (.tbl #[]) else none) ⟨fun p hp => if_pos (inT p hp), fun b z => ?_, fun b => ?_⟩ (.inr ⟨_, vs.toArray, _, hk, rfl, rfl, rfl, by rw [List.size_toArray, lenA]; exact hl, by simpa using valsA⟩) (fun b u z => ?_) fun z => absurd (show (if a ∈ cs.map (·.2) then some (HO.tbl #[]) else none) = none from if_neg offT) z
    · by_cases hb : b ∈ cs.map (·.2)
      · exact .inr hb
      · exact absurd (if_neg hb) z
    · by_cases hb : b ∈ cs.map (·.2)
      · exact .inr (.inl hb)
      · exact .inl (if_neg hb)
    · obtain ⟨hb, rfl⟩ := atTab b u z
      exact objT b hb
  | none =>
    refine from_H (fun b => if b = a then some (.frz { cls := .type "list", data := .seq vs.toArray } (.lst (ns.map V.int))) else if b ∈ cs.map (·.2) then some (.tbl #[]) else none)
      ⟨fun p hp => (if_neg (show ¬ p.2 = a from fun z => offT (z ▸ inT p hp))).trans (if_pos (inT p hp)), fun b z => ?_, fun b => ?_⟩ (.inl (.inr ⟨{ cls := .type "list", data := .seq vs.toArray }, if_pos rfl⟩)) (fun b u z => ?_) fun _ => hk
    · by_cases hb : b = a
      · exact .inl hb
      · by_cases hb2 : b ∈ cs.map (·.2)
        · exact .inr hb2
        · exact absurd ((if_neg hb).trans (if_neg hb2)) z
    · by_cases hb : b = a
      · exact .inr (.inr ⟨_, _, if_pos hb⟩)
      · by_cases hb2 : b ∈ cs.map (·.2)
        · exact .inr (.inl hb2)
        · exact .inl ((if_neg hb).trans (if_neg hb2))
    · by_cases hb : b = a
      · have z' := (if_pos hb).symm.trans z
        cases z'
        subst hb
        exact ⟨ha, by rw [List.length_map]; exact hl, vs, _, valsA, ha⟩
      · obtain ⟨hb2, rfl⟩ := atTab b u ((if_neg hb).symm.trans z)
        exact objT b hb2
theorem walk_ofGT {l : PySem.W.OpenLaw} {n : Nat} {q : Program} {loose : List Str} {XP : (Str → Option Value) → Heap → Prop} {YP : World → Heap → Prop} {d : DefRec}
    (hn : l.most = some n) (hn2 : n ≤ sizeLine) (hdf : d.params.defaults = [])
    (F : ∀ (w : World) (mg : Str → Option Value) (fa : Addr) (h : Heap), YP w h → h.Ns mainGlobals mg → mg d.name = some (.ref fa) →
      ∃ (K : PySem.W.Frag) (sp : Sp) (cs : List (Addr × Addr)), K.In h ∧ (∀ p ∈ cs, h.get? p.2 = some { cls := .none, data := .fields #[] }) ∧ (∀ p ∈ cs, K.lookup p.2 = none) ∧ (∀ p ∈ cs, PySem.W.CodeHd h p.1 p.2) ∧
        (∀ (H : Hp) (a : Addr) (ns : List Int), ns.length ≤ n → (∀ p ∈ cs, H p.2 = some (.tbl #[])) → SqL K H a (ns.map V.int) → sp [.ref a] H (fun v _ => v = .bl true) fun _ _ _ => False) ∧
        ∀ base : Heap, K.In base → base.Ns mainGlobals mg → (∀ p ∈ cs, TabB base mg p.1 p.2) → ∀ (s₁ : Shared) (a : Addr) (H : Hp) (Q : VK) (E : XK), Env0 l.prog w K mg base callerA [] s₁ H → sp [.ref a] H Q E → codeAny (model l.prog w) callerA (.call (.ref fa) ⟨[.ref a], []⟩) (CR (L2.CX l.prog w) [] l.prog w H s₁ Q E) s₁) :
    PySem.W.WalkO q loose XP YP l.row.toRowW d [] (fun f vs => PySem.call f vs) := by
  refine Att.attach_call hn hdf fun w s₀ s₁ mg mb fa o pm cd doc a vs ns G Y ho hd hcd hmg hobj hints hlen hg => ?_
  obtain ⟨K, sp, cs, KX, t0, tK, tc, hsp, hF⟩ := F w mg fa _ Y G.T.g hmg
  exact law_callGT KX G.T.g G.T.b G.T.builtins G.T.nolimit hg t0 tK tc G.T.bmain hobj hints (Nat.le_trans hlen hn2) (fun base h1 h2 h3 H Q E e0 hs => hF base h1 h2 h3 s₁ a H Q E e0 hs) (fun H hT hS => hsp H a ns hlen hT hS) fun H e s' ⟨_, _, _, _, _, _, _, _, _, _, _, _, z⟩ => z
end DL
set_option Elab.async false
set_option linter.all false
set_option maxRecDepth 100000
set_option maxHeartbeats 4000000
/-! Facts of error classes and of tables; a law's begin with tables. -/
namespace DL
open PySem PySem.Spec PyProof.Rows L2 LamX
/-! ### error classes -/
def exB (K : PySem.W.Frag) (x : Str) : Bool :=
  decide (PySem.W.findIn K (.ref (He.ga K x)) "__getattribute__" = some (some (.builtin "BaseException.__getattribute__"))) && (decide (PySem.W.findIn K (.ref (He.ga K x)) "__getattr__" = some none) &&
  (decide (PySem.W.subIn K (.ref (He.ga K x)) (.type "BaseException") = some true) && (PySem.W.hasDictIn K (He.ga K x) && (decide (PySem.W.findIn K (.ref (He.ga K x)) "__class__" = some (some (.builtin "object.__class__"))) &&
  (decide (PySem.W.specialIn K (.builtin "object.__class__") "__get__" = some (some (.builtin "getset_descriptor.__get__"))) && (decide (PySem.W.takesIn K (.builtin "object.__class__") = some true) && decide (PySem.W.mroIn K (He.ga K x) (.type "object") = some true)))))))
theorem exB_ok {K : PySem.W.Frag} {x : Str} (h : exB K x = true) : ExcC K (He.ga K x) := by
  obtain ⟨h1, h⟩ := He.ba h
  obtain ⟨h2, h⟩ := He.ba h
  obtain ⟨h3, h⟩ := He.ba h
  obtain ⟨h4, h⟩ := He.ba h
  obtain ⟨h5, h⟩ := He.ba h
  obtain ⟨h6, h⟩ := He.ba h
  obtain ⟨h7, h8⟩ := He.ba h
  exact ⟨of_decide_eq_true h1, of_decide_eq_true h2, of_decide_eq_true h3, h4, of_decide_eq_true h5, of_decide_eq_true h6, of_decide_eq_true h7, of_decide_eq_true h8⟩
def gloB (K : PySem.W.Frag) (x : Str) : Bool := He.eqO (PySem.W.nsIn K mainGlobals x) (some (some (.ref (He.ga K x))))
/-- all: the errors that are made; t: the class that the clauses name; cls: the classes asked of, each with those that are one -/
def excsB (K : PySem.W.Frag) (all : List Str) (t : Str) (cls : List (Str × List Str)) : Bool :=
  (gloB K t && all.all fun x => gloB K x && (exB K x && decide (PySem.W.exmOne K (.ref (He.ga K x)) (.ref (He.ga K t)) = some true))) &&
  cls.all fun c => gloB K c.1 && (decide (PySem.W.kitOne K (.type "NoneType") (.ref (He.ga K c.1)) = some false) && all.all fun x => decide (PySem.W.kitOne K (.ref (He.ga K x)) (.ref (He.ga K c.1)) = some (c.2.contains x)))
section
variable {fx : PySem.W.Frag → Bool} {fa : List He.Fa} {fn : List He.DefD} {K : PySem.W.Frag} {mg : Str → Option Value} {all : List Str} {t : Str} {cls : List (Str × List Str)}
theorem Says.gloX (S : Says fx fa fn K mg) {x : Str} (h : gloB K x = true) : mg x = some (.ref (He.ga K x)) := by
  obtain ⟨hh, X, G, _, _⟩ := S
  exact PySem.W.mg_of X G (He.eqO_ok h)
theorem Says.taken (S : Says fx fa fn K mg) (h : excsB K all t cls = true) {X : Cx} (hK : X.K = K) (hm : X.mg = mg) : Taken X (.ref (He.ga K t)) all := fun x hx => by
  obtain ⟨h1, _⟩ := He.ba h
  obtain ⟨_, h2⟩ := He.ba h1
  obtain ⟨h3, h4⟩ := He.ba (List.all_eq_true.mp h2 x hx)
  obtain ⟨_, h5⟩ := He.ba h4
  exact ⟨He.ga K x, by rw [hm]; exact S.gloX h3, by rw [hK]; exact of_decide_eq_true h5⟩
theorem Says.tender (S : Says fx fa fn K mg) (h : excsB K all t cls = true) : mg t = some (.ref (He.ga K t)) := by
  obtain ⟨h1, _⟩ := He.ba h
  obtain ⟨h2, _⟩ := He.ba h1
  exact S.gloX h2
theorem Says.isx (S : Says fx fa fn K mg) (h : excsB K all t cls = true) {X : Cx} (hK : X.K = K) (hm : X.mg = mg) (i : Nat) {x : Str} {sub : List Str} (hi : cls[i]? = some (x, sub) := by rfl) : IsX X x all sub := by
  obtain ⟨h1, h2⟩ := He.ba h
  obtain ⟨_, h3⟩ := He.ba h1
  have hmem : (x, sub) ∈ cls := List.mem_of_getElem? hi
  obtain ⟨h4, h5⟩ := He.ba (List.all_eq_true.mp h2 _ hmem)
  obtain ⟨h6, h7⟩ := He.ba h5
  refine ⟨He.ga K x, by rw [hm]; exact S.gloX h4, by rw [hK]; exact of_decide_eq_true h6, fun y hy => ?_⟩
  obtain ⟨h8, h9⟩ := He.ba (List.all_eq_true.mp h3 y hy)
  obtain ⟨h10, _⟩ := He.ba h9
  exact ⟨He.ga K y, by rw [hm]; exact S.gloX h8, by rw [hK]; exact exB_ok h10, by rw [hK]; exact of_decide_eq_true (List.all_eq_true.mp h7 y hy)⟩
end
/-! ### a def's code -/
theorem FunD.code {K : PySem.W.Frag} {x qual : Str} {params : Arguments} {body : List Stmt} {scope : Scope} {dvs : List V} {kws : List (Str × V)} {fd : FuncData} {p : Str × Option Str} (F : FunD K x qual params body scope dvs kws (He.fAd K p) fd) : codeK K (He.fAd K p) = some (He.codeOf K p) := by
  obtain ⟨oc, od, dV, kV, doc, pm, an, cdv, ct, osl, rfl, lk, hcd, _, _⟩ := F.ex
  obtain ⟨c, rfl⟩ := He.codeIn_ref hcd
  rw [He.codeOf_eq lk rfl]
  unfold codeK
  rw [lk]
/-! ### a law's begin -/
def offTabs (cs : List (Addr × Addr)) (H : Hp) : Hp := fun b => if b ∈ cs.map (·.2) then none else H b
theorem offTabs_ex {cs : List (Addr × Addr)} {H : Hp} : Ex (offTabs cs H) H := fun a o e => by
  unfold offTabs at e
  by_cases h : a ∈ cs.map (·.2)
  · rw [if_pos h] at e; cases e
  · rw [if_neg h] at e; exact e
theorem offTabs_l {cs : List (Addr × Addr)} {K : PySem.W.Frag} {H : Hp} {a : Addr} {xs : List V} (ht : ∀ p ∈ cs, H p.2 = some (.tbl #[])) (h : SqL K H a xs) : SqL K (offTabs cs H) a xs := by
  have off : ∀ u, H a = some u → (∀ ps, u ≠ .tbl ps) → offTabs cs H a = some u := fun u e n => by
    unfold offTabs
    have : a ∉ cs.map (·.2) := fun z => by
      obtain ⟨p, hp, rfl⟩ := List.mem_map.mp z
      rw [ht p hp] at e
      exact n _ (Option.some.inj e).symm
    rw [if_neg this]
    exact e
  rcases h with h | h
  · left
    rcases h with h | ⟨ob, h⟩
    · exact .inl (off _ h nofun)
    · exact .inr ⟨ob, off _ h nofun⟩
  · exact .inr h
theorem at_tabs {o : Wo} {T : Tk} {cs : List (Addr × Addr)} {q : Addr × Addr → Str} {F' H H' : Hp} {p : Addr} {fp : List Addr} {s : T.S} (ht : ∀ p ∈ cs, H p.2 = some (.tbl #[])) (st : Stp [] (offTabs cs H) H F' H') (hfp : ∀ b ∈ fp, H b = none ∧ F' b = none) (hat : T.At o F' H' p fp s) :
    (tkT T (cs.map fun c => (c.2, q c))).At o F' H' p (fp ++ (cs.map fun c => (c.2, q c)).map (·.1)) s ∧ ∀ b ∈ fp ++ (cs.map fun c => (c.2, q c)).map (·.1), F' b = none := by
  have inT : ∀ a, a ∈ (cs.map fun c => (c.2, q c)).map (·.1) → ∃ c ∈ cs, a = c.2 := fun a ha => by
    rw [List.map_map] at ha
    obtain ⟨c, hc, e⟩ := List.mem_map.mp ha
    exact ⟨c, hc, e.symm⟩
  refine ⟨⟨fp, rfl, fun a ha z => ?_, hat, fun t h => ?_⟩, fun b hb => ?_⟩
  · obtain ⟨c, hc, rfl⟩ := inT a z
    have := (hfp _ ha).1
    rw [ht c hc] at this
    cases this
  · obtain ⟨c, hc, rfl⟩ := List.mem_map.mp h
    exact ⟨#[], st.hh _ _ (ht c hc) (by simp), True.intro, fun pos cv k => by
      have z : codeAmong pos [] = some cv := k
      simp [codeAmong] at z⟩
  · rcases List.mem_append.mp hb with hb | hb
    · exact (hfp b hb).2
    · obtain ⟨c, hc, rfl⟩ := inT b hb
      cases e : F' c.2 with
      | none => rfl
      | some u =>
        have h0 : offTabs cs H c.2 = none := if_pos (List.mem_map.mpr ⟨c, hc, rfl⟩)
        have := st.new c.2 h0 (by rw [e]; exact nofun)
        rw [ht c hc] at this
        cases this
theorem rl_lawT {o : Wo} {T : Tk} {p a : Addr} {fp : List Addr} {F H : Hp} {d : T.S} {ns : List Int} {m : List Mode} {k : Nat} (ex : Ex F H) (hat : T.At o F H p fp d) (hfp : ∀ b ∈ fp, F b = none) (hS : SqL o.K F a (ns.map V.int)) (hm0 : m.getD 0 .sh = .sh) (hm1 : m.getD 1 .sh = .tok) :
    Rl o T ⟨p, fp, F, H, m⟩ F H (some (.st (ns.map D.int)) :: some .tok :: List.replicate k none) d (some (.ref a) :: some (.ref p) :: List.replicate k none) := by
  have none_at : ∀ {α : Type} (i : Nat) (x : α), (List.replicate k (none : Option α))[i]? = some (some x) → False := fun i x h => by
    rw [List.getElem?_replicate] at h
    split at h <;> cases h
  refine ⟨Stp.refl ex, hat, fun b hb => ⟨hfp b hb, T.tr hat b hb⟩, fun i e he => ?_, fun i j b d1 e1 hij h1 h2 h3 h4 h5 h6 => ?_, by simp⟩
  · match i, he with
    | 0, he =>
      cases he
      refine ⟨_, rfl, ?_⟩
      unfold Slot
      rw [show Fx.md ⟨p, fp, F, H, m⟩ 0 = .sh from hm0]
      exact ⟨a, _, rfl, hS, RpL.ints ns⟩
    | 1, he =>
      cases he
      refine ⟨_, rfl, ?_⟩
      unfold Slot
      rw [show Fx.md ⟨p, fp, F, H, m⟩ 1 = .tok from hm1]
      exact ⟨rfl, rfl⟩
    | i + 2, he => exact (none_at i e he).elim
  · match i, j, h1, h2, h3, h4 with
    | 0, _, h1, _, _, _ => rw [show Fx.md ⟨p, fp, F, H, m⟩ 0 = .sh from hm0] at h1; cases h1
    | 1, _, h1, _, _, _ => rw [show Fx.md ⟨p, fp, F, H, m⟩ 1 = .tok from hm1] at h1; cases h1
    | i + 2, _, _, _, h3, _ => exact none_at i d1 h3
end DL
namespace DL
open PySem PySem.Spec PyProof.Rows L2
theorem kl_of {sg : Scope} {n y : Str} (ln : sg.names.lookup n = some .local) (ly : sg.names.lookup y = some .local) : ∀ X : Cx, X.env.scope = sg → X.env.kindOf n = some .local ∧ X.env.kindOf y = some .local := fun X h => by
  subst h
  exact ⟨ln, ly⟩
end DL
set_option Elab.async false
set_option linter.all false
set_option maxRecDepth 100000
set_option maxHeartbeats 4000000
namespace DL
open PySem PySem.Spec PyProof.Rows L2
namespace K68
abbrev top (i : Nat) : Stmt := (PySem.W.OpenLaw.row PySem.Challenge.rw_protestproof_k68_bids_fields_and_formula).prog.main.body.getD i (.Pass ⟨0, 0, 0, 0⟩)
def d_is_whole : He.DefD := ⟨("is_whole", none), "is_whole", "is_whole", defArgs (top 11), defBody (top 11), defScope (top 11), [], []⟩
def d_is_bid : He.DefD := ⟨("is_bid", none), "is_bid", "is_bid", defArgs (top 12), defBody (top 12), defScope (top 12), [], []⟩
def d_is_field : He.DefD := ⟨("is_field", none), "is_field", "is_field", defArgs (top 13), defBody (top 13), defScope (top 13), [], []⟩
def d_need_field : He.DefD := ⟨("need_field", none), "need_field", "need_field", defArgs (top 14), defBody (top 14), defScope (top 14), [], []⟩
def d_need_index : He.DefD := ⟨("need_index", none), "need_index", "need_index", defArgs (top 15), defBody (top 15), defScope (top 15), [], []⟩
def d_prices_of : He.DefD := ⟨("prices_of", none), "prices_of", "prices_of", defArgs (top 16), defBody (top 16), defScope (top 16), [], []⟩
def d_is_term : He.DefD := ⟨("is_term", none), "is_term", "is_term", defArgs (top 21), defBody (top 21), defScope (top 21), [], []⟩
def d_is_formula : He.DefD := ⟨("is_formula", none), "is_formula", "is_formula", defArgs (top 22), defBody (top 22), defScope (top 22), [], []⟩
def d_need_formula : He.DefD := ⟨("need_formula", none), "need_formula", "need_formula", defArgs (top 23), defBody (top 23), defScope (top 23), [], []⟩
def d_mark_weights : He.DefD := ⟨("mark_weights", none), "mark_weights", "mark_weights", defArgs (top 24), defBody (top 24), defScope (top 24), [], []⟩
def d_relative_weights : He.DefD := ⟨("relative_weights", none), "relative_weights", "relative_weights", defArgs (top 25), defBody (top 25), defScope (top 25), [], []⟩
def d_marks_part : He.DefD := ⟨("marks_part", none), "marks_part", "marks_part", defArgs (top 27), defBody (top 27), defScope (top 27), [], []⟩
def d_score_of : He.DefD := ⟨("score_of", none), "score_of", "score_of", defArgs (top 28), defBody (top 28), defScope (top 28), [], []⟩
def d_scores_of : He.DefD := ⟨("scores_of", none), "scores_of", "scores_of", defArgs (top 29), defBody (top 29), defScope (top 29), [], []⟩
def d_score : He.DefD := ⟨("score", none), "score", "score", defArgs (top 30), defBody (top 30), defScope (top 30), [], []⟩
def d_scores : He.DefD := ⟨("scores", none), "scores", "scores", defArgs (top 31), defBody (top 31), defScope (top 31), [], []⟩
def d_leads : He.DefD := ⟨("leads", none), "leads", "leads", defArgs (top 33), defBody (top 33), defScope (top 33), [], []⟩
def d_ranking_of : He.DefD := ⟨("ranking_of", none), "ranking_of", "ranking_of", defArgs (top 34), defBody (top 34), defScope (top 34), [], []⟩
def d_ranking : He.DefD := ⟨("ranking", none), "ranking", "ranking", defArgs (top 35), defBody (top 35), defScope (top 35), [], []⟩
def d_ahead : He.DefD := ⟨("ahead", none), "ahead", "ahead", defArgs (top 36), defBody (top 36), defScope (top 36), [], []⟩
def d_order_without : He.DefD := ⟨("order_without", none), "order_without", "order_without", defArgs (top 38), defBody (top 38), defScope (top 38), [], []⟩
def d_turned_pairs : He.DefD := ⟨("turned_pairs", none), "turned_pairs", "turned_pairs", defArgs (top 39), defBody (top 39), defScope (top 39), [], []⟩
def d_spoilers : He.DefD := ⟨("spoilers", none), "spoilers", "spoilers", defArgs (top 40), defBody (top 40), defScope (top 40), [], []⟩
def d_first_spoilers : He.DefD := ⟨("first_spoilers", none), "first_spoilers", "first_spoilers", defArgs (top 41), defBody (top 41), defScope (top 41), [], []⟩
def d_differences : He.DefD := ⟨("differences", none), "differences", "differences", defArgs (top 44), defBody (top 44), defScope (top 44), [], []⟩
def d_half_sums : He.DefD := ⟨("half_sums", none), "half_sums", "half_sums", defArgs (top 45), defBody (top 45), defScope (top 45), [], []⟩
def d_least_sum : He.DefD := ⟨("least_sum", none), "least_sum", "least_sum", defArgs (top 46), defBody (top 46), defScope (top 46), [], []⟩
def d_least_mark_sum : He.DefD := ⟨("least_mark_sum", none), "least_mark_sum", "least_mark_sum", defArgs (top 47), defBody (top 47), defScope (top 47), [], []⟩
def d_passes_with : He.DefD := ⟨("passes_with", none), "passes_with", "passes_with", defArgs (top 48), defBody (top 48), defScope (top 48), [], []⟩
def d_passes : He.DefD := ⟨("passes", none), "passes", "passes", defArgs (top 49), defBody (top 49), defScope (top 49), [], []⟩
def d_marks_for : He.DefD := ⟨("marks_for", none), "marks_for", "marks_for", defArgs (top 50), defBody (top 50), defScope (top 50), [], []⟩
def d_reaches : He.DefD := ⟨("reaches", none), "reaches", "reaches", defArgs (top 51), defBody (top 51), defScope (top 51), [], []⟩
def d_dear_price : He.DefD := ⟨("dear_price", none), "dear_price", "dear_price", defArgs (top 52), defBody (top 52), defScope (top 52), [], []⟩
def d_turn_prices : He.DefD := ⟨("turn_prices", none), "turn_prices", "turn_prices", defArgs (top 53), defBody (top 53), defScope (top 53), [], []⟩
def d_turn : He.DefD := ⟨("turn", none), "turn", "turn", defArgs (top 54), defBody (top 54), defScope (top 54), [], []⟩
def d_is_turn : He.DefD := ⟨("is_turn", none), "is_turn", "is_turn", defArgs (top 55), defBody (top 55), defScope (top 55), [], []⟩
def d_law_begun : He.DefD := ⟨("_law_begun", none), "_law_begun", "_law_begun", defArgs (top 57), defBody (top 57), defScope (top 57), [], []⟩
def d_law_mixed : He.DefD := ⟨("_law_mixed", none), "_law_mixed", "_law_mixed", defArgs (top 58), defBody (top 58), defScope (top 58), [], []⟩
def d_law_take : He.DefD := ⟨("_law_take", none), "_law_take", "_law_take", defArgs (top 59), defBody (top 59), defScope (top 59), [], []⟩
def d_law_pick : He.DefD := ⟨("_law_pick", none), "_law_pick", "_law_pick", defArgs (top 60), defBody (top 60), defScope (top 60), [], []⟩
def d_law_caught : He.DefD := ⟨("_law_caught", none), "_law_caught", "_law_caught", defArgs (top 61), defBody (top 61), defScope (top 61), [], []⟩
def d_law_price : He.DefD := ⟨("_law_price", none), "_law_price", "_law_price", defArgs (top 62), defBody (top 62), defScope (top 62), [], []⟩
def d_law_bid : He.DefD := ⟨("_law_bid", none), "_law_bid", "_law_bid", defArgs (top 63), defBody (top 63), defScope (top 63), [], []⟩
def d_law_field : He.DefD := ⟨("_law_field", none), "_law_field", "_law_field", defArgs (top 64), defBody (top 64), defScope (top 64), [], []⟩
def d_law_formula : He.DefD := ⟨("_law_formula", none), "_law_formula", "_law_formula", defArgs (top 65), defBody (top 65), defScope (top 65), [], []⟩
def d_law_bent_bid : He.DefD := ⟨("_law_bent_bid", none), "_law_bent_bid", "_law_bent_bid", defArgs (top 66), defBody (top 66), defScope (top 66), [], []⟩
def d_law_bent_formula : He.DefD := ⟨("_law_bent_formula", none), "_law_bent_formula", "_law_bent_formula", defArgs (top 67), defBody (top 67), defScope (top 67), [], []⟩
def d_law_refused : He.DefD := ⟨("_law_refused", none), "_law_refused", "_law_refused", defArgs (top 68), defBody (top 68), defScope (top 68), [], []⟩
def d_law_is_kind : He.DefD := ⟨("_law_is_kind", none), "_law_is_kind", "_law_is_kind", defArgs (top 69), defBody (top 69), defScope (top 69), [], []⟩
def d_law : He.DefD := ⟨("law", none), "law", "law", defArgs (top 70), defBody (top 70), defScope (top 70), [], []⟩
def fn : List He.DefD := [d_is_whole, d_is_bid, d_is_field, d_need_field, d_need_index, d_prices_of, d_is_term, d_is_formula, d_need_formula, d_mark_weights, d_relative_weights, d_marks_part, d_score_of, d_scores_of, d_score, d_scores, d_leads, d_ranking_of, d_ranking, d_ahead, d_order_without, d_turned_pairs, d_spoilers, d_first_spoilers, d_differences, d_half_sums, d_least_sum, d_least_mark_sum, d_passes_with, d_passes, d_marks_for, d_reaches, d_dear_price, d_turn_prices, d_turn, d_is_turn, d_law_begun, d_law_mixed, d_law_take, d_law_pick, d_law_caught, d_law_price, d_law_bid, d_law_field, d_law_formula, d_law_bent_bid, d_law_bent_formula, d_law_refused, d_law_is_kind, d_law]
def fa : List He.Fa := [.free "isinstance", .free "int", .free "bool", .glo "is_whole", .free "tuple", .free "len", .free "str", .int "MARK_COUNT" 4, .int "MOST_PRICE" 1000000000, .int "MOST_MARK" 100, .free "all", .glo "is_bid", .free "list", .int "MOST_BIDS" 130, .glo "is_field", .glo "BadField", .exc "BadField", .glo "need_field", .glo "BadIndex", .exc "BadIndex", .glo "need_index", .int "MOST_WEIGHT" 1000, .glo "RELATIVES", .glo "is_term", .int "MOST_TERMS" 6, .glo "is_formula", .glo "BadFormula", .exc "BadFormula", .glo "need_formula", .glo "mark_weights", .free "sum", .glo "relative_weights", .glo "score", .glo "scores", .glo "ranking", .glo "ahead", .glo "spoilers", .glo "first_spoilers", .glo "least_mark_sum", .glo "passes", .glo "turn", .glo "is_turn", .free "abs", .glo "_law_begun", .glo "_law_mixed", .glo "_law_take", .glo "_law_pick", .glo "_law_price", .free "range", .glo "_law_bid", .glo "_law_field", .glo "_law_formula", .glo "_law_bent_bid", .glo "_law_bent_formula", .glo "_law_caught", .glo "_law_is_kind", .glo "_law_refused", .free "min", .free "repr", .glo "law"]
def exAll : List Str := ["BadField", "BadIndex", "BadFormula"]
def exCls : List (Str × List Str) := [("BadFormula", ["BadFormula"]), ("BadField", ["BadField"]), ("BadIndex", ["BadIndex"])]
def fx (K : PySem.W.Frag) : Bool := excsB K exAll "TenderError" exCls && (He.tupB K "RELATIVES" [.str "low", .str "range", .str "mean"])
def lamD : He.Defn := ("_law_refused", none)
def tabs (K : PySem.W.Frag) : List (Addr × Str) := [((He.cT K lamD).2, ((("_law_refused" : Str) ++ ".<locals>.") ++ "<lambda>"))]
theorem tabs_mem (K : PySem.W.Frag) : ((He.cT K lamD).2, ((("_law_refused" : Str) ++ ".<locals>.") ++ "<lambda>")) ∈ tabs K := List.mem_singleton.mpr rfl
theorem tabs_one (K : PySem.W.Frag) : ∀ t ∈ tabs K, t.1 = (He.cT K lamD).2 → t.2 = ((("_law_refused" : Str) ++ ".<locals>.") ++ "<lambda>") := fun t ht _ => by rw [List.mem_singleton.mp ht]
section
variable {P : Program} {w : World} {K : PySem.W.Frag} {mg : Str → Option Value} {base : Heap}
def c_RELATIVES : D := .tup [.str "low", .str "range", .str "mean"]
theorem tab_RELATIVES (S : Says fx fa fn K mg) (H : Hp) : SqT K H (He.ga K "RELATIVES") [.str "low", .str "range", .str "mean"] := He.tupB_ok (vs := [.str "low", .str "range", .str "mean"]) ((He.ba S.fx_).2) H
theorem rp_RELATIVES (o : Wo) (F : Hp) : RpL o F [.str "low", .str "range", .str "mean"] [.str "low", .str "range", .str "mean"] := ⟨_, _, rfl, rfl, ⟨_, _, rfl, rfl, ⟨_, _, rfl, rfl, rfl⟩⟩⟩
theorem ex_ok (S : Says fx fa fn K mg) : excsB K exAll "TenderError" exCls = true := (He.ba S.fx_).1
theorem sc_law_caught : FnScope ["work", "caught", "error"] ["work"] (defScope (top 61)) := ⟨rfl, rfl, rfl, by decide +kernel, rfl, by decide +kernel, by decide +kernel⟩
theorem gives (S : Says fx fa fn K mg) (X : Cx) (hK : X.K = K) (hm : X.mg = mg) (g : Addr) (cdg : Value) (q : Str) : LamX.GivesTo X ["work", "caught", "error"] "_law_caught" (defScope (top 61)) g cdg (defBody (top 61)) "work" q (TCaught X.K (.ref (He.ga K "TenderError"))) :=
  caught_gives (c := .ref (He.ga K "TenderError")) rfl sc_law_caught.nd rfl (by rw [hm]; exact S.tender (ex_ok S)) (by decide) rfl rfl rfl (by decide) (by decide) (by decide) (by decide) (kl_of rfl rfl)
/-! ### is_whole -/
def g_is_whole : G Unit := (sRet (dAndV (dUn (isiD .int) (dVar 0)) (dAndV (dNotV (dUn (isiD .bool) (dVar 0))) (dChain leD leD (dVar 1) (dVar 0) (dVar 2)))))
def f_is_whole : Fn Unit := runB 3 g_is_whole
theorem sc_is_whole : FnScope ["thing", "low", "high"] ["thing", "low", "high"] (defScope (top 11)) := ⟨rfl, rfl, rfl, by decide +kernel, rfl, by decide +kernel, by decide +kernel⟩
theorem b_is_whole (S : Says fx fa fn K mg) (cdv : Value) (A : Around) (outer : List PySem.Env) (s : Shared) (H : Hp) (E : XK) (p : Addr) (fp : List Addr) (F0 : Hp) (hr : Room 0 (cxD P w K mg base ["thing", "low", "high"] "is_whole" (defScope (top 11)) (He.fAd K ("is_whole", none)) cdv A outer s H E).A) (tk : Takes (cxD P w K mg base ["thing", "low", "high"] "is_whole" (defScope (top 11)) (He.fAd K ("is_whole", none)) cdv A outer s H E) (fun cls d _ H => E cls d H))
    (hp : PassesOwn (model P w) (cxD P w K mg base ["thing", "low", "high"] "is_whole" (defScope (top 11)) (He.fAd K ("is_whole", none)) cdv A outer s H E).A (cxD P w K mg base ["thing", "low", "high"] "is_whole" (defScope (top 11)) (He.fAd K ("is_whole", none)) cdv A outer s H E).env (cxD P w K mg base ["thing", "low", "high"] "is_whole" (defScope (top 11)) (He.fAd K ("is_whole", none)) cdv A outer s H E).xe) : DSs (cxD P w K mg base ["thing", "low", "high"] "is_whole" (defScope (top 11)) (He.fAd K ("is_whole", none)) cdv A outer s H E) Tk.no ⟨p, fp, F0, H, [.sh, .sh, .sh]⟩ (fun cls d _ H => E cls d H) (defBody (top 11)) g_is_whole := by
  have hN := sc_is_whole.nd
  exact (dss_one (ds_ret (de_and (de_isi .int (S.free 0) (S.free 1) (dr_var 0)) (de_and (de_not (de_isi .bool (S.free 0) (S.free 2) (dr_var 0))) (de_one (de_chain op_leD op_leD (dr_var 1) (dr_var 0) (dr_var 2)))))))
theorem has_is_whole (S : Says fx fa fn K mg) : Has P w K mg base 1 "is_whole" ["thing", "low", "high"] (spC ⟨K, mg⟩ Tk.no [.sh, .sh, .sh] f_is_whole) := by
  obtain ⟨fd, F⟩ := S.fun_ 0 (d := d_is_whole) rfl
  have ok : FnOk P w K mg base (L2.CX P w) 1 (He.fAd K ("is_whole", none)) fd ["thing", "low", "high"] (spC ⟨K, mg⟩ Tk.no [.sh, .sh, .sh] f_is_whole) := fn_clean (N := ["thing", "low", "high"]) [.sh, .sh, .sh] F sc_is_whole rfl (by decide) (b_is_whole S)
  exact ⟨_, fd, S.glo 3, F.kp, F.bindsN fun _ _ _ _ _ _ us hl => match us, hl with | [_, _, _], _ => rfl, ok⟩
/-! ### is_bid -/
def g_is_bid : G Unit := (sSeq (sIf (dOr (dNot (dTru (dUn (isiD .tuple) (dVar 0)))) (dOr (dCmpT neD (dCall lenD (dCons (dVar 0) dNil)) (dC (.int 3))) (dOr (dNot (dTru (dUn (isiD .str) (dBin ixD (dVar 0) (dC (.int 0)))))) (dCmpT neD (dBin ixD (dVar 0) (dC (.int 0))) (dC (.str "bid")))))) (sRet (dC (.bl false))) sNext)
  (sSeq (sSet (dBin ixD (dVar 0) (dC (.int 2))) 1)
  (sSeq (sIf (dOr (dNot (dTru (dUn (isiD .tuple) (dVar 1)))) (dOr (dCmpT neD (dCall lenD (dCons (dVar 1) dNil)) (dC (.int 4))) (dNot (dTru (dCallF (fun ds => liftP (f_is_whole ds)) (dCons (dBin ixD (dVar 0) (dC (.int 1))) (dCons (dC (.int 1)) (dCons (dC (.int 1000000000)) dNil)))))))) (sRet (dC (.bl false))) sNext)
  (sRet (dCall allD (dCons (dComp (dItems (dVar 1)) (gSet 2) [2] dYes (dCallF (fun ds => liftP (f_is_whole ds)) (dCons (dVar 2) (dCons (dC (.int 0)) (dCons (dC (.int 100)) dNil))))) dNil))))))
def f_is_bid : Fn Unit := runB 3 g_is_bid
theorem sc_is_bid : FnScope ["thing", "marks", "mark"] ["thing"] (defScope (top 12)) := ⟨rfl, rfl, rfl, by decide +kernel, rfl, by decide +kernel, by decide +kernel⟩
theorem b_is_bid (S : Says fx fa fn K mg) (cdv : Value) (A : Around) (outer : List PySem.Env) (s : Shared) (H : Hp) (E : XK) (p : Addr) (fp : List Addr) (F0 : Hp) (hr : Room 1 (cxD P w K mg base ["thing", "marks", "mark"] "is_bid" (defScope (top 12)) (He.fAd K ("is_bid", none)) cdv A outer s H E).A) (tk : Takes (cxD P w K mg base ["thing", "marks", "mark"] "is_bid" (defScope (top 12)) (He.fAd K ("is_bid", none)) cdv A outer s H E) (fun cls d _ H => E cls d H))
    (hp : PassesOwn (model P w) (cxD P w K mg base ["thing", "marks", "mark"] "is_bid" (defScope (top 12)) (He.fAd K ("is_bid", none)) cdv A outer s H E).A (cxD P w K mg base ["thing", "marks", "mark"] "is_bid" (defScope (top 12)) (He.fAd K ("is_bid", none)) cdv A outer s H E).env (cxD P w K mg base ["thing", "marks", "mark"] "is_bid" (defScope (top 12)) (He.fAd K ("is_bid", none)) cdv A outer s H E).xe) : DSs (cxD P w K mg base ["thing", "marks", "mark"] "is_bid" (defScope (top 12)) (He.fAd K ("is_bid", none)) cdv A outer s H E) Tk.no ⟨p, fp, F0, H, [.sh, .sh, .sh]⟩ (fun cls d _ H => E cls d H) (defBody (top 12)) g_is_bid := by
  have h_is_whole := has_is_whole (P := P) (w := w) (base := base) S
  have hN := sc_is_bid.nd
  exact (dss_cons (ds_if (dt_w (dw_or (dt_not (dt_tru (dr_of (de_isi .tuple (S.free 0) (S.free 4) (dr_var 0))))) (dw_or (dt_cmp (op_neQ hr.units) (dr_of (de_callB cr_lenD (S.free 5) (dar_cons (dr_var 0) dar_nil))) (dr_of de_int) (nomark _)) (dw_or (dt_not (dt_tru (dr_of (de_isi .str (S.free 0) (S.free 6) (dr_of (de_ix (dr_var 0) de_int)))))) (dw_or1 (dt_cmp (op_neQ hr.units) (dr_of (de_ix (dr_var 0) de_int)) (dr_of de_str) (nomark _))))))) (dss_one (ds_ret de_bl)) dss_nil)
  (dss_cons (ds_set 1 hN (de_ix (dr_var 0) de_int))
  (dss_cons (ds_if (dt_w (dw_or (dt_not (dt_tru (dr_of (de_isi .tuple (S.free 0) (S.free 4) (dr_var 1))))) (dw_or (dt_cmp (op_neQ hr.units) (dr_of (de_callB cr_lenD (S.free 5) (dar_cons (dr_var 1) dar_nil))) (dr_of (de_globI (S.int 7))) (nomark _)) (dw_or1 (dt_not (dt_tru (dr_of (de_call (h_is_whole.mono (by decide)) hr tk (dm_sh (de_ix (dr_var 0) de_int) (dm_sh de_int (dm_sh (de_globI (S.int 8)) dm_nil))))))))))) (dss_one (ds_ret de_bl)) dss_nil)
  (dss_one (ds_ret (de_callB (cr_allD rfl) (S.free 10) (dar_cons (dr_of (de_of (df_comp [("mark", 2)] rfl hN rfl (di_seq (de_var 1)) (blk_of (by rfl)) (fun _ _ _ _ _ => (dg_name 2 hN)) (fun _ _ _ _ _ => dts_nil) (fun _ _ _ _ _ => (de_call (h_is_whole.mono (by decide)) hr takes0 (dm_sh (de_var 2) (dm_sh de_int (dm_sh (de_globI (S.int 9)) dm_nil)))))))) dar_nil)))))))
theorem has_is_bid (S : Says fx fa fn K mg) : Has P w K mg base 2 "is_bid" ["thing"] (spC ⟨K, mg⟩ Tk.no [.sh] f_is_bid) := by
  obtain ⟨fd, F⟩ := S.fun_ 1 (d := d_is_bid) rfl
  have ok : FnOk P w K mg base (L2.CX P w) 2 (He.fAd K ("is_bid", none)) fd ["thing"] (spC ⟨K, mg⟩ Tk.no [.sh] f_is_bid) := fn_clean (N := ["thing", "marks", "mark"]) [.sh] F sc_is_bid rfl (by decide) (b_is_bid S)
  exact ⟨_, fd, S.glo 11, F.kp, F.bindsN fun _ _ _ _ _ _ us hl => match us, hl with | [_], _ => rfl, ok⟩
/-! ### is_field -/
def g_is_field : G Unit := (sRet (dAndV (dUn (isi2D .list .tuple) (dVar 0)) (dAndV (dBin leD (dCall lenD (dCons (dVar 0) dNil)) (dC (.int 130))) (dCall allD (dCons (dComp (dItems (dVar 0)) (gSet 1) [1] dYes (dCallF (fun ds => liftP (f_is_bid ds)) (dCons (dVar 1) dNil))) dNil)))))
def f_is_field : Fn Unit := runB 2 g_is_field
theorem sc_is_field : FnScope ["thing", "bid"] ["thing"] (defScope (top 13)) := ⟨rfl, rfl, rfl, by decide +kernel, rfl, by decide +kernel, by decide +kernel⟩
theorem b_is_field (S : Says fx fa fn K mg) (cdv : Value) (A : Around) (outer : List PySem.Env) (s : Shared) (H : Hp) (E : XK) (p : Addr) (fp : List Addr) (F0 : Hp) (hr : Room 2 (cxD P w K mg base ["thing", "bid"] "is_field" (defScope (top 13)) (He.fAd K ("is_field", none)) cdv A outer s H E).A) (tk : Takes (cxD P w K mg base ["thing", "bid"] "is_field" (defScope (top 13)) (He.fAd K ("is_field", none)) cdv A outer s H E) (fun cls d _ H => E cls d H))
    (hp : PassesOwn (model P w) (cxD P w K mg base ["thing", "bid"] "is_field" (defScope (top 13)) (He.fAd K ("is_field", none)) cdv A outer s H E).A (cxD P w K mg base ["thing", "bid"] "is_field" (defScope (top 13)) (He.fAd K ("is_field", none)) cdv A outer s H E).env (cxD P w K mg base ["thing", "bid"] "is_field" (defScope (top 13)) (He.fAd K ("is_field", none)) cdv A outer s H E).xe) : DSs (cxD P w K mg base ["thing", "bid"] "is_field" (defScope (top 13)) (He.fAd K ("is_field", none)) cdv A outer s H E) Tk.no ⟨p, fp, F0, H, [.sh, .sh]⟩ (fun cls d _ H => E cls d H) (defBody (top 13)) g_is_field := by
  have h_is_bid := has_is_bid (P := P) (w := w) (base := base) S
  have hN := sc_is_field.nd
  exact (dss_one (ds_ret (de_and (de_isi2 .list .tuple (S.free 0) (S.free 12) (S.free 4) (dr_var 0)) (de_and (de_cmp op_leD (dr_of (de_callB cr_lenD (S.free 5) (dar_cons (dr_var 0) dar_nil))) (dr_of (de_globI (S.int 13))) (nomark _)) (de_one (de_callB (cr_allD rfl) (S.free 10) (dar_cons (dr_of (de_of (df_comp [("bid", 1)] rfl hN rfl (di_seq (de_var 0)) (blk_of (by rfl)) (fun _ _ _ _ _ => (dg_name 1 hN)) (fun _ _ _ _ _ => dts_nil) (fun _ _ _ _ _ => (de_call (h_is_bid.mono (by decide)) hr takes0 (dm_sh (de_var 1) dm_nil)))))) dar_nil)))))))
theorem has_is_field (S : Says fx fa fn K mg) : Has P w K mg base 3 "is_field" ["thing"] (spC ⟨K, mg⟩ Tk.no [.sh] f_is_field) := by
  obtain ⟨fd, F⟩ := S.fun_ 2 (d := d_is_field) rfl
  have ok : FnOk P w K mg base (L2.CX P w) 3 (He.fAd K ("is_field", none)) fd ["thing"] (spC ⟨K, mg⟩ Tk.no [.sh] f_is_field) := fn_clean (N := ["thing", "bid"]) [.sh] F sc_is_field rfl (by decide) (b_is_field S)
  exact ⟨_, fd, S.glo 14, F.kp, F.bindsN fun _ _ _ _ _ _ us hl => match us, hl with | [_], _ => rfl, ok⟩
/-! ### need_field -/
def g_need_field : G Unit := (sIf (dNot (dTru (dCallF (fun ds => liftP (f_is_field ds)) (dCons (dVar 0) dNil)))) (sRaise "BadField") sNext)
def f_need_field : Fn Unit := runB 1 g_need_field
theorem sc_need_field : FnScope ["field"] ["field"] (defScope (top 14)) := ⟨rfl, rfl, rfl, by decide +kernel, rfl, by decide +kernel, by decide +kernel⟩
theorem b_need_field (S : Says fx fa fn K mg) (cdv : Value) (A : Around) (outer : List PySem.Env) (s : Shared) (H : Hp) (E : XK) (p : Addr) (fp : List Addr) (F0 : Hp) (hr : Room 3 (cxD P w K mg base ["field"] "need_field" (defScope (top 14)) (He.fAd K ("need_field", none)) cdv A outer s H E).A) (tk : Takes (cxD P w K mg base ["field"] "need_field" (defScope (top 14)) (He.fAd K ("need_field", none)) cdv A outer s H E) (fun cls d _ H => E cls d H))
    (hp : PassesOwn (model P w) (cxD P w K mg base ["field"] "need_field" (defScope (top 14)) (He.fAd K ("need_field", none)) cdv A outer s H E).A (cxD P w K mg base ["field"] "need_field" (defScope (top 14)) (He.fAd K ("need_field", none)) cdv A outer s H E).env (cxD P w K mg base ["field"] "need_field" (defScope (top 14)) (He.fAd K ("need_field", none)) cdv A outer s H E).xe) : DSs (cxD P w K mg base ["field"] "need_field" (defScope (top 14)) (He.fAd K ("need_field", none)) cdv A outer s H E) Tk.no ⟨p, fp, F0, H, [.sh]⟩ (fun cls d _ H => E cls d H) (defBody (top 14)) g_need_field := by
  have h_is_field := has_is_field (P := P) (w := w) (base := base) S
  have hN := sc_need_field.nd
  exact (dss_one (ds_if (dt_not (dt_tru (dr_of (de_call (h_is_field.mono (by decide)) hr tk (dm_sh (de_var 0) dm_nil))))) (dss_one (ds_raise rfl tk PySem.F.excBase_ValueError (S.exc 16).1 (S.glo 15) (S.exc 16).2.1 (raises_own (S.exc 16).2.2.1 (S.exc 16).2.2.2))) dss_nil))
theorem has_need_field (S : Says fx fa fn K mg) : Has P w K mg base 4 "need_field" ["field"] (spC ⟨K, mg⟩ Tk.no [.sh] f_need_field) := by
  obtain ⟨fd, F⟩ := S.fun_ 3 (d := d_need_field) rfl
  have ok : FnOk P w K mg base (L2.CX P w) 4 (He.fAd K ("need_field", none)) fd ["field"] (spC ⟨K, mg⟩ Tk.no [.sh] f_need_field) := fn_clean (N := ["field"]) [.sh] F sc_need_field rfl (by decide) (b_need_field S)
  exact ⟨_, fd, S.glo 17, F.kp, F.bindsN fun _ _ _ _ _ _ us hl => match us, hl with | [_], _ => rfl, ok⟩
/-! ### need_index -/
def g_need_index : G Unit := (sIf (dNot (dTru (dCallF (fun ds => liftP (f_is_whole ds)) (dCons (dVar 1) (dCons (dC (.int 0)) (dCons (dBin subD (dCall lenD (dCons (dVar 0) dNil)) (dC (.int 1))) dNil)))))) (sRaise "BadIndex") sNext)
def f_need_index : Fn Unit := runB 2 g_need_index
theorem sc_need_index : FnScope ["field", "index"] ["field", "index"] (defScope (top 15)) := ⟨rfl, rfl, rfl, by decide +kernel, rfl, by decide +kernel, by decide +kernel⟩
theorem b_need_index (S : Says fx fa fn K mg) (cdv : Value) (A : Around) (outer : List PySem.Env) (s : Shared) (H : Hp) (E : XK) (p : Addr) (fp : List Addr) (F0 : Hp) (hr : Room 1 (cxD P w K mg base ["field", "index"] "need_index" (defScope (top 15)) (He.fAd K ("need_index", none)) cdv A outer s H E).A) (tk : Takes (cxD P w K mg base ["field", "index"] "need_index" (defScope (top 15)) (He.fAd K ("need_index", none)) cdv A outer s H E) (fun cls d _ H => E cls d H))
    (hp : PassesOwn (model P w) (cxD P w K mg base ["field", "index"] "need_index" (defScope (top 15)) (He.fAd K ("need_index", none)) cdv A outer s H E).A (cxD P w K mg base ["field", "index"] "need_index" (defScope (top 15)) (He.fAd K ("need_index", none)) cdv A outer s H E).env (cxD P w K mg base ["field", "index"] "need_index" (defScope (top 15)) (He.fAd K ("need_index", none)) cdv A outer s H E).xe) : DSs (cxD P w K mg base ["field", "index"] "need_index" (defScope (top 15)) (He.fAd K ("need_index", none)) cdv A outer s H E) Tk.no ⟨p, fp, F0, H, [.sh, .sh]⟩ (fun cls d _ H => E cls d H) (defBody (top 15)) g_need_index := by
  have h_is_whole := has_is_whole (P := P) (w := w) (base := base) S
  have hN := sc_need_index.nd
  exact (dss_one (ds_if (dt_not (dt_tru (dr_of (de_call (h_is_whole.mono (by decide)) hr tk (dm_sh (de_var 1) (dm_sh de_int (dm_sh (de_op op_subD (dr_of (de_callB cr_lenD (S.free 5) (dar_cons (dr_var 0) dar_nil))) (dr_of de_int)) dm_nil))))))) (dss_one (ds_raise rfl tk PySem.F.excBase_ValueError (S.exc 19).1 (S.glo 18) (S.exc 19).2.1 (raises_own (S.exc 19).2.2.1 (S.exc 19).2.2.2))) dss_nil))
theorem has_need_index (S : Says fx fa fn K mg) : Has P w K mg base 2 "need_index" ["field", "index"] (spC ⟨K, mg⟩ Tk.no [.sh, .sh] f_need_index) := by
  obtain ⟨fd, F⟩ := S.fun_ 4 (d := d_need_index) rfl
  have ok : FnOk P w K mg base (L2.CX P w) 2 (He.fAd K ("need_index", none)) fd ["field", "index"] (spC ⟨K, mg⟩ Tk.no [.sh, .sh] f_need_index) := fn_clean (N := ["field", "index"]) [.sh, .sh] F sc_need_index rfl (by decide) (b_need_index S)
  exact ⟨_, fd, S.glo 20, F.kp, F.bindsN fun _ _ _ _ _ _ us hl => match us, hl with | [_, _], _ => rfl, ok⟩
/-! ### is_term -/
def g_is_term : G Unit := (sSeq (sIf (dOr (dNot (dTru (dUn (isiD .tuple) (dVar 0)))) (dOr (dCmpT ltD (dCall lenD (dCons (dVar 0) dNil)) (dC (.int 2))) (dNot (dTru (dUn (isiD .str) (dBin ixD (dVar 0) (dC (.int 0)))))))) (sRet (dC (.bl false))) sNext)
  (sSeq (sIf (dCmpT eqD (dBin ixD (dVar 0) (dC (.int 0))) (dC (.str "mark"))) (sRet (dAndV (dBin eqD (dCall lenD (dCons (dVar 0) dNil)) (dC (.int 3))) (dAndV (dCallF (fun ds => liftP (f_is_whole ds)) (dCons (dBin ixD (dVar 0) (dC (.int 1))) (dCons (dC (.int 0)) (dCons (dBin subD (dC (.int 4)) (dC (.int 1))) dNil)))) (dCallF (fun ds => liftP (f_is_whole ds)) (dCons (dBin ixD (dVar 0) (dC (.int 2))) (dCons (dC (.int 1)) (dCons (dC (.int 1000)) dNil))))))) sNext)
  (sRet (dAndV (dBin inD (dBin ixD (dVar 0) (dC (.int 0))) (dC c_RELATIVES)) (dAndV (dBin eqD (dCall lenD (dCons (dVar 0) dNil)) (dC (.int 2))) (dCallF (fun ds => liftP (f_is_whole ds)) (dCons (dBin ixD (dVar 0) (dC (.int 1))) (dCons (dC (.int 1)) (dCons (dC (.int 1000)) dNil)))))))))
def f_is_term : Fn Unit := runB 1 g_is_term
theorem sc_is_term : FnScope ["thing"] ["thing"] (defScope (top 21)) := ⟨rfl, rfl, rfl, by decide +kernel, rfl, by decide +kernel, by decide +kernel⟩
theorem b_is_term (S : Says fx fa fn K mg) (cdv : Value) (A : Around) (outer : List PySem.Env) (s : Shared) (H : Hp) (E : XK) (p : Addr) (fp : List Addr) (F0 : Hp) (hr : Room 1 (cxD P w K mg base ["thing"] "is_term" (defScope (top 21)) (He.fAd K ("is_term", none)) cdv A outer s H E).A) (tk : Takes (cxD P w K mg base ["thing"] "is_term" (defScope (top 21)) (He.fAd K ("is_term", none)) cdv A outer s H E) (fun cls d _ H => E cls d H))
    (hp : PassesOwn (model P w) (cxD P w K mg base ["thing"] "is_term" (defScope (top 21)) (He.fAd K ("is_term", none)) cdv A outer s H E).A (cxD P w K mg base ["thing"] "is_term" (defScope (top 21)) (He.fAd K ("is_term", none)) cdv A outer s H E).env (cxD P w K mg base ["thing"] "is_term" (defScope (top 21)) (He.fAd K ("is_term", none)) cdv A outer s H E).xe) : DSs (cxD P w K mg base ["thing"] "is_term" (defScope (top 21)) (He.fAd K ("is_term", none)) cdv A outer s H E) Tk.no ⟨p, fp, F0, H, [.sh]⟩ (fun cls d _ H => E cls d H) (defBody (top 21)) g_is_term := by
  have h_is_whole := has_is_whole (P := P) (w := w) (base := base) S
  have hN := sc_is_term.nd
  exact (dss_cons (ds_if (dt_w (dw_or (dt_not (dt_tru (dr_of (de_isi .tuple (S.free 0) (S.free 4) (dr_var 0))))) (dw_or (dt_cmp op_ltD (dr_of (de_callB cr_lenD (S.free 5) (dar_cons (dr_var 0) dar_nil))) (dr_of de_int) (nomark _)) (dw_or1 (dt_not (dt_tru (dr_of (de_isi .str (S.free 0) (S.free 6) (dr_of (de_ix (dr_var 0) de_int)))))))))) (dss_one (ds_ret de_bl)) dss_nil)
  (dss_cons (ds_if (dt_cmp (op_eqQ hr.units) (dr_of (de_ix (dr_var 0) de_int)) (dr_of de_str) (nomark _)) (dss_one (ds_ret (de_and (de_cmp (op_eqQ hr.units) (dr_of (de_callB cr_lenD (S.free 5) (dar_cons (dr_var 0) dar_nil))) (dr_of de_int) (nomark _)) (de_and (de_call (h_is_whole.mono (by decide)) hr tk (dm_sh (de_ix (dr_var 0) de_int) (dm_sh de_int (dm_sh (de_op op_subD (dr_of (de_globI (S.int 7))) (dr_of de_int)) dm_nil)))) (de_one (de_call (h_is_whole.mono (by decide)) hr tk (dm_sh (de_ix (dr_var 0) de_int) (dm_sh de_int (dm_sh (de_globI (S.int 21)) dm_nil))))))))) dss_nil)
  (dss_one (ds_ret (de_and (de_cmp op_inQ (dr_of (de_ix (dr_var 0) de_int)) (dr_of (de_globT (S.glo 22) (tab_RELATIVES S) (rp_RELATIVES _))) (by rfl)) (de_and (de_cmp (op_eqQ hr.units) (dr_of (de_callB cr_lenD (S.free 5) (dar_cons (dr_var 0) dar_nil))) (dr_of de_int) (nomark _)) (de_one (de_call (h_is_whole.mono (by decide)) hr tk (dm_sh (de_ix (dr_var 0) de_int) (dm_sh de_int (dm_sh (de_globI (S.int 21)) dm_nil)))))))))))
theorem has_is_term (S : Says fx fa fn K mg) : Has P w K mg base 2 "is_term" ["thing"] (spC ⟨K, mg⟩ Tk.no [.sh] f_is_term) := by
  obtain ⟨fd, F⟩ := S.fun_ 6 (d := d_is_term) rfl
  have ok : FnOk P w K mg base (L2.CX P w) 2 (He.fAd K ("is_term", none)) fd ["thing"] (spC ⟨K, mg⟩ Tk.no [.sh] f_is_term) := fn_clean (N := ["thing"]) [.sh] F sc_is_term rfl (by decide) (b_is_term S)
  exact ⟨_, fd, S.glo 23, F.kp, F.bindsN fun _ _ _ _ _ _ us hl => match us, hl with | [_], _ => rfl, ok⟩
/-! ### is_formula -/
def g_is_formula : G Unit := (sRet (dAndV (dUn (isiD .tuple) (dVar 0)) (dAndV (dBin leD (dCall lenD (dCons (dVar 0) dNil)) (dC (.int 6))) (dCall allD (dCons (dComp (dItems (dVar 0)) (gSet 1) [1] dYes (dCallF (fun ds => liftP (f_is_term ds)) (dCons (dVar 1) dNil))) dNil)))))
def f_is_formula : Fn Unit := runB 2 g_is_formula
theorem sc_is_formula : FnScope ["thing", "term"] ["thing"] (defScope (top 22)) := ⟨rfl, rfl, rfl, by decide +kernel, rfl, by decide +kernel, by decide +kernel⟩
theorem b_is_formula (S : Says fx fa fn K mg) (cdv : Value) (A : Around) (outer : List PySem.Env) (s : Shared) (H : Hp) (E : XK) (p : Addr) (fp : List Addr) (F0 : Hp) (hr : Room 2 (cxD P w K mg base ["thing", "term"] "is_formula" (defScope (top 22)) (He.fAd K ("is_formula", none)) cdv A outer s H E).A) (tk : Takes (cxD P w K mg base ["thing", "term"] "is_formula" (defScope (top 22)) (He.fAd K ("is_formula", none)) cdv A outer s H E) (fun cls d _ H => E cls d H))
    (hp : PassesOwn (model P w) (cxD P w K mg base ["thing", "term"] "is_formula" (defScope (top 22)) (He.fAd K ("is_formula", none)) cdv A outer s H E).A (cxD P w K mg base ["thing", "term"] "is_formula" (defScope (top 22)) (He.fAd K ("is_formula", none)) cdv A outer s H E).env (cxD P w K mg base ["thing", "term"] "is_formula" (defScope (top 22)) (He.fAd K ("is_formula", none)) cdv A outer s H E).xe) : DSs (cxD P w K mg base ["thing", "term"] "is_formula" (defScope (top 22)) (He.fAd K ("is_formula", none)) cdv A outer s H E) Tk.no ⟨p, fp, F0, H, [.sh, .sh]⟩ (fun cls d _ H => E cls d H) (defBody (top 22)) g_is_formula := by
  have h_is_term := has_is_term (P := P) (w := w) (base := base) S
  have hN := sc_is_formula.nd
  exact (dss_one (ds_ret (de_and (de_isi .tuple (S.free 0) (S.free 4) (dr_var 0)) (de_and (de_cmp op_leD (dr_of (de_callB cr_lenD (S.free 5) (dar_cons (dr_var 0) dar_nil))) (dr_of (de_globI (S.int 24))) (nomark _)) (de_one (de_callB (cr_allD rfl) (S.free 10) (dar_cons (dr_of (de_of (df_comp [("term", 1)] rfl hN rfl (di_seq (de_var 0)) (blk_of (by rfl)) (fun _ _ _ _ _ => (dg_name 1 hN)) (fun _ _ _ _ _ => dts_nil) (fun _ _ _ _ _ => (de_call (h_is_term.mono (by decide)) hr takes0 (dm_sh (de_var 1) dm_nil)))))) dar_nil)))))))
theorem has_is_formula (S : Says fx fa fn K mg) : Has P w K mg base 3 "is_formula" ["thing"] (spC ⟨K, mg⟩ Tk.no [.sh] f_is_formula) := by
  obtain ⟨fd, F⟩ := S.fun_ 7 (d := d_is_formula) rfl
  have ok : FnOk P w K mg base (L2.CX P w) 3 (He.fAd K ("is_formula", none)) fd ["thing"] (spC ⟨K, mg⟩ Tk.no [.sh] f_is_formula) := fn_clean (N := ["thing", "term"]) [.sh] F sc_is_formula rfl (by decide) (b_is_formula S)
  exact ⟨_, fd, S.glo 25, F.kp, F.bindsN fun _ _ _ _ _ _ us hl => match us, hl with | [_], _ => rfl, ok⟩
/-! ### need_formula -/
def g_need_formula : G Unit := (sIf (dNot (dTru (dCallF (fun ds => liftP (f_is_formula ds)) (dCons (dVar 0) dNil)))) (sRaise "BadFormula") sNext)
def f_need_formula : Fn Unit := runB 1 g_need_formula
theorem sc_need_formula : FnScope ["formula"] ["formula"] (defScope (top 23)) := ⟨rfl, rfl, rfl, by decide +kernel, rfl, by decide +kernel, by decide +kernel⟩
theorem b_need_formula (S : Says fx fa fn K mg) (cdv : Value) (A : Around) (outer : List PySem.Env) (s : Shared) (H : Hp) (E : XK) (p : Addr) (fp : List Addr) (F0 : Hp) (hr : Room 3 (cxD P w K mg base ["formula"] "need_formula" (defScope (top 23)) (He.fAd K ("need_formula", none)) cdv A outer s H E).A) (tk : Takes (cxD P w K mg base ["formula"] "need_formula" (defScope (top 23)) (He.fAd K ("need_formula", none)) cdv A outer s H E) (fun cls d _ H => E cls d H))
    (hp : PassesOwn (model P w) (cxD P w K mg base ["formula"] "need_formula" (defScope (top 23)) (He.fAd K ("need_formula", none)) cdv A outer s H E).A (cxD P w K mg base ["formula"] "need_formula" (defScope (top 23)) (He.fAd K ("need_formula", none)) cdv A outer s H E).env (cxD P w K mg base ["formula"] "need_formula" (defScope (top 23)) (He.fAd K ("need_formula", none)) cdv A outer s H E).xe) : DSs (cxD P w K mg base ["formula"] "need_formula" (defScope (top 23)) (He.fAd K ("need_formula", none)) cdv A outer s H E) Tk.no ⟨p, fp, F0, H, [.sh]⟩ (fun cls d _ H => E cls d H) (defBody (top 23)) g_need_formula := by
  have h_is_formula := has_is_formula (P := P) (w := w) (base := base) S
  have hN := sc_need_formula.nd
  exact (dss_one (ds_if (dt_not (dt_tru (dr_of (de_call (h_is_formula.mono (by decide)) hr tk (dm_sh (de_var 0) dm_nil))))) (dss_one (ds_raise rfl tk PySem.F.excBase_ValueError (S.exc 27).1 (S.glo 26) (S.exc 27).2.1 (raises_own (S.exc 27).2.2.1 (S.exc 27).2.2.2))) dss_nil))
theorem has_need_formula (S : Says fx fa fn K mg) : Has P w K mg base 4 "need_formula" ["formula"] (spC ⟨K, mg⟩ Tk.no [.sh] f_need_formula) := by
  obtain ⟨fd, F⟩ := S.fun_ 8 (d := d_need_formula) rfl
  have ok : FnOk P w K mg base (L2.CX P w) 4 (He.fAd K ("need_formula", none)) fd ["formula"] (spC ⟨K, mg⟩ Tk.no [.sh] f_need_formula) := fn_clean (N := ["formula"]) [.sh] F sc_need_formula rfl (by decide) (b_need_formula S)
  exact ⟨_, fd, S.glo 28, F.kp, F.bindsN fun _ _ _ _ _ _ us hl => match us, hl with | [_], _ => rfl, ok⟩
/-! ### mark_weights -/
def g_mark_weights : G Unit := (sSeq (sDrop (dCallF (fun ds => liftP (f_need_formula ds)) (dCons (dVar 0) dNil)))
  (sSeq (sSet (dBin repLD (fun ρ => do M.opt (lstOk (← (dCons (dC (.int 0)) dNil) ρ))) (dC (.int 4))) 1)
  (sSeq (sFor (dItems (dVar 0)) (gSet 2) (sIf (dCmpT eqD (dBin ixD (dVar 2) (dC (.int 0))) (dC (.str "mark"))) (sAugL 1 addI (dBin ixD (dVar 2) (dC (.int 1))) (dBin ixD (dVar 2) (dC (.int 2)))) sNext))
  (sRet (dCall tupleD (dCons (dVar 1) dNil))))))
def f_mark_weights : Fn Unit := runB 3 g_mark_weights
theorem sc_mark_weights : FnScope ["formula", "sums", "term"] ["formula"] (defScope (top 24)) := ⟨rfl, rfl, rfl, by decide +kernel, rfl, by decide +kernel, by decide +kernel⟩
theorem b_mark_weights (S : Says fx fa fn K mg) (cdv : Value) (A : Around) (outer : List PySem.Env) (s : Shared) (H : Hp) (E : XK) (p : Addr) (fp : List Addr) (F0 : Hp) (hr : Room 4 (cxD P w K mg base ["formula", "sums", "term"] "mark_weights" (defScope (top 24)) (He.fAd K ("mark_weights", none)) cdv A outer s H E).A) (tk : Takes (cxD P w K mg base ["formula", "sums", "term"] "mark_weights" (defScope (top 24)) (He.fAd K ("mark_weights", none)) cdv A outer s H E) (fun cls d _ H => E cls d H))
    (hp : PassesOwn (model P w) (cxD P w K mg base ["formula", "sums", "term"] "mark_weights" (defScope (top 24)) (He.fAd K ("mark_weights", none)) cdv A outer s H E).A (cxD P w K mg base ["formula", "sums", "term"] "mark_weights" (defScope (top 24)) (He.fAd K ("mark_weights", none)) cdv A outer s H E).env (cxD P w K mg base ["formula", "sums", "term"] "mark_weights" (defScope (top 24)) (He.fAd K ("mark_weights", none)) cdv A outer s H E).xe) : DSs (cxD P w K mg base ["formula", "sums", "term"] "mark_weights" (defScope (top 24)) (He.fAd K ("mark_weights", none)) cdv A outer s H E) Tk.no ⟨p, fp, F0, H, [.sh, .own, .sh]⟩ (fun cls d _ H => E cls d H) (defBody (top 24)) g_mark_weights := by
  have h_need_formula := has_need_formula (P := P) (w := w) (base := base) S
  have hN := sc_mark_weights.nd
  exact (dss_cons (ds_expr (dr_of (de_call (h_need_formula.mono (by decide)) hr tk (dm_sh (de_var 0) dm_nil))))
  (dss_cons (ds_setO 1 hN (df_rep (df_lst (da_cons de_int da_nil)) (dr_of (de_globI (S.int 7)))))
  (dss_cons (ds_for (us := [2]) hp rfl (di_seq (de_var 0)) (dg_name 2 hN) (dss_one (ds_if (dt_cmp (op_eqQ hr.units) (dr_of (de_ix (dr_var 2) de_int)) (dr_of de_str) (nomark _)) (dss_one (ds_augAt 1 (de_ix (dr_var 2) de_int) (de_ix (dr_var 2) de_int) ip_addQ)) dss_nil)))
  (dss_one (ds_ret (de_callT cr_tupleD (S.free 4) (dar_cons (dr_var 1) dar_nil)))))))
theorem has_mark_weights (S : Says fx fa fn K mg) : Has P w K mg base 5 "mark_weights" ["formula"] (spC ⟨K, mg⟩ Tk.no [.sh] f_mark_weights) := by
  obtain ⟨fd, F⟩ := S.fun_ 9 (d := d_mark_weights) rfl
  have ok : FnOk P w K mg base (L2.CX P w) 5 (He.fAd K ("mark_weights", none)) fd ["formula"] (spC ⟨K, mg⟩ Tk.no [.sh] f_mark_weights) := fn_clean (N := ["formula", "sums", "term"]) [.sh] F sc_mark_weights rfl (by decide) (b_mark_weights S)
  exact ⟨_, fd, S.glo 29, F.kp, F.bindsN fun _ _ _ _ _ _ us hl => match us, hl with | [_], _ => rfl, ok⟩
/-! ### relative_weights -/
def g_relative_weights : G Unit := (sSeq (sDrop (dCallF (fun ds => liftP (f_need_formula ds)) (dCons (dVar 0) dNil)))
  (sRet (dCall tupleD (dCons (dComp (dItems (dC c_RELATIVES)) (gSet 1) [1] dYes (dCall sumAD (dCons (dComp (dItems (dVar 0)) (gSet 2) [2] (dCmpT eqD (dBin ixD (dVar 2) (dC (.int 0))) (dVar 1)) (dBin ixD (dVar 2) (dC (.int 1)))) dNil))) dNil))))
def f_relative_weights : Fn Unit := runB 3 g_relative_weights
theorem sc_relative_weights : FnScope ["formula", "word", "term"] ["formula"] (defScope (top 25)) := ⟨rfl, rfl, rfl, by decide +kernel, rfl, by decide +kernel, by decide +kernel⟩
theorem b_relative_weights (S : Says fx fa fn K mg) (cdv : Value) (A : Around) (outer : List PySem.Env) (s : Shared) (H : Hp) (E : XK) (p : Addr) (fp : List Addr) (F0 : Hp) (hr : Room 4 (cxD P w K mg base ["formula", "word", "term"] "relative_weights" (defScope (top 25)) (He.fAd K ("relative_weights", none)) cdv A outer s H E).A) (tk : Takes (cxD P w K mg base ["formula", "word", "term"] "relative_weights" (defScope (top 25)) (He.fAd K ("relative_weights", none)) cdv A outer s H E) (fun cls d _ H => E cls d H))
    (hp : PassesOwn (model P w) (cxD P w K mg base ["formula", "word", "term"] "relative_weights" (defScope (top 25)) (He.fAd K ("relative_weights", none)) cdv A outer s H E).A (cxD P w K mg base ["formula", "word", "term"] "relative_weights" (defScope (top 25)) (He.fAd K ("relative_weights", none)) cdv A outer s H E).env (cxD P w K mg base ["formula", "word", "term"] "relative_weights" (defScope (top 25)) (He.fAd K ("relative_weights", none)) cdv A outer s H E).xe) : DSs (cxD P w K mg base ["formula", "word", "term"] "relative_weights" (defScope (top 25)) (He.fAd K ("relative_weights", none)) cdv A outer s H E) Tk.no ⟨p, fp, F0, H, [.sh, .sh, .sh]⟩ (fun cls d _ H => E cls d H) (defBody (top 25)) g_relative_weights := by
  have h_need_formula := has_need_formula (P := P) (w := w) (base := base) S
  have hN := sc_relative_weights.nd
  exact (dss_cons (ds_expr (dr_of (de_call (h_need_formula.mono (by decide)) hr tk (dm_sh (de_var 0) dm_nil))))
  (dss_one (ds_ret (de_callT cr_tupleD (S.free 4) (dar_cons (dr_of (de_of (df_comp [("word", 1)] rfl hN rfl (di_seq (de_globT (S.glo 22) (tab_RELATIVES S) (rp_RELATIVES _))) (blk_of (by rfl)) (fun _ _ _ _ _ => (dg_name 1 hN)) (fun _ _ _ _ _ => dts_nil) (fun _ _ _ _ _ => (de_callB (cr_sumAD rfl) (S.free 30) (dar_cons (dr_of (de_of (df_comp [("term", 2)] rfl hN rfl (di_seq (de_var 0)) (blk_of (by rfl)) (fun _ _ _ _ _ => (dg_name 2 hN)) (fun _ _ _ _ _ => (dts_one (dt_cmp (op_eqQ hr.units) (dr_of (de_ix (dr_var 2) de_int)) (dr_var 1) (nomark _)))) (fun _ _ _ _ _ => (de_ix (dr_var 2) de_int))))) dar_nil)))))) dar_nil)))))
theorem has_relative_weights (S : Says fx fa fn K mg) : Has P w K mg base 5 "relative_weights" ["formula"] (spC ⟨K, mg⟩ Tk.no [.sh] f_relative_weights) := by
  obtain ⟨fd, F⟩ := S.fun_ 10 (d := d_relative_weights) rfl
  have ok : FnOk P w K mg base (L2.CX P w) 5 (He.fAd K ("relative_weights", none)) fd ["formula"] (spC ⟨K, mg⟩ Tk.no [.sh] f_relative_weights) := fn_clean (N := ["formula", "word", "term"]) [.sh] F sc_relative_weights rfl (by decide) (b_relative_weights S)
  exact ⟨_, fd, S.glo 31, F.kp, F.bindsN fun _ _ _ _ _ _ us hl => match us, hl with | [_], _ => rfl, ok⟩
/-! ### score -/
def g_score : G Unit := (sSeq (sDrop (dCallF (fun ds => liftP (f_need_formula ds)) (dCons (dVar 0) dNil)))
  (sSeq (sDrop (dCallF (fun ds => liftP (f_need_field ds)) (dCons (dVar 1) dNil)))
  (sSeq (sDrop (dCallF (fun ds => liftP (f_need_index ds)) (dCons (dVar 1) (dCons (dVar 2) dNil))))
  sStuck)))
def f_score : Fn Unit := runB 3 g_score
theorem sc_score : FnScope ["formula", "field", "index"] ["formula", "field", "index"] (defScope (top 30)) := ⟨rfl, rfl, rfl, by decide +kernel, rfl, by decide +kernel, by decide +kernel⟩
theorem b_score (S : Says fx fa fn K mg) (cdv : Value) (A : Around) (outer : List PySem.Env) (s : Shared) (H : Hp) (E : XK) (p : Addr) (fp : List Addr) (F0 : Hp) (hr : Room 4 (cxD P w K mg base ["formula", "field", "index"] "score" (defScope (top 30)) (He.fAd K ("score", none)) cdv A outer s H E).A) (tk : Takes (cxD P w K mg base ["formula", "field", "index"] "score" (defScope (top 30)) (He.fAd K ("score", none)) cdv A outer s H E) (fun cls d _ H => E cls d H))
    (hp : PassesOwn (model P w) (cxD P w K mg base ["formula", "field", "index"] "score" (defScope (top 30)) (He.fAd K ("score", none)) cdv A outer s H E).A (cxD P w K mg base ["formula", "field", "index"] "score" (defScope (top 30)) (He.fAd K ("score", none)) cdv A outer s H E).env (cxD P w K mg base ["formula", "field", "index"] "score" (defScope (top 30)) (He.fAd K ("score", none)) cdv A outer s H E).xe) : DSs (cxD P w K mg base ["formula", "field", "index"] "score" (defScope (top 30)) (He.fAd K ("score", none)) cdv A outer s H E) Tk.no ⟨p, fp, F0, H, [.sh, .sh, .sh]⟩ (fun cls d _ H => E cls d H) (defBody (top 30)) g_score := by
  have h_need_formula := has_need_formula (P := P) (w := w) (base := base) S
  have h_need_field := has_need_field (P := P) (w := w) (base := base) S
  have h_need_index := has_need_index (P := P) (w := w) (base := base) S
  have hN := sc_score.nd
  exact (dss_cons (ds_expr (dr_of (de_call (h_need_formula.mono (by decide)) hr tk (dm_sh (de_var 0) dm_nil))))
  (dss_cons (ds_expr (dr_of (de_call (h_need_field.mono (by decide)) hr tk (dm_sh (de_var 1) dm_nil))))
  (dss_cons (ds_expr (dr_of (de_call (h_need_index.mono (by decide)) hr tk (dm_sh (de_var 1) (dm_sh (de_var 2) dm_nil)))))
  dss_stuck)))
theorem has_score (S : Says fx fa fn K mg) : Has P w K mg base 5 "score" ["formula", "field", "index"] (spC ⟨K, mg⟩ Tk.no [.sh, .sh, .sh] f_score) := by
  obtain ⟨fd, F⟩ := S.fun_ 14 (d := d_score) rfl
  have ok : FnOk P w K mg base (L2.CX P w) 5 (He.fAd K ("score", none)) fd ["formula", "field", "index"] (spC ⟨K, mg⟩ Tk.no [.sh, .sh, .sh] f_score) := fn_clean (N := ["formula", "field", "index"]) [.sh, .sh, .sh] F sc_score rfl (by decide) (b_score S)
  exact ⟨_, fd, S.glo 32, F.kp, F.bindsN fun _ _ _ _ _ _ us hl => match us, hl with | [_, _, _], _ => rfl, ok⟩
/-! ### scores -/
def g_scores : G Unit := (sSeq (sDrop (dCallF (fun ds => liftP (f_need_formula ds)) (dCons (dVar 0) dNil)))
  (sSeq (sDrop (dCallF (fun ds => liftP (f_need_field ds)) (dCons (dVar 1) dNil)))
  sStuck))
def f_scores : Fn Unit := runB 2 g_scores
theorem sc_scores : FnScope ["formula", "field"] ["formula", "field"] (defScope (top 31)) := ⟨rfl, rfl, rfl, by decide +kernel, rfl, by decide +kernel, by decide +kernel⟩
theorem b_scores (S : Says fx fa fn K mg) (cdv : Value) (A : Around) (outer : List PySem.Env) (s : Shared) (H : Hp) (E : XK) (p : Addr) (fp : List Addr) (F0 : Hp) (hr : Room 4 (cxD P w K mg base ["formula", "field"] "scores" (defScope (top 31)) (He.fAd K ("scores", none)) cdv A outer s H E).A) (tk : Takes (cxD P w K mg base ["formula", "field"] "scores" (defScope (top 31)) (He.fAd K ("scores", none)) cdv A outer s H E) (fun cls d _ H => E cls d H))
    (hp : PassesOwn (model P w) (cxD P w K mg base ["formula", "field"] "scores" (defScope (top 31)) (He.fAd K ("scores", none)) cdv A outer s H E).A (cxD P w K mg base ["formula", "field"] "scores" (defScope (top 31)) (He.fAd K ("scores", none)) cdv A outer s H E).env (cxD P w K mg base ["formula", "field"] "scores" (defScope (top 31)) (He.fAd K ("scores", none)) cdv A outer s H E).xe) : DSs (cxD P w K mg base ["formula", "field"] "scores" (defScope (top 31)) (He.fAd K ("scores", none)) cdv A outer s H E) Tk.no ⟨p, fp, F0, H, [.sh, .sh]⟩ (fun cls d _ H => E cls d H) (defBody (top 31)) g_scores := by
  have h_need_formula := has_need_formula (P := P) (w := w) (base := base) S
  have h_need_field := has_need_field (P := P) (w := w) (base := base) S
  have hN := sc_scores.nd
  exact (dss_cons (ds_expr (dr_of (de_call (h_need_formula.mono (by decide)) hr tk (dm_sh (de_var 0) dm_nil))))
  (dss_cons (ds_expr (dr_of (de_call (h_need_field.mono (by decide)) hr tk (dm_sh (de_var 1) dm_nil))))
  dss_stuck))
theorem has_scores (S : Says fx fa fn K mg) : Has P w K mg base 5 "scores" ["formula", "field"] (spC ⟨K, mg⟩ Tk.no [.sh, .sh] f_scores) := by
  obtain ⟨fd, F⟩ := S.fun_ 15 (d := d_scores) rfl
  have ok : FnOk P w K mg base (L2.CX P w) 5 (He.fAd K ("scores", none)) fd ["formula", "field"] (spC ⟨K, mg⟩ Tk.no [.sh, .sh] f_scores) := fn_clean (N := ["formula", "field"]) [.sh, .sh] F sc_scores rfl (by decide) (b_scores S)
  exact ⟨_, fd, S.glo 33, F.kp, F.bindsN fun _ _ _ _ _ _ us hl => match us, hl with | [_, _], _ => rfl, ok⟩
/-! ### ranking -/
def g_ranking : G Unit := (sSeq (sDrop (dCallF (fun ds => liftP (f_need_formula ds)) (dCons (dVar 0) dNil)))
  (sSeq (sDrop (dCallF (fun ds => liftP (f_need_field ds)) (dCons (dVar 1) dNil)))
  sStuck))
def f_ranking : Fn Unit := runB 2 g_ranking
theorem sc_ranking : FnScope ["formula", "field"] ["formula", "field"] (defScope (top 35)) := ⟨rfl, rfl, rfl, by decide +kernel, rfl, by decide +kernel, by decide +kernel⟩
theorem b_ranking (S : Says fx fa fn K mg) (cdv : Value) (A : Around) (outer : List PySem.Env) (s : Shared) (H : Hp) (E : XK) (p : Addr) (fp : List Addr) (F0 : Hp) (hr : Room 4 (cxD P w K mg base ["formula", "field"] "ranking" (defScope (top 35)) (He.fAd K ("ranking", none)) cdv A outer s H E).A) (tk : Takes (cxD P w K mg base ["formula", "field"] "ranking" (defScope (top 35)) (He.fAd K ("ranking", none)) cdv A outer s H E) (fun cls d _ H => E cls d H))
    (hp : PassesOwn (model P w) (cxD P w K mg base ["formula", "field"] "ranking" (defScope (top 35)) (He.fAd K ("ranking", none)) cdv A outer s H E).A (cxD P w K mg base ["formula", "field"] "ranking" (defScope (top 35)) (He.fAd K ("ranking", none)) cdv A outer s H E).env (cxD P w K mg base ["formula", "field"] "ranking" (defScope (top 35)) (He.fAd K ("ranking", none)) cdv A outer s H E).xe) : DSs (cxD P w K mg base ["formula", "field"] "ranking" (defScope (top 35)) (He.fAd K ("ranking", none)) cdv A outer s H E) Tk.no ⟨p, fp, F0, H, [.sh, .sh]⟩ (fun cls d _ H => E cls d H) (defBody (top 35)) g_ranking := by
  have h_need_formula := has_need_formula (P := P) (w := w) (base := base) S
  have h_need_field := has_need_field (P := P) (w := w) (base := base) S
  have hN := sc_ranking.nd
  exact (dss_cons (ds_expr (dr_of (de_call (h_need_formula.mono (by decide)) hr tk (dm_sh (de_var 0) dm_nil))))
  (dss_cons (ds_expr (dr_of (de_call (h_need_field.mono (by decide)) hr tk (dm_sh (de_var 1) dm_nil))))
  dss_stuck))
theorem has_ranking (S : Says fx fa fn K mg) : Has P w K mg base 5 "ranking" ["formula", "field"] (spC ⟨K, mg⟩ Tk.no [.sh, .sh] f_ranking) := by
  obtain ⟨fd, F⟩ := S.fun_ 18 (d := d_ranking) rfl
  have ok : FnOk P w K mg base (L2.CX P w) 5 (He.fAd K ("ranking", none)) fd ["formula", "field"] (spC ⟨K, mg⟩ Tk.no [.sh, .sh] f_ranking) := fn_clean (N := ["formula", "field"]) [.sh, .sh] F sc_ranking rfl (by decide) (b_ranking S)
  exact ⟨_, fd, S.glo 34, F.kp, F.bindsN fun _ _ _ _ _ _ us hl => match us, hl with | [_, _], _ => rfl, ok⟩
/-! ### ahead -/
def g_ahead : G Unit := (sSeq (sDrop (dCallF (fun ds => liftP (f_need_formula ds)) (dCons (dVar 0) dNil)))
  (sSeq (sDrop (dCallF (fun ds => liftP (f_need_field ds)) (dCons (dVar 1) dNil)))
  (sSeq (sDrop (dCallF (fun ds => liftP (f_need_index ds)) (dCons (dVar 1) (dCons (dVar 2) dNil))))
  (sSeq (sDrop (dCallF (fun ds => liftP (f_need_index ds)) (dCons (dVar 1) (dCons (dVar 3) dNil))))
  (sSeq (sIf (dCmpT eqD (dVar 2) (dVar 3)) (sRaise "BadIndex") sNext)
  sStuck)))))
def f_ahead : Fn Unit := runB 4 g_ahead
theorem sc_ahead : FnScope ["formula", "field", "first", "second"] ["formula", "field", "first", "second"] (defScope (top 36)) := ⟨rfl, rfl, rfl, by decide +kernel, rfl, by decide +kernel, by decide +kernel⟩
theorem b_ahead (S : Says fx fa fn K mg) (cdv : Value) (A : Around) (outer : List PySem.Env) (s : Shared) (H : Hp) (E : XK) (p : Addr) (fp : List Addr) (F0 : Hp) (hr : Room 4 (cxD P w K mg base ["formula", "field", "first", "second"] "ahead" (defScope (top 36)) (He.fAd K ("ahead", none)) cdv A outer s H E).A) (tk : Takes (cxD P w K mg base ["formula", "field", "first", "second"] "ahead" (defScope (top 36)) (He.fAd K ("ahead", none)) cdv A outer s H E) (fun cls d _ H => E cls d H))
    (hp : PassesOwn (model P w) (cxD P w K mg base ["formula", "field", "first", "second"] "ahead" (defScope (top 36)) (He.fAd K ("ahead", none)) cdv A outer s H E).A (cxD P w K mg base ["formula", "field", "first", "second"] "ahead" (defScope (top 36)) (He.fAd K ("ahead", none)) cdv A outer s H E).env (cxD P w K mg base ["formula", "field", "first", "second"] "ahead" (defScope (top 36)) (He.fAd K ("ahead", none)) cdv A outer s H E).xe) : DSs (cxD P w K mg base ["formula", "field", "first", "second"] "ahead" (defScope (top 36)) (He.fAd K ("ahead", none)) cdv A outer s H E) Tk.no ⟨p, fp, F0, H, [.sh, .sh, .sh, .sh]⟩ (fun cls d _ H => E cls d H) (defBody (top 36)) g_ahead := by
  have h_need_formula := has_need_formula (P := P) (w := w) (base := base) S
  have h_need_field := has_need_field (P := P) (w := w) (base := base) S
  have h_need_index := has_need_index (P := P) (w := w) (base := base) S
  have hN := sc_ahead.nd
  exact (dss_cons (ds_expr (dr_of (de_call (h_need_formula.mono (by decide)) hr tk (dm_sh (de_var 0) dm_nil))))
  (dss_cons (ds_expr (dr_of (de_call (h_need_field.mono (by decide)) hr tk (dm_sh (de_var 1) dm_nil))))
  (dss_cons (ds_expr (dr_of (de_call (h_need_index.mono (by decide)) hr tk (dm_sh (de_var 1) (dm_sh (de_var 2) dm_nil)))))
  (dss_cons (ds_expr (dr_of (de_call (h_need_index.mono (by decide)) hr tk (dm_sh (de_var 1) (dm_sh (de_var 3) dm_nil)))))
  (dss_cons (ds_if (dt_cmp (op_eqQ hr.units) (dr_var 2) (dr_var 3) (nomark _)) (dss_one (ds_raise rfl tk PySem.F.excBase_ValueError (S.exc 19).1 (S.glo 18) (S.exc 19).2.1 (raises_own (S.exc 19).2.2.1 (S.exc 19).2.2.2))) dss_nil)
  dss_stuck)))))
theorem has_ahead (S : Says fx fa fn K mg) : Has P w K mg base 5 "ahead" ["formula", "field", "first", "second"] (spC ⟨K, mg⟩ Tk.no [.sh, .sh, .sh, .sh] f_ahead) := by
  obtain ⟨fd, F⟩ := S.fun_ 19 (d := d_ahead) rfl
  have ok : FnOk P w K mg base (L2.CX P w) 5 (He.fAd K ("ahead", none)) fd ["formula", "field", "first", "second"] (spC ⟨K, mg⟩ Tk.no [.sh, .sh, .sh, .sh] f_ahead) := fn_clean (N := ["formula", "field", "first", "second"]) [.sh, .sh, .sh, .sh] F sc_ahead rfl (by decide) (b_ahead S)
  exact ⟨_, fd, S.glo 35, F.kp, F.bindsN fun _ _ _ _ _ _ us hl => match us, hl with | [_, _, _, _], _ => rfl, ok⟩
/-! ### spoilers -/
def g_spoilers : G Unit := (sSeq (sDrop (dCallF (fun ds => liftP (f_need_formula ds)) (dCons (dVar 0) dNil)))
  (sSeq (sDrop (dCallF (fun ds => liftP (f_need_field ds)) (dCons (dVar 1) dNil)))
  sStuck))
def f_spoilers : Fn Unit := runB 6 g_spoilers
theorem sc_spoilers : FnScope ["formula", "field", "order", "found", "struck", "pairs"] ["formula", "field"] (defScope (top 40)) := ⟨rfl, rfl, rfl, by decide +kernel, rfl, by decide +kernel, by decide +kernel⟩
theorem b_spoilers (S : Says fx fa fn K mg) (cdv : Value) (A : Around) (outer : List PySem.Env) (s : Shared) (H : Hp) (E : XK) (p : Addr) (fp : List Addr) (F0 : Hp) (hr : Room 4 (cxD P w K mg base ["formula", "field", "order", "found", "struck", "pairs"] "spoilers" (defScope (top 40)) (He.fAd K ("spoilers", none)) cdv A outer s H E).A) (tk : Takes (cxD P w K mg base ["formula", "field", "order", "found", "struck", "pairs"] "spoilers" (defScope (top 40)) (He.fAd K ("spoilers", none)) cdv A outer s H E) (fun cls d _ H => E cls d H))
    (hp : PassesOwn (model P w) (cxD P w K mg base ["formula", "field", "order", "found", "struck", "pairs"] "spoilers" (defScope (top 40)) (He.fAd K ("spoilers", none)) cdv A outer s H E).A (cxD P w K mg base ["formula", "field", "order", "found", "struck", "pairs"] "spoilers" (defScope (top 40)) (He.fAd K ("spoilers", none)) cdv A outer s H E).env (cxD P w K mg base ["formula", "field", "order", "found", "struck", "pairs"] "spoilers" (defScope (top 40)) (He.fAd K ("spoilers", none)) cdv A outer s H E).xe) : DSs (cxD P w K mg base ["formula", "field", "order", "found", "struck", "pairs"] "spoilers" (defScope (top 40)) (He.fAd K ("spoilers", none)) cdv A outer s H E) Tk.no ⟨p, fp, F0, H, [.sh, .sh, .sh, .own, .sh, .sh]⟩ (fun cls d _ H => E cls d H) (defBody (top 40)) g_spoilers := by
  have h_need_formula := has_need_formula (P := P) (w := w) (base := base) S
  have h_need_field := has_need_field (P := P) (w := w) (base := base) S
  have hN := sc_spoilers.nd
  exact (dss_cons (ds_expr (dr_of (de_call (h_need_formula.mono (by decide)) hr tk (dm_sh (de_var 0) dm_nil))))
  (dss_cons (ds_expr (dr_of (de_call (h_need_field.mono (by decide)) hr tk (dm_sh (de_var 1) dm_nil))))
  dss_stuck))
theorem has_spoilers (S : Says fx fa fn K mg) : Has P w K mg base 5 "spoilers" ["formula", "field"] (spC ⟨K, mg⟩ Tk.no [.sh, .sh] f_spoilers) := by
  obtain ⟨fd, F⟩ := S.fun_ 22 (d := d_spoilers) rfl
  have ok : FnOk P w K mg base (L2.CX P w) 5 (He.fAd K ("spoilers", none)) fd ["formula", "field"] (spC ⟨K, mg⟩ Tk.no [.sh, .sh] f_spoilers) := fn_clean (N := ["formula", "field", "order", "found", "struck", "pairs"]) [.sh, .sh] F sc_spoilers rfl (by decide) (b_spoilers S)
  exact ⟨_, fd, S.glo 36, F.kp, F.bindsN fun _ _ _ _ _ _ us hl => match us, hl with | [_, _], _ => rfl, ok⟩
/-! ### first_spoilers -/
def g_first_spoilers : G Unit := (sSeq (sDrop (dCallF (fun ds => liftP (f_need_formula ds)) (dCons (dVar 0) dNil)))
  (sSeq (sDrop (dCallF (fun ds => liftP (f_need_field ds)) (dCons (dVar 1) dNil)))
  sStuck))
def f_first_spoilers : Fn Unit := runB 4 g_first_spoilers
theorem sc_first_spoilers : FnScope ["formula", "field", "order", "struck"] ["formula", "field"] (defScope (top 41)) := ⟨rfl, rfl, rfl, by decide +kernel, rfl, by decide +kernel, by decide +kernel⟩
theorem b_first_spoilers (S : Says fx fa fn K mg) (cdv : Value) (A : Around) (outer : List PySem.Env) (s : Shared) (H : Hp) (E : XK) (p : Addr) (fp : List Addr) (F0 : Hp) (hr : Room 4 (cxD P w K mg base ["formula", "field", "order", "struck"] "first_spoilers" (defScope (top 41)) (He.fAd K ("first_spoilers", none)) cdv A outer s H E).A) (tk : Takes (cxD P w K mg base ["formula", "field", "order", "struck"] "first_spoilers" (defScope (top 41)) (He.fAd K ("first_spoilers", none)) cdv A outer s H E) (fun cls d _ H => E cls d H))
    (hp : PassesOwn (model P w) (cxD P w K mg base ["formula", "field", "order", "struck"] "first_spoilers" (defScope (top 41)) (He.fAd K ("first_spoilers", none)) cdv A outer s H E).A (cxD P w K mg base ["formula", "field", "order", "struck"] "first_spoilers" (defScope (top 41)) (He.fAd K ("first_spoilers", none)) cdv A outer s H E).env (cxD P w K mg base ["formula", "field", "order", "struck"] "first_spoilers" (defScope (top 41)) (He.fAd K ("first_spoilers", none)) cdv A outer s H E).xe) : DSs (cxD P w K mg base ["formula", "field", "order", "struck"] "first_spoilers" (defScope (top 41)) (He.fAd K ("first_spoilers", none)) cdv A outer s H E) Tk.no ⟨p, fp, F0, H, [.sh, .sh, .sh, .sh]⟩ (fun cls d _ H => E cls d H) (defBody (top 41)) g_first_spoilers := by
  have h_need_formula := has_need_formula (P := P) (w := w) (base := base) S
  have h_need_field := has_need_field (P := P) (w := w) (base := base) S
  have hN := sc_first_spoilers.nd
  exact (dss_cons (ds_expr (dr_of (de_call (h_need_formula.mono (by decide)) hr tk (dm_sh (de_var 0) dm_nil))))
  (dss_cons (ds_expr (dr_of (de_call (h_need_field.mono (by decide)) hr tk (dm_sh (de_var 1) dm_nil))))
  dss_stuck))
theorem has_first_spoilers (S : Says fx fa fn K mg) : Has P w K mg base 5 "first_spoilers" ["formula", "field"] (spC ⟨K, mg⟩ Tk.no [.sh, .sh] f_first_spoilers) := by
  obtain ⟨fd, F⟩ := S.fun_ 23 (d := d_first_spoilers) rfl
  have ok : FnOk P w K mg base (L2.CX P w) 5 (He.fAd K ("first_spoilers", none)) fd ["formula", "field"] (spC ⟨K, mg⟩ Tk.no [.sh, .sh] f_first_spoilers) := fn_clean (N := ["formula", "field", "order", "struck"]) [.sh, .sh] F sc_first_spoilers rfl (by decide) (b_first_spoilers S)
  exact ⟨_, fd, S.glo 37, F.kp, F.bindsN fun _ _ _ _ _ _ us hl => match us, hl with | [_, _], _ => rfl, ok⟩
/-! ### least_mark_sum -/
def g_least_mark_sum : G Unit := (sSeq (sDrop (dCallF (fun ds => liftP (f_need_formula ds)) (dCons (dVar 0) dNil)))
  sStuck)
def f_least_mark_sum : Fn Unit := runB 1 g_least_mark_sum
theorem sc_least_mark_sum : FnScope ["formula"] ["formula"] (defScope (top 47)) := ⟨rfl, rfl, rfl, by decide +kernel, rfl, by decide +kernel, by decide +kernel⟩
theorem b_least_mark_sum (S : Says fx fa fn K mg) (cdv : Value) (A : Around) (outer : List PySem.Env) (s : Shared) (H : Hp) (E : XK) (p : Addr) (fp : List Addr) (F0 : Hp) (hr : Room 4 (cxD P w K mg base ["formula"] "least_mark_sum" (defScope (top 47)) (He.fAd K ("least_mark_sum", none)) cdv A outer s H E).A) (tk : Takes (cxD P w K mg base ["formula"] "least_mark_sum" (defScope (top 47)) (He.fAd K ("least_mark_sum", none)) cdv A outer s H E) (fun cls d _ H => E cls d H))
    (hp : PassesOwn (model P w) (cxD P w K mg base ["formula"] "least_mark_sum" (defScope (top 47)) (He.fAd K ("least_mark_sum", none)) cdv A outer s H E).A (cxD P w K mg base ["formula"] "least_mark_sum" (defScope (top 47)) (He.fAd K ("least_mark_sum", none)) cdv A outer s H E).env (cxD P w K mg base ["formula"] "least_mark_sum" (defScope (top 47)) (He.fAd K ("least_mark_sum", none)) cdv A outer s H E).xe) : DSs (cxD P w K mg base ["formula"] "least_mark_sum" (defScope (top 47)) (He.fAd K ("least_mark_sum", none)) cdv A outer s H E) Tk.no ⟨p, fp, F0, H, [.sh]⟩ (fun cls d _ H => E cls d H) (defBody (top 47)) g_least_mark_sum := by
  have h_need_formula := has_need_formula (P := P) (w := w) (base := base) S
  have hN := sc_least_mark_sum.nd
  exact (dss_cons (ds_expr (dr_of (de_call (h_need_formula.mono (by decide)) hr tk (dm_sh (de_var 0) dm_nil))))
  dss_stuck)
theorem has_least_mark_sum (S : Says fx fa fn K mg) : Has P w K mg base 5 "least_mark_sum" ["formula"] (spC ⟨K, mg⟩ Tk.no [.sh] f_least_mark_sum) := by
  obtain ⟨fd, F⟩ := S.fun_ 27 (d := d_least_mark_sum) rfl
  have ok : FnOk P w K mg base (L2.CX P w) 5 (He.fAd K ("least_mark_sum", none)) fd ["formula"] (spC ⟨K, mg⟩ Tk.no [.sh] f_least_mark_sum) := fn_clean (N := ["formula"]) [.sh] F sc_least_mark_sum rfl (by decide) (b_least_mark_sum S)
  exact ⟨_, fd, S.glo 38, F.kp, F.bindsN fun _ _ _ _ _ _ us hl => match us, hl with | [_], _ => rfl, ok⟩
/-! ### passes -/
def g_passes : G Unit := (sSeq (sAsg (dCallF (fun ds => liftP (f_relative_weights ds)) (dCons (dVar 0) dNil)) (gTupD 3 (gsCons (gSet 1) (gsCons (gSet 2) (gsCons (gSet 3) gsNil)))))
  sStuck)
def f_passes : Fn Unit := runB 4 g_passes
theorem sc_passes : FnScope ["formula", "low", "spread", "middle"] ["formula"] (defScope (top 49)) := ⟨rfl, rfl, rfl, by decide +kernel, rfl, by decide +kernel, by decide +kernel⟩
theorem b_passes (S : Says fx fa fn K mg) (cdv : Value) (A : Around) (outer : List PySem.Env) (s : Shared) (H : Hp) (E : XK) (p : Addr) (fp : List Addr) (F0 : Hp) (hr : Room 5 (cxD P w K mg base ["formula", "low", "spread", "middle"] "passes" (defScope (top 49)) (He.fAd K ("passes", none)) cdv A outer s H E).A) (tk : Takes (cxD P w K mg base ["formula", "low", "spread", "middle"] "passes" (defScope (top 49)) (He.fAd K ("passes", none)) cdv A outer s H E) (fun cls d _ H => E cls d H))
    (hp : PassesOwn (model P w) (cxD P w K mg base ["formula", "low", "spread", "middle"] "passes" (defScope (top 49)) (He.fAd K ("passes", none)) cdv A outer s H E).A (cxD P w K mg base ["formula", "low", "spread", "middle"] "passes" (defScope (top 49)) (He.fAd K ("passes", none)) cdv A outer s H E).env (cxD P w K mg base ["formula", "low", "spread", "middle"] "passes" (defScope (top 49)) (He.fAd K ("passes", none)) cdv A outer s H E).xe) : DSs (cxD P w K mg base ["formula", "low", "spread", "middle"] "passes" (defScope (top 49)) (He.fAd K ("passes", none)) cdv A outer s H E) Tk.no ⟨p, fp, F0, H, [.sh, .sh, .sh, .sh]⟩ (fun cls d _ H => E cls d H) (defBody (top 49)) g_passes := by
  have h_relative_weights := has_relative_weights (P := P) (w := w) (base := base) S
  have hN := sc_passes.nd
  exact (dss_cons (ds_asg (us := [1, 2, 3]) (de_call (h_relative_weights.mono (by decide)) hr tk (dm_sh (de_var 0) dm_nil)) (dg_tup 3 rfl (dgs_cons (dg_name 1 hN) (dgs_cons (dg_name 2 hN) (dgs_cons (dg_name 3 hN) dgs_nil)))))
  dss_stuck)
theorem has_passes (S : Says fx fa fn K mg) : Has P w K mg base 6 "passes" ["formula"] (spC ⟨K, mg⟩ Tk.no [.sh] f_passes) := by
  obtain ⟨fd, F⟩ := S.fun_ 29 (d := d_passes) rfl
  have ok : FnOk P w K mg base (L2.CX P w) 6 (He.fAd K ("passes", none)) fd ["formula"] (spC ⟨K, mg⟩ Tk.no [.sh] f_passes) := fn_clean (N := ["formula", "low", "spread", "middle"]) [.sh] F sc_passes rfl (by decide) (b_passes S)
  exact ⟨_, fd, S.glo 39, F.kp, F.bindsN fun _ _ _ _ _ _ us hl => match us, hl with | [_], _ => rfl, ok⟩
/-! ### turn -/
def g_turn : G Unit := (sSeq (sIf (dTru (dCallF (fun ds => liftP (f_passes ds)) (dCons (dVar 0) dNil))) (sRet (dC .non)) sNext)
  sStuck)
def f_turn : Fn Unit := runB 13 g_turn
theorem sc_turn : FnScope ["formula", "weights", "low", "spread", "middle", "least", "cheap", "dear", "third", "marks", "worse", "better", "mark"] ["formula"] (defScope (top 54)) := ⟨rfl, rfl, rfl, by decide +kernel, rfl, by decide +kernel, by decide +kernel⟩
theorem b_turn (S : Says fx fa fn K mg) (cdv : Value) (A : Around) (outer : List PySem.Env) (s : Shared) (H : Hp) (E : XK) (p : Addr) (fp : List Addr) (F0 : Hp) (hr : Room 6 (cxD P w K mg base ["formula", "weights", "low", "spread", "middle", "least", "cheap", "dear", "third", "marks", "worse", "better", "mark"] "turn" (defScope (top 54)) (He.fAd K ("turn", none)) cdv A outer s H E).A) (tk : Takes (cxD P w K mg base ["formula", "weights", "low", "spread", "middle", "least", "cheap", "dear", "third", "marks", "worse", "better", "mark"] "turn" (defScope (top 54)) (He.fAd K ("turn", none)) cdv A outer s H E) (fun cls d _ H => E cls d H))
    (hp : PassesOwn (model P w) (cxD P w K mg base ["formula", "weights", "low", "spread", "middle", "least", "cheap", "dear", "third", "marks", "worse", "better", "mark"] "turn" (defScope (top 54)) (He.fAd K ("turn", none)) cdv A outer s H E).A (cxD P w K mg base ["formula", "weights", "low", "spread", "middle", "least", "cheap", "dear", "third", "marks", "worse", "better", "mark"] "turn" (defScope (top 54)) (He.fAd K ("turn", none)) cdv A outer s H E).env (cxD P w K mg base ["formula", "weights", "low", "spread", "middle", "least", "cheap", "dear", "third", "marks", "worse", "better", "mark"] "turn" (defScope (top 54)) (He.fAd K ("turn", none)) cdv A outer s H E).xe) : DSs (cxD P w K mg base ["formula", "weights", "low", "spread", "middle", "least", "cheap", "dear", "third", "marks", "worse", "better", "mark"] "turn" (defScope (top 54)) (He.fAd K ("turn", none)) cdv A outer s H E) Tk.no ⟨p, fp, F0, H, [.sh, .sh, .sh, .sh, .sh, .sh, .sh, .sh, .sh, .sh, .sh, .sh, .sh]⟩ (fun cls d _ H => E cls d H) (defBody (top 54)) g_turn := by
  have h_passes := has_passes (P := P) (w := w) (base := base) S
  have hN := sc_turn.nd
  exact (dss_cons (ds_if (dt_tru (dr_of (de_call (h_passes.mono (by decide)) hr tk (dm_sh (de_var 0) dm_nil)))) (dss_one (ds_ret de_non)) dss_nil)
  dss_stuck)
theorem has_turn (S : Says fx fa fn K mg) : Has P w K mg base 7 "turn" ["formula"] (spC ⟨K, mg⟩ Tk.no [.sh] f_turn) := by
  obtain ⟨fd, F⟩ := S.fun_ 34 (d := d_turn) rfl
  have ok : FnOk P w K mg base (L2.CX P w) 7 (He.fAd K ("turn", none)) fd ["formula"] (spC ⟨K, mg⟩ Tk.no [.sh] f_turn) := fn_clean (N := ["formula", "weights", "low", "spread", "middle", "least", "cheap", "dear", "third", "marks", "worse", "better", "mark"]) [.sh] F sc_turn rfl (by decide) (b_turn S)
  exact ⟨_, fd, S.glo 40, F.kp, F.bindsN fun _ _ _ _ _ _ us hl => match us, hl with | [_], _ => rfl, ok⟩
/-! ### is_turn -/
def g_is_turn : G Unit := (sSeq (sDrop (dCallF (fun ds => liftP (f_need_formula ds)) (dCons (dVar 0) dNil)))
  sStuck)
def f_is_turn : Fn Unit := runB 4 g_is_turn
theorem sc_is_turn : FnScope ["formula", "thing", "bid", "index"] ["formula", "thing"] (defScope (top 55)) := ⟨rfl, rfl, rfl, by decide +kernel, rfl, by decide +kernel, by decide +kernel⟩
theorem b_is_turn (S : Says fx fa fn K mg) (cdv : Value) (A : Around) (outer : List PySem.Env) (s : Shared) (H : Hp) (E : XK) (p : Addr) (fp : List Addr) (F0 : Hp) (hr : Room 4 (cxD P w K mg base ["formula", "thing", "bid", "index"] "is_turn" (defScope (top 55)) (He.fAd K ("is_turn", none)) cdv A outer s H E).A) (tk : Takes (cxD P w K mg base ["formula", "thing", "bid", "index"] "is_turn" (defScope (top 55)) (He.fAd K ("is_turn", none)) cdv A outer s H E) (fun cls d _ H => E cls d H))
    (hp : PassesOwn (model P w) (cxD P w K mg base ["formula", "thing", "bid", "index"] "is_turn" (defScope (top 55)) (He.fAd K ("is_turn", none)) cdv A outer s H E).A (cxD P w K mg base ["formula", "thing", "bid", "index"] "is_turn" (defScope (top 55)) (He.fAd K ("is_turn", none)) cdv A outer s H E).env (cxD P w K mg base ["formula", "thing", "bid", "index"] "is_turn" (defScope (top 55)) (He.fAd K ("is_turn", none)) cdv A outer s H E).xe) : DSs (cxD P w K mg base ["formula", "thing", "bid", "index"] "is_turn" (defScope (top 55)) (He.fAd K ("is_turn", none)) cdv A outer s H E) Tk.no ⟨p, fp, F0, H, [.sh, .sh, .sh, .sh]⟩ (fun cls d _ H => E cls d H) (defBody (top 55)) g_is_turn := by
  have h_need_formula := has_need_formula (P := P) (w := w) (base := base) S
  have hN := sc_is_turn.nd
  exact (dss_cons (ds_expr (dr_of (de_call (h_need_formula.mono (by decide)) hr tk (dm_sh (de_var 0) dm_nil))))
  dss_stuck)
theorem has_is_turn (S : Says fx fa fn K mg) : Has P w K mg base 5 "is_turn" ["formula", "thing"] (spC ⟨K, mg⟩ Tk.no [.sh, .sh] f_is_turn) := by
  obtain ⟨fd, F⟩ := S.fun_ 35 (d := d_is_turn) rfl
  have ok : FnOk P w K mg base (L2.CX P w) 5 (He.fAd K ("is_turn", none)) fd ["formula", "thing"] (spC ⟨K, mg⟩ Tk.no [.sh, .sh] f_is_turn) := fn_clean (N := ["formula", "thing", "bid", "index"]) [.sh, .sh] F sc_is_turn rfl (by decide) (b_is_turn S)
  exact ⟨_, fd, S.glo 41, F.kp, F.bindsN fun _ _ _ _ _ _ us hl => match us, hl with | [_, _], _ => rfl, ok⟩
/-! ### _law_begun -/
def g_law_begun : G Unit := (sSet (dComp (dItems (dVar 0)) (gSet 2) [2] (dCmpT geD (dCall absD (dCons (dVar 2) dNil)) (dBin powD (dC (.int 10)) (dC (.int 18)))) (dBin subD (dCall absD (dCons (dVar 2) dNil)) (dBin powD (dC (.int 10)) (dC (.int 18))))) 1)
def c_law_begun : Env → M Unit D := (dComp (dItems (dVar 0)) (gSet 2) [2] dYes (dCall absD (dCons (dVar 2) dNil)))
theorem sc_law_begun : FnScope ["script", "large", "cell"] ["script"] (defScope (top 57)) := ⟨rfl, rfl, rfl, by decide +kernel, rfl, by decide +kernel, by decide +kernel⟩
theorem b_law_begun (S : Says fx fa fn K mg) (cdv : Value) (A : Around) (outer : List PySem.Env) (s : Shared) (H : Hp) (E : XK) (p : Addr) (fp : List Addr) (F0 : Hp) (hr : Room 0 (cxD P w K mg base ["script", "large", "cell"] "_law_begun" (defScope (top 57)) (He.fAd K ("_law_begun", none)) cdv A outer s H E).A) (tk : Takes (cxD P w K mg base ["script", "large", "cell"] "_law_begun" (defScope (top 57)) (He.fAd K ("_law_begun", none)) cdv A outer s H E) (fun cls d _ H => E cls d H)) : PSs (cxD P w K mg base ["script", "large", "cell"] "_law_begun" (defScope (top 57)) (He.fAd K ("_law_begun", none)) cdv A outer s H E) (defBody (top 57)) (tSeq (rdS ⟨K, mg⟩ Tk.no ⟨p, fp, F0, H, [.sh, .own, .sh]⟩ (fun cls d _ H => E cls d H) g_law_begun) (fun E' σ H' => ∃ F ρ, Rl ⟨K, mg⟩ Tk.no ⟨p, fp, F0, H, [.sh, .own, .sh]⟩ F H' ρ () σ ∧ ∃ ls cs : List Int, ρ[1]? = some (some (.lst (ls.map D.int))) ∧ c_law_begun ρ () = .ok (.lst (cs.map D.int)) () ∧ ∀ F' H'' p fp, Stp [] F0 H F' H'' → (∀ b ∈ fp, H b = none ∧ F' b = none) → tkD.At ⟨K, mg⟩ F' H'' p fp ⟨ls, 0, cs, 0⟩ → E'.rt (.ref p) H'')) := by
  have hN := sc_law_begun.nd
  exact pss_cons (ds_setOC 1 [("cell", 2)] rfl hN rfl (di_seq (de_var 0)) (blk_of (by rfl)) (fun _ _ _ _ _ => (dg_name 2 hN)) (fun _ _ _ _ _ => (dts_one (dt_cmp op_geD (dr_of (de_callB cr_absD (S.free 42) (dar_cons (dr_var 2) dar_nil))) (dr_of (de_op op_powD (dr_of de_int) (dr_of de_int))) (nomark _)))) (fun _ _ _ _ _ => (de_op op_subD (dr_of (de_callB cr_absD (S.free 42) (dar_cons (dr_var 2) dar_nil))) (dr_of (de_op op_powD (dr_of de_int) (dr_of de_int)))))) (pss_one (ps_retDraw (Z := ⟨p, fp, F0, H, [.sh, .own, .sh]⟩) 1 (df_comp [("cell", 2)] rfl hN rfl (di_seq (de_var 0)) (blk_of (by rfl)) (fun _ _ _ _ _ => (dg_name 2 hN)) (fun _ _ _ _ _ => dts_nil) (fun _ _ _ _ _ => (de_callB cr_absD (S.free 42) (dar_cons (dr_var 2) dar_nil))))))
def big (ns : List Int) : List Int := (ns.filter fun n => decide (10 ^ 18 ≤ mag n)).map fun n => mag n - 10 ^ 18
def beg (ns : List Int) : Dr := ⟨big ns, 0, ns.map fun n => mag n, 0⟩
def pBig : D → Bool
  | .int n => decide (10 ^ 18 ≤ mag n)
  | _ => false
def fBig : D → D
  | .int n => .int (mag n - 10 ^ 18)
  | _ => .non
def fAbs : D → D
  | .int n => .int (mag n)
  | _ => .non
theorem big_eq (ns : List Int) : ((ns.map D.int).filter pBig).map fBig = (big ns).map D.int := by
  unfold big
  rw [List.filter_map, List.map_map, List.map_map]
  rfl
theorem beg_1 (ns : List Int) (h : ns.length ≤ sizeLine) : g_law_begun [some (.st (ns.map D.int)), none, none] () = .nx [some (.st (ns.map D.int)), some (.lst ((big ns).map D.int)), none] () := by
  have e := dComp_pure (S := Unit) (fi := dItems (dVar 0)) (g := gSet 2) (us := [2]) (ft := dCmpT geD (dCall absD (dCons (dVar 2) dNil)) (dBin powD (dC (.int 10)) (dC (.int 18)))) (fe := dBin subD (dCall absD (dCons (dVar 2) dNil)) (dBin powD (dC (.int 10)) (dC (.int 18)))) (ρ := [some (.st (ns.map D.int)), none, none]) (s := ()) (xs := ns.map D.int) pBig fBig rfl (by rw [List.length_map]; exact h) fun x hx => by
    obtain ⟨n, _, rfl⟩ := List.mem_map.mp hx
    exact ⟨_, rfl, rfl, fun _ => rfl⟩
  rw [big_eq] at e
  unfold g_law_begun sSet sE
  rw [e]
  rfl
theorem beg_2 (ns : List Int) (d : D) (h : ns.length ≤ sizeLine) : c_law_begun [some (.st (ns.map D.int)), some d, none] () = .ok (.lst ((ns.map fun n => mag n).map D.int)) () := by
  have e := dComp_pure (S := Unit) (fi := dItems (dVar 0)) (g := gSet 2) (us := [2]) (ft := dYes) (fe := dCall absD (dCons (dVar 2) dNil)) (ρ := [some (.st (ns.map D.int)), some d, none]) (s := ()) (xs := ns.map D.int) (fun _ => true) fAbs rfl (by rw [List.length_map]; exact h) fun x hx => by
    obtain ⟨n, _, rfl⟩ := List.mem_map.mp hx
    exact ⟨_, rfl, rfl, fun _ => rfl⟩
  rw [show (List.filter (fun _ => true) (ns.map D.int)) = ns.map D.int from List.filter_eq_self.mpr fun _ _ => rfl, List.map_map] at e
  rw [List.map_map]
  exact e
theorem has_law_begun (S : Says fx fa fn K mg) : Has P w K mg base 1 "_law_begun" ["script"] (spBeg ⟨K, mg⟩ beg) := by
  obtain ⟨fd, F⟩ := S.fun_ 36 (d := d_law_begun) rfl
  have ok : FnOk P w K mg base (L2.CX P w) 1 (He.fAd K ("_law_begun", none)) fd ["script"] (spBeg ⟨K, mg⟩ beg) := by
    refine FunD.ok F sc_law_begun (fun vs H Q E ⟨_, _, _, _, ev, _⟩ => by rw [ev]; rfl) fun cdv A outer s H vs Q E hr ⟨F0, a, ns, ex, ev, hS, hz, hQ⟩ => ⟨_, b_law_begun S cdv A outer s H E 0 [] F0 hr (takes_of rfl rfl rfl rfl), ?_⟩
    subst ev
    refine ⟨F0, [some (.st (ns.map D.int)), none, none], (), rl_one (k := 2) ex rfl hS rfl, ?_⟩
    rw [beg_1 ns hz]
    exact fun F' H' σ' e' r' => ⟨F', _, r', big ns, _, rfl, beg_2 ns _ hz, hQ⟩
  exact ⟨_, fd, S.glo 43, F.kp, F.bindsN fun _ _ _ _ _ _ us hl => match us, hl with | [_], _ => rfl, ok⟩
/-! ### _law_mixed -/
def g_law_mixed : G Dr := (sSeq (sPutT 0 (fun n s => { s with turn := n }) (dBin addD (dTurn 0) (dC (.int 1))))
  (sSeq (sPar 1 2 (dCall intD (dCons (dTurn 0) dNil)) (dC (.int 0)))
  (sSeq (sFor (dItems (fun ρ => do M.opt (lstOk (← (dCons (dC (.int 2147483629)) (dCons (dC (.int 2147483587)) (dCons (dC (.int 2147483579)) dNil))) ρ)))) (gSet 3) (sSeq (sSet (dBin modD (dCall intD (dCons (dBin addD (dBin mulD (dVar 1) (dC (.int 69621))) (dBin fdivD (dVar 3) (dC (.int 7)))) dNil)) (dVar 3)) 4)
  (sSeq (sForCells 0 (gSet 5) (sSet (dBin modD (dCall intD (dCons (dBin addD (dBin addD (dBin mulD (dVar 4) (dC (.int 48271))) (dCall intD (dCons (dVar 5) dNil))) (dC (.int 1))) dNil)) (dVar 3)) 4))
  (sSet (dBin addD (dBin mulD (dVar 2) (dC (.int 2147483647))) (dBin modD (dCall intD (dCons (dBin powD (dVar 4) (dC (.int 5))) dNil)) (dVar 3))) 2))))
  (sRet (dVar 2)))))
def f_law_mixed : Fn Dr := runB 6 g_law_mixed
theorem sc_law_mixed : FnScope ["draw", "count", "found", "great", "blend", "cell"] ["draw"] (defScope (top 58)) := ⟨rfl, rfl, rfl, by decide +kernel, rfl, by decide +kernel, by decide +kernel⟩
theorem b_law_mixed (S : Says fx fa fn K mg) (cdv : Value) (A : Around) (outer : List PySem.Env) (s : Shared) (H : Hp) (E : XK) (p : Addr) (fp : List Addr) (F0 : Hp) (hr : Room 0 (cxD P w K mg base ["draw", "count", "found", "great", "blend", "cell"] "_law_mixed" (defScope (top 58)) (He.fAd K ("_law_mixed", none)) cdv A outer s H E).A) (tk : Takes (cxD P w K mg base ["draw", "count", "found", "great", "blend", "cell"] "_law_mixed" (defScope (top 58)) (He.fAd K ("_law_mixed", none)) cdv A outer s H E) (fun cls d _ H => E cls d H))
    (hp : PassesOwn (model P w) (cxD P w K mg base ["draw", "count", "found", "great", "blend", "cell"] "_law_mixed" (defScope (top 58)) (He.fAd K ("_law_mixed", none)) cdv A outer s H E).A (cxD P w K mg base ["draw", "count", "found", "great", "blend", "cell"] "_law_mixed" (defScope (top 58)) (He.fAd K ("_law_mixed", none)) cdv A outer s H E).env (cxD P w K mg base ["draw", "count", "found", "great", "blend", "cell"] "_law_mixed" (defScope (top 58)) (He.fAd K ("_law_mixed", none)) cdv A outer s H E).xe) : DSs (cxD P w K mg base ["draw", "count", "found", "great", "blend", "cell"] "_law_mixed" (defScope (top 58)) (He.fAd K ("_law_mixed", none)) cdv A outer s H E) tkD ⟨p, fp, F0, H, [.tok, .sh, .sh, .sh, .sh, .sh]⟩ (fun cls d _ H => E cls d H) (defBody (top 58)) g_law_mixed := by
  have hN := sc_law_mixed.nd
  exact (dss_cons (ds_tPut 0 (de_op op_addD (dr_of (de_tTurn 0 hr.u1)) (dr_of de_int)) hr.u1 pTurn (fun _ _ => ⟨rfl, rfl⟩))
  (dss_cons (ds_par 1 2 rfl hN (dx_sh (de_callT cr_intD (S.free 1) (dar_cons (dr_of (de_tTurn 0 hr.u1)) dar_nil))) (dx_sh de_int))
  (dss_cons (ds_for (us := [3]) hp rfl (di_seq (de_of (df_lst (da_cons de_int (da_cons de_int (da_cons de_int da_nil)))))) (dg_name 3 hN) (dss_cons (ds_set 4 hN (de_op op_modD (dr_of (de_callT cr_intD (S.free 1) (dar_cons (dr_of (de_op op_addD (dr_of (de_op op_mulD (dr_var 1) (dr_of de_int))) (dr_of (de_op op_fdivD (dr_var 3) (dr_of de_int))))) dar_nil))) (dr_var 3)))
  (dss_cons (ds_forCells 0 (us := [5]) hp rfl hr.u1 (dg_name 5 hN) (dss_one (ds_set 4 hN (de_op op_modD (dr_of (de_callT cr_intD (S.free 1) (dar_cons (dr_of (de_op op_addD (dr_of (de_op op_addD (dr_of (de_op op_mulD (dr_var 4) (dr_of de_int))) (dr_of (de_callT cr_intD (S.free 1) (dar_cons (dr_var 5) dar_nil))))) (dr_of de_int))) dar_nil))) (dr_var 3)))))
  (dss_one (ds_set 2 hN (de_op op_addD (dr_of (de_op op_mulD (dr_var 2) (dr_of de_int))) (dr_of (de_op op_modD (dr_of (de_callT cr_intD (S.free 1) (dar_cons (dr_of (de_op op_powD (dr_var 4) (dr_of de_int))) dar_nil))) (dr_var 3)))))))))
  (dss_one (ds_ret (de_var 2))))))
theorem has_law_mixed (S : Says fx fa fn K mg) : Has P w K mg base 1 "_law_mixed" ["draw"] (spC ⟨K, mg⟩ tkD [.tok] f_law_mixed) := by
  obtain ⟨fd, F⟩ := S.fun_ 37 (d := d_law_mixed) rfl
  have ok : FnOk P w K mg base (L2.CX P w) 1 (He.fAd K ("_law_mixed", none)) fd ["draw"] (spC ⟨K, mg⟩ tkD [.tok] f_law_mixed) := fn_clean (N := ["draw", "count", "found", "great", "blend", "cell"]) [.tok] F sc_law_mixed rfl (by decide) (b_law_mixed S)
  exact ⟨_, fd, S.glo 44, F.kp, F.bindsN fun _ _ _ _ _ _ us hl => match us, hl with | [_], _ => rfl, ok⟩
/-! ### _law_take -/
def g_law_take : G Dr := (sSeq (sIf (dCmpT eqD (dRest 0) (dC (.int 0))) (sPutT 0 (fun n s => { s with rest := n }) (dIf (dLarge 0) (dPopLarge 0) (dCallF f_law_mixed (dCons (dVar 0) dNil)))) sNext)
  (sSeq (sSet (dBin modD (dCall intD (dCons (dRest 0) dNil)) (dVar 1)) 2)
  (sSeq (sPutT 0 (fun n s => { s with rest := n }) (dBin fdivD (dCall intD (dCons (dRest 0) dNil)) (dVar 1)))
  (sRet (dVar 2)))))
def f_law_take : Fn Dr := runB 3 g_law_take
theorem sc_law_take : FnScope ["draw", "many", "found"] ["draw", "many"] (defScope (top 59)) := ⟨rfl, rfl, rfl, by decide +kernel, rfl, by decide +kernel, by decide +kernel⟩
theorem b_law_take (S : Says fx fa fn K mg) (cdv : Value) (A : Around) (outer : List PySem.Env) (s : Shared) (H : Hp) (E : XK) (p : Addr) (fp : List Addr) (F0 : Hp) (hr : Room 1 (cxD P w K mg base ["draw", "many", "found"] "_law_take" (defScope (top 59)) (He.fAd K ("_law_take", none)) cdv A outer s H E).A) (tk : Takes (cxD P w K mg base ["draw", "many", "found"] "_law_take" (defScope (top 59)) (He.fAd K ("_law_take", none)) cdv A outer s H E) (fun cls d _ H => E cls d H))
    (hp : PassesOwn (model P w) (cxD P w K mg base ["draw", "many", "found"] "_law_take" (defScope (top 59)) (He.fAd K ("_law_take", none)) cdv A outer s H E).A (cxD P w K mg base ["draw", "many", "found"] "_law_take" (defScope (top 59)) (He.fAd K ("_law_take", none)) cdv A outer s H E).env (cxD P w K mg base ["draw", "many", "found"] "_law_take" (defScope (top 59)) (He.fAd K ("_law_take", none)) cdv A outer s H E).xe) : DSs (cxD P w K mg base ["draw", "many", "found"] "_law_take" (defScope (top 59)) (He.fAd K ("_law_take", none)) cdv A outer s H E) tkD ⟨p, fp, F0, H, [.tok, .sh, .sh]⟩ (fun cls d _ H => E cls d H) (defBody (top 59)) g_law_take := by
  have h_law_mixed := has_law_mixed (P := P) (w := w) (base := base) S
  have hN := sc_law_take.nd
  exact (dss_cons (ds_if (dt_cmp (op_eqQ hr.units) (dr_of (de_tRest 0 hr.u1)) (dr_of de_int) (nomark _)) (dss_one (ds_tPut 0 (de_if (dt_tLarge 0 hr.units) (de_tPop 0 hr.u1) (de_callK (h_law_mixed.mono (by decide)) hr tk (dm_tok 0 dm_nil))) hr.u1 pRest (fun _ _ => ⟨rfl, rfl⟩))) dss_nil)
  (dss_cons (ds_set 2 hN (de_op op_modD (dr_of (de_callT cr_intD (S.free 1) (dar_cons (dr_of (de_tRest 0 hr.u1)) dar_nil))) (dr_var 1)))
  (dss_cons (ds_tPut 0 (de_op op_fdivD (dr_of (de_callT cr_intD (S.free 1) (dar_cons (dr_of (de_tRest 0 hr.u1)) dar_nil))) (dr_var 1)) hr.u1 pRest (fun _ _ => ⟨rfl, rfl⟩))
  (dss_one (ds_ret (de_var 2))))))
theorem has_law_take (S : Says fx fa fn K mg) : Has P w K mg base 2 "_law_take" ["draw", "many"] (spC ⟨K, mg⟩ tkD [.tok, .sh] f_law_take) := by
  obtain ⟨fd, F⟩ := S.fun_ 38 (d := d_law_take) rfl
  have ok : FnOk P w K mg base (L2.CX P w) 2 (He.fAd K ("_law_take", none)) fd ["draw", "many"] (spC ⟨K, mg⟩ tkD [.tok, .sh] f_law_take) := fn_clean (N := ["draw", "many", "found"]) [.tok, .sh] F sc_law_take rfl (by decide) (b_law_take S)
  exact ⟨_, fd, S.glo 45, F.kp, F.bindsN fun _ _ _ _ _ _ us hl => match us, hl with | [_, _], _ => rfl, ok⟩
/-! ### _law_pick -/
def g_law_pick : G Dr := (sRet (dBin ixD (dVar 1) (dCallF f_law_take (dCons (dVar 0) (dCons (dCall lenD (dCons (dVar 1) dNil)) dNil)))))
def f_law_pick : Fn Dr := runB 2 g_law_pick
theorem sc_law_pick : FnScope ["draw", "some"] ["draw", "some"] (defScope (top 60)) := ⟨rfl, rfl, rfl, by decide +kernel, rfl, by decide +kernel, by decide +kernel⟩
theorem b_law_pick (S : Says fx fa fn K mg) (cdv : Value) (A : Around) (outer : List PySem.Env) (s : Shared) (H : Hp) (E : XK) (p : Addr) (fp : List Addr) (F0 : Hp) (hr : Room 2 (cxD P w K mg base ["draw", "some"] "_law_pick" (defScope (top 60)) (He.fAd K ("_law_pick", none)) cdv A outer s H E).A) (tk : Takes (cxD P w K mg base ["draw", "some"] "_law_pick" (defScope (top 60)) (He.fAd K ("_law_pick", none)) cdv A outer s H E) (fun cls d _ H => E cls d H))
    (hp : PassesOwn (model P w) (cxD P w K mg base ["draw", "some"] "_law_pick" (defScope (top 60)) (He.fAd K ("_law_pick", none)) cdv A outer s H E).A (cxD P w K mg base ["draw", "some"] "_law_pick" (defScope (top 60)) (He.fAd K ("_law_pick", none)) cdv A outer s H E).env (cxD P w K mg base ["draw", "some"] "_law_pick" (defScope (top 60)) (He.fAd K ("_law_pick", none)) cdv A outer s H E).xe) : DSs (cxD P w K mg base ["draw", "some"] "_law_pick" (defScope (top 60)) (He.fAd K ("_law_pick", none)) cdv A outer s H E) tkD ⟨p, fp, F0, H, [.tok, .bor]⟩ (fun cls d _ H => E cls d H) (defBody (top 60)) g_law_pick := by
  have h_law_take := has_law_take (P := P) (w := w) (base := base) S
  have hN := sc_law_pick.nd
  exact (dss_one (ds_ret (de_ix (dr_var 1) (de_callK (h_law_take.mono (by decide)) hr tk (dm_tok 0 (dm_sh (de_callB cr_lenD (S.free 5) (dar_cons (dr_var 1) dar_nil)) dm_nil))))))
theorem has_law_pick (S : Says fx fa fn K mg) : Has P w K mg base 3 "_law_pick" ["draw", "some"] (spC ⟨K, mg⟩ tkD [.tok, .bor] f_law_pick) := by
  obtain ⟨fd, F⟩ := S.fun_ 39 (d := d_law_pick) rfl
  have ok : FnOk P w K mg base (L2.CX P w) 3 (He.fAd K ("_law_pick", none)) fd ["draw", "some"] (spC ⟨K, mg⟩ tkD [.tok, .bor] f_law_pick) := fn_clean (N := ["draw", "some"]) [.tok, .bor] F sc_law_pick rfl (by decide) (b_law_pick S)
  exact ⟨_, fd, S.glo 46, F.kp, F.bindsN fun _ _ _ _ _ _ us hl => match us, hl with | [_, _], _ => rfl, ok⟩
/-! ### _law_price -/
def g_law_price : G Dr := (sRet (dCallF f_law_pick (dCons (dVar 0) (dCons (fun ρ => do M.opt (lstOk (← (dCons (dBin addD (dC (.int 1)) (dCallF f_law_take (dCons (dVar 0) (dCons (dC (.int 9)) dNil)))) (dCons (dBin addD (dC (.int 100)) (dCallF f_law_take (dCons (dVar 0) (dCons (dC (.int 5)) dNil)))) (dCons (dBin addD (dC (.int 1)) (dCallF f_law_take (dCons (dVar 0) (dCons (dBin powD (dC (.int 10)) (dC (.int 9))) dNil)))) (dCons (dBin subD (dBin powD (dC (.int 10)) (dC (.int 9))) (dCallF f_law_take (dCons (dVar 0) (dCons (dC (.int 3)) dNil)))) dNil)))) ρ))) dNil))))
def f_law_price : Fn Dr := runB 1 g_law_price
theorem sc_law_price : FnScope ["draw"] ["draw"] (defScope (top 62)) := ⟨rfl, rfl, rfl, by decide +kernel, rfl, by decide +kernel, by decide +kernel⟩
theorem b_law_price (S : Says fx fa fn K mg) (cdv : Value) (A : Around) (outer : List PySem.Env) (s : Shared) (H : Hp) (E : XK) (p : Addr) (fp : List Addr) (F0 : Hp) (hr : Room 3 (cxD P w K mg base ["draw"] "_law_price" (defScope (top 62)) (He.fAd K ("_law_price", none)) cdv A outer s H E).A) (tk : Takes (cxD P w K mg base ["draw"] "_law_price" (defScope (top 62)) (He.fAd K ("_law_price", none)) cdv A outer s H E) (fun cls d _ H => E cls d H))
    (hp : PassesOwn (model P w) (cxD P w K mg base ["draw"] "_law_price" (defScope (top 62)) (He.fAd K ("_law_price", none)) cdv A outer s H E).A (cxD P w K mg base ["draw"] "_law_price" (defScope (top 62)) (He.fAd K ("_law_price", none)) cdv A outer s H E).env (cxD P w K mg base ["draw"] "_law_price" (defScope (top 62)) (He.fAd K ("_law_price", none)) cdv A outer s H E).xe) : DSs (cxD P w K mg base ["draw"] "_law_price" (defScope (top 62)) (He.fAd K ("_law_price", none)) cdv A outer s H E) tkD ⟨p, fp, F0, H, [.tok]⟩ (fun cls d _ H => E cls d H) (defBody (top 62)) g_law_price := by
  have h_law_pick := has_law_pick (P := P) (w := w) (base := base) S
  have h_law_take := has_law_take (P := P) (w := w) (base := base) S
  have hN := sc_law_price.nd
  exact (dss_one (ds_ret (de_callK (h_law_pick.mono (by decide)) hr tk (dm_tok 0 (dm_bor (dr_of (de_of (df_lst (da_cons (de_op op_addD (dr_of de_int) (dr_of (de_callK (h_law_take.mono (by decide)) hr tk (dm_tok 0 (dm_sh de_int dm_nil))))) (da_cons (de_op op_addD (dr_of de_int) (dr_of (de_callK (h_law_take.mono (by decide)) hr tk (dm_tok 0 (dm_sh de_int dm_nil))))) (da_cons (de_op op_addD (dr_of de_int) (dr_of (de_callK (h_law_take.mono (by decide)) hr tk (dm_tok 0 (dm_sh (de_op op_powD (dr_of de_int) (dr_of de_int)) dm_nil))))) (da_cons (de_op op_subD (dr_of (de_op op_powD (dr_of de_int) (dr_of de_int))) (dr_of (de_callK (h_law_take.mono (by decide)) hr tk (dm_tok 0 (dm_sh de_int dm_nil))))) da_nil))))))) dm_nil)))))
theorem has_law_price (S : Says fx fa fn K mg) : Has P w K mg base 4 "_law_price" ["draw"] (spC ⟨K, mg⟩ tkD [.tok] f_law_price) := by
  obtain ⟨fd, F⟩ := S.fun_ 41 (d := d_law_price) rfl
  have ok : FnOk P w K mg base (L2.CX P w) 4 (He.fAd K ("_law_price", none)) fd ["draw"] (spC ⟨K, mg⟩ tkD [.tok] f_law_price) := fn_clean (N := ["draw"]) [.tok] F sc_law_price rfl (by decide) (b_law_price S)
  exact ⟨_, fd, S.glo 47, F.kp, F.bindsN fun _ _ _ _ _ _ us hl => match us, hl with | [_], _ => rfl, ok⟩
/-! ### _law_bid -/
def g_law_bid : G Dr := (sSeq (sSet (dCallF f_law_pick (dCons (dVar 0) (dCons (fun ρ => do M.opt (lstOk (← (dCons (dC (.int 2)) (dCons (dC (.int 4)) (dCons (dC (.int 101)) dNil))) ρ))) dNil))) 1)
  (sRet (fun ρ => do M.opt (tupOk (← (dCons (dC (.str "bid")) (dCons (dCallF f_law_price (dCons (dVar 0) dNil)) (dCons (dCall tupleD (dCons (dComp (dSeq range1D (dCons (dC (.int 4)) dNil)) (gSet 2) [2] dYes (dCallF f_law_take (dCons (dVar 0) (dCons (dVar 1) dNil)))) dNil)) dNil))) ρ)))))
def f_law_bid : Fn Dr := runB 3 g_law_bid
theorem sc_law_bid : FnScope ["draw", "most", "k"] ["draw"] (defScope (top 63)) := ⟨rfl, rfl, rfl, by decide +kernel, rfl, by decide +kernel, by decide +kernel⟩
theorem b_law_bid (S : Says fx fa fn K mg) (cdv : Value) (A : Around) (outer : List PySem.Env) (s : Shared) (H : Hp) (E : XK) (p : Addr) (fp : List Addr) (F0 : Hp) (hr : Room 4 (cxD P w K mg base ["draw", "most", "k"] "_law_bid" (defScope (top 63)) (He.fAd K ("_law_bid", none)) cdv A outer s H E).A) (tk : Takes (cxD P w K mg base ["draw", "most", "k"] "_law_bid" (defScope (top 63)) (He.fAd K ("_law_bid", none)) cdv A outer s H E) (fun cls d _ H => E cls d H))
    (hp : PassesOwn (model P w) (cxD P w K mg base ["draw", "most", "k"] "_law_bid" (defScope (top 63)) (He.fAd K ("_law_bid", none)) cdv A outer s H E).A (cxD P w K mg base ["draw", "most", "k"] "_law_bid" (defScope (top 63)) (He.fAd K ("_law_bid", none)) cdv A outer s H E).env (cxD P w K mg base ["draw", "most", "k"] "_law_bid" (defScope (top 63)) (He.fAd K ("_law_bid", none)) cdv A outer s H E).xe) : DSs (cxD P w K mg base ["draw", "most", "k"] "_law_bid" (defScope (top 63)) (He.fAd K ("_law_bid", none)) cdv A outer s H E) tkD ⟨p, fp, F0, H, [.tok, .sh, .sh]⟩ (fun cls d _ H => E cls d H) (defBody (top 63)) g_law_bid := by
  have h_law_pick := has_law_pick (P := P) (w := w) (base := base) S
  have h_law_price := has_law_price (P := P) (w := w) (base := base) S
  have h_law_take := has_law_take (P := P) (w := w) (base := base) S
  have hN := sc_law_bid.nd
  exact (dss_cons (ds_set 1 hN (de_callK (h_law_pick.mono (by decide)) hr tk (dm_tok 0 (dm_bor (dr_of (de_of (df_lst (da_cons de_int (da_cons de_int (da_cons de_int da_nil)))))) dm_nil))))
  (dss_one (ds_ret (de_tup (da_cons de_str (da_cons (de_callK (h_law_price.mono (by decide)) hr tk (dm_tok 0 dm_nil)) (da_cons (de_callT cr_tupleD (S.free 4) (dar_cons (dr_of (de_of (df_comp [("k", 2)] rfl hN rfl (di_range1 (S.free 48) (dar_cons (dr_of de_int) dar_nil)) (blk_of (by rfl)) (fun _ _ _ _ _ => (dg_name 2 hN)) (fun _ _ _ _ _ => dts_nil) (fun _ _ _ _ _ => (de_callK (h_law_take.mono (by decide)) hr takes0 (dm_tok 0 (dm_sh (de_var 1) dm_nil))))))) dar_nil)) da_nil)))))))
theorem has_law_bid (S : Says fx fa fn K mg) : Has P w K mg base 5 "_law_bid" ["draw"] (spC ⟨K, mg⟩ tkD [.tok] f_law_bid) := by
  obtain ⟨fd, F⟩ := S.fun_ 42 (d := d_law_bid) rfl
  have ok : FnOk P w K mg base (L2.CX P w) 5 (He.fAd K ("_law_bid", none)) fd ["draw"] (spC ⟨K, mg⟩ tkD [.tok] f_law_bid) := fn_clean (N := ["draw", "most", "k"]) [.tok] F sc_law_bid rfl (by decide) (b_law_bid S)
  exact ⟨_, fd, S.glo 49, F.kp, F.bindsN fun _ _ _ _ _ _ us hl => match us, hl with | [_], _ => rfl, ok⟩
/-! ### _law_field -/
def g_law_field : G Dr := (sSeq (sSet (fun ρ => do M.opt (lstOk (← dNil ρ))) 2)
  (sSeq (sFor (dSeq range1D (dCons (dVar 1) dNil)) (gSet 3) (sApp 2 (dIf (dAnd (dCmpT neD (dVar 2) (fun ρ => do M.opt (lstOk (← dNil ρ)))) (dCmpT eqD (dCallF f_law_take (dCons (dVar 0) (dCons (dC (.int 6)) dNil))) (dC (.int 0)))) (dCallF f_law_pick (dCons (dVar 0) (dCons (dVar 2) dNil))) (dCallF f_law_bid (dCons (dVar 0) dNil)))))
  (sRetO 2)))
def f_law_field : Fn Dr := runF 4 g_law_field
theorem sc_law_field : FnScope ["draw", "many", "found", "k"] ["draw", "many"] (defScope (top 64)) := ⟨rfl, rfl, rfl, by decide +kernel, rfl, by decide +kernel, by decide +kernel⟩
theorem b_law_field (S : Says fx fa fn K mg) (cdv : Value) (A : Around) (outer : List PySem.Env) (s : Shared) (H : Hp) (E : XK) (p : Addr) (fp : List Addr) (F0 : Hp) (hr : Room 5 (cxD P w K mg base ["draw", "many", "found", "k"] "_law_field" (defScope (top 64)) (He.fAd K ("_law_field", none)) cdv A outer s H E).A) (tk : Takes (cxD P w K mg base ["draw", "many", "found", "k"] "_law_field" (defScope (top 64)) (He.fAd K ("_law_field", none)) cdv A outer s H E) (fun cls d _ H => E cls d H))
    (hp : PassesOwn (model P w) (cxD P w K mg base ["draw", "many", "found", "k"] "_law_field" (defScope (top 64)) (He.fAd K ("_law_field", none)) cdv A outer s H E).A (cxD P w K mg base ["draw", "many", "found", "k"] "_law_field" (defScope (top 64)) (He.fAd K ("_law_field", none)) cdv A outer s H E).env (cxD P w K mg base ["draw", "many", "found", "k"] "_law_field" (defScope (top 64)) (He.fAd K ("_law_field", none)) cdv A outer s H E).xe) : DSs (cxD P w K mg base ["draw", "many", "found", "k"] "_law_field" (defScope (top 64)) (He.fAd K ("_law_field", none)) cdv A outer s H E) tkD ⟨p, fp, F0, H, [.tok, .sh, .own, .sh]⟩ (fun cls d _ H => E cls d H) (defBody (top 64)) g_law_field := by
  have h_law_take := has_law_take (P := P) (w := w) (base := base) S
  have h_law_pick := has_law_pick (P := P) (w := w) (base := base) S
  have h_law_bid := has_law_bid (P := P) (w := w) (base := base) S
  have hN := sc_law_field.nd
  exact (dss_cons (ds_setO 2 hN (df_lst da_nil))
  (dss_cons (ds_for (us := [3]) hp rfl (di_range1 (S.free 48) (dar_cons (dr_var 1) dar_nil)) (dg_name 3 hN) (dss_one (ds_append 2 (de_if (dt_w (dw_and (dt_cmp (op_neQ hr.units) (dr_var 2) (dr_of (de_of (df_lst da_nil))) (nomark _)) (dw_and1 (dt_cmp (op_eqQ hr.units) (dr_of (de_callK (h_law_take.mono (by decide)) hr tk (dm_tok 0 (dm_sh de_int dm_nil)))) (dr_of de_int) (nomark _))))) (de_callK (h_law_pick.mono (by decide)) hr tk (dm_tok 0 (dm_bor (dr_var 2) dm_nil))) (de_callK (h_law_bid.mono (by decide)) hr tk (dm_tok 0 dm_nil))))))
  (dss_one (ds_retO 2))))
theorem has_law_field (S : Says fx fa fn K mg) : Has P w K mg base 6 "_law_field" ["draw", "many"] (spN ⟨K, mg⟩ tkD [.tok, .sh] f_law_field) := by
  obtain ⟨fd, F⟩ := S.fun_ 43 (d := d_law_field) rfl
  have ok : FnOk P w K mg base (L2.CX P w) 6 (He.fAd K ("_law_field", none)) fd ["draw", "many"] (spN ⟨K, mg⟩ tkD [.tok, .sh] f_law_field) := fn_new (N := ["draw", "many", "found", "k"]) [.tok, .sh] F sc_law_field rfl (by decide) (b_law_field S)
  exact ⟨_, fd, S.glo 50, F.kp, F.bindsN fun _ _ _ _ _ _ us hl => match us, hl with | [_, _], _ => rfl, ok⟩
/-! ### _law_formula -/
def g_law_formula : G Dr := (sSeq (sSet (dCallF f_law_pick (dCons (dVar 0) (dCons (fun ρ => do M.opt (lstOk (← (dCons (fun ρ => do M.opt (lstOk (← (dCons (dC (.str "mark")) (dCons (dC (.str "low")) (dCons (dC (.str "range")) (dCons (dC (.str "mean")) dNil)))) ρ))) (dCons (fun ρ => do M.opt (lstOk (← (dCons (dC (.str "mark")) (dCons (dC (.str "low")) (dCons (dC (.str "range")) dNil))) ρ))) (dCons (fun ρ => do M.opt (lstOk (← (dCons (dC (.str "mark")) (dCons (dC (.str "range")) dNil)) ρ))) (dCons (fun ρ => do M.opt (lstOk (← (dCons (dC (.str "mark")) (dCons (dC (.str "low")) dNil)) ρ))) (dCons (fun ρ => do M.opt (lstOk (← (dCons (dC (.str "mark")) dNil) ρ))) (dCons (fun ρ => do M.opt (lstOk (← (dCons (dC (.str "low")) (dCons (dC (.str "range")) (dCons (dC (.str "mean")) dNil))) ρ))) dNil)))))) ρ))) dNil))) 1)
  (sSeq (sPar 2 3 (dCallF f_law_pick (dCons (dVar 0) (dCons (fun ρ => do M.opt (lstOk (← (dCons (dC (.int 3)) (dCons (dC (.int 12)) (dCons (dC (.int 1000)) dNil))) ρ))) dNil))) (fun ρ => do M.opt (lstOk (← dNil ρ))))
  (sSeq (sFor (dSeq range1D (dCons (dCallF f_law_take (dCons (dVar 0) (dCons (dC (.int 7)) dNil))) dNil)) (gSet 4) (sSeq (sPar 5 6 (dCallF f_law_pick (dCons (dVar 0) (dCons (dVar 1) dNil))) (dBin addD (dC (.int 1)) (dCallF f_law_take (dCons (dVar 0) (dCons (dVar 2) dNil)))))
  (sApp 3 (dIf (dCmpT eqD (dVar 5) (dC (.str "mark"))) (fun ρ => do M.opt (tupOk (← (dCons (dVar 5) (dCons (dCallF f_law_take (dCons (dVar 0) (dCons (dC (.int 4)) dNil))) (dCons (dVar 6) dNil))) ρ))) (fun ρ => do M.opt (tupOk (← (dCons (dVar 5) (dCons (dVar 6) dNil)) ρ)))))))
  (sRet (dCall tupleD (dCons (dVar 3) dNil))))))
def f_law_formula : Fn Dr := runB 7 g_law_formula
theorem sc_law_formula : FnScope ["draw", "kinds", "most", "found", "k", "word", "weight"] ["draw"] (defScope (top 65)) := ⟨rfl, rfl, rfl, by decide +kernel, rfl, by decide +kernel, by decide +kernel⟩
theorem b_law_formula (S : Says fx fa fn K mg) (cdv : Value) (A : Around) (outer : List PySem.Env) (s : Shared) (H : Hp) (E : XK) (p : Addr) (fp : List Addr) (F0 : Hp) (hr : Room 3 (cxD P w K mg base ["draw", "kinds", "most", "found", "k", "word", "weight"] "_law_formula" (defScope (top 65)) (He.fAd K ("_law_formula", none)) cdv A outer s H E).A) (tk : Takes (cxD P w K mg base ["draw", "kinds", "most", "found", "k", "word", "weight"] "_law_formula" (defScope (top 65)) (He.fAd K ("_law_formula", none)) cdv A outer s H E) (fun cls d _ H => E cls d H))
    (hp : PassesOwn (model P w) (cxD P w K mg base ["draw", "kinds", "most", "found", "k", "word", "weight"] "_law_formula" (defScope (top 65)) (He.fAd K ("_law_formula", none)) cdv A outer s H E).A (cxD P w K mg base ["draw", "kinds", "most", "found", "k", "word", "weight"] "_law_formula" (defScope (top 65)) (He.fAd K ("_law_formula", none)) cdv A outer s H E).env (cxD P w K mg base ["draw", "kinds", "most", "found", "k", "word", "weight"] "_law_formula" (defScope (top 65)) (He.fAd K ("_law_formula", none)) cdv A outer s H E).xe) : DSs (cxD P w K mg base ["draw", "kinds", "most", "found", "k", "word", "weight"] "_law_formula" (defScope (top 65)) (He.fAd K ("_law_formula", none)) cdv A outer s H E) tkD ⟨p, fp, F0, H, [.tok, .sh, .sh, .own, .sh, .sh, .sh]⟩ (fun cls d _ H => E cls d H) (defBody (top 65)) g_law_formula := by
  have h_law_pick := has_law_pick (P := P) (w := w) (base := base) S
  have h_law_take := has_law_take (P := P) (w := w) (base := base) S
  have hN := sc_law_formula.nd
  exact (dss_cons (ds_set 1 hN (de_callK (h_law_pick.mono (by decide)) hr tk (dm_tok 0 (dm_bor (dr_of (de_of (df_lst (da_cons (de_of (df_lst (da_cons de_str (da_cons de_str (da_cons de_str (da_cons de_str da_nil)))))) (da_cons (de_of (df_lst (da_cons de_str (da_cons de_str (da_cons de_str da_nil))))) (da_cons (de_of (df_lst (da_cons de_str (da_cons de_str da_nil)))) (da_cons (de_of (df_lst (da_cons de_str (da_cons de_str da_nil)))) (da_cons (de_of (df_lst (da_cons de_str da_nil))) (da_cons (de_of (df_lst (da_cons de_str (da_cons de_str (da_cons de_str da_nil))))) da_nil))))))))) dm_nil))))
  (dss_cons (ds_par 2 3 rfl hN (dx_sh (de_callK (h_law_pick.mono (by decide)) hr tk (dm_tok 0 (dm_bor (dr_of (de_of (df_lst (da_cons de_int (da_cons de_int (da_cons de_int da_nil)))))) dm_nil)))) (dx_own (df_lst da_nil)))
  (dss_cons (ds_for (us := [4]) hp rfl (di_range1 (S.free 48) (dar_cons (dr_of (de_callK (h_law_take.mono (by decide)) hr tk (dm_tok 0 (dm_sh de_int dm_nil)))) dar_nil)) (dg_name 4 hN) (dss_cons (ds_par 5 6 rfl hN (dx_sh (de_callK (h_law_pick.mono (by decide)) hr tk (dm_tok 0 (dm_bor (dr_var 1) dm_nil)))) (dx_sh (de_op op_addD (dr_of de_int) (dr_of (de_callK (h_law_take.mono (by decide)) hr tk (dm_tok 0 (dm_sh (de_var 2) dm_nil)))))))
  (dss_one (ds_append 3 (de_if (dt_cmp (op_eqQ hr.units) (dr_var 5) (dr_of de_str) (nomark _)) (de_tup (da_cons (de_var 5) (da_cons (de_callK (h_law_take.mono (by decide)) hr tk (dm_tok 0 (dm_sh de_int dm_nil))) (da_cons (de_var 6) da_nil)))) (de_tup (da_cons (de_var 5) (da_cons (de_var 6) da_nil))))))))
  (dss_one (ds_ret (de_callT cr_tupleD (S.free 4) (dar_cons (dr_var 3) dar_nil)))))))
theorem has_law_formula (S : Says fx fa fn K mg) : Has P w K mg base 4 "_law_formula" ["draw"] (spC ⟨K, mg⟩ tkD [.tok] f_law_formula) := by
  obtain ⟨fd, F⟩ := S.fun_ 44 (d := d_law_formula) rfl
  have ok : FnOk P w K mg base (L2.CX P w) 4 (He.fAd K ("_law_formula", none)) fd ["draw"] (spC ⟨K, mg⟩ tkD [.tok] f_law_formula) := fn_clean (N := ["draw", "kinds", "most", "found", "k", "word", "weight"]) [.tok] F sc_law_formula rfl (by decide) (b_law_formula S)
  exact ⟨_, fd, S.glo 51, F.kp, F.bindsN fun _ _ _ _ _ _ us hl => match us, hl with | [_], _ => rfl, ok⟩
/-! ### _law_bent_bid -/
def g_law_bent_bid : G Dr := (sSeq (sAsg (dVar 1) (gTupD 3 (gsCons (gSet 2) (gsCons (gSet 3) (gsCons (gSet 4) gsNil)))))
  (sSeq (sSet (dCallF f_law_take (dCons (dVar 0) (dCons (dC (.int 4)) dNil))) 5)
  (sSeq (sSet (dCallF f_law_pick (dCons (dVar 0) (dCons (fun ρ => do M.opt (lstOk (← (dCons (dUn negD (dC (.int 1))) (dCons (dC (.int 101)) (dCons (dC .non) (dCons (dC (.bl true)) (dCons (dC (.str "1")) (dCons (fun ρ => do M.opt (tupOk (← (dCons (dC (.int 1)) dNil) ρ))) dNil)))))) ρ))) dNil))) 6)
  (sSeq (sSet (fun ρ => do M.opt (lstOk (← (dCons (dC .non) (dCons (dC (.int 5)) (dCons (dC (.str "bid")) (dCons (dCall listD (dCons (dVar 1) dNil)) (dCons (dSl slTD (dVar 1) dNone (dSome (dC (.int 2)))) (dCons (dBin addD (dVar 1) (fun ρ => do M.opt (tupOk (← (dCons (dC (.int 0)) dNil) ρ)))) (dCons (fun ρ => do M.opt (tupOk (← (dCons (dC (.str "Bid")) (dCons (dVar 3) (dCons (dVar 4) dNil))) ρ))) (dCons (fun ρ => do M.opt (tupOk (← (dCons (dC .non) (dCons (dVar 3) (dCons (dVar 4) dNil))) ρ))) (dCons (fun ρ => do M.opt (tupOk (← (dCons (dVar 2) (dCons (dC (.int 0)) (dCons (dVar 4) dNil))) ρ))) (dCons (fun ρ => do M.opt (tupOk (← (dCons (dVar 2) (dCons (dBin addD (dBin powD (dC (.int 10)) (dC (.int 9))) (dC (.int 1))) (dCons (dVar 4) dNil))) ρ))) dNil)))))))))) ρ))) 7)
  (sSeq (sSet (dBin catD (dVar 7) (fun ρ => do M.opt (lstOk (← (dCons (fun ρ => do M.opt (tupOk (← (dCons (dVar 2) (dCons (dC (.bl true)) (dCons (dVar 4) dNil))) ρ))) (dCons (fun ρ => do M.opt (tupOk (← (dCons (dVar 2) (dCons (dCall strD (dCons (dVar 3) dNil)) (dCons (dVar 4) dNil))) ρ))) (dCons (fun ρ => do M.opt (tupOk (← (dCons (dVar 2) (dCons (dVar 3) (dCons (dCall listD (dCons (dVar 4) dNil)) dNil))) ρ))) (dCons (fun ρ => do M.opt (tupOk (← (dCons (dVar 2) (dCons (dVar 3) (dCons (dSl slTD (dVar 4) dNone (dSome (dC (.int 3)))) dNil))) ρ))) (dCons (fun ρ => do M.opt (tupOk (← (dCons (dVar 2) (dCons (dVar 3) (dCons (dBin addD (dVar 4) (fun ρ => do M.opt (tupOk (← (dCons (dC (.int 0)) dNil) ρ)))) dNil))) ρ))) dNil))))) ρ)))) 7)
  (sSeq (sApp 7 (fun ρ => do M.opt (tupOk (← (dCons (dVar 2) (dCons (dVar 3) (dCons (dBin addD (dBin addD (dSl slTD (dVar 4) dNone (dSome (dVar 5))) (fun ρ => do M.opt (tupOk (← (dCons (dVar 6) dNil) ρ)))) (dSl slTD (dVar 4) (dSome (dBin addD (dVar 5) (dC (.int 1)))) dNone)) dNil))) ρ))))
  (sSeq (sSet (fun ρ => do M.opt (lstOk (← (dCons (fun ρ => do M.opt (tupOk (← (dCons (dVar 2) (dCons (dBin powD (dC (.int 10)) (dC (.int 9))) (dCons (dVar 4) dNil))) ρ))) (dCons (fun ρ => do M.opt (tupOk (← (dCons (dVar 2) (dCons (dC (.int 1)) (dCons (dVar 4) dNil))) ρ))) (dCons (fun ρ => do M.opt (tupOk (← (dCons (dVar 2) (dCons (dVar 3) (dCons (dBin addD (dBin addD (dSl slTD (dVar 4) dNone (dSome (dVar 5))) (fun ρ => do M.opt (tupOk (← (dCons (dC (.int 100)) dNil) ρ)))) (dSl slTD (dVar 4) (dSome (dBin addD (dVar 5) (dC (.int 1)))) dNone)) dNil))) ρ))) dNil))) ρ))) 8)
  (sRet (dIf (dCmpT gtD (dCallF f_law_take (dCons (dVar 0) (dCons (dC (.int 4)) dNil))) (dC (.int 0))) (fun ρ => do M.opt (tupOk (← (dCons (dCallF f_law_pick (dCons (dVar 0) (dCons (dVar 7) dNil))) (dCons (dC (.bl false)) dNil)) ρ))) (fun ρ => do M.opt (tupOk (← (dCons (dCallF f_law_pick (dCons (dVar 0) (dCons (dVar 8) dNil))) (dCons (dC (.bl true)) dNil)) ρ))))))))))))
def f_law_bent_bid : Fn Dr := runB 9 g_law_bent_bid
theorem sc_law_bent_bid : FnScope ["draw", "bid", "word", "price", "marks", "at", "odd", "wrong", "good"] ["draw", "bid"] (defScope (top 66)) := ⟨rfl, rfl, rfl, by decide +kernel, rfl, by decide +kernel, by decide +kernel⟩
theorem b_law_bent_bid (S : Says fx fa fn K mg) (cdv : Value) (A : Around) (outer : List PySem.Env) (s : Shared) (H : Hp) (E : XK) (p : Addr) (fp : List Addr) (F0 : Hp) (hr : Room 3 (cxD P w K mg base ["draw", "bid", "word", "price", "marks", "at", "odd", "wrong", "good"] "_law_bent_bid" (defScope (top 66)) (He.fAd K ("_law_bent_bid", none)) cdv A outer s H E).A) (tk : Takes (cxD P w K mg base ["draw", "bid", "word", "price", "marks", "at", "odd", "wrong", "good"] "_law_bent_bid" (defScope (top 66)) (He.fAd K ("_law_bent_bid", none)) cdv A outer s H E) (fun cls d _ H => E cls d H))
    (hp : PassesOwn (model P w) (cxD P w K mg base ["draw", "bid", "word", "price", "marks", "at", "odd", "wrong", "good"] "_law_bent_bid" (defScope (top 66)) (He.fAd K ("_law_bent_bid", none)) cdv A outer s H E).A (cxD P w K mg base ["draw", "bid", "word", "price", "marks", "at", "odd", "wrong", "good"] "_law_bent_bid" (defScope (top 66)) (He.fAd K ("_law_bent_bid", none)) cdv A outer s H E).env (cxD P w K mg base ["draw", "bid", "word", "price", "marks", "at", "odd", "wrong", "good"] "_law_bent_bid" (defScope (top 66)) (He.fAd K ("_law_bent_bid", none)) cdv A outer s H E).xe) : DSs (cxD P w K mg base ["draw", "bid", "word", "price", "marks", "at", "odd", "wrong", "good"] "_law_bent_bid" (defScope (top 66)) (He.fAd K ("_law_bent_bid", none)) cdv A outer s H E) tkD ⟨p, fp, F0, H, [.tok, .sh, .sh, .sh, .sh, .sh, .sh, .own, .sh]⟩ (fun cls d _ H => E cls d H) (defBody (top 66)) g_law_bent_bid := by
  have h_law_take := has_law_take (P := P) (w := w) (base := base) S
  have h_law_pick := has_law_pick (P := P) (w := w) (base := base) S
  have hN := sc_law_bent_bid.nd
  exact (dss_cons (ds_asg (us := [2, 3, 4]) (de_var 1) (dg_tup 3 rfl (dgs_cons (dg_name 2 hN) (dgs_cons (dg_name 3 hN) (dgs_cons (dg_name 4 hN) dgs_nil)))))
  (dss_cons (ds_set 5 hN (de_callK (h_law_take.mono (by decide)) hr tk (dm_tok 0 (dm_sh de_int dm_nil))))
  (dss_cons (ds_set 6 hN (de_callK (h_law_pick.mono (by decide)) hr tk (dm_tok 0 (dm_bor (dr_of (de_of (df_lst (da_cons (de_un un_negD (dr_of de_int)) (da_cons de_int (da_cons de_non (da_cons de_bl (da_cons de_str (da_cons (de_tup (da_cons de_int da_nil)) da_nil))))))))) dm_nil))))
  (dss_cons (ds_setO 7 hN (df_lst (da_cons de_non (da_cons de_int (da_cons de_str (da_cons (de_of (df_callT (cr_listD rfl) (S.free 12) (dar_cons (dr_var 1) dar_nil))) (da_cons (de_sl (dr_var 1) do_none (do_some de_int)) (da_cons (de_op op_addD (dr_var 1) (dr_of (de_tup (da_cons de_int da_nil)))) (da_cons (de_tup (da_cons de_str (da_cons (de_var 3) (da_cons (de_var 4) da_nil)))) (da_cons (de_tup (da_cons de_non (da_cons (de_var 3) (da_cons (de_var 4) da_nil)))) (da_cons (de_tup (da_cons (de_var 2) (da_cons de_int (da_cons (de_var 4) da_nil)))) (da_cons (de_tup (da_cons (de_var 2) (da_cons (de_op op_addD (dr_of (de_op op_powD (dr_of de_int) (dr_of de_int))) (dr_of de_int)) (da_cons (de_var 4) da_nil)))) da_nil))))))))))))
  (dss_cons (ds_setO 7 hN (df_op op_catD (dr_var 7) (dr_of (de_of (df_lst (da_cons (de_tup (da_cons (de_var 2) (da_cons de_bl (da_cons (de_var 4) da_nil)))) (da_cons (de_tup (da_cons (de_var 2) (da_cons (de_callT cr_strD (S.free 6) (dar_cons (dr_var 3) dar_nil)) (da_cons (de_var 4) da_nil)))) (da_cons (de_tup (da_cons (de_var 2) (da_cons (de_var 3) (da_cons (de_of (df_callT (cr_listD rfl) (S.free 12) (dar_cons (dr_var 4) dar_nil))) da_nil)))) (da_cons (de_tup (da_cons (de_var 2) (da_cons (de_var 3) (da_cons (de_sl (dr_var 4) do_none (do_some de_int)) da_nil)))) (da_cons (de_tup (da_cons (de_var 2) (da_cons (de_var 3) (da_cons (de_op op_addD (dr_var 4) (dr_of (de_tup (da_cons de_int da_nil)))) da_nil)))) da_nil))))))))))
  (dss_cons (ds_append 7 (de_tup (da_cons (de_var 2) (da_cons (de_var 3) (da_cons (de_op op_addD (dr_of (de_op op_addD (dr_of (de_sl (dr_var 4) do_none (do_some (de_var 5)))) (dr_of (de_tup (da_cons (de_var 6) da_nil))))) (dr_of (de_sl (dr_var 4) (do_some (de_op op_addD (dr_var 5) (dr_of de_int))) do_none))) da_nil)))))
  (dss_cons (ds_set 8 hN (de_of (df_lst (da_cons (de_tup (da_cons (de_var 2) (da_cons (de_op op_powD (dr_of de_int) (dr_of de_int)) (da_cons (de_var 4) da_nil)))) (da_cons (de_tup (da_cons (de_var 2) (da_cons de_int (da_cons (de_var 4) da_nil)))) (da_cons (de_tup (da_cons (de_var 2) (da_cons (de_var 3) (da_cons (de_op op_addD (dr_of (de_op op_addD (dr_of (de_sl (dr_var 4) do_none (do_some (de_var 5)))) (dr_of (de_tup (da_cons de_int da_nil))))) (dr_of (de_sl (dr_var 4) (do_some (de_op op_addD (dr_var 5) (dr_of de_int))) do_none))) da_nil)))) da_nil))))))
  (dss_one (ds_ret (de_if (dt_cmp op_gtD (dr_of (de_callK (h_law_take.mono (by decide)) hr tk (dm_tok 0 (dm_sh de_int dm_nil)))) (dr_of de_int) (nomark _)) (de_tup (da_cons (de_callK (h_law_pick.mono (by decide)) hr tk (dm_tok 0 (dm_bor (dr_var 7) dm_nil))) (da_cons de_bl da_nil))) (de_tup (da_cons (de_callK (h_law_pick.mono (by decide)) hr tk (dm_tok 0 (dm_bor (dr_var 8) dm_nil))) (da_cons de_bl da_nil)))))))))))))
theorem has_law_bent_bid (S : Says fx fa fn K mg) : Has P w K mg base 4 "_law_bent_bid" ["draw", "bid"] (spC ⟨K, mg⟩ tkD [.tok, .sh] f_law_bent_bid) := by
  obtain ⟨fd, F⟩ := S.fun_ 45 (d := d_law_bent_bid) rfl
  have ok : FnOk P w K mg base (L2.CX P w) 4 (He.fAd K ("_law_bent_bid", none)) fd ["draw", "bid"] (spC ⟨K, mg⟩ tkD [.tok, .sh] f_law_bent_bid) := fn_clean (N := ["draw", "bid", "word", "price", "marks", "at", "odd", "wrong", "good"]) [.tok, .sh] F sc_law_bent_bid rfl (by decide) (b_law_bent_bid S)
  exact ⟨_, fd, S.glo 52, F.kp, F.bindsN fun _ _ _ _ _ _ us hl => match us, hl with | [_, _], _ => rfl, ok⟩
/-! ### _law_bent_formula -/
def g_law_bent_formula : G Dr := (sSeq (sSet (fun ρ => do M.opt (lstOk (← (dCons (dC .non) (dCons (dC (.int 5)) (dCons (dC (.str "low")) (dCons (dCall listD (dCons (dVar 1) dNil)) (dCons (dBin addD (dVar 1) (fun ρ => do M.opt (tupOk (← (dCons (fun ρ => do M.opt (tupOk (← dNil ρ))) dNil) ρ)))) (dCons (dBin addD (dSl slTD (dVar 1) dNone (dSome (dC (.int 5)))) (fun ρ => do M.opt (tupOk (← (dCons (fun ρ => do M.opt (tupOk (← (dCons (dC (.str "low")) (dCons (dC (.int 0)) dNil)) ρ))) dNil) ρ)))) (dCons (dBin addD (dSl slTD (dVar 1) dNone (dSome (dC (.int 5)))) (fun ρ => do M.opt (tupOk (← (dCons (fun ρ => do M.opt (tupOk (← (dCons (dC (.str "low")) (dCons (dC (.int 1001)) dNil)) ρ))) dNil) ρ)))) (dCons (dBin addD (dSl slTD (dVar 1) dNone (dSome (dC (.int 5)))) (fun ρ => do M.opt (tupOk (← (dCons (fun ρ => do M.opt (tupOk (← (dCons (dC (.str "low")) (dCons (dC (.bl true)) dNil)) ρ))) dNil) ρ)))) dNil)))))))) ρ))) 2)
  (sSeq (sSet (dBin catD (dVar 2) (dComp (dItems (fun ρ => do M.opt (lstOk (← (dCons (fun ρ => do M.opt (tupOk (← (dCons (dC (.str "low")) dNil) ρ))) (dCons (fun ρ => do M.opt (tupOk (← (dCons (dC (.str "low")) (dCons (dC (.int 1)) (dCons (dC (.int 1)) dNil))) ρ))) (dCons (fun ρ => do M.opt (tupOk (← (dCons (dC (.str "mark")) (dCons (dC (.int 4)) (dCons (dC (.int 1)) dNil))) ρ))) (dCons (fun ρ => do M.opt (tupOk (← (dCons (dC (.str "mark")) (dCons (dUn negD (dC (.int 1))) (dCons (dC (.int 1)) dNil))) ρ))) (dCons (fun ρ => do M.opt (tupOk (← (dCons (dC (.str "mark")) (dCons (dC (.int 1)) dNil)) ρ))) (dCons (fun ρ => do M.opt (tupOk (← (dCons (dC (.str "mark")) (dCons (dC (.int 0)) (dCons (dC (.int 0)) dNil))) ρ))) (dCons (fun ρ => do M.opt (tupOk (← (dCons (dC (.str "mark")) (dCons (dC (.int 0)) (dCons (dC (.int 1001)) dNil))) ρ))) (dCons (fun ρ => do M.opt (tupOk (← (dCons (dC (.str "Low")) (dCons (dC (.int 1)) dNil)) ρ))) dNil)))))))) ρ)))) (gSet 4) [4] dYes (dBin addD (dSl slTD (dVar 1) dNone (dSome (dC (.int 5)))) (fun ρ => do M.opt (tupOk (← (dCons (dVar 4) dNil) ρ)))))) 2)
  (sSeq (sSet (dBin catD (dVar 2) (dComp (dItems (fun ρ => do M.opt (lstOk (← (dCons (fun ρ => do M.opt (lstOk (← (dCons (dC (.str "low")) (dCons (dC (.int 1)) dNil)) ρ))) (dCons (fun ρ => do M.opt (tupOk (← (dCons (dC .non) (dCons (dC (.int 1)) dNil)) ρ))) (dCons (fun ρ => do M.opt (tupOk (← (dCons (dC (.str "mark")) (dCons (dC (.bl true)) (dCons (dC (.int 1)) dNil))) ρ))) (dCons (fun ρ => do M.opt (tupOk (← (dCons (dC (.str "mark")) (dCons (dC (.str "0")) (dCons (dC (.int 1)) dNil))) ρ))) (dCons (fun ρ => do M.opt (tupOk (← (dCons (dC (.str "mean")) (dCons (dC (.str "1")) dNil)) ρ))) (dCons (fun ρ => do M.opt (tupOk (← (dCons (dC (.str "range")) (dCons (dC .non) dNil)) ρ))) (dCons (dC (.str "low")) dNil))))))) ρ)))) (gSet 4) [4] dYes (dBin addD (dSl slTD (dVar 1) dNone (dSome (dC (.int 5)))) (fun ρ => do M.opt (tupOk (← (dCons (dVar 4) dNil) ρ)))))) 2)
  (sSeq (sApp 2 (dBin addD (dVar 1) (dBin repTD (fun ρ => do M.opt (tupOk (← (dCons (fun ρ => do M.opt (tupOk (← (dCons (dC (.str "low")) (dCons (dC (.int 1)) dNil)) ρ))) dNil) ρ))) (dBin subD (dC (.int 7)) (dCall lenD (dCons (dVar 1) dNil))))))
  (sSeq (sSet (fun ρ => do M.opt (lstOk (← (dCons (fun ρ => do M.opt (tupOk (← dNil ρ))) (dCons (dBin addD (dSl slTD (dVar 1) dNone (dSome (dC (.int 5)))) (fun ρ => do M.opt (tupOk (← (dCons (fun ρ => do M.opt (tupOk (← (dCons (dC (.str "mark")) (dCons (dC (.int 3)) (dCons (dC (.int 1000)) dNil))) ρ))) dNil) ρ)))) (dCons (dBin addD (dSl slTD (dVar 1) dNone (dSome (dC (.int 5)))) (fun ρ => do M.opt (tupOk (← (dCons (fun ρ => do M.opt (tupOk (← (dCons (dC (.str "mean")) (dCons (dC (.int 1000)) dNil)) ρ))) dNil) ρ)))) (dCons (dBin addD (dVar 1) (dBin repTD (fun ρ => do M.opt (tupOk (← (dCons (fun ρ => do M.opt (tupOk (← (dCons (dC (.str "range")) (dCons (dC (.int 1)) dNil)) ρ))) dNil) ρ))) (dBin subD (dC (.int 6)) (dCall lenD (dCons (dVar 1) dNil))))) dNil)))) ρ))) 3)
  (sRet (dIf (dCmpT gtD (dCallF f_law_take (dCons (dVar 0) (dCons (dC (.int 4)) dNil))) (dC (.int 0))) (fun ρ => do M.opt (tupOk (← (dCons (dCallF f_law_pick (dCons (dVar 0) (dCons (dVar 2) dNil))) (dCons (dC (.bl false)) dNil)) ρ))) (fun ρ => do M.opt (tupOk (← (dCons (dCallF f_law_pick (dCons (dVar 0) (dCons (dVar 3) dNil))) (dCons (dC (.bl true)) dNil)) ρ))))))))))
def f_law_bent_formula : Fn Dr := runB 5 g_law_bent_formula
theorem sc_law_bent_formula : FnScope ["draw", "formula", "wrong", "good", "term"] ["draw", "formula"] (defScope (top 67)) := ⟨rfl, rfl, rfl, by decide +kernel, rfl, by decide +kernel, by decide +kernel⟩
theorem b_law_bent_formula (S : Says fx fa fn K mg) (cdv : Value) (A : Around) (outer : List PySem.Env) (s : Shared) (H : Hp) (E : XK) (p : Addr) (fp : List Addr) (F0 : Hp) (hr : Room 3 (cxD P w K mg base ["draw", "formula", "wrong", "good", "term"] "_law_bent_formula" (defScope (top 67)) (He.fAd K ("_law_bent_formula", none)) cdv A outer s H E).A) (tk : Takes (cxD P w K mg base ["draw", "formula", "wrong", "good", "term"] "_law_bent_formula" (defScope (top 67)) (He.fAd K ("_law_bent_formula", none)) cdv A outer s H E) (fun cls d _ H => E cls d H))
    (hp : PassesOwn (model P w) (cxD P w K mg base ["draw", "formula", "wrong", "good", "term"] "_law_bent_formula" (defScope (top 67)) (He.fAd K ("_law_bent_formula", none)) cdv A outer s H E).A (cxD P w K mg base ["draw", "formula", "wrong", "good", "term"] "_law_bent_formula" (defScope (top 67)) (He.fAd K ("_law_bent_formula", none)) cdv A outer s H E).env (cxD P w K mg base ["draw", "formula", "wrong", "good", "term"] "_law_bent_formula" (defScope (top 67)) (He.fAd K ("_law_bent_formula", none)) cdv A outer s H E).xe) : DSs (cxD P w K mg base ["draw", "formula", "wrong", "good", "term"] "_law_bent_formula" (defScope (top 67)) (He.fAd K ("_law_bent_formula", none)) cdv A outer s H E) tkD ⟨p, fp, F0, H, [.tok, .sh, .own, .sh, .sh]⟩ (fun cls d _ H => E cls d H) (defBody (top 67)) g_law_bent_formula := by
  have h_law_take := has_law_take (P := P) (w := w) (base := base) S
  have h_law_pick := has_law_pick (P := P) (w := w) (base := base) S
  have hN := sc_law_bent_formula.nd
  exact (dss_cons (ds_setO 2 hN (df_lst (da_cons de_non (da_cons de_int (da_cons de_str (da_cons (de_of (df_callT (cr_listD rfl) (S.free 12) (dar_cons (dr_var 1) dar_nil))) (da_cons (de_op op_addD (dr_var 1) (dr_of (de_tup (da_cons (de_tup da_nil) da_nil)))) (da_cons (de_op op_addD (dr_of (de_sl (dr_var 1) do_none (do_some de_int))) (dr_of (de_tup (da_cons (de_tup (da_cons de_str (da_cons de_int da_nil))) da_nil)))) (da_cons (de_op op_addD (dr_of (de_sl (dr_var 1) do_none (do_some de_int))) (dr_of (de_tup (da_cons (de_tup (da_cons de_str (da_cons de_int da_nil))) da_nil)))) (da_cons (de_op op_addD (dr_of (de_sl (dr_var 1) do_none (do_some de_int))) (dr_of (de_tup (da_cons (de_tup (da_cons de_str (da_cons de_bl da_nil))) da_nil)))) da_nil))))))))))
  (dss_cons (ds_setO 2 hN (df_op op_catD (dr_var 2) (dr_of (de_of (df_comp [("term", 4)] rfl hN rfl (di_seq (de_of (df_lst (da_cons (de_tup (da_cons de_str da_nil)) (da_cons (de_tup (da_cons de_str (da_cons de_int (da_cons de_int da_nil)))) (da_cons (de_tup (da_cons de_str (da_cons de_int (da_cons de_int da_nil)))) (da_cons (de_tup (da_cons de_str (da_cons (de_un un_negD (dr_of de_int)) (da_cons de_int da_nil)))) (da_cons (de_tup (da_cons de_str (da_cons de_int da_nil))) (da_cons (de_tup (da_cons de_str (da_cons de_int (da_cons de_int da_nil)))) (da_cons (de_tup (da_cons de_str (da_cons de_int (da_cons de_int da_nil)))) (da_cons (de_tup (da_cons de_str (da_cons de_int da_nil))) da_nil))))))))))) (blk_of (by rfl)) (fun _ _ _ _ _ => (dg_name 4 hN)) (fun _ _ _ _ _ => dts_nil) (fun _ _ _ _ _ => (de_op op_addD (dr_of (de_sl (dr_var 1) do_none (do_some de_int))) (dr_of (de_tup (da_cons (de_var 4) da_nil))))))))))
  (dss_cons (ds_setO 2 hN (df_op op_catD (dr_var 2) (dr_of (de_of (df_comp [("term", 4)] rfl hN rfl (di_seq (de_of (df_lst (da_cons (de_of (df_lst (da_cons de_str (da_cons de_int da_nil)))) (da_cons (de_tup (da_cons de_non (da_cons de_int da_nil))) (da_cons (de_tup (da_cons de_str (da_cons de_bl (da_cons de_int da_nil)))) (da_cons (de_tup (da_cons de_str (da_cons de_str (da_cons de_int da_nil)))) (da_cons (de_tup (da_cons de_str (da_cons de_str da_nil))) (da_cons (de_tup (da_cons de_str (da_cons de_non da_nil))) (da_cons de_str da_nil)))))))))) (blk_of (by rfl)) (fun _ _ _ _ _ => (dg_name 4 hN)) (fun _ _ _ _ _ => dts_nil) (fun _ _ _ _ _ => (de_op op_addD (dr_of (de_sl (dr_var 1) do_none (do_some de_int))) (dr_of (de_tup (da_cons (de_var 4) da_nil))))))))))
  (dss_cons (ds_append 2 (de_op op_addD (dr_var 1) (dr_of (de_op op_repTD (dr_of (de_tup (da_cons (de_tup (da_cons de_str (da_cons de_int da_nil))) da_nil))) (dr_of (de_op op_subD (dr_of de_int) (dr_of (de_callB cr_lenD (S.free 5) (dar_cons (dr_var 1) dar_nil)))))))))
  (dss_cons (ds_set 3 hN (de_of (df_lst (da_cons (de_tup da_nil) (da_cons (de_op op_addD (dr_of (de_sl (dr_var 1) do_none (do_some de_int))) (dr_of (de_tup (da_cons (de_tup (da_cons de_str (da_cons de_int (da_cons de_int da_nil)))) da_nil)))) (da_cons (de_op op_addD (dr_of (de_sl (dr_var 1) do_none (do_some de_int))) (dr_of (de_tup (da_cons (de_tup (da_cons de_str (da_cons de_int da_nil))) da_nil)))) (da_cons (de_op op_addD (dr_var 1) (dr_of (de_op op_repTD (dr_of (de_tup (da_cons (de_tup (da_cons de_str (da_cons de_int da_nil))) da_nil))) (dr_of (de_op op_subD (dr_of de_int) (dr_of (de_callB cr_lenD (S.free 5) (dar_cons (dr_var 1) dar_nil)))))))) da_nil)))))))
  (dss_one (ds_ret (de_if (dt_cmp op_gtD (dr_of (de_callK (h_law_take.mono (by decide)) hr tk (dm_tok 0 (dm_sh de_int dm_nil)))) (dr_of de_int) (nomark _)) (de_tup (da_cons (de_callK (h_law_pick.mono (by decide)) hr tk (dm_tok 0 (dm_bor (dr_var 2) dm_nil))) (da_cons de_bl da_nil))) (de_tup (da_cons (de_callK (h_law_pick.mono (by decide)) hr tk (dm_tok 0 (dm_bor (dr_var 3) dm_nil))) (da_cons de_bl da_nil)))))))))))
theorem has_law_bent_formula (S : Says fx fa fn K mg) : Has P w K mg base 4 "_law_bent_formula" ["draw", "formula"] (spC ⟨K, mg⟩ tkD [.tok, .sh] f_law_bent_formula) := by
  obtain ⟨fd, F⟩ := S.fun_ 46 (d := d_law_bent_formula) rfl
  have ok : FnOk P w K mg base (L2.CX P w) 4 (He.fAd K ("_law_bent_formula", none)) fd ["draw", "formula"] (spC ⟨K, mg⟩ tkD [.tok, .sh] f_law_bent_formula) := fn_clean (N := ["draw", "formula", "wrong", "good", "term"]) [.tok, .sh] F sc_law_bent_formula rfl (by decide) (b_law_bent_formula S)
  exact ⟨_, fd, S.glo 53, F.kp, F.bindsN fun _ _ _ _ _ _ us hl => match us, hl with | [_, _], _ => rfl, ok⟩
/-! ### _law_is_kind -/
def g_law_is_kind : G Unit := (sSeq (sIf (dCmpT eqD (dVar 1) (dC (.str "formula"))) (sRet (dUn (isxD exAll ["BadFormula"]) (dVar 0))) sNext)
  (sRet (dIf (dCmpT eqD (dVar 1) (dC (.str "field"))) (dUn (isxD exAll ["BadField"]) (dVar 0)) (dUn (isxD exAll ["BadIndex"]) (dVar 0)))))
def f_law_is_kind : Fn Unit := runB 2 g_law_is_kind
theorem sc_law_is_kind : FnScope ["caught", "kind"] ["caught", "kind"] (defScope (top 69)) := ⟨rfl, rfl, rfl, by decide +kernel, rfl, by decide +kernel, by decide +kernel⟩
theorem b_law_is_kind (S : Says fx fa fn K mg) (cdv : Value) (A : Around) (outer : List PySem.Env) (s : Shared) (H : Hp) (E : XK) (p : Addr) (fp : List Addr) (F0 : Hp) (hr : Room 0 (cxD P w K mg base ["caught", "kind"] "_law_is_kind" (defScope (top 69)) (He.fAd K ("_law_is_kind", none)) cdv A outer s H E).A) (tk : Takes (cxD P w K mg base ["caught", "kind"] "_law_is_kind" (defScope (top 69)) (He.fAd K ("_law_is_kind", none)) cdv A outer s H E) (fun cls d _ H => E cls d H))
    (hp : PassesOwn (model P w) (cxD P w K mg base ["caught", "kind"] "_law_is_kind" (defScope (top 69)) (He.fAd K ("_law_is_kind", none)) cdv A outer s H E).A (cxD P w K mg base ["caught", "kind"] "_law_is_kind" (defScope (top 69)) (He.fAd K ("_law_is_kind", none)) cdv A outer s H E).env (cxD P w K mg base ["caught", "kind"] "_law_is_kind" (defScope (top 69)) (He.fAd K ("_law_is_kind", none)) cdv A outer s H E).xe) : DSs (cxD P w K mg base ["caught", "kind"] "_law_is_kind" (defScope (top 69)) (He.fAd K ("_law_is_kind", none)) cdv A outer s H E) Tk.no ⟨p, fp, F0, H, [.sh, .sh]⟩ (fun cls d _ H => E cls d H) (defBody (top 69)) g_law_is_kind := by
  have hN := sc_law_is_kind.nd
  exact (dss_cons (ds_if (dt_cmp (op_eqQ hr.units) (dr_var 1) (dr_of de_str) (nomark _)) (dss_one (ds_ret (de_isx (S.isx (ex_ok S) rfl rfl 0) (S.free 0) (de_var 0)))) dss_nil)
  (dss_one (ds_ret (de_if (dt_cmp (op_eqQ hr.units) (dr_var 1) (dr_of de_str) (nomark _)) (de_isx (S.isx (ex_ok S) rfl rfl 1) (S.free 0) (de_var 0)) (de_isx (S.isx (ex_ok S) rfl rfl 2) (S.free 0) (de_var 0))))))
theorem has_law_is_kind (S : Says fx fa fn K mg) : Has P w K mg base 1 "_law_is_kind" ["caught", "kind"] (spC ⟨K, mg⟩ Tk.no [.sh, .sh] f_law_is_kind) := by
  obtain ⟨fd, F⟩ := S.fun_ 48 (d := d_law_is_kind) rfl
  have ok : FnOk P w K mg base (L2.CX P w) 1 (He.fAd K ("_law_is_kind", none)) fd ["caught", "kind"] (spC ⟨K, mg⟩ Tk.no [.sh, .sh] f_law_is_kind) := fn_clean (N := ["caught", "kind"]) [.sh, .sh] F sc_law_is_kind rfl (by decide) (b_law_is_kind S)
  exact ⟨_, fd, S.glo 55, F.kp, F.bindsN fun _ _ _ _ _ _ us hl => match us, hl with | [_, _], _ => rfl, ok⟩
/-! ### _law_refused -/
def tb_1 : Str → Option (Fn Unit) := fun x => if x = "mark_weights" then some f_mark_weights else if x = "relative_weights" then some f_relative_weights else if x = "least_mark_sum" then some f_least_mark_sum else if x = "passes" then some f_passes else if x = "turn" then some f_turn else none
theorem tb_1_ok (S : Says fx fa fn K mg) : ∀ y f, tb_1 y = some f → ∃ ps, Has P w K mg base 7 y ps (spC ⟨K, mg⟩ Tk.no [.sh] f) := fun y f h => by
  unfold tb_1 at h
  by_cases e : y = "mark_weights"
  · rw [if_pos e] at h; cases h; rw [e]; exact ⟨_, (has_mark_weights S).mono (by decide)⟩
  rw [if_neg e] at h
  by_cases e : y = "relative_weights"
  · rw [if_pos e] at h; cases h; rw [e]; exact ⟨_, (has_relative_weights S).mono (by decide)⟩
  rw [if_neg e] at h
  by_cases e : y = "least_mark_sum"
  · rw [if_pos e] at h; cases h; rw [e]; exact ⟨_, (has_least_mark_sum S).mono (by decide)⟩
  rw [if_neg e] at h
  by_cases e : y = "passes"
  · rw [if_pos e] at h; cases h; rw [e]; exact ⟨_, (has_passes S).mono (by decide)⟩
  rw [if_neg e] at h
  by_cases e : y = "turn"
  · rw [if_pos e] at h; cases h; rw [e]; exact ⟨_, (has_turn S).mono (by decide)⟩
  rw [if_neg e] at h
  cases h
def tb_2 : Str → Option (Fn Unit) := fun x => if x = "scores" then some f_scores else if x = "ranking" then some f_ranking else if x = "spoilers" then some f_spoilers else if x = "first_spoilers" then some f_first_spoilers else none
theorem tb_2_ok (S : Says fx fa fn K mg) : ∀ y f, tb_2 y = some f → ∃ ps, Has P w K mg base 5 y ps (spC ⟨K, mg⟩ Tk.no [.sh, .sh] f) := fun y f h => by
  unfold tb_2 at h
  by_cases e : y = "scores"
  · rw [if_pos e] at h; cases h; rw [e]; exact ⟨_, (has_scores S).mono (by decide)⟩
  rw [if_neg e] at h
  by_cases e : y = "ranking"
  · rw [if_pos e] at h; cases h; rw [e]; exact ⟨_, (has_ranking S).mono (by decide)⟩
  rw [if_neg e] at h
  by_cases e : y = "spoilers"
  · rw [if_pos e] at h; cases h; rw [e]; exact ⟨_, (has_spoilers S).mono (by decide)⟩
  rw [if_neg e] at h
  by_cases e : y = "first_spoilers"
  · rw [if_pos e] at h; cases h; rw [e]; exact ⟨_, (has_first_spoilers S).mono (by decide)⟩
  rw [if_neg e] at h
  cases h
def g_law_refused : G Dr := (sSeq (sAsg (fun ρ => do M.opt (tupOk (← (dCons (dCallF f_law_pick (dCons (dVar 0) (dCons (fun ρ => do M.opt (lstOk (← (dCons (dC .non) (dCons (dC (.int 5)) (dCons (fun ρ => do M.opt (lstOk (← (dCons (fun ρ => do M.opt (tupOk (← (dCons (dC (.str "low")) (dCons (dC (.int 1)) dNil)) ρ))) dNil) ρ))) (dCons (fun ρ => do M.opt (tupOk (← (dCons (fun ρ => do M.opt (tupOk (← (dCons (dC (.str "low")) (dCons (dC (.int 0)) dNil)) ρ))) dNil) ρ))) dNil)))) ρ))) dNil))) (dCons (dCallF f_law_pick (dCons (dVar 0) (dCons (fun ρ => do M.opt (lstOk (← (dCons (dC .non) (dCons (dC (.int 5)) (dCons (dC (.str "field")) (dCons (dC (.dct [])) (dCons (fun ρ => do M.opt (lstOk (← (dCons (dC .non) dNil) ρ))) (dCons (fun ρ => do M.opt (lstOk (← (dCons (fun ρ => do M.opt (tupOk (← (dCons (dC (.str "bid")) (dCons (dC (.int 0)) (dCons (fun ρ => do M.opt (tupOk (← (dCons (dC (.int 0)) (dCons (dC (.int 0)) (dCons (dC (.int 0)) (dCons (dC (.int 0)) dNil)))) ρ))) dNil))) ρ))) dNil) ρ))) dNil)))))) ρ))) dNil))) dNil)) ρ))) (gTupD 2 (gsCons (gSet 3) (gsCons (gSet 4) gsNil))))
  (sSeq (sFor (dItems (fun ρ => do M.opt (lstOk (← (dCons (dC (.fn "mark_weights")) (dCons (dC (.fn "relative_weights")) (dCons (dC (.fn "least_mark_sum")) (dCons (dC (.fn "passes")) (dCons (dC (.fn "turn")) dNil))))) ρ)))) (gSet 5) (sIf (dNot (dTru (dUn (isxD exAll ["BadFormula"]) (dCaught exAll (dCallV 5 tb_1 (dCons (dVar 3) dNil)))))) (sRet (dC (.bl false))) sNext))
  (sSeq (sFor (dItems (fun ρ => do M.opt (lstOk (← (dCons (dC (.fn "scores")) (dCons (dC (.fn "ranking")) (dCons (dC (.fn "spoilers")) (dCons (dC (.fn "first_spoilers")) dNil)))) ρ)))) (gSet 5) (sIf (dOr (dNot (dTru (dUn (isxD exAll ["BadFormula"]) (dCaught exAll (dCallV 5 tb_2 (dCons (dVar 3) (dCons (dVar 4) dNil))))))) (dNot (dTru (dUn (isxD exAll ["BadField"]) (dCaught exAll (dCallV 5 tb_2 (dCons (dVar 1) (dCons (dVar 4) dNil)))))))) (sRet (dC (.bl false))) sNext))
  (sSeq (sIf (dNot (dTru (dUn (isxD exAll ["BadFormula"]) (dCaught exAll (dCallF (fun ds => liftP (f_is_turn ds)) (dCons (dVar 3) (dCons (dVar 4) dNil))))))) (sRet (dC (.bl false))) sNext)
  (sSeq (sSet (dCallF f_law_pick (dCons (dVar 0) (dCons (fun ρ => do M.opt (lstOk (← (dCons (dUn negD (dC (.int 1))) (dCons (dCall lenD (dCons (dVar 2) dNil)) (dCons (dC .non) (dCons (dC (.bl true)) (dCons (dC (.str "0")) dNil))))) ρ))) dNil))) 6)
  (sSeq (sFor (dItems (fun ρ => do M.opt (lstOk (← (dCons (fun ρ => do M.opt (tupOk (← (dCons (dC (.str "formula")) (dCons (fun ρ => do M.opt (tupOk (← (dCons (dVar 3) (dCons (dVar 4) (dCons (dVar 6) dNil))) ρ))) dNil)) ρ))) (dCons (fun ρ => do M.opt (tupOk (← (dCons (dC (.str "field")) (dCons (fun ρ => do M.opt (tupOk (← (dCons (dVar 1) (dCons (dVar 4) (dCons (dVar 6) dNil))) ρ))) dNil)) ρ))) (dCons (fun ρ => do M.opt (tupOk (← (dCons (dC (.str "index")) (dCons (fun ρ => do M.opt (tupOk (← (dCons (dVar 1) (dCons (dVar 2) (dCons (dVar 6) dNil))) ρ))) dNil)) ρ))) dNil))) ρ)))) (gTupD 2 (gsCons (gSet 7) (gsCons (gSet 8) gsNil))) (sSeq (sIf (dNot (dTru (dCallF (fun ds => liftP (f_law_is_kind ds)) (dCons (dCaught exAll (dCallF (fun ds => liftP (f_score ds)) (dCons (dBin ixD (dVar 8) (dC (.int 0))) (dCons (dBin ixD (dVar 8) (dC (.int 1))) (dCons (dBin ixD (dVar 8) (dC (.int 2))) dNil))))) (dCons (dVar 7) dNil))))) (sRet (dC (.bl false))) sNext)
  (sIf (dNot (dTru (dCallF (fun ds => liftP (f_law_is_kind ds)) (dCons (dCaught exAll (dCallF (fun ds => liftP (f_ahead ds)) (dCons (dBin ixD (dVar 8) (dC (.int 0))) (dCons (dBin ixD (dVar 8) (dC (.int 1))) (dCons (dBin ixD (dVar 8) (dC (.int 2))) (dCons (dVar 6) dNil)))))) (dCons (dVar 7) dNil))))) (sRet (dC (.bl false))) sNext)))
  (sSeq (sIf (dCmpT ltD (dCall lenD (dCons (dVar 2) dNil)) (dC (.int 2))) (sRet (dC (.bl true))) sNext)
  (sSeq (sFor (dItems (fun ρ => do M.opt (lstOk (← (dCons (dVar 6) (dCons (dC (.int 0)) dNil)) ρ)))) (gSet 9) (sIf (dNot (dTru (dUn (isxD exAll ["BadIndex"]) (dCaught exAll (dCallF (fun ds => liftP (f_ahead ds)) (dCons (dVar 1) (dCons (dVar 2) (dCons (dC (.int 0)) (dCons (dVar 9) dNil))))))))) (sRet (dC (.bl false))) sNext))
  (sRet (dC (.bl true)))))))))))
def f_law_refused : Fn Dr := runB 10 g_law_refused
theorem sc_law_refused : FnScope ["draw", "formula", "field", "bad", "worse", "work", "odd", "kind", "given", "second"] ["draw", "formula", "field"] (defScope (top 68)) := ⟨rfl, rfl, rfl, by decide +kernel, rfl, by decide +kernel, by decide +kernel⟩
theorem b_law_refused (S : Says fx fa fn K mg) (TB : LamX.TabB base mg (He.cT K ("_law_refused", none)).1 (He.cT K ("_law_refused", none)).2) (A : Around) (outer : List PySem.Env) (s : Shared) (H : Hp) (E : XK) (p : Addr) (fp : List Addr) (F0 : Hp) (hr : Room 9 (cxD P w K mg base ["draw", "formula", "field", "bad", "worse", "work", "odd", "kind", "given", "second"] "_law_refused" (defScope (top 68)) (He.fAd K ("_law_refused", none)) (.ref (He.codeOf K ("_law_refused", none))) A outer s H E).A) (tk : Takes (cxD P w K mg base ["draw", "formula", "field", "bad", "worse", "work", "odd", "kind", "given", "second"] "_law_refused" (defScope (top 68)) (He.fAd K ("_law_refused", none)) (.ref (He.codeOf K ("_law_refused", none))) A outer s H E) (fun cls d _ H => E cls d H))
    (hp : PassesOwn (model P w) (cxD P w K mg base ["draw", "formula", "field", "bad", "worse", "work", "odd", "kind", "given", "second"] "_law_refused" (defScope (top 68)) (He.fAd K ("_law_refused", none)) (.ref (He.codeOf K ("_law_refused", none))) A outer s H E).A (cxD P w K mg base ["draw", "formula", "field", "bad", "worse", "work", "odd", "kind", "given", "second"] "_law_refused" (defScope (top 68)) (He.fAd K ("_law_refused", none)) (.ref (He.codeOf K ("_law_refused", none))) A outer s H E).env (cxD P w K mg base ["draw", "formula", "field", "bad", "worse", "work", "odd", "kind", "given", "second"] "_law_refused" (defScope (top 68)) (He.fAd K ("_law_refused", none)) (.ref (He.codeOf K ("_law_refused", none))) A outer s H E).xe) : DSs (cxD P w K mg base ["draw", "formula", "field", "bad", "worse", "work", "odd", "kind", "given", "second"] "_law_refused" (defScope (top 68)) (He.fAd K ("_law_refused", none)) (.ref (He.codeOf K ("_law_refused", none))) A outer s H E) (tkT tkD (tabs K)) ⟨p, fp, F0, H, [.tok, .sh, .sh, .sh, .sh, .sh, .sh, .sh, .sh, .sh]⟩ (fun cls d _ H => E cls d H) (defBody (top 68)) g_law_refused := by
  have h_law_pick := has_law_pick (P := P) (w := w) (base := base) S
  have h_is_turn := has_is_turn (P := P) (w := w) (base := base) S
  have h_law_is_kind := has_law_is_kind (P := P) (w := w) (base := base) S
  have h_score := has_score (P := P) (w := w) (base := base) S
  have h_ahead := has_ahead (P := P) (w := w) (base := base) S
  have hN := sc_law_refused.nd
  obtain ⟨fdc, Fc⟩ := S.fun_ 40 (d := d_law_caught) rfl
  have hbc : L2.Binds K fdc ["work"] [] := Fc.bindsN fun _ _ _ _ _ _ us hl => match us, hl with | [_], _ => rfl
  exact (dss_cons (ds_asg (us := [3, 4]) (de_tup (da_cons (de_callK (h_law_pick.lift.mono (by decide)) hr tk (dm_tok 0 (dm_bor (dr_of (de_of (df_lst (da_cons de_non (da_cons de_int (da_cons (de_of (df_lst (da_cons (de_tup (da_cons de_str (da_cons de_int da_nil))) da_nil))) (da_cons (de_tup (da_cons (de_tup (da_cons de_str (da_cons de_int da_nil))) da_nil)) da_nil))))))) dm_nil))) (da_cons (de_callK (h_law_pick.lift.mono (by decide)) hr tk (dm_tok 0 (dm_bor (dr_of (de_of (df_lst (da_cons de_non (da_cons de_int (da_cons de_str (da_cons (de_of df_dict0) (da_cons (de_of (df_lst (da_cons de_non da_nil))) (da_cons (de_of (df_lst (da_cons (de_tup (da_cons de_str (da_cons de_int (da_cons (de_tup (da_cons de_int (da_cons de_int (da_cons de_int (da_cons de_int da_nil))))) da_nil)))) da_nil))) da_nil))))))))) dm_nil))) da_nil))) (dg_tup 2 rfl (dgs_cons (dg_name 3 hN) (dgs_cons (dg_name 4 hN) dgs_nil))))
  (dss_cons (ds_for (us := [5]) hp rfl (di_seq (de_of (df_lst (da_cons (de_fn (S.glo 29)) (da_cons (de_fn (S.glo 31)) (da_cons (de_fn (S.glo 38)) (da_cons (de_fn (S.glo 39)) (da_cons (de_fn (S.glo 40)) da_nil)))))))) (dg_name 5 hN) (dss_one (ds_if (dt_not (dt_tru (dr_of (de_isx (S.isx (ex_ok S) rfl rfl 0) (S.free 0) (de_caught (k := 7) (S.glo 54) Fc.kp Fc hbc sc_law_caught rfl (Or.inl rfl) (fun cdg => gives S _ rfl rfl _ cdg _) (S.taken (ex_ok S) rfl rfl) TB rfl (tabs_mem K) (tabs_one K) (hr.mono (by decide)) (LamX.lamS_by (sc := defScope (top 68)) (by decide +kernel)) rfl (fun _ _ _ _ _ => rfl) (fun A outer s H E f c hrL tkL => (de_callV (i := 5) (tb_1_ok S) (hrL.mono (by decide)) tkL (dm_sh (de_var 3) dm_nil)))))))) (dss_one (ds_ret de_bl)) dss_nil)))
  (dss_cons (ds_for (us := [5]) hp rfl (di_seq (de_of (df_lst (da_cons (de_fn (S.glo 33)) (da_cons (de_fn (S.glo 34)) (da_cons (de_fn (S.glo 36)) (da_cons (de_fn (S.glo 37)) da_nil))))))) (dg_name 5 hN) (dss_one (ds_if (dt_w (dw_or (dt_not (dt_tru (dr_of (de_isx (S.isx (ex_ok S) rfl rfl 0) (S.free 0) (de_caught (k := 7) (S.glo 54) Fc.kp Fc hbc sc_law_caught rfl (Or.inl rfl) (fun cdg => gives S _ rfl rfl _ cdg _) (S.taken (ex_ok S) rfl rfl) TB rfl (tabs_mem K) (tabs_one K) (hr.mono (by decide)) (LamX.lamS_by (sc := defScope (top 68)) (by decide +kernel)) rfl (fun _ _ _ _ _ => rfl) (fun A outer s H E f c hrL tkL => (de_callV (i := 5) (tb_2_ok S) (hrL.mono (by decide)) tkL (dm_sh (de_var 3) (dm_sh (de_var 4) dm_nil))))))))) (dw_or1 (dt_not (dt_tru (dr_of (de_isx (S.isx (ex_ok S) rfl rfl 1) (S.free 0) (de_caught (k := 7) (S.glo 54) Fc.kp Fc hbc sc_law_caught rfl (Or.inl rfl) (fun cdg => gives S _ rfl rfl _ cdg _) (S.taken (ex_ok S) rfl rfl) TB rfl (tabs_mem K) (tabs_one K) (hr.mono (by decide)) (LamX.lamS_by (sc := defScope (top 68)) (by decide +kernel)) rfl (fun _ _ _ _ _ => rfl) (fun A outer s H E f c hrL tkL => (de_callV (i := 5) (tb_2_ok S) (hrL.mono (by decide)) tkL (dm_sh (de_var 1) (dm_sh (de_var 4) dm_nil)))))))))))) (dss_one (ds_ret de_bl)) dss_nil)))
  (dss_cons (ds_if (dt_not (dt_tru (dr_of (de_isx (S.isx (ex_ok S) rfl rfl 0) (S.free 0) (de_caught (k := 7) (S.glo 54) Fc.kp Fc hbc sc_law_caught rfl (Or.inl rfl) (fun cdg => gives S _ rfl rfl _ cdg _) (S.taken (ex_ok S) rfl rfl) TB rfl (tabs_mem K) (tabs_one K) (hr.mono (by decide)) (LamX.lamS_by (sc := defScope (top 68)) (by decide +kernel)) rfl (fun _ _ _ _ _ => rfl) (fun A outer s H E f c hrL tkL => (de_call (h_is_turn.mono (by decide)) hrL tkL (dm_sh (de_var 3) (dm_sh (de_var 4) dm_nil))))))))) (dss_one (ds_ret de_bl)) dss_nil)
  (dss_cons (ds_set 6 hN (de_callK (h_law_pick.lift.mono (by decide)) hr tk (dm_tok 0 (dm_bor (dr_of (de_of (df_lst (da_cons (de_un un_negD (dr_of de_int)) (da_cons (de_callB cr_lenD (S.free 5) (dar_cons (dr_var 2) dar_nil)) (da_cons de_non (da_cons de_bl (da_cons de_str da_nil)))))))) dm_nil))))
  (dss_cons (ds_for (us := [7, 8]) hp rfl (di_seq (de_of (df_lst (da_cons (de_tup (da_cons de_str (da_cons (de_tup (da_cons (de_var 3) (da_cons (de_var 4) (da_cons (de_var 6) da_nil)))) da_nil))) (da_cons (de_tup (da_cons de_str (da_cons (de_tup (da_cons (de_var 1) (da_cons (de_var 4) (da_cons (de_var 6) da_nil)))) da_nil))) (da_cons (de_tup (da_cons de_str (da_cons (de_tup (da_cons (de_var 1) (da_cons (de_var 2) (da_cons (de_var 6) da_nil)))) da_nil))) da_nil)))))) (dg_tup 2 rfl (dgs_cons (dg_name 7 hN) (dgs_cons (dg_name 8 hN) dgs_nil))) (dss_cons (ds_if (dt_not (dt_tru (dr_of (de_call (h_law_is_kind.mono (by decide)) hr tk (dm_sh (de_caught (k := 7) (S.glo 54) Fc.kp Fc hbc sc_law_caught rfl (Or.inl rfl) (fun cdg => gives S _ rfl rfl _ cdg _) (S.taken (ex_ok S) rfl rfl) TB rfl (tabs_mem K) (tabs_one K) (hr.mono (by decide)) (LamX.lamS_by (sc := defScope (top 68)) (by decide +kernel)) rfl (fun _ _ _ _ _ => rfl) (fun A outer s H E f c hrL tkL => (de_call (h_score.mono (by decide)) hrL tkL (dm_sh (de_ix (dr_var 8) de_int) (dm_sh (de_ix (dr_var 8) de_int) (dm_sh (de_ix (dr_var 8) de_int) dm_nil)))))) (dm_sh (de_var 7) dm_nil)))))) (dss_one (ds_ret de_bl)) dss_nil)
  (dss_one (ds_if (dt_not (dt_tru (dr_of (de_call (h_law_is_kind.mono (by decide)) hr tk (dm_sh (de_caught (k := 7) (S.glo 54) Fc.kp Fc hbc sc_law_caught rfl (Or.inl rfl) (fun cdg => gives S _ rfl rfl _ cdg _) (S.taken (ex_ok S) rfl rfl) TB rfl (tabs_mem K) (tabs_one K) (hr.mono (by decide)) (LamX.lamS_by (sc := defScope (top 68)) (by decide +kernel)) rfl (fun _ _ _ _ _ => rfl) (fun A outer s H E f c hrL tkL => (de_call (h_ahead.mono (by decide)) hrL tkL (dm_sh (de_ix (dr_var 8) de_int) (dm_sh (de_ix (dr_var 8) de_int) (dm_sh (de_ix (dr_var 8) de_int) (dm_sh (de_var 6) dm_nil))))))) (dm_sh (de_var 7) dm_nil)))))) (dss_one (ds_ret de_bl)) dss_nil))))
  (dss_cons (ds_if (dt_cmp op_ltD (dr_of (de_callB cr_lenD (S.free 5) (dar_cons (dr_var 2) dar_nil))) (dr_of de_int) (nomark _)) (dss_one (ds_ret de_bl)) dss_nil)
  (dss_cons (ds_for (us := [9]) hp rfl (di_seq (de_of (df_lst (da_cons (de_var 6) (da_cons de_int da_nil))))) (dg_name 9 hN) (dss_one (ds_if (dt_not (dt_tru (dr_of (de_isx (S.isx (ex_ok S) rfl rfl 2) (S.free 0) (de_caught (k := 7) (S.glo 54) Fc.kp Fc hbc sc_law_caught rfl (Or.inl rfl) (fun cdg => gives S _ rfl rfl _ cdg _) (S.taken (ex_ok S) rfl rfl) TB rfl (tabs_mem K) (tabs_one K) (hr.mono (by decide)) (LamX.lamS_by (sc := defScope (top 68)) (by decide +kernel)) rfl (fun _ _ _ _ _ => rfl) (fun A outer s H E f c hrL tkL => (de_call (h_ahead.mono (by decide)) hrL tkL (dm_sh (de_var 1) (dm_sh (de_var 2) (dm_sh de_int (dm_sh (de_var 9) dm_nil))))))))))) (dss_one (ds_ret de_bl)) dss_nil)))
  (dss_one (ds_ret de_bl))))))))))
theorem has_law_refused (S : Says fx fa fn K mg) (TB : LamX.TabB base mg (He.cT K ("_law_refused", none)).1 (He.cT K ("_law_refused", none)).2) : Has P w K mg base 10 "_law_refused" ["draw", "formula", "field"] (spC ⟨K, mg⟩ (tkT tkD (tabs K)) [.tok, .sh, .sh] f_law_refused) := by
  obtain ⟨fd, F⟩ := S.fun_ 47 (d := d_law_refused) rfl
  have ok : FnOk P w K mg base (L2.CX P w) 10 (He.fAd K ("_law_refused", none)) fd ["draw", "formula", "field"] (spC ⟨K, mg⟩ (tkT tkD (tabs K)) [.tok, .sh, .sh] f_law_refused) := fn_cleanC (N := ["draw", "formula", "field", "bad", "worse", "work", "odd", "kind", "given", "second"]) [.tok, .sh, .sh] F (DL.FunD.code F) sc_law_refused rfl (by decide) (b_law_refused S TB)
  exact ⟨_, fd, S.glo 56, F.kp, F.bindsN fun _ _ _ _ _ _ us hl => match us, hl with | [_, _, _], _ => rfl, ok⟩
/-! ### law -/
theorem hk_is_field_0 (S : Says fx fa fn K mg) : HasKw P w K mg base 3 "is_field" ["thing"] ["thing"] 0 [0] (spC ⟨K, mg⟩ Tk.no [.sh] f_is_field) := by
  obtain ⟨fd, F⟩ := S.fun_ 2 (d := d_is_field) rfl
  have ok : FnOk P w K mg base (L2.CX P w) 3 (He.fAd K ("is_field", none)) fd ["thing"] (spC ⟨K, mg⟩ Tk.no [.sh] f_is_field) := fn_clean (N := ["thing", "bid"]) [.sh] F sc_is_field rfl (by decide) (b_is_field S)
  exact ⟨_, fd, S.glo 14, F.kp, fun s us ws _ h1 h2 => match us, ws, h1, h2 with | [], [_], _, _ => FunD.bindsKw F (fun _ _ _ _ _ _ => rfl), ok⟩
theorem hk_is_bid_1 (S : Says fx fa fn K mg) : HasKw P w K mg base 2 "is_bid" ["thing"] ["thing"] 0 [0] (spC ⟨K, mg⟩ Tk.no [.sh] f_is_bid) := by
  obtain ⟨fd, F⟩ := S.fun_ 1 (d := d_is_bid) rfl
  have ok : FnOk P w K mg base (L2.CX P w) 2 (He.fAd K ("is_bid", none)) fd ["thing"] (spC ⟨K, mg⟩ Tk.no [.sh] f_is_bid) := fn_clean (N := ["thing", "marks", "mark"]) [.sh] F sc_is_bid rfl (by decide) (b_is_bid S)
  exact ⟨_, fd, S.glo 11, F.kp, fun s us ws _ h1 h2 => match us, ws, h1, h2 with | [], [_], _, _ => FunD.bindsKw F (fun _ _ _ _ _ _ => rfl), ok⟩
theorem hk_is_formula_2 (S : Says fx fa fn K mg) : HasKw P w K mg base 3 "is_formula" ["thing"] ["thing"] 0 [0] (spC ⟨K, mg⟩ Tk.no [.sh] f_is_formula) := by
  obtain ⟨fd, F⟩ := S.fun_ 7 (d := d_is_formula) rfl
  have ok : FnOk P w K mg base (L2.CX P w) 3 (He.fAd K ("is_formula", none)) fd ["thing"] (spC ⟨K, mg⟩ Tk.no [.sh] f_is_formula) := fn_clean (N := ["thing", "term"]) [.sh] F sc_is_formula rfl (by decide) (b_is_formula S)
  exact ⟨_, fd, S.glo 25, F.kp, fun s us ws _ h1 h2 => match us, ws, h1, h2 with | [], [_], _, _ => FunD.bindsKw F (fun _ _ _ _ _ _ => rfl), ok⟩
theorem hk_mark_weights_3 (S : Says fx fa fn K mg) : HasKw P w K mg base 5 "mark_weights" ["formula"] ["formula"] 0 [0] (spC ⟨K, mg⟩ Tk.no [.sh] f_mark_weights) := by
  obtain ⟨fd, F⟩ := S.fun_ 9 (d := d_mark_weights) rfl
  have ok : FnOk P w K mg base (L2.CX P w) 5 (He.fAd K ("mark_weights", none)) fd ["formula"] (spC ⟨K, mg⟩ Tk.no [.sh] f_mark_weights) := fn_clean (N := ["formula", "sums", "term"]) [.sh] F sc_mark_weights rfl (by decide) (b_mark_weights S)
  exact ⟨_, fd, S.glo 29, F.kp, fun s us ws _ h1 h2 => match us, ws, h1, h2 with | [], [_], _, _ => FunD.bindsKw F (fun _ _ _ _ _ _ => rfl), ok⟩
theorem hk_relative_weights_4 (S : Says fx fa fn K mg) : HasKw P w K mg base 5 "relative_weights" ["formula"] ["formula"] 0 [0] (spC ⟨K, mg⟩ Tk.no [.sh] f_relative_weights) := by
  obtain ⟨fd, F⟩ := S.fun_ 10 (d := d_relative_weights) rfl
  have ok : FnOk P w K mg base (L2.CX P w) 5 (He.fAd K ("relative_weights", none)) fd ["formula"] (spC ⟨K, mg⟩ Tk.no [.sh] f_relative_weights) := fn_clean (N := ["formula", "word", "term"]) [.sh] F sc_relative_weights rfl (by decide) (b_relative_weights S)
  exact ⟨_, fd, S.glo 31, F.kp, fun s us ws _ h1 h2 => match us, ws, h1, h2 with | [], [_], _, _ => FunD.bindsKw F (fun _ _ _ _ _ _ => rfl), ok⟩
def g_law : G Dr := (sSeq (sFor (dSeq range1D (dCons (dBin addD (dC (.int 1)) (dCall min2D (dCons (dCall lenD (dCons (dVar 0) dNil)) (dCons (dC (.int 3)) dNil)))) dNil)) (gSet 2) (sSeq (sAsg (fun ρ => do M.opt (tupOk (← (dCons (dCallF f_law_bid (dCons (dVar 1) dNil)) (dCons (dCallF f_law_formula (dCons (dVar 1) dNil)) (dCons (dCallF f_law_pick (dCons (dVar 1) (dCons (fun ρ => do M.opt (lstOk (← (dCons (dC (.int 0)) (dCons (dC (.int 1)) (dCons (dC (.int 2)) (dCons (dC (.int 5)) (dCons (dC (.int 129)) (dCons (dC (.int 130)) dNil)))))) ρ))) dNil))) dNil))) ρ))) (gTupD 3 (gsCons (gSet 3) (gsCons (gSet 4) (gsCons (gSet 5) gsNil)))))
  (sSeq (sSet (dBin repLD (dCallF f_law_field (dCons (dVar 1) (dCons (dCall min2D (dCons (dVar 5) (dCons (dC (.int 5)) dNil))) dNil))) (dBin addD (dC (.int 1)) (dBin fdivD (dVar 5) (dC (.int 6))))) 6)
  (sSeq (sSet (dBin catD (dSl slLD (dVar 6) dNone (dSome (dVar 5))) (dBin repLD (dSl slLD (dVar 6) dNone (dSome (dC (.int 1)))) (dBin subD (dVar 5) (dCall lenD (dCons (dVar 6) dNil))))) 6)
  (sSeq (sIf (dOr (dCmpT isnotD (dCallF (fun ds => liftP (f_is_bid ds)) (dCons (dVar 3) dNil)) (dC (.bl true))) (dOr (dCmpT isnotD (dCallF (fun ds => liftP (f_is_field ds)) (dCons (dVar 6) dNil)) (dC (.bl true))) (dOr (dCmpT isnotD (dKw (fun ds => liftP (f_is_field ds)) [0] dNil (dCons (dCall tupleD (dCons (dVar 6) dNil)) dNil)) (dC (.bl true))) (dCmpT isnotD (dCallF (fun ds => liftP (f_is_formula ds)) (dCons (dVar 4) dNil)) (dC (.bl true)))))) (sRet (dC (.bl false))) sNext)
  (sSeq (sAsg (dCallF f_law_bent_bid (dCons (dVar 1) (dCons (dVar 3) dNil))) (gTupD 2 (gsCons (gSet 7) (gsCons (gSet 8) gsNil))))
  (sSeq (sIf (dCmpT neD (dCall reprD (dCons (fun ρ => do M.opt (lstOk (← (dCons (dKw (fun ds => liftP (f_is_bid ds)) [0] dNil (dCons (dVar 7) dNil)) (dCons (dCallF (fun ds => liftP (f_is_field ds)) (dCons (dBin catD (dSl slLD (dVar 6) dNone (dSome (dC (.int 129)))) (fun ρ => do M.opt (lstOk (← (dCons (dVar 7) dNil) ρ)))) dNil)) (dCons (dCallF (fun ds => liftP (f_is_field ds)) (dCons (dBin catD (fun ρ => do M.opt (lstOk (← (dCons (dVar 7) dNil) ρ))) (dSl slLD (dVar 6) dNone (dSome (dC (.int 129))))) dNil)) dNil))) ρ))) dNil)) (dCall reprD (dCons (dBin repLD (fun ρ => do M.opt (lstOk (← (dCons (dVar 8) dNil) ρ))) (dC (.int 3))) dNil))) (sRet (dC (.bl false))) sNext)
  (sSeq (sIf (dOr (dCmpT isnotD (dCallF (fun ds => liftP (f_is_field ds)) (dCons (dBin catD (dVar 6) (dBin repLD (fun ρ => do M.opt (lstOk (← (dCons (dVar 3) dNil) ρ))) (dBin subD (dC (.int 131)) (dCall lenD (dCons (dVar 6) dNil))))) dNil)) (dC (.bl false))) (dCmpT isnotD (dCallF (fun ds => liftP (f_is_field ds)) (dCons (dCallF f_law_pick (dCons (dVar 1) (dCons (fun ρ => do M.opt (lstOk (← (dCons (dC .non) (dCons (dC (.int 5)) (dCons (dC (.str "bids")) (dCons (dC (.dct [])) (dCons (dVar 3) dNil))))) ρ))) dNil))) dNil)) (dC (.bl false)))) (sRet (dC (.bl false))) sNext)
  (sSeq (sAsg (dCallF f_law_bent_formula (dCons (dVar 1) (dCons (dVar 4) dNil))) (gTupD 2 (gsCons (gSet 9) (gsCons (gSet 8) gsNil))))
  (sSeq (sIf (dCmpT neD (dCall reprD (dCons (dKw (fun ds => liftP (f_is_formula ds)) [0] dNil (dCons (dVar 9) dNil)) dNil)) (dCall reprD (dCons (dVar 8) dNil))) (sRet (dC (.bl false))) sNext)
  (sSeq (sSet (dComp (dSeq range1D (dCons (dC (.int 4)) dNil)) (gSet 11) [11] dYes (dCall sumAD (dCons (dComp (dItems (dVar 4)) (gSet 12) [12] (dAnd (dCmpT eqD (dBin ixD (dVar 12) (dC (.int 0))) (dC (.str "mark"))) (dCmpT eqD (dBin ixD (dVar 12) (dC (.int 1))) (dVar 11))) (dBin ixD (dVar 12) (dC (.int 2)))) dNil))) 10)
  (sSeq (sIf (dCmpT neD (dCall reprD (dCons (dKw (fun ds => liftP (f_mark_weights ds)) [0] dNil (dCons (dVar 4) dNil)) dNil)) (dCall reprD (dCons (dCall tupleD (dCons (dVar 10) dNil)) dNil))) (sRet (dC (.bl false))) sNext)
  (sSeq (sSet (dComp (dItems (fun ρ => do M.opt (lstOk (← (dCons (dC (.str "low")) (dCons (dC (.str "range")) (dCons (dC (.str "mean")) dNil))) ρ)))) (gSet 13) [13] dYes (dCall sumAD (dCons (dComp (dItems (dVar 4)) (gSet 12) [12] (dCmpT eqD (dBin ixD (dVar 12) (dC (.int 0))) (dVar 13)) (dBin ixD (dVar 12) (dC (.int 1)))) dNil))) 10)
  (sIf (dOr (dCmpT neD (dCall reprD (dCons (dKw (fun ds => liftP (f_relative_weights ds)) [0] dNil (dCons (dVar 4) dNil)) dNil)) (dCall reprD (dCons (dCall tupleD (dCons (dVar 10) dNil)) dNil))) (dNot (dTru (dCallF f_law_refused (dCons (dVar 1) (dCons (dVar 4) (dCons (dVar 6) dNil))))))) (sRet (dC (.bl false))) sNext))))))))))))))
  (sRet (dC (.bl true))))
theorem sc_law : FnScope ["script", "draw", "lap", "bid", "formula", "many", "field", "other", "due", "bent", "sums", "k", "term", "word"] ["script"] (defScope (top 70)) := ⟨rfl, rfl, rfl, by decide +kernel, rfl, by decide +kernel, by decide +kernel⟩
theorem b_law (S : Says fx fa fn K mg) (TB : LamX.TabB base mg (He.cT K lamD).1 (He.cT K lamD).2) (cdv : Value) (s : Shared) (H : Hp) (E : XK) (p : Addr) (fp : List Addr) (F0 H0 : Hp) (hr : Room 10 (cxD P w K mg base ["script", "draw", "lap", "bid", "formula", "many", "field", "other", "due", "bent", "sums", "k", "term", "word"] "law" (defScope (top 70)) (He.fAd K ("law", none)) cdv callerA [] s H E).A) (tk : Takes (cxD P w K mg base ["script", "draw", "lap", "bid", "formula", "many", "field", "other", "due", "bent", "sums", "k", "term", "word"] "law" (defScope (top 70)) (He.fAd K ("law", none)) cdv callerA [] s H E) (fun cls d _ H => E cls d H))
    (hp : PassesOwn (model P w) (cxD P w K mg base ["script", "draw", "lap", "bid", "formula", "many", "field", "other", "due", "bent", "sums", "k", "term", "word"] "law" (defScope (top 70)) (He.fAd K ("law", none)) cdv callerA [] s H E).A (cxD P w K mg base ["script", "draw", "lap", "bid", "formula", "many", "field", "other", "due", "bent", "sums", "k", "term", "word"] "law" (defScope (top 70)) (He.fAd K ("law", none)) cdv callerA [] s H E).env (cxD P w K mg base ["script", "draw", "lap", "bid", "formula", "many", "field", "other", "due", "bent", "sums", "k", "term", "word"] "law" (defScope (top 70)) (He.fAd K ("law", none)) cdv callerA [] s H E).xe) : DSs (cxD P w K mg base ["script", "draw", "lap", "bid", "formula", "many", "field", "other", "due", "bent", "sums", "k", "term", "word"] "law" (defScope (top 70)) (He.fAd K ("law", none)) cdv callerA [] s H E) (tkT tkD (tabs K)) ⟨p, fp, F0, H0, [.sh, .tok, .sh, .sh, .sh, .sh, .sh, .sh, .sh, .sh, .sh, .sh, .sh, .sh]⟩ (fun cls d _ H => E cls d H) ((defBody (top 70)).drop 1) g_law := by
  have h_law_bid := has_law_bid (P := P) (w := w) (base := base) S
  have h_law_formula := has_law_formula (P := P) (w := w) (base := base) S
  have h_law_pick := has_law_pick (P := P) (w := w) (base := base) S
  have h_law_field := has_law_field (P := P) (w := w) (base := base) S
  have h_is_bid := has_is_bid (P := P) (w := w) (base := base) S
  have h_is_field := has_is_field (P := P) (w := w) (base := base) S
  have h_is_formula := has_is_formula (P := P) (w := w) (base := base) S
  have h_law_bent_bid := has_law_bent_bid (P := P) (w := w) (base := base) S
  have h_law_bent_formula := has_law_bent_formula (P := P) (w := w) (base := base) S
  have h_law_refused := has_law_refused (P := P) (w := w) (base := base) S TB
  have hk_is_field_0 := hk_is_field_0 (P := P) (w := w) (base := base) S
  have hk_is_bid_1 := hk_is_bid_1 (P := P) (w := w) (base := base) S
  have hk_is_formula_2 := hk_is_formula_2 (P := P) (w := w) (base := base) S
  have hk_mark_weights_3 := hk_mark_weights_3 (P := P) (w := w) (base := base) S
  have hk_relative_weights_4 := hk_relative_weights_4 (P := P) (w := w) (base := base) S
  have hN := sc_law.nd
  have hgd : (cxD P w K mg base ["script", "draw", "lap", "bid", "formula", "many", "field", "other", "due", "bent", "sums", "k", "term", "word"] "law" (defScope (top 70)) (He.fAd K ("law", none)) cdv callerA [] s H E).A.guards = some [] := rfl
  exact (dss_cons (ds_for (us := [2]) hp rfl (di_range1 (S.free 48) (dar_cons (dr_of (de_op op_addD (dr_of de_int) (dr_of (de_callB (cr_min2D rfl) (S.free 57) (dar_cons (dr_of (de_callB cr_lenD (S.free 5) (dar_cons (dr_var 0) dar_nil))) (dar_cons (dr_of de_int) dar_nil)))))) dar_nil)) (dg_name 2 hN) (dss_cons (ds_asg (us := [3, 4, 5]) (de_tup (da_cons (de_callK (h_law_bid.lift.mono (by decide)) hr tk (dm_tok 1 dm_nil)) (da_cons (de_callK (h_law_formula.lift.mono (by decide)) hr tk (dm_tok 1 dm_nil)) (da_cons (de_callK (h_law_pick.lift.mono (by decide)) hr tk (dm_tok 1 (dm_bor (dr_of (de_of (df_lst (da_cons de_int (da_cons de_int (da_cons de_int (da_cons de_int (da_cons de_int (da_cons de_int da_nil))))))))) dm_nil))) da_nil)))) (dg_tup 3 rfl (dgs_cons (dg_name 3 hN) (dgs_cons (dg_name 4 hN) (dgs_cons (dg_name 5 hN) dgs_nil)))))
  (dss_cons (ds_set 6 hN (de_of (df_rep (df_callK (h_law_field.liftN.mono (by decide)) hr tk (dm_tok 1 (dm_sh (de_callB (cr_min2D rfl) (S.free 57) (dar_cons (dr_var 5) (dar_cons (dr_of de_int) dar_nil))) dm_nil))) (dr_of (de_op op_addD (dr_of de_int) (dr_of (de_op op_fdivD (dr_var 5) (dr_of de_int))))))))
  (dss_cons (ds_set 6 hN (de_of (df_op op_catD (dr_of (de_of (df_sl (dr_var 6) do_none (do_some (de_var 5))))) (dr_of (de_of (df_rep (df_sl (dr_var 6) do_none (do_some de_int)) (dr_of (de_op op_subD (dr_var 5) (dr_of (de_callB cr_lenD (S.free 5) (dar_cons (dr_var 6) dar_nil)))))))))))
  (dss_cons (ds_if (dt_w (dw_or (dt_cmp op_isnotD (dr_of (de_call (h_is_bid.mono (by decide)) hr tk (dm_sh (de_var 3) dm_nil))) (dr_of de_bl) (nomark _)) (dw_or (dt_cmp op_isnotD (dr_of (de_call (h_is_field.mono (by decide)) hr tk (dm_sh (de_var 6) dm_nil))) (dr_of de_bl) (nomark _)) (dw_or (dt_cmp op_isnotD (dr_of (de_kw0 (hk_is_field_0.mono (by decide)) hr tk (dk_cons (de_callT cr_tupleD (S.free 4) (dar_cons (dr_var 6) dar_nil)) dk_nil) (hlen := (dCons_len dNil_len)))) (dr_of de_bl) (nomark _)) (dw_or1 (dt_cmp op_isnotD (dr_of (de_call (h_is_formula.mono (by decide)) hr tk (dm_sh (de_var 4) dm_nil))) (dr_of de_bl) (nomark _))))))) (dss_one (ds_ret de_bl)) dss_nil)
  (dss_cons (ds_asg (us := [7, 8]) (de_callK (h_law_bent_bid.lift.mono (by decide)) hr tk (dm_tok 1 (dm_sh (de_var 3) dm_nil))) (dg_tup 2 rfl (dgs_cons (dg_name 7 hN) (dgs_cons (dg_name 8 hN) dgs_nil))))
  (dss_cons (ds_if (dt_cmp (op_neQ hr.units) (dr_of (de_callB (cr_reprD hgd hr.units) (S.free 58) (dar_cons (dr_of (de_of (df_lst (da_cons (de_kw0 (hk_is_bid_1.mono (by decide)) hr tk (dk_cons (de_var 7) dk_nil) (hlen := (dCons_len dNil_len))) (da_cons (de_call (h_is_field.mono (by decide)) hr tk (dm_sh (de_of (df_op op_catD (dr_of (de_of (df_sl (dr_var 6) do_none (do_some de_int)))) (dr_of (de_of (df_lst (da_cons (de_var 7) da_nil)))))) dm_nil)) (da_cons (de_call (h_is_field.mono (by decide)) hr tk (dm_sh (de_of (df_op op_catD (dr_of (de_of (df_lst (da_cons (de_var 7) da_nil)))) (dr_of (de_of (df_sl (dr_var 6) do_none (do_some de_int)))))) dm_nil)) da_nil)))))) dar_nil))) (dr_of (de_callB (cr_reprD hgd hr.units) (S.free 58) (dar_cons (dr_of (de_of (df_rep (df_lst (da_cons (de_var 8) da_nil)) (dr_of de_int)))) dar_nil))) (nomark _)) (dss_one (ds_ret de_bl)) dss_nil)
  (dss_cons (ds_if (dt_w (dw_or (dt_cmp op_isnotD (dr_of (de_call (h_is_field.mono (by decide)) hr tk (dm_sh (de_of (df_op op_catD (dr_var 6) (dr_of (de_of (df_rep (df_lst (da_cons (de_var 3) da_nil)) (dr_of (de_op op_subD (dr_of de_int) (dr_of (de_callB cr_lenD (S.free 5) (dar_cons (dr_var 6) dar_nil)))))))))) dm_nil))) (dr_of de_bl) (nomark _)) (dw_or1 (dt_cmp op_isnotD (dr_of (de_call (h_is_field.mono (by decide)) hr tk (dm_sh (de_callK (h_law_pick.lift.mono (by decide)) hr tk (dm_tok 1 (dm_bor (dr_of (de_of (df_lst (da_cons de_non (da_cons de_int (da_cons de_str (da_cons (de_of df_dict0) (da_cons (de_var 3) da_nil)))))))) dm_nil))) dm_nil))) (dr_of de_bl) (nomark _))))) (dss_one (ds_ret de_bl)) dss_nil)
  (dss_cons (ds_asg (us := [9, 8]) (de_callK (h_law_bent_formula.lift.mono (by decide)) hr tk (dm_tok 1 (dm_sh (de_var 4) dm_nil))) (dg_tup 2 rfl (dgs_cons (dg_name 9 hN) (dgs_cons (dg_name 8 hN) dgs_nil))))
  (dss_cons (ds_if (dt_cmp (op_neQ hr.units) (dr_of (de_callB (cr_reprD hgd hr.units) (S.free 58) (dar_cons (dr_of (de_kw0 (hk_is_formula_2.mono (by decide)) hr tk (dk_cons (de_var 9) dk_nil) (hlen := (dCons_len dNil_len)))) dar_nil))) (dr_of (de_callB (cr_reprD hgd hr.units) (S.free 58) (dar_cons (dr_var 8) dar_nil))) (nomark _)) (dss_one (ds_ret de_bl)) dss_nil)
  (dss_cons (ds_setC 10 [("k", 11)] rfl hN rfl (di_range1 (S.free 48) (dar_cons (dr_of de_int) dar_nil)) (blk_of (by rfl)) (fun _ _ _ _ _ => (dg_name 11 hN)) (fun _ _ _ _ _ => dts_nil) (fun _ _ _ _ _ => (de_callB (cr_sumAD rfl) (S.free 30) (dar_cons (dr_of (de_of (df_comp [("term", 12)] rfl hN rfl (di_seq (de_var 4)) (blk_of (by rfl)) (fun _ _ _ _ _ => (dg_name 12 hN)) (fun _ _ _ _ _ => (dts_one (dt_w (dw_and (dt_cmp (op_eqQ hr.units) (dr_of (de_ix (dr_var 12) de_int)) (dr_of de_str) (nomark _)) (dw_and1 (dt_cmp (op_eqQ hr.units) (dr_of (de_ix (dr_var 12) de_int)) (dr_var 11) (nomark _))))))) (fun _ _ _ _ _ => (de_ix (dr_var 12) de_int))))) dar_nil))))
  (dss_cons (ds_if (dt_cmp (op_neQ hr.units) (dr_of (de_callB (cr_reprD hgd hr.units) (S.free 58) (dar_cons (dr_of (de_kw0 (hk_mark_weights_3.mono (by decide)) hr tk (dk_cons (de_var 4) dk_nil) (hlen := (dCons_len dNil_len)))) dar_nil))) (dr_of (de_callB (cr_reprD hgd hr.units) (S.free 58) (dar_cons (dr_of (de_callT cr_tupleD (S.free 4) (dar_cons (dr_var 10) dar_nil))) dar_nil))) (nomark _)) (dss_one (ds_ret de_bl)) dss_nil)
  (dss_cons (ds_setC 10 [("word", 13)] rfl hN rfl (di_seq (de_of (df_lst (da_cons de_str (da_cons de_str (da_cons de_str da_nil)))))) (blk_of (by rfl)) (fun _ _ _ _ _ => (dg_name 13 hN)) (fun _ _ _ _ _ => dts_nil) (fun _ _ _ _ _ => (de_callB (cr_sumAD rfl) (S.free 30) (dar_cons (dr_of (de_of (df_comp [("term", 12)] rfl hN rfl (di_seq (de_var 4)) (blk_of (by rfl)) (fun _ _ _ _ _ => (dg_name 12 hN)) (fun _ _ _ _ _ => (dts_one (dt_cmp (op_eqQ hr.units) (dr_of (de_ix (dr_var 12) de_int)) (dr_var 13) (nomark _)))) (fun _ _ _ _ _ => (de_ix (dr_var 12) de_int))))) dar_nil))))
  (dss_one (ds_if (dt_w (dw_or (dt_cmp (op_neQ hr.units) (dr_of (de_callB (cr_reprD hgd hr.units) (S.free 58) (dar_cons (dr_of (de_kw0 (hk_relative_weights_4.mono (by decide)) hr tk (dk_cons (de_var 4) dk_nil) (hlen := (dCons_len dNil_len)))) dar_nil))) (dr_of (de_callB (cr_reprD hgd hr.units) (S.free 58) (dar_cons (dr_of (de_callT cr_tupleD (S.free 4) (dar_cons (dr_var 10) dar_nil))) dar_nil))) (nomark _)) (dw_or1 (dt_not (dt_tru (dr_of (de_callK (h_law_refused.mono (by decide)) hr tk (dm_tok 1 (dm_sh (de_var 4) (dm_sh (de_var 6) dm_nil)))))))))) (dss_one (ds_ret de_bl)) dss_nil)))))))))))))))
  (dss_one (ds_ret de_bl)))
def cs (K : PySem.W.Frag) : List (Addr × Addr) := [He.cT K lamD]
def spLaw (K : PySem.W.Frag) : Sp := fun vs H Q _ => ∃ (a : Addr) (ns : List Int), vs = [.ref a] ∧ ns.length ≤ sizeLine ∧ (∀ p ∈ cs K, H p.2 = some (.tbl #[])) ∧ SqL K H a (ns.map V.int) ∧ ∀ H', Q (.bl true) H'
def env0 (ns : List Int) : Env := some (.st (ns.map D.int)) :: some .tok :: List.replicate 12 none
theorem law_ok (S : Says fx fa fn K mg) (TB : LamX.TabB base mg (He.cT K lamD).1 (He.cT K lamD).2) (plain : ∀ ns : List Int, ∃ s', g_law (env0 ns) (beg ns) = .rt (.bl true) s') (hroom : Room 11 callerA) (s₁ : Shared) (a : Addr) (H : Hp) (Q : VK) (E : XK) (env_0 : Env0 P w K mg base callerA [] s₁ H) (hsp : spLaw K [.ref a] H Q E) :
    codeAny (model P w) callerA (.call (.ref (He.fAd K ("law", none))) ⟨[.ref a], []⟩) (CR (L2.CX P w) [] P w H s₁ Q E) s₁ := by
  obtain ⟨a', ns, ev, hz, hTab, hS, hQ⟩ := hsp
  cases ev
  obtain ⟨fd, F⟩ := S.fun_ 49 (d := d_law) rfl
  have b : BindsTo s₁ fd ⟨[.ref a], []⟩ [("script", .ref a)] := FunD.bindsA (ps := ["script"]) F (fun _ _ _ _ _ _ us hl => match us, hl with | [_], _ => rfl) s₁ [.ref a] rfl
  obtain ⟨fb, fdb, h1, h2, h3, h4⟩ := (has_law_begun (P := P) (w := w) (base := base) S).mono (show 1 ≤ 10 by decide)
  have hN := sc_law.nd
  refine fn_at (k := 10) (vs := [.ref a]) (N := ["script", "draw", "lap", "bid", "formula", "many", "field", "other", "due", "bent", "sums", "k", "term", "word"]) (ps := ["script"]) (qual := "law") F sc_law hroom env_0 b (.cons rfl .nil) rfl fun cdv hr => ?_
  have tk : Takes (cxD P w K mg base ["script", "draw", "lap", "bid", "formula", "many", "field", "other", "due", "bent", "sums", "k", "term", "word"] "law" (defScope (top 70)) (He.fAd K ("law", none)) cdv callerA [] s₁ H E) (fun cls d _ H => E cls d H) := takes_of rfl rfl rfl rfl
  refine ⟨_, pss_cons (ps_set (i := 1) hN rfl (.inl rfl) (pe_callSD h4 hr rfl h1 h2 h3 .nil (passAt tk) (pa_cons (pe_var (i := 0) rfl (.inl rfl)) pa_nil))) (PSs.all fun z : Addr × List Addr × Hp × Hp => b_law S TB cdv s₁ H E z.1 z.2.1 z.2.2.1 z.2.2.2 hr tk (passes_of rfl)), ?_⟩
  refine ⟨_, rfl, offTabs (cs K) H, a, ns, offTabs_ex, rfl, offTabs_l hTab hS, hz, fun F' H' p fp st' hfp hat => ?_⟩
  obtain ⟨hat2, hfp2⟩ := at_tabs (T := tkD) (q := fun _ => ((("_law_refused" : Str) ++ ".<locals>.") ++ "<lambda>")) hTab st' hfp hat
  refine ⟨(p, _, F', H'), F', env0 ns, beg ns, rl_lawT (k := 12) st'.fh hat2 hfp2 (st'.ff.l (offTabs_l hTab hS)) rfl rfl, ?_⟩
  obtain ⟨s', e⟩ := plain ns
  rw [e]
  intro F2 H2 v st2 at2 rv
  cases rv
  exact hQ H2
end
end K68
end DL
set_option Elab.async false
set_option linter.all false
set_option maxRecDepth 100000
set_option maxHeartbeats 0
namespace DL
open PySem PySem.Spec PyProof.Rows L2
namespace K68
abbrev R : PySem.W.OpenRow := PySem.W.OpenLaw.row PySem.Challenge.rw_protestproof_k68_bids_fields_and_formula
abbrev hk : PySem.W.Hook := He.hookX 4 fa fn [] [lamD] fx
def ob (s : PySem.W.SharedT) : He.AlX := He.obsX 4 fa fn [] [lamD] fx (HandSHeadRun.getT s)
theorem ob_eq (s : PySem.W.SharedT) : ob s = hk.obs s.abs := He.obsX_eq (HandSHeadRun.getT_eq s)
def names0 : List PySem.Str := ["TenderError", "BadField", "BadFormula", "BadIndex", "MOST_PRICE", "MOST_MARK", "MARK_COUNT", "MOST_BIDS", "is_whole", "is_bid", "is_field", "need_field", "need_index", "prices_of", "MOST_TERMS", "MOST_WEIGHT", "RELATIVES", "is_term", "is_formula", "need_formula"]
def names1 : List PySem.Str := ["mark_weights", "relative_weights", "marks_part", "score_of", "scores_of", "score", "scores", "leads", "ranking_of", "ranking", "ahead", "order_without", "turned_pairs", "spoilers", "first_spoilers", "CHEAP", "differences", "half_sums", "least_sum", "least_mark_sum"]
def names2 : List PySem.Str := ["passes_with", "passes", "marks_for", "reaches", "dear_price", "turn_prices", "turn", "is_turn", "_law_begun", "_law_mixed", "_law_take", "_law_pick", "_law_caught", "_law_price", "_law_bid", "_law_field", "_law_formula", "_law_bent_bid", "_law_bent_formula", "_law_refused"]
def names3 : List PySem.Str := ["_law_is_kind"]
def names : List PySem.Str := names0 ++ names1 ++ names2 ++ names3
theorem run (w : World) : HandSHeadRun.RunEqI R (PySem.W.view R.prog [0, 70]) hk ob 30000 names w := by
  unfold HandSHeadRun.RunEqI
  kernel_rfl
end K68
end DL
set_option linter.all false
set_option maxRecDepth 100000
set_option maxHeartbeats 4000000
namespace DL.K68
open DL
theorem is_whole_int (n lo hi : Int) : f_is_whole [.int n, .int lo, .int hi] () = .ok (.bl (decide (lo ≤ n) && decide (n ≤ hi))) () := by
  by_cases h1 : lo ≤ n <;> by_cases h2 : n ≤ hi <;> simp [f_is_whole, runB, g_is_whole, dAndV, st0, isiD, isB, truD, dNotV, dChain, h1, h2]
theorem runB_rt {S : Type} {n : Nat} {g : G S} {ds : List D} {s s' : S} {d : D} (h : g (st0 n ds) s = .rt d s') : runB n g ds s = .ok d s' := by
  unfold runB
  rw [h]
/-- terms of a formula -/
inductive Tm where
  | mark (k : Fin 4) (w : Int)
  | rel (x : Fin 3) (w : Int)
def relN (x : Fin 3) : PySem.Str := match x with | 0 => "low" | 1 => "range" | 2 => "mean"
def Tm.w : Tm → Int
  | .mark _ w => w
  | .rel _ w => w
def Tm.ok (t : Tm) : Prop := 1 ≤ t.w ∧ t.w ≤ 1000
def tmD : Tm → D
  | .mark k w => .tup [.str "mark", .int ((k.val : Nat) : Int), .int w]
  | .rel x w => .tup [.str (relN x), .int w]
theorem shp {x : PySem.Str} (h : PySem.PyData.strOk x = true) : PySem.SeqAt.shaped (.str x) = true := by
  simp [PySem.SeqAt.shaped, PySem.PyData.canLay0, PySem.PyData.depth, h]
theorem v_eqS (x y : PySem.Str) (hx : PySem.PyData.strOk x = true) (hy : PySem.PyData.strOk y = true) : eqD (.str x) (.str y) = some (.bl (x == y)) := by
  show (if PySem.SeqAt.shaped (.str x) = true ∧ PySem.SeqAt.shaped (.str y) = true then some (D.bl (PySem.PyData.eqv (.str x) (.str y))) else none) = _
  rw [if_pos ⟨shp hx, shp hy⟩]
  simp [PySem.PyData.eqv]
theorem eq_mark : eqD (.str "mark") (.str "mark") = some (.bl true) := by
  rw [v_eqS _ _ (by decide +kernel) (by decide +kernel), show (("mark" : PySem.Str) == "mark") = true by decide]
theorem eq_rel (x : Fin 3) : eqD (.str (relN x)) (.str "mark") = some (.bl false) := by
  rw [v_eqS _ _ (by match x with | 0 => decide +kernel | 1 => decide +kernel | 2 => decide +kernel) (by decide +kernel)]
  match x with
  | 0 => rw [show (relN 0 == ("mark" : PySem.Str)) = false by decide]
  | 1 => rw [show (relN 1 == ("mark" : PySem.Str)) = false by decide]
  | 2 => rw [show (relN 2 == ("mark" : PySem.Str)) = false by decide]
theorem in_rel (x : Fin 3) : inD (.str (relN x)) c_RELATIVES = some (.bl true) := by
  match x with
  | 0 => rfl
  | 1 => rfl
  | 2 => rfl
theorem is_term_eq (t : Tm) (h : t.ok) : f_is_term [tmD t] () = .ok (.bl true) () := by
  cases t with
  | mark k w =>
    have h1 : 1 ≤ w := h.1
    have h2 : w ≤ 1000 := h.2
    have hk : (k.val : Int) ≤ 3 := by have := k.isLt; omega
    have hk0 : (0 : Int) ≤ (k.val : Int) := by omega
    simp [f_is_term, runB, g_is_term, tmD, st0, isiD, isB, truD, dAndV, ix0, ix1, ix2, eq_mark, v_eqI, liftP, is_whole_int, h1, h2, hk, hk0]
  | rel x w =>
    have h1 : 1 ≤ w := h.1
    have h2 : w ≤ 1000 := h.2
    simp [f_is_term, runB, g_is_term, tmD, st0, isiD, isB, truD, dAndV, ix0, ix1, ix2, eq_rel, in_rel, v_eqI, liftP, is_whole_int, h1, h2]
theorem bls_true : ∀ n : Nat, allD [.lst (List.replicate n (.bl true))] = some (.bl true) := by
  intro n
  have e : List.replicate n (D.bl true) = (List.replicate n true).map D.bl := by rw [List.map_replicate]
  show (blsOf _).map _ = _
  rw [e, blsOf_map]
  show some (D.bl _) = _
  congr 2
  simp
theorem is_formula_eq (ts : List Tm) (h : ∀ t ∈ ts, t.ok) (hl : ts.length ≤ 6) : f_is_formula [.tup (ts.map tmD)] () = .ok (.bl true) () := by
  have e := dComp_pure (S := Unit) (fi := dItems (dVar 0)) (g := gSet 1) (us := [1]) (ft := dYes) (fe := dCallF (fun ds => liftP (f_is_term ds)) (dCons (dVar 1) dNil)) (ρ := [some (.tup (ts.map tmD)), none]) (s := ()) (xs := ts.map tmD) (fun _ => true) (fun _ => .bl true) rfl (by rw [List.length_map, PySem.sizeLine_eq]; omega) fun x hx => by
    obtain ⟨t, ht, rfl⟩ := List.mem_map.mp hx
    exact ⟨_, rfl, rfl, fun _ => by simp [wipeE, liftP, is_term_eq t (h t ht)]⟩
  rw [show (List.filter (fun _ => true) (ts.map tmD)) = ts.map tmD from List.filter_eq_self.mpr fun _ _ => rfl, List.map_map] at e
  have e2 : List.map ((fun _ => D.bl true) ∘ tmD) ts = List.replicate ts.length (.bl true) := by
    rw [List.eq_replicate_iff]
    refine ⟨by simp, fun b hb => ?_⟩
    obtain ⟨t, _, rfl⟩ := List.mem_map.mp hb
    rfl
  rw [e2] at e
  have hl2 : (ts.length : Int) ≤ 6 := by omega
  simp [f_is_formula, runB, g_is_formula, st0, isiD, isB, dAndV, hl2, e, bls_true]
theorem need_eq (ts : List Tm) (h : ∀ t ∈ ts, t.ok) (hl : ts.length ≤ 6) : f_need_formula [.tup (ts.map tmD)] () = .ok .non () := by
  simp [f_need_formula, runB, g_need_formula, st0, liftP, is_formula_eq ts h hl]
/-- the weight of a mark -/
def wsum (k : Nat) : List Tm → Int
  | [] => 0
  | .mark j w :: ts => (if j.val = k then w else 0) + wsum k ts
  | .rel _ _ :: ts => wsum k ts
theorem wsum_app (k : Nat) : ∀ a b : List Tm, wsum k (a ++ b) = wsum k a + wsum k b
  | [], b => by simp [wsum]
  | .mark j w :: a, b => by simp only [List.cons_append, wsum, wsum_app k a b]; omega
  | .rel _ _ :: a, b => by simp only [List.cons_append, wsum, wsum_app k a b]
theorem wsum_bd (k : Nat) : ∀ ts : List Tm, (∀ t ∈ ts, t.ok) → 0 ≤ wsum k ts ∧ wsum k ts ≤ 1000 * ts.length
  | [], _ => by simp [wsum]
  | .mark j w :: ts, h => by
    have := wsum_bd k ts fun t ht => h t (List.mem_cons_of_mem _ ht)
    obtain ⟨h1, h2⟩ := h _ (List.mem_cons_self ..)
    have h1 : 1 ≤ w := h1
    have h2 : w ≤ 1000 := h2
    simp only [wsum, List.length_cons]
    split <;> omega
  | .rel _ _ :: ts, h => by
    have := wsum_bd k ts fun t ht => h t (List.mem_cons_of_mem _ ht)
    simp only [wsum, List.length_cons]
    omega
def ws (ts : List Tm) : List Int := [wsum 0 ts, wsum 1 ts, wsum 2 ts, wsum 3 ts]
@[simp] theorem r_augL {S : Type} {ρ : Env} {s : S} {i : Nat} {o : D → D → Option D} {fi fe : Env → M S D} : sAugL i o fi fe ρ s = match ρ[i]? with
  | some (some x) => (match fi ρ s with
    | .ok k s => (match ixL x k with
      | some old => (match fe ρ s with
        | .ok y s => (match o old y with
          | some new => (match setD x k new with
            | some z => .nx (ρ.set i (some z)) s
            | none => .stuck)
          | none => .stuck)
        | .exc e s => .ex e ρ s
        | .stuck => .stuck)
      | none => .stuck)
    | .exc e s => .ex e ρ s
    | .stuck => .stuck)
  | _ => .stuck := by
  unfold sAugL sOwn sE sOpt
  cases ρ[i]? with
  | none => rfl
  | some x =>
    cases x with
    | none => rfl
    | some d =>
      dsimp only
      cases fi ρ s with
      | ok k s1 =>
        dsimp only
        cases ixL d k with
        | none => rfl
        | some old =>
          dsimp only
          cases fe ρ s1 with
          | ok y s2 =>
            dsimp only
            cases o old y with
            | none => rfl
            | some new => dsimp only; cases setD d k new <;> rfl
          | exc e s2 => rfl
          | stuck => rfl
      | exc e s1 => rfl
      | stuck => rfl
theorem ixL_nat (xs : List D) (i : Nat) : ixL (.lst xs) (.int (i : Int)) = xs[i]? := ix_nat xs i
theorem setD_nat (xs : List D) (i : Nat) (v : D) (h : i < xs.length) : setD (.lst xs) (.int (i : Int)) v = some (.lst (xs.set i v)) := by
  show (L2.ixN xs.length (i : Int)).map _ = _
  unfold L2.ixN
  rw [if_pos (by omega), if_pos (by omega)]
  rfl
theorem mark_step (k : Fin 4) (w : Int) (ts : List Tm) (W x : D) : sIf (dCmpT eqD (dBin ixD (dVar 2) (dC (.int 0))) (dC (.str "mark"))) (sAugL 1 addI (dBin ixD (dVar 2) (dC (.int 1))) (dBin ixD (dVar 2) (dC (.int 2)))) sNext [some W, some (.lst ((ws ts).map D.int)), some (tmD (.mark k w))] () = .nx [some W, some (.lst ((ws (ts ++ [.mark k w])).map D.int)), some (tmD (.mark k w))] () := by
  have e := ixL_nat ((ws ts).map D.int) k.val
  have e2 := fun v => setD_nat ((ws ts).map D.int) k.val v (by have := k.isLt; simp [ws])
  match k with
  | ⟨0, _⟩ =>
    simp [ws] at e e2
    simp [tmD, ix0, ix1, ix2, eq_mark, ws, e, e2, wsum_app, wsum]
  | ⟨1, _⟩ =>
    simp [ws] at e e2
    simp [tmD, ix0, ix1, ix2, eq_mark, ws, e, e2, wsum_app, wsum]
  | ⟨2, _⟩ =>
    simp [ws] at e e2
    simp [tmD, ix0, ix1, ix2, eq_mark, ws, e, e2, wsum_app, wsum]
  | ⟨3, _⟩ =>
    simp [ws] at e e2
    simp [tmD, ix0, ix1, ix2, eq_mark, ws, e, e2, wsum_app, wsum, show ((3 : Fin 4) : Nat) = 3 from rfl]
theorem rel_step (y : Fin 3) (w : Int) (ts : List Tm) (W : D) : sIf (dCmpT eqD (dBin ixD (dVar 2) (dC (.int 0))) (dC (.str "mark"))) (sAugL 1 addI (dBin ixD (dVar 2) (dC (.int 1))) (dBin ixD (dVar 2) (dC (.int 2)))) sNext [some W, some (.lst ((ws ts).map D.int)), some (tmD (.rel y w))] () = .nx [some W, some (.lst ((ws (ts ++ [.rel y w])).map D.int)), some (tmD (.rel y w))] () := by
  simp [tmD, ix0, eq_rel, ws, wsum_app, wsum]
end DL.K68
set_option linter.all false
set_option maxRecDepth 100000
set_option maxHeartbeats 4000000
namespace DL.K68
open DL
theorem range_len (n : Nat) (h : n ≤ 16777216) : range1D [.int n] = some (rangeL 0 n) := by
  unfold range1D
  split
  · rename_i j e
    have e : (n : Int) = j := by cases e; rfl
    subst e
    rw [if_pos]
    exact ⟨Int.le_trans (by decide) (Int.natCast_nonneg n), Int.lt_of_le_of_lt (Int.ofNat_le.mpr h) (by decide)⟩
  · rename_i h2
    exact absurd rfl (h2 n)
abbrev mBody : G Unit := sIf (dCmpT eqD (dBin ixD (dVar 2) (dC (.int 0))) (dC (.str "mark"))) (sAugL 1 addI (dBin ixD (dVar 2) (dC (.int 1))) (dBin ixD (dVar 2) (dC (.int 2)))) sNext
theorem mark_loop (W : D) (all : List Tm) : ∃ x2, forL (gSet 2) mBody (all.map tmD) [some W, some (.lst ((ws []).map D.int)), none] () = .nx [some W, some (.lst ((ws all).map D.int)), x2] () := by
  have loop := forL_ind (S := Unit) (g := gSet 2) (body := mBody)
    (fun xs ρ _ => ∃ done todo x2, all = done ++ todo ∧ xs = todo.map tmD ∧ ρ = [some W, some (.lst ((ws done).map D.int)), x2])
    (fun x xs ρ s ⟨done, todo, x2, h1, h2, h3⟩ => by
      cases s
      cases todo with
      | nil => cases h2
      | cons t todo =>
        cases h2
        subst h3
        refine ⟨[some W, some (.lst ((ws done).map D.int)), some (tmD t)], [some W, some (.lst ((ws (done ++ [t])).map D.int)), some (tmD t)], (), rfl, ?_, done ++ [t], todo, some (tmD t), by rw [h1]; simp, rfl, rfl⟩
        cases t with
        | mark k w => exact mark_step k w done W W
        | rel y w => exact rel_step y w done W)
    (all.map tmD) [some W, some (.lst ((ws []).map D.int)), none] () ⟨[], all, none, rfl, rfl, rfl⟩
  obtain ⟨ρ', s', g1, done, todo, x2, h1, h2, h3⟩ := loop
  have : todo = [] := by
    cases todo with
    | nil => rfl
    | cons a b => cases h2
  subst this
  rw [List.append_nil] at h1
  subst h1
  subst h3
  exact ⟨x2, g1⟩
theorem rep4 : repLD (.lst [.int 0]) (.int 4) = some (.lst [.int 0, .int 0, .int 0, .int 0]) := by
  show (if -(2 ^ 63) ≤ (4 : Int) ∧ (4 : Int) < 2 ^ 63 ∧ [D.int 0].length * (4 : Int).toNat ≤ PySem.sizeLine then some (D.lst (List.replicate (4 : Int).toNat [D.int 0]).flatten) else none) = _
  rw [if_pos ⟨by decide, by decide, by decide⟩]
  rfl
theorem mark_weights_eq (ts : List Tm) (h : ∀ t ∈ ts, t.ok) (hl : ts.length ≤ 6) : f_mark_weights [.tup (ts.map tmD)] () = .ok (.tup ((ws ts).map D.int)) () := by
  obtain ⟨x2, hrun⟩ := mark_loop (.tup (ts.map tmD)) ts
  refine runB_rt ?_
  show sSeq _ _ [some (D.tup (ts.map tmD)), none, none] () = _
  have s1 : sDrop (dCallF (fun ds => liftP (f_need_formula ds)) (dCons (dVar 0) dNil)) [some (D.tup (ts.map tmD)), none, none] () = .nx [some (D.tup (ts.map tmD)), none, none] () := by
    simp [liftP, need_eq ts h hl]
  have s2 : sSet (dBin repLD (fun ρ => do M.opt (lstOk (← (dCons (dC (.int 0)) dNil) ρ))) (dC (.int 4))) 1 [some (D.tup (ts.map tmD)), none, none] () = .nx [some (D.tup (ts.map tmD)), some (.lst ((ws []).map D.int)), none] () := by
    simp [lstOk_eq, rep4, ws, wsum]
  rw [r_seq, s1]
  dsimp only
  rw [r_seq, s2]
  dsimp only
  rw [r_seq, r_for]
  have ei : (dItems (dVar 0) [some (D.tup (ts.map tmD)), some (.lst ((ws []).map D.int)), none] () : Res Unit (List D)) = .ok (ts.map tmD) () := rfl
  rw [ei]
  dsimp only
  rw [hrun]
  rfl
/-- the law's weights -/
def selP (k : Int) : Tm → Bool
  | .mark j _ => decide (((j.val : Nat) : Int) = k)
  | .rel _ _ => false
def selD (k : Int) (ts : List Tm) : List Int := (ts.filter (selP k)).map Tm.w
theorem sel_sum (k : Nat) : ∀ ts : List Tm, (selD (k : Int) ts).sum = wsum k ts
  | [] => rfl
  | .mark j w :: ts => by
    have ih := sel_sum k ts
    unfold selD at ih ⊢
    by_cases e : j.val = k
    · rw [List.filter_cons_of_pos (by simp [selP, e]), List.map_cons, List.sum_cons, ih]
      simp [wsum, e, Tm.w]
    · rw [List.filter_cons_of_neg (by simp [selP]; omega), ih]
      simp [wsum, e]
  | .rel _ _ :: ts => by
    have ih := sel_sum k ts
    unfold selD at ih ⊢
    rw [List.filter_cons_of_neg (by simp [selP]), ih]
    rfl
theorem e_comp {S : Type} {fi : Env → M S (List D)} {g : D → Env → Option Env} {us : List Nat} {ft : Env → M S Bool} {fe : Env → M S D} {ρ : Env} {s : S} : dComp fi g us ft fe ρ s = (fi ρ >>= fun xs => M.opt (if xs.length ≤ PySem.sizeLine then some xs else none) >>= fun xs => compL g us ft fe ρ xs >>= fun ys => M.pure (D.lst ys)) s := rfl
end DL.K68
set_option linter.all false
set_option maxRecDepth 100000
set_option maxHeartbeats 4000000
namespace DL.K68
open DL
section
variable {ρ : Env} {s : Dr} {i : Nat} {f : Env → M Dr D}
theorem t_turn (h : ρ[i]? = some (some .tok)) : dTurn i ρ s = .ok (.int s.turn) s := by unfold dTurn tkAt; rw [h]
theorem t_rest (h : ρ[i]? = some (some .tok)) : dRest i ρ s = .ok (.int s.rest) s := by unfold dRest tkAt; rw [h]
theorem t_large (h : ρ[i]? = some (some .tok)) : dLarge i ρ s = .ok (!s.large.isEmpty) s := by unfold dLarge tkAt; rw [h]
theorem t_pop {n : Int} {r : List Int} (h : ρ[i]? = some (some .tok)) (hl : s.large = n :: r) : dPopLarge i ρ s = .ok (.int n) { s with large := r } := by
  unfold dPopLarge tkAt
  rw [h]
  simp only [hl]
theorem t_put {g : Int → Dr → Dr} {n : Int} {s1 : Dr} (h : ρ[i]? = some (some .tok)) (hf : f ρ s = .ok (.int n) s1) : sPutT i g f ρ s = .nx ρ (g n s1) := by
  unfold sPutT sE
  rw [hf]
  simp only [h]
end
abbrev cBody : G Dr := sSet (dBin modD (dCall intD (dCons (dBin addD (dBin addD (dBin mulD (dVar 4) (dC (.int 48271))) (dCall intD (dCons (dVar 5) dNil))) (dC (.int 1))) dNil)) (dVar 3)) 4
theorem mod_ok (a b : Int) (h : 0 < b) : modD (.int a) (.int b) = some (.int (a % b)) := by
  show (if 0 < b then some (D.int (a % b)) else none) = _
  rw [if_pos h]
theorem fdiv_ok (a b : Int) (h : 0 < b) (h2 : b.natAbs.log2 < 9000) : fdivD (.int a) (.int b) = some (.int (a / b)) := by
  show (if 0 < b ∧ b.natAbs.log2 < 9000 then some (D.int (a / b)) else none) = _
  rw [if_pos ⟨h, h2⟩]
theorem pow5 (a : Int) (h : a.natAbs < 2 ^ 64) : powD (.int a) (.int 5) = some (.int (a ^ 5)) := by
  show (if 0 ≤ (5 : Int) ∧ (5 : Int) ≤ 1000000 ∧ a.natAbs < 2 ^ 64 then some (D.int (a ^ (5 : Int).toNat)) else none) = _
  rw [if_pos ⟨by decide, by decide, h⟩]
  rfl
theorem cells_ok (t fo gr : Int) (hg : 0 < gr) (s : Dr) : ∀ (xs : List Int) (b : Int) (x5 : Option D), 0 ≤ b → b < gr → ∃ b' y5, forCells (gSet 5) cBody s.cells xs [some .tok, some (.int t), some (.int fo), some (.int gr), some (.int b), x5] s = .nx [some .tok, some (.int t), some (.int fo), some (.int gr), some (.int b'), y5] s ∧ 0 ≤ b' ∧ b' < gr
  | [], b, x5, h1, h2 => ⟨b, x5, by unfold forCells; rw [if_pos rfl], h1, h2⟩
  | x :: xs, b, x5, h1, h2 => by
    obtain ⟨b', y5, e, h3, h4⟩ := cells_ok t fo gr hg s xs ((b * 48271 + x + 1) % gr) (some (.int x)) (Int.emod_nonneg _ (by omega)) (Int.emod_lt_of_pos _ hg)
    refine ⟨b', y5, ?_, h3, h4⟩
    rw [forCells_cons, if_pos rfl]
    have eb : cBody [some .tok, some (.int t), some (.int fo), some (.int gr), some (.int b), some (.int x)] s = .nx [some .tok, some (.int t), some (.int fo), some (.int gr), some (.int ((b * 48271 + x + 1) % gr)), some (.int x)] s := by
      have hm : mulD (.int b) (.int 48271) = some (.int (b * 48271)) := mul_ok _ _ (.inr (by decide))
      simp [hm, mod_ok _ _ hg]
    show (match cBody [some .tok, some (.int t), some (.int fo), some (.int gr), some (.int b), some (.int x)] s with
      | .nx ρ'' s' => forCells (gSet 5) cBody s.cells xs ρ'' s'
      | .ct ρ'' s' => forCells (gSet 5) cBody s.cells xs ρ'' s'
      | .bk ρ'' s' => .nx ρ'' s'
      | r => r) = _
    rw [eb]
    exact e
abbrev oBody : G Dr := sSeq (sSet (dBin modD (dCall intD (dCons (dBin addD (dBin mulD (dVar 1) (dC (.int 69621))) (dBin fdivD (dVar 3) (dC (.int 7)))) dNil)) (dVar 3)) 4) (sSeq (sForCells 0 (gSet 5) cBody) (sSet (dBin addD (dBin mulD (dVar 2) (dC (.int 2147483647))) (dBin modD (dCall intD (dCons (dBin powD (dVar 4) (dC (.int 5))) dNil)) (dVar 3))) 2))
theorem great_ok (t fo gr : Int) (hg : 0 < gr) (hg2 : gr < 2147483648) (x4 x5 : Option D) (s : Dr) : ∃ fo' y4 y5, oBody [some .tok, some (.int t), some (.int fo), some (.int gr), x4, x5] s = .nx [some .tok, some (.int t), some (.int fo'), some (.int gr), y4, y5] s := by
  have hm : mulD (.int t) (.int 69621) = some (.int (t * 69621)) := mul_ok _ _ (.inr (by decide))
  have hd : fdivD (.int gr) (.int 7) = some (.int (gr / 7)) := fdiv_ok _ _ (by decide) (by decide)
  have hf : mulD (.int fo) (.int 2147483647) = some (.int (fo * 2147483647)) := mul_ok _ _ (.inr (by decide))
  obtain ⟨b', y5, e, h3, h4⟩ := cells_ok t fo gr hg s s.cells ((t * 69621 + gr / 7) % gr) x5 (Int.emod_nonneg _ (by omega)) (Int.emod_lt_of_pos _ hg)
  have hp : powD (.int b') (.int 5) = some (.int (b' ^ 5)) := pow5 b' (by omega)
  have s1 : sSet (dBin modD (dCall intD (dCons (dBin addD (dBin mulD (dVar 1) (dC (.int 69621))) (dBin fdivD (dVar 3) (dC (.int 7)))) dNil)) (dVar 3)) 4 [some .tok, some (.int t), some (.int fo), some (.int gr), x4, x5] s = .nx [some .tok, some (.int t), some (.int fo), some (.int gr), some (.int ((t * 69621 + gr / 7) % gr)), x5] s := by
    simp [hm, hd, mod_ok _ _ hg]
  have s2 : sForCells 0 (gSet 5) cBody [some .tok, some (.int t), some (.int fo), some (.int gr), some (.int ((t * 69621 + gr / 7) % gr)), x5] s = .nx [some .tok, some (.int t), some (.int fo), some (.int gr), some (.int b'), y5] s := e
  refine ⟨fo * 2147483647 + b' ^ 5 % gr, some (.int b'), y5, ?_⟩
  unfold oBody
  rw [r_seq, s1]
  dsimp only
  rw [r_seq, s2]
  simp [hf, hp, mod_ok _ _ hg]
theorem mixed_ok (s : Dr) : ∃ r, f_law_mixed [.tok] s = .ok (.int r) { s with turn := s.turn + 1 } := by
  have s1 : sPutT 0 (fun n s => { s with turn := n }) (dBin addD (dTurn 0) (dC (.int 1))) [some D.tok, none, none, none, none, none] s = .nx [some .tok, none, none, none, none, none] { s with turn := s.turn + 1 } := by
    refine t_put (s1 := s) rfl ?_
    rw [e_bin, bind_eq, t_turn rfl]
    rfl
  have s2 : sPar 1 2 (dCall intD (dCons (dTurn 0) dNil)) (dC (.int 0)) [some D.tok, none, none, none, none, none] { s with turn := s.turn + 1 } = .nx [some .tok, some (.int (s.turn + 1)), some (.int 0), none, none, none] { s with turn := s.turn + 1 } := by
    have e : (dCall intD (dCons (dTurn 0) dNil) [some D.tok, none, none, none, none, none] { s with turn := s.turn + 1 } : Res Dr D) = .ok (.int (s.turn + 1)) { s with turn := s.turn + 1 } := by
      rw [e_call, bind_eq, e_cons, bind_eq, t_turn rfl]
      rfl
    rw [r_par, e]
    rfl
  obtain ⟨f1, a4, a5, e1⟩ := great_ok (s.turn + 1) 0 2147483629 (by decide) (by decide) none none { s with turn := s.turn + 1 }
  obtain ⟨f2, b4, b5, e2⟩ := great_ok (s.turn + 1) f1 2147483587 (by decide) (by decide) a4 a5 { s with turn := s.turn + 1 }
  obtain ⟨f3, c4, c5, e3⟩ := great_ok (s.turn + 1) f2 2147483579 (by decide) (by decide) b4 b5 { s with turn := s.turn + 1 }
  refine ⟨f3, runB_rt ?_⟩
  show sSeq _ _ [some D.tok, none, none, none, none, none] s = _
  rw [r_seq, s1]
  dsimp only
  rw [r_seq, s2]
  dsimp only
  rw [r_seq, r_for]
  have ei : (dItems (fun ρ => do M.opt (lstOk (← (dCons (dC (.int 2147483629)) (dCons (dC (.int 2147483587)) (dCons (dC (.int 2147483579)) dNil))) ρ))) [some D.tok, some (.int (s.turn + 1)), some (.int 0), none, none, none] { s with turn := s.turn + 1 } : Res Dr (List D)) = .ok [.int 2147483629, .int 2147483587, .int 2147483579] { s with turn := s.turn + 1 } := by
    simp [lstOk_eq]
  rw [ei]
  have go : forL (gSet 3) oBody [.int 2147483629, .int 2147483587, .int 2147483579] [some D.tok, some (.int (s.turn + 1)), some (.int 0), none, none, none] { s with turn := s.turn + 1 } = .nx [some .tok, some (.int (s.turn + 1)), some (.int f3), some (.int 2147483579), c4, c5] { s with turn := s.turn + 1 } := by
    rw [forL_cons, v_gSet]
    dsimp only
    rw [show ([some D.tok, some (D.int (s.turn + 1)), some (.int 0), none, none, none].set 3 (some (.int 2147483629))) = [some D.tok, some (D.int (s.turn + 1)), some (.int 0), some (.int 2147483629), none, none] from rfl, e1]
    dsimp only
    rw [forL_cons, v_gSet]
    dsimp only
    rw [show ([some D.tok, some (D.int (s.turn + 1)), some (.int f1), some (.int 2147483629), a4, a5].set 3 (some (.int 2147483587))) = [some D.tok, some (D.int (s.turn + 1)), some (.int f1), some (.int 2147483587), a4, a5] from rfl, e2]
    dsimp only
    rw [forL_cons, v_gSet]
    dsimp only
    rw [show ([some D.tok, some (D.int (s.turn + 1)), some (.int f2), some (.int 2147483587), b4, b5].set 3 (some (.int 2147483579))) = [some D.tok, some (D.int (s.turn + 1)), some (.int f2), some (.int 2147483579), b4, b5] from rfl, e3]
    rfl
  dsimp only
  rw [go]
  rfl
end DL.K68
set_option linter.all false
set_option maxRecDepth 100000
set_option maxHeartbeats 4000000
namespace DL.K68
open DL
theorem take_tail (m : Int) (hm : 0 < m) (hm2 : m.natAbs.log2 < 9000) (s : Dr) : sSeq (sSet (dBin modD (dCall intD (dCons (dRest 0) dNil)) (dVar 1)) 2)
    (sSeq (sPutT 0 (fun n s => { s with rest := n }) (dBin fdivD (dCall intD (dCons (dRest 0) dNil)) (dVar 1))) (sRet (dVar 2))) [some D.tok, some (.int m), none] s = .rt (.int (s.rest % m)) { s with rest := s.rest / m } := by
  have e1 : sSet (dBin modD (dCall intD (dCons (dRest 0) dNil)) (dVar 1)) 2 [some D.tok, some (.int m), none] s = .nx [some D.tok, some (.int m), some (.int (s.rest % m))] s := by
    have e : (dBin modD (dCall intD (dCons (dRest 0) dNil)) (dVar 1) [some D.tok, some (.int m), none] s : Res Dr D) = .ok (.int (s.rest % m)) s := by
      rw [e_bin, bind_eq, e_call, bind_eq, e_cons, bind_eq, t_rest rfl]
      simp [mod_ok _ _ hm]
    rw [r_set, e]
    rfl
  have e2 : sPutT 0 (fun n s => { s with rest := n }) (dBin fdivD (dCall intD (dCons (dRest 0) dNil)) (dVar 1)) [some D.tok, some (.int m), some (.int (s.rest % m))] s = .nx [some D.tok, some (.int m), some (.int (s.rest % m))] { s with rest := s.rest / m } := by
    refine t_put (s1 := s) rfl ?_
    rw [e_bin, bind_eq, e_call, bind_eq, e_cons, bind_eq, t_rest rfl]
    simp [fdiv_ok _ _ hm hm2]
  rw [r_seq, e1]
  dsimp only
  rw [r_seq, e2]
  rfl
theorem take_ok (m : Int) (hm : 0 < m) (hm2 : m.natAbs.log2 < 9000) (s : Dr) : ∃ (r : Int) (s' : Dr), f_law_take [.tok, .int m] s = .ok (.int r) s' ∧ 0 ≤ r ∧ r < m := by
  have head : ∃ s1 : Dr, sIf (dCmpT eqD (dRest 0) (dC (.int 0))) (sPutT 0 (fun n s => { s with rest := n }) (dIf (dLarge 0) (dPopLarge 0) (dCallF f_law_mixed (dCons (dVar 0) dNil)))) sNext [some D.tok, some (.int m), none] s = .nx [some D.tok, some (.int m), none] s1 := by
    have ec : (dCmpT eqD (dRest 0) (dC (.int 0)) [some D.tok, some (.int m), none] s : Res Dr Bool) = .ok (decide (s.rest = 0)) s := by
      rw [e_cmpT, bind_eq, t_rest rfl]
      simp [v_eqI]
    by_cases h0 : s.rest = 0
    · have put : ∃ (n : Int) (s1 : Dr), (dIf (dLarge 0) (dPopLarge 0) (dCallF f_law_mixed (dCons (dVar 0) dNil)) [some D.tok, some (.int m), none] s : Res Dr D) = .ok (.int n) s1 := by
        cases hl : s.large with
        | nil =>
          obtain ⟨r, e⟩ := mixed_ok s
          refine ⟨r, { s with turn := s.turn + 1 }, ?_⟩
          rw [e_if, bind_eq, t_large rfl, hl]
          simp [e, hl]
        | cons n r =>
          refine ⟨n, { s with large := r }, ?_⟩
          rw [e_if, bind_eq, t_large rfl, hl]
          have := t_pop (ρ := [some D.tok, some (.int m), none]) (i := 0) (s := s) rfl hl
          simp [this]
      obtain ⟨n, s1, e⟩ := put
      refine ⟨{ s1 with rest := n }, ?_⟩
      rw [r_if, ec]
      simp only [h0, decide_true, if_true]
      exact t_put rfl e
    · refine ⟨s, ?_⟩
      rw [r_if, ec]
      simp [h0]
  obtain ⟨s1, e1⟩ := head
  refine ⟨s1.rest % m, { s1 with rest := s1.rest / m }, runB_rt ?_, Int.emod_nonneg _ (by omega), Int.emod_lt_of_pos _ hm⟩
  show sSeq _ _ [some D.tok, some (.int m), none] s = _
  rw [r_seq, e1]
  exact take_tail m hm hm2 s1
theorem pick_ok (xs : List D) (h : xs ≠ []) (hl : xs.length < 1000) (s : Dr) : ∃ (x : D) (s' : Dr), f_law_pick [.tok, .lst xs] s = .ok x s' ∧ x ∈ xs := by
  have hp : 0 < xs.length := List.length_pos_iff.mpr h
  obtain ⟨r, s', e, h1, h2⟩ := take_ok (xs.length : Int) (by omega) (by
    have : (xs.length : Int).natAbs = xs.length := by omega
    rw [this]
    exact Nat.lt_of_le_of_lt (Nat.log2_le_self _) (by omega)) s
  obtain ⟨n, rfl⟩ : ∃ n : Nat, r = (n : Int) := ⟨r.toNat, by omega⟩
  have hn : n < xs.length := by omega
  refine ⟨xs[n], s', runB_rt ?_, List.getElem_mem hn⟩
  show sRet _ [some D.tok, some (.lst xs)] s = _
  simp [e, hn]

theorem compL_mem {S : Type} {g : D → Env → Option Env} {us : List Nat} {ft : Env → M S Bool} {fe : Env → M S D} {ρ : Env} (R : D → Prop) : ∀ (xs : List D) (s : S), (∀ x ∈ xs, ∀ s : S, ∃ ρ' y s2, g x (wipeE ρ us) = some ρ' ∧ ft ρ' s = .ok true s ∧ fe ρ' s = .ok y s2 ∧ R y) → ∃ ys s', compL g us ft fe ρ xs s = .ok ys s' ∧ ys.length = xs.length ∧ ∀ y ∈ ys, R y
  | [], s, _ => ⟨[], s, rfl, rfl, fun y hy => by cases hy⟩
  | x :: xs, s, step => by
    obtain ⟨ρ', y, s2, h1, h2, h3, h4⟩ := step x (List.mem_cons_self ..) s
    obtain ⟨ys, s', k1, k3, k4⟩ := compL_mem R xs s2 fun z hz => step z (List.mem_cons_of_mem _ hz)
    refine ⟨y :: ys, s', ?_, by simp [k3], fun z hz => ?_⟩
    · rw [compL_cons, h1]
      simp only [h2, h3]
      unfold M.bind
      rw [k1]
      rfl
    · rcases List.mem_cons.mp hz with rfl | hz
      · exact h4
      · exact k4 z hz
theorem all_int {P : Int → Prop} : ∀ {ys : List D}, (∀ y ∈ ys, ∃ n : Int, y = .int n ∧ P n) → ∃ ns : List Int, ys = ns.map D.int ∧ ∀ n ∈ ns, P n
  | [], _ => ⟨[], rfl, fun n h => by cases h⟩
  | y :: ys, h => by
    obtain ⟨n, rfl, hn⟩ := h y (List.mem_cons_self ..)
    obtain ⟨ns, rfl, hns⟩ := all_int fun z hz => h z (List.mem_cons_of_mem _ hz)
    exact ⟨n :: ns, rfl, fun z hz => by rcases List.mem_cons.mp hz with rfl | hz; exact hn; exact hns z hz⟩
theorem all_tm : ∀ {ys : List D}, (∀ y ∈ ys, ∃ t : Tm, y = tmD t ∧ t.ok) → ∃ ts : List Tm, ys = ts.map tmD ∧ ∀ t ∈ ts, t.ok
  | [], _ => ⟨[], rfl, fun n h => by cases h⟩
  | y :: ys, h => by
    obtain ⟨t, rfl, hn⟩ := h y (List.mem_cons_self ..)
    obtain ⟨ts, rfl, hns⟩ := all_tm fun z hz => h z (List.mem_cons_of_mem _ hz)
    exact ⟨t :: ts, rfl, fun z hz => by rcases List.mem_cons.mp hz with rfl | hz; exact hn; exact hns z hz⟩
theorem comp_mem {S : Type} {fi : Env → M S (List D)} {g : D → Env → Option Env} {us : List Nat} {fe : Env → M S D} {ρ : Env} (R : D → Prop) {xs : List D} {s s1 : S} (hi : fi ρ s = .ok xs s1) (hl : xs.length ≤ 16777216) (step : ∀ x ∈ xs, ∀ s : S, ∃ ρ' y s2, g x (wipeE ρ us) = some ρ' ∧ fe ρ' s = .ok y s2 ∧ R y) : ∃ ys s', dComp fi g us dYes fe ρ s = .ok (.lst ys) s' ∧ ys.length = xs.length ∧ ∀ y ∈ ys, R y := by
  obtain ⟨ys, s', e, h1, h2⟩ := compL_mem (g := g) (us := us) (ft := dYes) (fe := fe) (ρ := ρ) R xs s1 fun x hx s => by
    obtain ⟨ρ', y, s2, k1, k2, k3⟩ := step x hx s
    exact ⟨ρ', y, s2, k1, rfl, k2, k3⟩
  refine ⟨ys, s', ?_, h1, h2⟩
  rw [e_comp, bind_eq, hi]
  dsimp only
  rw [if_pos (by rw [PySem.sizeLine_eq]; exact hl), bind_eq, opt_eq]
  dsimp only
  rw [bind_eq, e]
  rfl
theorem mem_range {i j : Int} {x : D} (h : x ∈ rangeL i j) : ∃ n : Int, x = .int n ∧ i ≤ n ∧ n < j := by
  unfold rangeL at h
  obtain ⟨k, hk, rfl⟩ := List.mem_map.mp h
  have := List.mem_range.mp hk
  exact ⟨_, rfl, by omega, by omega⟩
theorem range_length (i j : Int) : (rangeL i j).length = (j - i).toNat := by
  unfold rangeL
  rw [List.length_map, List.length_range]
section
variable {S : Type} {ρ ρ1 : Env} {s s1 s2 : S} {d e : D} {i : Nat} {f g : Env → M S D} {l : Env → M S (List D)} {a b : G S} {r : SR S}
theorem st_set (h : f ρ s = .ok d s1) (k : b (ρ.set i (some d)) s1 = r) : sSeq (sSet f i) b ρ s = r := by
  rw [← k]
  unfold sSeq sSet sE
  simp only [h]
theorem st_seq (h : a ρ s = .nx ρ1 s1) (k : b ρ1 s1 = r) : sSeq a b ρ s = r := by
  rw [← k]
  unfold sSeq
  simp only [h]
theorem st_ret (h : f ρ s = .ok d s1) : sRet f ρ s = .rt d s1 := by
  unfold sRet sE
  simp only [h]
theorem ev_bin {o : D → D → Option D} {x y : D} (h : f ρ s = .ok x s1) (k : g ρ s1 = .ok y s2) (q : o x y = some d) : dBin o f g ρ s = .ok d s2 := by
  show M.bind _ _ _ = _
  unfold M.bind
  simp only [h]
  show M.bind _ _ _ = _
  unfold M.bind
  simp only [k, q]
  rfl
theorem ev_cons {x : D} {xs : List D} (h : f ρ s = .ok x s1) (k : l ρ s1 = .ok xs s2) : dCons f l ρ s = .ok (x :: xs) s2 := by
  show M.bind _ _ _ = _
  unfold M.bind
  simp only [h]
  show M.bind _ _ _ = _
  unfold M.bind
  simp only [k]
  rfl
theorem ev_tup {xs : List D} (h : l ρ s = .ok xs s1) (hl : xs.length ≤ 16777216) : (do M.opt (tupOk (← l ρ)) : M S D) s = .ok (.tup xs) s1 := by
  show M.bind _ _ _ = _
  unfold M.bind
  simp only [h, tupOk_eq hl]
  rfl
theorem ev_lst {xs : List D} (h : l ρ s = .ok xs s1) (hl : xs.length ≤ 16777216) : (do M.opt (lstOk (← l ρ)) : M S D) s = .ok (.lst xs) s1 := by
  show M.bind _ _ _ = _
  unfold M.bind
  simp only [h, lstOk_eq hl]
  rfl
end
/-- texts of results -/
theorem all_lt (x : String) : PySem.PyData.strOk (PySem.Str.ofString x) = true := by
  unfold PySem.PyData.strOk
  rw [PySem.Str.ofString_eq_toList]
  simp only [Array.all_eq_true', List.mem_toArray, List.mem_map, decide_eq_true_eq]
  rintro n ⟨c, _, rfl⟩
  have := c.valid
  unfold UInt32.isValidChar Nat.isValidChar at this
  show c.val.toNat < _
  omega
end DL.K68
set_option linter.all false
set_option maxRecDepth 100000
set_option maxHeartbeats 4000000
namespace DL.K68
open DL
/-! data that may be judged -/
mutual
def clean : D → Bool
  | .non => true
  | .bl _ => true
  | .int _ => true
  | .str x => PySem.PyData.strOk x
  | .tup xs => cleanL xs
  | .lst xs => cleanL xs
  | .dct _ => true
  | _ => false
def cleanL : List D → Bool
  | [] => true
  | x :: xs => clean x && cleanL xs
end
theorem cleanL_mem : ∀ {xs : List D}, cleanL xs = true ↔ ∀ x ∈ xs, clean x = true
  | [] => by simp [cleanL]
  | x :: xs => by simp [cleanL, cleanL_mem (xs := xs)]
def wholeD (d : D) (lo hi : Int) : Bool := match d with
  | .int n => decide (lo ≤ n) && decide (n ≤ hi)
  | _ => false
theorem is_whole_eq {d : D} (h : clean d = true) (lo hi : Int) : f_is_whole [d, .int lo, .int hi] () = .ok (.bl (wholeD d lo hi)) () := by
  cases d with
  | int n => exact is_whole_int n lo hi
  | non => simp [f_is_whole, runB, g_is_whole, dAndV, st0, isiD, isB, truD, dNotV, dChain, wholeD]
  | bl b => simp [f_is_whole, runB, g_is_whole, dAndV, st0, isiD, isB, truD, dNotV, dChain, wholeD]
  | str b => simp [f_is_whole, runB, g_is_whole, dAndV, st0, isiD, isB, truD, dNotV, dChain, wholeD]
  | tup b => simp [f_is_whole, runB, g_is_whole, dAndV, st0, isiD, isB, truD, dNotV, dChain, wholeD]
  | lst b => simp [f_is_whole, runB, g_is_whole, dAndV, st0, isiD, isB, truD, dNotV, dChain, wholeD]
  | dct b => simp [f_is_whole, runB, g_is_whole, dAndV, st0, isiD, isB, truD, dNotV, dChain, wholeD]
  | _ => simp [clean] at h
theorem all_bls (bs : List Bool) : allD [.lst (bs.map D.bl)] = some (.bl (bs.all id)) := by
  show (blsOf _).map _ = _
  rw [blsOf_map]
  rfl
/-- all([f(x) for x in xs]) -/
theorem all_comp {fi : Env → M Unit (List D)} {i : Nat} {fe : Env → M Unit D} {ρ : Env} {xs : List D} (p : D → Bool) (hi : fi ρ () = .ok xs ()) (hl : xs.length ≤ 16777216) (h : ∀ x ∈ xs, fe ((wipeE ρ [i]).set i (some x)) () = .ok (.bl (p x)) ()) :
    dCall allD (dCons (dComp fi (gSet i) [i] dYes fe) dNil) ρ () = .ok (.bl (xs.all p)) () := by
  have e := dComp_pure (S := Unit) (fi := fi) (g := gSet i) (us := [i]) (ft := dYes) (fe := fe) (ρ := ρ) (s := ()) (xs := xs) (fun _ => true) (fun x => .bl (p x)) hi (by rw [PySem.sizeLine_eq]; exact hl) fun x hx => ⟨_, rfl, rfl, fun _ => h x hx⟩
  rw [show (List.filter (fun _ => true) xs) = xs from List.filter_eq_self.mpr fun _ _ => rfl] at e
  rw [e_call, bind_eq, e_cons, bind_eq, e]
  show M.opt (allD [.lst (xs.map fun x => D.bl (p x))]) () = _
  rw [show (xs.map fun x => D.bl (p x)) = (xs.map p).map D.bl by rw [List.map_map]; rfl, all_bls]
  rw [List.all_map]
  rfl
def bidD : D → Bool
  | .tup [.str x, p, .tup ms] => x == "bid" && (decide (ms.length = 4) && (wholeD p 1 1000000000 && ms.all fun m => wholeD m 0 100))
  | _ => false
theorem ok_bid : PySem.PyData.strOk "bid" = true := by decide +kernel
theorem is_bid_3 (x : PySem.Str) (hx : PySem.PyData.strOk x = true) (p m : D) (hp : clean p = true) (hm : clean m = true) : f_is_bid [.tup [.str x, p, m]] () = .ok (.bl (bidD (.tup [.str x, p, m]))) () := by
  have hne : neD (.str x) (.str "bid") = some (.bl (!(x == "bid"))) := by unfold neD; rw [v_eqS _ _ hx ok_bid]; rfl
  have ix0' : ixD (.tup [.str x, p, m]) (.int 0) = some (.str x) := rfl
  have ix1' : ixD (.tup [.str x, p, m]) (.int 1) = some p := rfl
  have ix2' : ixD (.tup [.str x, p, m]) (.int 2) = some m := rfl
  by_cases hb : (x == ("bid" : PySem.Str)) = true
  · have hw := is_whole_eq hp 1 1000000000
    refine runB_rt ?_
    show sSeq _ _ [some (.tup [.str x, p, m]), none, none] () = _
    cases m with
    | tup ms =>
      have hms := cleanL_mem.mp hm
      by_cases h4 : ms.length = 4
      · have hall : dCall allD (dCons (dComp (dItems (dVar 1)) (gSet 2) [2] dYes (dCallF (fun ds => liftP (f_is_whole ds)) (dCons (dVar 2) (dCons (dC (.int 0)) (dCons (dC (.int 100)) dNil))))) dNil) [some (.tup [.str x, p, .tup ms]), some (.tup ms), none] () = .ok (.bl (ms.all fun m => wholeD m 0 100)) () :=
          all_comp (fun m => wholeD m 0 100) rfl (by omega) fun y hy => by simp [wipeE, liftP, is_whole_eq (hms y hy) 0 100]
        cases hpw : wholeD p 1 1000000000 with
        | false => simp [isiD, isB, truD, v_neI, hne, ix0', ix1', ix2', hb, liftP, hw, hpw, h4, bidD]
        | true =>
          have s1 : sIf (dOr (dNot (dTru (dUn (isiD .tuple) (dVar 0)))) (dOr (dCmpT neD (dCall lenD (dCons (dVar 0) dNil)) (dC (.int 3))) (dOr (dNot (dTru (dUn (isiD .str) (dBin ixD (dVar 0) (dC (.int 0)))))) (dCmpT neD (dBin ixD (dVar 0) (dC (.int 0))) (dC (.str "bid")))))) (sRet (dC (.bl false))) sNext [some (.tup [.str x, p, .tup ms]), none, none] () = .nx [some (.tup [.str x, p, .tup ms]), none, none] () := by
            simp [isiD, isB, truD, v_neI, hne, ix0', hb]
          have s2 : sSet (dBin ixD (dVar 0) (dC (.int 2))) 1 [some (.tup [.str x, p, .tup ms]), none, none] () = .nx [some (.tup [.str x, p, .tup ms]), some (.tup ms), none] () := by
            simp [ix2']
          have s3 : sIf (dOr (dNot (dTru (dUn (isiD .tuple) (dVar 1)))) (dOr (dCmpT neD (dCall lenD (dCons (dVar 1) dNil)) (dC (.int 4))) (dNot (dTru (dCallF (fun ds => liftP (f_is_whole ds)) (dCons (dBin ixD (dVar 0) (dC (.int 1))) (dCons (dC (.int 1)) (dCons (dC (.int 1000000000)) dNil)))))))) (sRet (dC (.bl false))) sNext [some (.tup [.str x, p, .tup ms]), some (.tup ms), none] () = .nx [some (.tup [.str x, p, .tup ms]), some (.tup ms), none] () := by
            simp [isiD, isB, truD, v_neI, ix1', liftP, hw, hpw, h4]
          refine st_seq s1 (st_seq s2 (st_seq s3 ?_))
          rw [st_ret hall]
          simp [bidD, hb, h4, hpw]
      · have h4' : ¬ ((ms.length : Int) = 4) := by omega
        simp [isiD, isB, truD, v_neI, hne, ix0', ix2', hb, h4, h4', bidD]
    | _ => first
      | (simp [clean] at hm; done)
      | simp [isiD, isB, truD, v_neI, hne, ix0', ix2', hb, bidD]
  · have hb : (x == ("bid" : PySem.Str)) = false := by simpa using hb
    refine runB_rt ?_
    show sSeq _ _ [some (.tup [.str x, p, m]), none, none] () = _
    have : bidD (.tup [.str x, p, m]) = false := by
      cases m <;> simp [bidD, hb]
    rw [this]
    simp [isiD, isB, truD, v_neI, hne, ix0', hb]
theorem is_bid_eq {d : D} (h : clean d = true) : f_is_bid [d] () = .ok (.bl (bidD d)) () := by
  cases d with
  | tup xs =>
    have hx := cleanL_mem.mp h
    match xs, hx with
    | [.str x, p, m], hx => exact is_bid_3 x (hx (.str x) (by simp)) p m (hx p (by simp)) (hx m (by simp))
    | [], _ => simp [f_is_bid, runB, g_is_bid, st0, isiD, isB, truD, v_neI, bidD]
    | [a], _ => simp [f_is_bid, runB, g_is_bid, st0, isiD, isB, truD, v_neI, bidD]
    | [a, b], _ => simp [f_is_bid, runB, g_is_bid, st0, isiD, isB, truD, v_neI, bidD]
    | a :: b :: c :: e :: r, _ =>
      have hl : ¬ ((r.length : Int) + 1 + 1 + 1 + 1 = 3) := by omega
      simp [f_is_bid, runB, g_is_bid, st0, isiD, isB, truD, v_neI, bidD, hl]
    | [.non, p, m], _ => simp [f_is_bid, runB, g_is_bid, st0, isiD, isB, truD, v_neI, bidD, ix0]
    | [.bl _, p, m], _ => simp [f_is_bid, runB, g_is_bid, st0, isiD, isB, truD, v_neI, bidD, ix0]
    | [.int _, p, m], _ => simp [f_is_bid, runB, g_is_bid, st0, isiD, isB, truD, v_neI, bidD, ix0]
    | [.tup _, p, m], _ => simp [f_is_bid, runB, g_is_bid, st0, isiD, isB, truD, v_neI, bidD, ix0]
    | [.lst _, p, m], _ => simp [f_is_bid, runB, g_is_bid, st0, isiD, isB, truD, v_neI, bidD, ix0]
    | [.dct _, p, m], _ => simp [f_is_bid, runB, g_is_bid, st0, isiD, isB, truD, v_neI, bidD, ix0]
    | [.st q, p, m], hx => have := hx (.st q) (by simp); simp [clean] at this
    | [.fn q, p, m], hx => have := hx (.fn q) (by simp); simp [clean] at this
    | [.exc q r, p, m], hx => have := hx (.exc q r) (by simp); simp [clean] at this
    | [.tok, p, m], hx => have := hx .tok (by simp); simp [clean] at this
  | non => simp [f_is_bid, runB, g_is_bid, st0, isiD, isB, truD, bidD]
  | bl b => simp [f_is_bid, runB, g_is_bid, st0, isiD, isB, truD, bidD]
  | int b => simp [f_is_bid, runB, g_is_bid, st0, isiD, isB, truD, bidD]
  | str b => simp [f_is_bid, runB, g_is_bid, st0, isiD, isB, truD, bidD]
  | lst b => simp [f_is_bid, runB, g_is_bid, st0, isiD, isB, truD, bidD]
  | dct b => simp [f_is_bid, runB, g_is_bid, st0, isiD, isB, truD, bidD]
  | _ => simp [clean] at h
end DL.K68
set_option linter.all false
set_option maxRecDepth 100000
set_option maxHeartbeats 4000000
namespace DL.K68
open DL
theorem ev_and {ρ : Env} {f g : Env → M Unit D} {b c : Bool} (h : f ρ () = .ok (.bl b) ()) (k : b = true → g ρ () = .ok (.bl c) ()) : dAndV f g ρ () = .ok (.bl (b && c)) () := by
  show M.bind _ _ _ = _
  unfold M.bind
  simp only [h]
  cases b with
  | true => exact k rfl
  | false => rfl
def relL : List PySem.Str := ["low", "range", "mean"]
def relB (x : PySem.Str) : Bool := relL.contains x
def termD : D → Bool
  | .tup (.str x :: r) => if x == "mark" then (match r with
      | [k, w] => wholeD k 0 3 && wholeD w 1 1000
      | _ => false)
    else (match r with
      | [w] => relB x && wholeD w 1 1000
      | _ => false)
  | _ => false
theorem ok_mark : PySem.PyData.strOk "mark" = true := by decide +kernel
theorem in_rels (x : PySem.Str) : inD (.str x) c_RELATIVES = some (.bl (relB x)) := by
  show inL (.str x) [.str "low", .str "range", .str "mean"] = _
  unfold inL
  rw [if_pos ⟨rfl, rfl⟩]
  congr 2
  simp only [List.any_cons, List.any_nil, eqF, relB, relL, List.contains_cons, List.contains_nil]
  rw [Bool.beq_comm (a := ("low" : PySem.Str)), Bool.beq_comm (a := ("range" : PySem.Str)), Bool.beq_comm (a := ("mean" : PySem.Str))]
theorem is_term_str (x : PySem.Str) (hx : PySem.PyData.strOk x = true) (r : List D) (hr : cleanL r = true) (h1 : 1 ≤ r.length) : f_is_term [.tup (.str x :: r)] () = .ok (.bl (termD (.tup (.str x :: r)))) () := by
  have heq : eqD (.str x) (.str "mark") = some (.bl (x == "mark")) := v_eqS _ _ hx ok_mark
  have hin := in_rels x
  have ix0' : ixD (.tup (.str x :: r)) (.int 0) = some (.str x) := (ix0 _).trans rfl
  have hlt : ¬ ((r.length : Int) + 1 < 2) := by omega
  refine runB_rt ?_
  show sSeq _ _ [some (.tup (.str x :: r))] () = _
  cases hb : (x == ("mark" : PySem.Str)) with
  | true =>
    match r, h1, hr with
    | [k], _, hr =>
      simp [isiD, isB, truD, ix0', heq, hb, dAndV, v_eqI, termD]
    | [k, w], _, hr =>
      simp only [cleanL, Bool.and_true, Bool.and_eq_true] at hr
      have e1 := is_whole_eq hr.1 0 3
      have e2 := is_whole_eq hr.2 1 1000
      have ix1' : ixD (.tup [.str x, k, w]) (.int 1) = some k := rfl
      have ix2' : ixD (.tup [.str x, k, w]) (.int 2) = some w := rfl
      cases hk : wholeD k 0 3 with
      | false => simp [isiD, isB, truD, ix0', ix1', ix2', heq, hb, dAndV, v_eqI, termD, liftP, e1, hk]
      | true => simp [isiD, isB, truD, ix0', ix1', ix2', heq, hb, dAndV, v_eqI, termD, liftP, e1, e2, hk]
    | k :: w :: u :: q, _, hr =>
      have hl : ¬ ((q.length : Int) + 1 + 1 + 1 + 1 = 3) := by omega
      have hl2 : ¬ ((q.length : Int) + 1 + 1 + 1 + 1 < 2) := by omega
      simp [isiD, isB, truD, ix0', heq, hb, dAndV, v_eqI, termD, hl, hl2]
  | false =>
    cases hc : relB x with
    | false =>
      have : termD (.tup (.str x :: r)) = false := by
        match r with
        | [] => simp [termD]
        | [w] => simp [termD, hb, hc]
        | _ :: _ :: _ => simp [termD, hb]
      rw [this]
      simp [isiD, isB, truD, ix0', heq, hb, dAndV, hin, hc, hlt]
    | true =>
      match r, h1, hr with
      | [w], _, hr =>
        simp only [cleanL, Bool.and_true] at hr
        have e1 := is_whole_eq hr 1 1000
        have ix1' : ixD (.tup [.str x, w]) (.int 1) = some w := rfl
        simp [isiD, isB, truD, ix0', ix1', heq, hb, dAndV, v_eqI, termD, liftP, e1, hin, hc]
      | k :: w :: q, _, hr =>
        have hl : ¬ ((q.length : Int) + 1 + 1 + 1 = 2) := by omega
        have hl2 : ¬ ((q.length : Int) + 1 + 1 + 1 < 2) := by omega
        simp [isiD, isB, truD, ix0', heq, hb, dAndV, v_eqI, termD, hin, hc, hl, hl2]
theorem is_term_eqD {d : D} (h : clean d = true) : f_is_term [d] () = .ok (.bl (termD d)) () := by
  cases d with
  | tup xs =>
    have hx := cleanL_mem.mp h
    match xs, hx with
    | [], _ => simp [f_is_term, runB, g_is_term, st0, isiD, isB, truD, termD]
    | [.str x], _ => 
      have : termD (.tup [.str x]) = false := by simp [termD]
      rw [this]
      simp [f_is_term, runB, g_is_term, st0, isiD, isB, truD]
    | .str x :: a :: r, hx => exact is_term_str x (hx (.str x) (by simp)) (a :: r) (cleanL_mem.mpr fun y hy => hx y (List.mem_cons_of_mem _ hy)) (by simp)
    | .non :: r, _ => by_cases hl : (r.length : Int) + 1 < 2 <;> simp [f_is_term, runB, g_is_term, st0, isiD, isB, truD, termD, ix0, hl]
    | .bl _ :: r, _ => by_cases hl : (r.length : Int) + 1 < 2 <;> simp [f_is_term, runB, g_is_term, st0, isiD, isB, truD, termD, ix0, hl]
    | .int _ :: r, _ => by_cases hl : (r.length : Int) + 1 < 2 <;> simp [f_is_term, runB, g_is_term, st0, isiD, isB, truD, termD, ix0, hl]
    | .tup _ :: r, _ => by_cases hl : (r.length : Int) + 1 < 2 <;> simp [f_is_term, runB, g_is_term, st0, isiD, isB, truD, termD, ix0, hl]
    | .lst _ :: r, _ => by_cases hl : (r.length : Int) + 1 < 2 <;> simp [f_is_term, runB, g_is_term, st0, isiD, isB, truD, termD, ix0, hl]
    | .dct _ :: r, _ => by_cases hl : (r.length : Int) + 1 < 2 <;> simp [f_is_term, runB, g_is_term, st0, isiD, isB, truD, termD, ix0, hl]
    | .st q :: _, hx => have := hx (.st q) (by simp); simp [clean] at this
    | .fn q :: _, hx => have := hx (.fn q) (by simp); simp [clean] at this
    | .exc q r :: _, hx => have := hx (.exc q r) (by simp); simp [clean] at this
    | .tok :: _, hx => have := hx .tok (by simp); simp [clean] at this
  | non => simp [f_is_term, runB, g_is_term, st0, isiD, isB, truD, termD]
  | bl b => simp [f_is_term, runB, g_is_term, st0, isiD, isB, truD, termD]
  | int b => simp [f_is_term, runB, g_is_term, st0, isiD, isB, truD, termD]
  | str b => simp [f_is_term, runB, g_is_term, st0, isiD, isB, truD, termD]
  | lst b => simp [f_is_term, runB, g_is_term, st0, isiD, isB, truD, termD]
  | dct b => simp [f_is_term, runB, g_is_term, st0, isiD, isB, truD, termD]
  | _ => simp [clean] at h
def formD : D → Bool
  | .tup ts => decide (ts.length ≤ 6) && ts.all termD
  | _ => false
theorem is_formula_eqD {d : D} (h : clean d = true) : f_is_formula [d] () = .ok (.bl (formD d)) () := by
  cases d with
  | tup xs =>
    have hx := cleanL_mem.mp h
    by_cases hl : xs.length ≤ 6
    · have hall : dCall allD (dCons (dComp (dItems (dVar 0)) (gSet 1) [1] dYes (dCallF (fun ds => liftP (f_is_term ds)) (dCons (dVar 1) dNil))) dNil) [some (.tup xs), none] () = .ok (.bl (xs.all termD)) () :=
        all_comp termD rfl (by omega) fun y hy => by simp [wipeE, liftP, is_term_eqD (hx y hy)]
      have hl2 : (xs.length : Int) ≤ 6 := by omega
      refine runB_rt ?_
      show sRet _ [some (.tup xs), none] () = _
      refine st_ret (?_ : _ = Res.ok (D.bl (formD (.tup xs))) ())
      rw [show formD (.tup xs) = (true && (true && xs.all termD)) by simp [formD, hl]]
      exact ev_and (by simp [isiD, isB]) fun _ => ev_and (by simp [hl2]) fun _ => hall
    · have hl2 : ¬ (xs.length : Int) ≤ 6 := by omega
      simp [f_is_formula, runB, g_is_formula, st0, isiD, isB, dAndV, hl2, hl, formD]
  | non => simp [f_is_formula, runB, g_is_formula, st0, isiD, isB, dAndV, formD]
  | bl b => simp [f_is_formula, runB, g_is_formula, st0, isiD, isB, dAndV, formD]
  | int b => simp [f_is_formula, runB, g_is_formula, st0, isiD, isB, dAndV, formD]
  | str b => simp [f_is_formula, runB, g_is_formula, st0, isiD, isB, dAndV, formD]
  | lst b => simp [f_is_formula, runB, g_is_formula, st0, isiD, isB, dAndV, formD]
  | dct b => simp [f_is_formula, runB, g_is_formula, st0, isiD, isB, dAndV, formD]
  | _ => simp [clean] at h
def fieldD : D → Bool
  | .tup xs => decide (xs.length ≤ 130) && xs.all bidD
  | .lst xs => decide (xs.length ≤ 130) && xs.all bidD
  | _ => false
theorem is_field_eqD {d : D} (h : clean d = true) : f_is_field [d] () = .ok (.bl (fieldD d)) () := by
  cases d with
  | tup xs =>
    have hx := cleanL_mem.mp h
    by_cases hl : xs.length ≤ 130
    · have hall : dCall allD (dCons (dComp (dItems (dVar 0)) (gSet 1) [1] dYes (dCallF (fun ds => liftP (f_is_bid ds)) (dCons (dVar 1) dNil))) dNil) [some (.tup xs), none] () = .ok (.bl (xs.all bidD)) () :=
        all_comp bidD rfl (by omega) fun y hy => by simp [wipeE, liftP, is_bid_eq (hx y hy)]
      have hl2 : (xs.length : Int) ≤ 130 := by omega
      refine runB_rt ?_
      show sRet _ [some (.tup xs), none] () = _
      refine st_ret ?_
      rw [show fieldD (.tup xs) = (true && (true && xs.all bidD)) by simp [fieldD, hl]]
      exact ev_and (by simp [isi2D, isB]) fun _ => ev_and (by simp [hl2]) fun _ => hall
    · have hl2 : ¬ (xs.length : Int) ≤ 130 := by omega
      simp [f_is_field, runB, g_is_field, st0, isi2D, isB, dAndV, hl2, hl, fieldD]
  | lst xs =>
    have hx := cleanL_mem.mp h
    by_cases hl : xs.length ≤ 130
    · have hall : dCall allD (dCons (dComp (dItems (dVar 0)) (gSet 1) [1] dYes (dCallF (fun ds => liftP (f_is_bid ds)) (dCons (dVar 1) dNil))) dNil) [some (.lst xs), none] () = .ok (.bl (xs.all bidD)) () :=
        all_comp bidD rfl (by omega) fun y hy => by simp [wipeE, liftP, is_bid_eq (hx y hy)]
      have hl2 : (xs.length : Int) ≤ 130 := by omega
      refine runB_rt ?_
      show sRet _ [some (.lst xs), none] () = _
      refine st_ret ?_
      rw [show fieldD (.lst xs) = (true && (true && xs.all bidD)) by simp [fieldD, hl]]
      exact ev_and (by simp [isi2D, isB]) fun _ => ev_and (by simp [hl2]) fun _ => hall
    · have hl2 : ¬ (xs.length : Int) ≤ 130 := by omega
      simp [f_is_field, runB, g_is_field, st0, isi2D, isB, dAndV, hl2, hl, fieldD]
  | non => simp [f_is_field, runB, g_is_field, st0, isi2D, isB, dAndV, fieldD]
  | bl b => simp [f_is_field, runB, g_is_field, st0, isi2D, isB, dAndV, fieldD]
  | int b => simp [f_is_field, runB, g_is_field, st0, isi2D, isB, dAndV, fieldD]
  | str b => simp [f_is_field, runB, g_is_field, st0, isi2D, isB, dAndV, fieldD]
  | dct b => simp [f_is_field, runB, g_is_field, st0, isi2D, isB, dAndV, fieldD]
  | _ => simp [clean] at h
end DL.K68
set_option linter.all false
set_option maxRecDepth 100000
set_option maxHeartbeats 4000000
namespace DL
section
variable {S : Type} {ρ ρ1 : Env} {s s1 s2 : S} {d : D} {e : Exn} {i : Nat} {f g : Env → M S D} {l : Env → M S (List D)} {t u : Env → M S Bool} {a b : G S} {r : SR S}
theorem st_seq_ex (h : a ρ s = .ex e ρ1 s1) : sSeq a b ρ s = .ex e ρ1 s1 := by
  unfold sSeq
  rw [h]
theorem st_drop_ex (h : f ρ s = .exc e s1) : sDrop f ρ s = .ex e ρ s1 := by
  unfold sDrop sE
  rw [h]
theorem st_drop (h : f ρ s = .ok d s1) : sDrop f ρ s = .nx ρ s1 := by
  unfold sDrop sE
  rw [h]
theorem st_asg_ex {g : D → Env → Option Env} (h : f ρ s = .exc e s1) : sAsg f g ρ s = .ex e ρ s1 := by
  unfold sAsg sE
  rw [h]
theorem st_asg {g : D → Env → Option Env} (h : f ρ s = .ok d s1) (k : g d ρ = some ρ1) : sAsg f g ρ s = .nx ρ1 s1 := by
  unfold sAsg sE
  rw [h]
  show sOpt (g d ρ) _ = _
  rw [k]
  rfl
theorem st_if_ex (h : t ρ s = .exc e s1) : sIf t a b ρ s = .ex e ρ s1 := by
  unfold sIf sE
  rw [h]
theorem st_if_f (h : t ρ s = .ok false s1) (k : b ρ s1 = r) : sIf t a b ρ s = r := by
  unfold sIf sE
  rw [h]
  exact k
theorem st_if_t (h : t ρ s = .ok true s1) (k : a ρ s1 = r) : sIf t a b ρ s = r := by
  unfold sIf sE
  rw [h]
  exact k
theorem runB_ex {n : Nat} {g : G S} {ds : List D} (h : g (st0 n ds) s = .ex e ρ1 s1) : runB n g ds s = .exc e s1 := by
  unfold runB
  rw [h]
theorem runB_nx {n : Nat} {g : G S} {ds : List D} (h : g (st0 n ds) s = .nx ρ1 s1) : runB n g ds s = .ok .non s1 := by
  unfold runB
  rw [h]
theorem ev_callP {f : Fn Unit} {ds : List D} {q : Res S D} (h : l ρ s = .ok ds s1) (k : liftP (f ds) s1 = q) : dCallF (fun ds => liftP (f ds)) l ρ s = q := by
  rw [← k, e_callF, bind_eq, h]
theorem ev_callK {f : Fn S} {ds : List D} {q : Res S D} (h : l ρ s = .ok ds s1) (k : f ds s1 = q) : dCallF f l ρ s = q := by
  rw [← k, e_callF, bind_eq, h]
theorem ev_call {o : List D → Option D} {ds : List D} (h : l ρ s = .ok ds s1) (k : o ds = some d) : dCall o l ρ s = .ok d s1 := by
  rw [e_call, bind_eq, h]
  dsimp only
  rw [k]
  rfl
theorem liftP_ok {m : M Unit D} (h : m () = .ok d ()) : (liftP m s : Res S D) = .ok d s := by
  unfold liftP
  rw [h]
theorem liftP_exc {m : M Unit D} (h : m () = .exc e ()) : (liftP m s : Res S D) = .exc e s := by
  unfold liftP
  rw [h]
theorem ev_var {i : Nat} (h : ρ[i]? = some (some d)) : (dVar i ρ s : Res S D) = .ok d s := by
  rw [dVar_eq, h]
theorem tt_tru {b : Bool} (h : f ρ s = .ok (.bl b) s1) : dTru f ρ s = .ok b s1 := by
  rw [e_tru, bind_eq, h]
  rfl
theorem tt_tru_ex (h : f ρ s = .exc e s1) : dTru f ρ s = .exc e s1 := by
  rw [e_tru, bind_eq, h]
theorem tt_not {b : Bool} (h : t ρ s = .ok b s1) : dNot t ρ s = .ok (!b) s1 := by
  rw [e_not, bind_eq, h]
  rfl
theorem tt_or {b c : Bool} (h : t ρ s = .ok b s1) (k : b = false → u ρ s1 = .ok c s2) (kt : b = true → c = true ∧ s2 = s1) : dOr t u ρ s = .ok (b || c) s2 := by
  rw [e_or, bind_eq, h]
  cases b with
  | true => obtain ⟨rfl, rfl⟩ := kt rfl; rfl
  | false => exact k rfl
theorem tt_or_ff (h : t ρ s = .ok false s1) (k : u ρ s1 = .ok false s2) : dOr t u ρ s = .ok false s2 := by
  rw [e_or, bind_eq, h]
  exact k
theorem tt_cmp {o : D → D → Option D} {x y : D} {b : Bool} (h : f ρ s = .ok x s1) (k : g ρ s1 = .ok y s2) (q : o x y = some (.bl b)) : dCmpT o f g ρ s = .ok b s2 := by
  rw [e_cmpT, bind_eq, h]
  dsimp only
  rw [bind_eq, k]
  dsimp only
  rw [q]
  rfl
theorem ev_un {o : D → Option D} {x : D} (h : f ρ s = .ok x s1) (q : o x = some d) : dUn o f ρ s = .ok d s1 := by
  rw [e_un, bind_eq, h]
  dsimp only
  rw [q]
  rfl
theorem ev_if {b : Bool} {q : Res S D} (h : t ρ s = .ok b s1) (k : (if b = true then f else g) ρ s1 = q) : dIf t f g ρ s = q := by
  rw [← k, e_if, bind_eq, h]
  cases b <;> rfl
theorem ev_caught {x : PySem.Str} {names : List PySem.Str} (hx : names.contains x = true) (h : f ρ s = .exc ⟨x, []⟩ s1) : dCaught names f ρ s = .ok (.exc x []) s1 := by
  unfold dCaught
  rw [h]
  exact if_pos ⟨hx, rfl⟩
theorem forL_set {body : G S} : ∀ (xs : List D) (ρ : Env), i < ρ.length → (∀ x ∈ xs, ∀ y, body ((ρ.set i y).set i (some x)) s = .nx ((ρ.set i y).set i (some x)) s) → ∃ y, forL (gSet i) body xs ρ s = .nx (ρ.set i y) s
  | [], ρ, hi, _ => ⟨ρ[i], by
    rw [List.set_getElem_self]
    rfl⟩
  | x :: xs, ρ, hi, h => by
    have e := h x (List.mem_cons_self ..) ρ[i]
    rw [List.set_getElem_self] at e
    obtain ⟨y, k⟩ := forL_set (body := body) xs (ρ.set i (some x)) (by rw [List.length_set]; exact hi) fun z hz y => by
      have := h z (List.mem_cons_of_mem _ hz) y
      rw [List.set_set] at this ⊢
      rw [List.set_set]
      exact this
    refine ⟨y, ?_⟩
    rw [forL_cons, v_gSet]
    dsimp only
    rw [e]
    dsimp only
    rw [k, List.set_set]
end
end DL
namespace DL.K68
open DL
abbrev bF : Exn := ⟨"BadFormula", []⟩
abbrev bD : Exn := ⟨"BadField", []⟩
abbrev bI : Exn := ⟨"BadIndex", []⟩
theorem need_formula_bad {d : D} (h : clean d = true) (hf : formD d = false) : f_need_formula [d] () = .exc bF () := by
  have q : f_is_formula [d] () = .ok (.bl false) () := by rw [is_formula_eqD h, hf]
  refine runB_ex (ρ1 := [some d]) ?_
  show sIf _ _ _ [some d] () = _
  exact st_if_t (tt_not (tt_tru (ev_callP rfl (liftP_ok q)))) rfl
theorem need_formula_ok {d : D} (h : clean d = true) (hf : formD d = true) : f_need_formula [d] () = .ok .non () := by
  have q : f_is_formula [d] () = .ok (.bl true) () := by rw [is_formula_eqD h, hf]
  refine runB_nx (ρ1 := [some d]) ?_
  show sIf _ _ _ [some d] () = _
  exact st_if_f (tt_not (tt_tru (ev_callP rfl (liftP_ok q)))) rfl
theorem need_field_bad {d : D} (h : clean d = true) (hf : fieldD d = false) : f_need_field [d] () = .exc bD () := by
  have q : f_is_field [d] () = .ok (.bl false) () := by rw [is_field_eqD h, hf]
  refine runB_ex (ρ1 := [some d]) ?_
  show sIf _ _ _ [some d] () = _
  exact st_if_t (tt_not (tt_tru (ev_callP rfl (liftP_ok q)))) rfl
theorem need_field_ok {d : D} (h : clean d = true) (hf : fieldD d = true) : f_need_field [d] () = .ok .non () := by
  have q : f_is_field [d] () = .ok (.bl true) () := by rw [is_field_eqD h, hf]
  refine runB_nx (ρ1 := [some d]) ?_
  show sIf _ _ _ [some d] () = _
  exact st_if_f (tt_not (tt_tru (ev_callP rfl (liftP_ok q)))) rfl
theorem index_args (xs : List D) (o : D) : (dCons (dVar 1) (dCons (dC (.int 0)) (dCons (dBin subD (dCall lenD (dCons (dVar 0) dNil)) (dC (.int 1))) dNil)) [some (D.lst xs), some o] () : Res Unit (List D)) = .ok [o, .int 0, .int ((xs.length : Int) - 1)] () := by
  simp
theorem need_index_bad {xs : List D} {o : D} (h : clean o = true) (hf : wholeD o 0 ((xs.length : Int) - 1) = false) : f_need_index [.lst xs, o] () = .exc bI () := by
  have q : f_is_whole [o, .int 0, .int ((xs.length : Int) - 1)] () = .ok (.bl false) () := by rw [is_whole_eq h, hf]
  refine runB_ex (ρ1 := [some (.lst xs), some o]) ?_
  show sIf _ _ _ [some (.lst xs), some o] () = _
  exact st_if_t (tt_not (tt_tru (ev_callP (index_args xs o) (liftP_ok q)))) rfl
theorem need_index_ok {xs : List D} {o : D} (h : clean o = true) (hf : wholeD o 0 ((xs.length : Int) - 1) = true) : f_need_index [.lst xs, o] () = .ok .non () := by
  have q : f_is_whole [o, .int 0, .int ((xs.length : Int) - 1)] () = .ok (.bl true) () := by rw [is_whole_eq h, hf]
  refine runB_nx (ρ1 := [some (.lst xs), some o]) ?_
  show sIf _ _ _ [some (.lst xs), some o] () = _
  exact st_if_f (tt_not (tt_tru (ev_callP (index_args xs o) (liftP_ok q)))) rfl
/-! what the program's defs raise -/
section
variable {bad : D} (h : clean bad = true) (hf : formD bad = false)
include h hf
theorem x_mark : f_mark_weights [bad] () = .exc bF () := runB_ex (ρ1 := [some bad, none, none]) (st_seq_ex (st_drop_ex (ev_callP rfl (liftP_exc (need_formula_bad h hf)))))
theorem x_rel : f_relative_weights [bad] () = .exc bF () := runB_ex (ρ1 := [some bad, none, none]) (st_seq_ex (st_drop_ex (ev_callP rfl (liftP_exc (need_formula_bad h hf)))))
theorem x_least : f_least_mark_sum [bad] () = .exc bF () := runB_ex (ρ1 := [some bad]) (st_seq_ex (st_drop_ex (ev_callP rfl (liftP_exc (need_formula_bad h hf)))))
theorem x_passes : f_passes [bad] () = .exc bF () := runB_ex (ρ1 := [some bad, none, none, none]) (st_seq_ex (st_asg_ex (ev_callP rfl (liftP_exc (x_rel h hf)))))
theorem x_turn : f_turn [bad] () = .exc bF () := runB_ex (ρ1 := [some bad, none, none, none, none, none, none, none, none, none, none, none, none]) (st_seq_ex (st_if_ex (tt_tru_ex (ev_callP rfl (liftP_exc (x_passes h hf))))))
theorem x_scores (w : D) : f_scores [bad, w] () = .exc bF () := runB_ex (ρ1 := [some bad, some w]) (st_seq_ex (st_drop_ex (ev_callP rfl (liftP_exc (need_formula_bad h hf)))))
theorem x_ranking (w : D) : f_ranking [bad, w] () = .exc bF () := runB_ex (ρ1 := [some bad, some w]) (st_seq_ex (st_drop_ex (ev_callP rfl (liftP_exc (need_formula_bad h hf)))))
theorem x_spoilers (w : D) : f_spoilers [bad, w] () = .exc bF () := runB_ex (ρ1 := [some bad, some w, none, none, none, none]) (st_seq_ex (st_drop_ex (ev_callP rfl (liftP_exc (need_formula_bad h hf)))))
theorem x_first (w : D) : f_first_spoilers [bad, w] () = .exc bF () := runB_ex (ρ1 := [some bad, some w, none, none]) (st_seq_ex (st_drop_ex (ev_callP rfl (liftP_exc (need_formula_bad h hf)))))
theorem x_isturn (w : D) : f_is_turn [bad, w] () = .exc bF () := runB_ex (ρ1 := [some bad, some w, none, none]) (st_seq_ex (st_drop_ex (ev_callP rfl (liftP_exc (need_formula_bad h hf)))))
theorem x_score (w o : D) : f_score [bad, w, o] () = .exc bF () := runB_ex (ρ1 := [some bad, some w, some o]) (st_seq_ex (st_drop_ex (ev_callP rfl (liftP_exc (need_formula_bad h hf)))))
theorem x_ahead (w o q : D) : f_ahead [bad, w, o, q] () = .exc bF () := runB_ex (ρ1 := [some bad, some w, some o, some q]) (st_seq_ex (st_drop_ex (ev_callP rfl (liftP_exc (need_formula_bad h hf)))))
end
section
variable {fo w : D} (h : clean fo = true) (hf : formD fo = true) (h2 : clean w = true) (hw : fieldD w = false)
include h hf h2 hw
theorem y_scores : f_scores [fo, w] () = .exc bD () := runB_ex (ρ1 := [some fo, some w]) (st_seq (st_drop (ev_callP rfl (liftP_ok (need_formula_ok h hf)))) (st_seq_ex (st_drop_ex (ev_callP rfl (liftP_exc (need_field_bad h2 hw))))))
theorem y_ranking : f_ranking [fo, w] () = .exc bD () := runB_ex (ρ1 := [some fo, some w]) (st_seq (st_drop (ev_callP rfl (liftP_ok (need_formula_ok h hf)))) (st_seq_ex (st_drop_ex (ev_callP rfl (liftP_exc (need_field_bad h2 hw))))))
theorem y_spoilers : f_spoilers [fo, w] () = .exc bD () := runB_ex (ρ1 := [some fo, some w, none, none, none, none]) (st_seq (st_drop (ev_callP rfl (liftP_ok (need_formula_ok h hf)))) (st_seq_ex (st_drop_ex (ev_callP rfl (liftP_exc (need_field_bad h2 hw))))))
theorem y_first : f_first_spoilers [fo, w] () = .exc bD () := runB_ex (ρ1 := [some fo, some w, none, none]) (st_seq (st_drop (ev_callP rfl (liftP_ok (need_formula_ok h hf)))) (st_seq_ex (st_drop_ex (ev_callP rfl (liftP_exc (need_field_bad h2 hw))))))
theorem y_score (o : D) : f_score [fo, w, o] () = .exc bD () := runB_ex (ρ1 := [some fo, some w, some o]) (st_seq (st_drop (ev_callP rfl (liftP_ok (need_formula_ok h hf)))) (st_seq_ex (st_drop_ex (ev_callP rfl (liftP_exc (need_field_bad h2 hw))))))
theorem y_ahead (o q : D) : f_ahead [fo, w, o, q] () = .exc bD () := runB_ex (ρ1 := [some fo, some w, some o, some q]) (st_seq (st_drop (ev_callP rfl (liftP_ok (need_formula_ok h hf)))) (st_seq_ex (st_drop_ex (ev_callP rfl (liftP_exc (need_field_bad h2 hw))))))
end
section
variable {fo : D} {xs : List D} (h : clean fo = true) (hf : formD fo = true) (h2 : clean (.lst xs) = true) (hw : fieldD (.lst xs) = true)
include h hf h2 hw
theorem z_score {o : D} (ho : clean o = true) (hi : wholeD o 0 ((xs.length : Int) - 1) = false) : f_score [fo, .lst xs, o] () = .exc bI () :=
  runB_ex (ρ1 := [some fo, some (.lst xs), some o]) (st_seq (st_drop (ev_callP rfl (liftP_ok (need_formula_ok h hf)))) (st_seq (st_drop (ev_callP rfl (liftP_ok (need_field_ok h2 hw)))) (st_seq_ex (st_drop_ex (ev_callP rfl (liftP_exc (need_index_bad ho hi)))))))
theorem z_ahead {o : D} (q : D) (ho : clean o = true) (hi : wholeD o 0 ((xs.length : Int) - 1) = false) : f_ahead [fo, .lst xs, o, q] () = .exc bI () :=
  runB_ex (ρ1 := [some fo, some (.lst xs), some o, some q]) (st_seq (st_drop (ev_callP rfl (liftP_ok (need_formula_ok h hf)))) (st_seq (st_drop (ev_callP rfl (liftP_ok (need_field_ok h2 hw)))) (st_seq_ex (st_drop_ex (ev_callP rfl (liftP_exc (need_index_bad ho hi)))))))
theorem z_ahead2 {o q : D} (ho : clean o = true) (hi : wholeD o 0 ((xs.length : Int) - 1) = true) (hq : clean q = true) (hj : wholeD q 0 ((xs.length : Int) - 1) = false) : f_ahead [fo, .lst xs, o, q] () = .exc bI () :=
  runB_ex (ρ1 := [some fo, some (.lst xs), some o, some q]) (st_seq (st_drop (ev_callP rfl (liftP_ok (need_formula_ok h hf)))) (st_seq (st_drop (ev_callP rfl (liftP_ok (need_field_ok h2 hw)))) (st_seq (st_drop (ev_callP rfl (liftP_ok (need_index_ok ho hi)))) (st_seq_ex (st_drop_ex (ev_callP rfl (liftP_exc (need_index_bad hq hj))))))))
theorem z_same (hi : 1 ≤ xs.length) : f_ahead [fo, .lst xs, .int 0, .int 0] () = .exc bI () := by
  have ho : clean (.int 0) = true := rfl
  have hi : wholeD (.int 0) 0 ((xs.length : Int) - 1) = true := by simp [wholeD]; omega
  exact runB_ex (ρ1 := [some fo, some (.lst xs), some (.int 0), some (.int 0)]) (st_seq (st_drop (ev_callP rfl (liftP_ok (need_formula_ok h hf)))) (st_seq (st_drop (ev_callP rfl (liftP_ok (need_field_ok h2 hw)))) (st_seq (st_drop (ev_callP rfl (liftP_ok (need_index_ok ho hi)))) (st_seq (st_drop (ev_callP rfl (liftP_ok (need_index_ok ho hi)))) (st_seq_ex (st_if_t (tt_cmp rfl rfl (v_eqI 0 0)) rfl))))))
end
end DL.K68
set_option linter.all false
set_option maxRecDepth 100000
set_option maxHeartbeats 4000000
namespace DL
section
variable {S : Type} {ρ ρ1 ρ2 : Env} {s s1 s2 : S} {d : D} {e : Exn} {i : Nat} {l : Env → M S (List D)} {g : D → Env → Option Env} {body : G S} {r : SR S}
theorem ev_callV {tbl : PySem.Str → Option (Fn Unit)} {x : PySem.Str} {f : Fn Unit} {ds : List D} (h : ρ[i]? = some (some (.fn x))) (ht : tbl x = some f) (hl : l ρ s = .ok ds s1) (hf : f ds () = .exc e ()) : dCallV i tbl l ρ s = .exc e s1 := by
  have e0 : dCallV i tbl l ρ s = (dVar i ρ >>= fun v => (match v with
    | .fn x => (match tbl x with
      | some f => dCallF (fun ds => liftP (f ds)) l ρ
      | none => M.stuck)
    | _ => M.stuck : M S D)) s := rfl
  rw [e0, bind_eq, ev_var h]
  dsimp only
  rw [ht]
  exact ev_callP hl (liftP_exc hf)
theorem forL_step {x : D} {xs : List D} (h : g x ρ = some ρ1) (hb : body ρ1 s = .nx ρ2 s2) (k : forL g body xs ρ2 s2 = r) : forL g body (x :: xs) ρ s = r := by
  rw [forL_cons, h]
  dsimp only
  rw [hb]
  exact k
theorem st_seq_rt {a b : G S} (h : a ρ s = .rt d s1) : sSeq a b ρ s = .rt d s1 := by
  unfold sSeq
  rw [h]
theorem st_for {fi : Env → M S (List D)} {xs : List D} (h : fi ρ s = .ok xs s1) (k : forL g body xs ρ s1 = r) : sFor fi g body ρ s = r := by
  rw [r_for, h]
  exact k
end
end DL
namespace DL.K68
open DL
def bads : List D := [.non, .int 5, .lst [.tup [.str "low", .int 1]], .tup [.tup [.str "low", .int 0]]]
def worses : List D := [.non, .int 5, .str "field", .dct [], .lst [.non], .lst [.tup [.str "bid", .int 0, .tup [.int 0, .int 0, .int 0, .int 0]]]]
theorem bads_ok : ∀ d ∈ bads, clean d = true ∧ formD d = false := by
  intro d hd
  simp only [bads, List.mem_cons, List.not_mem_nil, or_false] at hd
  rcases hd with rfl | rfl | rfl | rfl <;> exact ⟨by decide +kernel, by decide +kernel⟩
theorem worses_ok : ∀ d ∈ worses, clean d = true ∧ fieldD d = false := by
  intro d hd
  simp only [worses, List.mem_cons, List.not_mem_nil, or_false] at hd
  rcases hd with rfl | rfl | rfl | rfl | rfl | rfl <;> exact ⟨by decide +kernel, by decide +kernel⟩
def odds (n : Nat) : List D := [.int (-1), .int n, .non, .bl true, .str "0"]
theorem odds_ok (n : Nat) : ∀ d ∈ odds n, clean d = true ∧ wholeD d 0 ((n : Int) - 1) = false := by
  intro d hd
  simp only [odds, List.mem_cons, List.not_mem_nil, or_false] at hd
  rcases hd with rfl | rfl | rfl | rfl | rfl
  · exact ⟨rfl, by simp [wholeD]⟩
  · exact ⟨rfl, by simp [wholeD]; omega⟩
  · exact ⟨rfl, rfl⟩
  · exact ⟨rfl, rfl⟩
  · exact ⟨by decide +kernel, rfl⟩
abbrev caughtF (fb : Env → M Dr D) : Env → M Dr D := dUn (isxD exAll ["BadFormula"]) (dCaught exAll fb)
abbrev caughtD (fb : Env → M Dr D) : Env → M Dr D := dUn (isxD exAll ["BadField"]) (dCaught exAll fb)
abbrev caughtI (fb : Env → M Dr D) : Env → M Dr D := dUn (isxD exAll ["BadIndex"]) (dCaught exAll fb)
theorem in_F : exAll.contains "BadFormula" = true := by decide +kernel
theorem in_D : exAll.contains "BadField" = true := by decide +kernel
theorem in_I : exAll.contains "BadIndex" = true := by decide +kernel
theorem is_x {x : PySem.Str} {sub : List PySem.Str} (h : exAll.contains x = true) (h2 : sub.contains x = true) : isxD exAll sub (.exc x []) = some (.bl true) := by
  show (if exAll.contains x = true then some (D.bl (sub.contains x)) else none) = _
  rw [if_pos h, h2]
section
variable {fb : Env → M Dr D} {ρ : Env} {s s1 : Dr}
theorem cF (h : fb ρ s = .exc bF s1) : dNot (dTru (caughtF fb)) ρ s = .ok false s1 := tt_not (tt_tru (ev_un (ev_caught in_F h) (is_x in_F (by decide +kernel))))
theorem cD (h : fb ρ s = .exc bD s1) : dNot (dTru (caughtD fb)) ρ s = .ok false s1 := tt_not (tt_tru (ev_un (ev_caught in_D h) (is_x in_D (by decide +kernel))))
theorem cI (h : fb ρ s = .exc bI s1) : dNot (dTru (caughtI fb)) ρ s = .ok false s1 := tt_not (tt_tru (ev_un (ev_caught in_I h) (is_x in_I (by decide +kernel))))
end
theorem works1 (bad : D) (h : clean bad = true) (hf : formD bad = false) : ∀ y ∈ ([.fn "mark_weights", .fn "relative_weights", .fn "least_mark_sum", .fn "passes", .fn "turn"] : List D), ∃ x f, y = .fn x ∧ tb_1 x = some f ∧ f [bad] () = .exc bF () := by
  intro y hy
  simp only [List.mem_cons, List.not_mem_nil, or_false] at hy
  rcases hy with rfl | rfl | rfl | rfl | rfl
  · exact ⟨_, _, rfl, rfl, x_mark h hf⟩
  · exact ⟨_, _, rfl, rfl, x_rel h hf⟩
  · exact ⟨_, _, rfl, rfl, x_least h hf⟩
  · exact ⟨_, _, rfl, rfl, x_passes h hf⟩
  · exact ⟨_, _, rfl, rfl, x_turn h hf⟩
theorem works2 (bad fo w : D) (h : clean bad = true) (hf : formD bad = false) (h1 : clean fo = true) (hf1 : formD fo = true) (h2 : clean w = true) (hw : fieldD w = false) : ∀ y ∈ ([.fn "scores", .fn "ranking", .fn "spoilers", .fn "first_spoilers"] : List D), ∃ x f, y = .fn x ∧ tb_2 x = some f ∧ f [bad, w] () = .exc bF () ∧ f [fo, w] () = .exc bD () := by
  intro y hy
  simp only [List.mem_cons, List.not_mem_nil, or_false] at hy
  rcases hy with rfl | rfl | rfl | rfl
  · exact ⟨_, _, rfl, rfl, x_scores h hf w, y_scores h1 hf1 h2 hw⟩
  · exact ⟨_, _, rfl, rfl, x_ranking h hf w, y_ranking h1 hf1 h2 hw⟩
  · exact ⟨_, _, rfl, rfl, x_spoilers h hf w, y_spoilers h1 hf1 h2 hw⟩
  · exact ⟨_, _, rfl, rfl, x_first h hf w, y_first h1 hf1 h2 hw⟩
theorem kind_F : f_law_is_kind [.exc "BadFormula" [], .str "formula"] () = .ok (.bl true) () := by
  have q : eqD (.str "formula") (.str "formula") = some (.bl true) := by rw [v_eqS _ _ (by decide +kernel) (by decide +kernel)]; rfl
  refine runB_rt ?_
  show sSeq _ _ [some (.exc "BadFormula" []), some (.str "formula")] () = _
  unfold sSeq
  rw [st_if_t (tt_cmp rfl rfl q) (st_ret (ev_un rfl (is_x in_F (by decide +kernel))))]
theorem kind_D : f_law_is_kind [.exc "BadField" [], .str "field"] () = .ok (.bl true) () := by
  have q : eqD (.str "field") (.str "formula") = some (.bl false) := by rw [v_eqS _ _ (by decide +kernel) (by decide +kernel), show (("field" : PySem.Str) == "formula") = false by decide +kernel]
  have q2 : eqD (.str "field") (.str "field") = some (.bl true) := by rw [v_eqS _ _ (by decide +kernel) (by decide +kernel)]; rfl
  exact runB_rt (st_seq (ρ1 := [some (.exc "BadField" []), some (.str "field")]) (st_if_f (tt_cmp rfl rfl q) rfl) (st_ret (ev_if (tt_cmp rfl rfl q2) (ev_un rfl (is_x in_D (by decide +kernel))))))
theorem kind_I : f_law_is_kind [.exc "BadIndex" [], .str "index"] () = .ok (.bl true) () := by
  have q : eqD (.str "index") (.str "formula") = some (.bl false) := by rw [v_eqS _ _ (by decide +kernel) (by decide +kernel), show (("index" : PySem.Str) == "formula") = false by decide +kernel]
  have q2 : eqD (.str "index") (.str "field") = some (.bl false) := by rw [v_eqS _ _ (by decide +kernel) (by decide +kernel), show (("index" : PySem.Str) == "field") = false by decide +kernel]
  exact runB_rt (st_seq (ρ1 := [some (.exc "BadIndex" []), some (.str "index")]) (st_if_f (tt_cmp rfl rfl q) rfl) (st_ret (ev_if (tt_cmp rfl rfl q2) (ev_un rfl (is_x in_I (by decide +kernel))))))
/-- not kind(caught(fb), k) -/
theorem ck {fb : Env → M Dr D} {ρ : Env} {s s1 : Dr} {x k : PySem.Str} {j : Nat} (h : fb ρ s = .exc ⟨x, []⟩ s1) (hx : exAll.contains x = true) (hk : ρ[j]? = some (some (.str k))) (hq : f_law_is_kind [.exc x [], .str k] () = .ok (.bl true) ()) :
    dNot (dTru (dCallF (fun ds => liftP (f_law_is_kind ds)) (dCons (dCaught exAll fb) (dCons (dVar j) dNil)))) ρ s = .ok false s1 :=
  tt_not (tt_tru (ev_callP (ev_cons (ev_caught hx h) (ev_cons (ev_var hk) rfl)) (liftP_ok hq)))
end DL.K68
set_option linter.all false
set_option maxRecDepth 100000
set_option maxHeartbeats 4000000
namespace DL.K68
open DL
theorem refused_ok (fo : D) (xs : List D) (h1 : clean fo = true) (hf1 : formD fo = true) (h3 : clean (.lst xs) = true) (hf3 : fieldD (.lst xs) = true) (s : Dr) : ∃ s', f_law_refused [.tok, fo, .lst xs] s = .ok (.bl true) s' := by
  obtain ⟨bad, s1, e1, hb⟩ := pick_ok bads (by simp [bads]) (by simp [bads]) s
  obtain ⟨w, s2, e2, hw⟩ := pick_ok worses (by simp [worses]) (by simp [worses]) s1
  obtain ⟨o, s3, e3, ho⟩ := pick_ok (odds xs.length) (by simp [odds]) (by simp [odds]) s2
  obtain ⟨cb, fb⟩ := bads_ok bad hb
  obtain ⟨cw, fw⟩ := worses_ok w hw
  obtain ⟨co, wo⟩ := odds_ok xs.length o ho
  have e1' : f_law_pick [.tok, .lst [.non, .int 5, .lst [.tup [.str "low", .int 1]], .tup [.tup [.str "low", .int 0]]]] s = .ok bad s1 := e1
  have e2' : f_law_pick [.tok, .lst [.non, .int 5, .str "field", .dct [], .lst [.non], .lst [.tup [.str "bid", .int 0, .tup [.int 0, .int 0, .int 0, .int 0]]]]] s1 = .ok w s2 := e2
  have e3' : f_law_pick [.tok, .lst [.int (-1), .int xs.length, .non, .bl true, .str "0"]] s2 = .ok o s3 := e3
  refine ⟨s3, runB_rt ?_⟩
  show g_law_refused [some .tok, some fo, some (.lst xs), none, none, none, none, none, none, none] s = _
  unfold g_law_refused
  refine st_seq (ρ1 := [some .tok, some fo, some (.lst xs), some bad, some w, none, none, none, none, none]) (s1 := s2) (st_asg (d := .tup [bad, w]) ?_ rfl) ?_
  · simp [lstOk_eq, tupOk_eq, e1', e2']
  obtain ⟨y5, hy5⟩ := forL_set (i := 5) (s := s2) (body := sIf (dNot (dTru (caughtF (dCallV 5 tb_1 (dCons (dVar 3) dNil))))) (sRet (dC (.bl false))) sNext) [.fn "mark_weights", .fn "relative_weights", .fn "least_mark_sum", .fn "passes", .fn "turn"] [some .tok, some fo, some (.lst xs), some bad, some w, none, none, none, none, none] (by simp) fun x hx y => by
    obtain ⟨n, f, rfl, ht, hf⟩ := works1 bad cb fb x hx
    exact st_if_f (cF (ev_callV rfl ht (ev_cons (ev_var rfl) rfl) hf)) rfl
  refine st_seq (st_for (s1 := s2) (xs := [.fn "mark_weights", .fn "relative_weights", .fn "least_mark_sum", .fn "passes", .fn "turn"]) (by simp [lstOk_eq]) hy5) ?_
  obtain ⟨z5, hz5⟩ := forL_set (i := 5) (s := s2) (body := sIf (dOr (dNot (dTru (caughtF (dCallV 5 tb_2 (dCons (dVar 3) (dCons (dVar 4) dNil)))))) (dNot (dTru (caughtD (dCallV 5 tb_2 (dCons (dVar 1) (dCons (dVar 4) dNil))))))) (sRet (dC (.bl false))) sNext) [.fn "scores", .fn "ranking", .fn "spoilers", .fn "first_spoilers"] [some .tok, some fo, some (.lst xs), some bad, some w, y5, none, none, none, none] (by simp) fun x hx y => by
    obtain ⟨n, f, rfl, ht, hf, hg⟩ := works2 bad fo w cb fb h1 hf1 cw fw x hx
    exact st_if_f (tt_or_ff (cF (ev_callV rfl ht (ev_cons (ev_var rfl) (ev_cons (ev_var rfl) rfl)) hf)) (cD (ev_callV rfl ht (ev_cons (ev_var rfl) (ev_cons (ev_var rfl) rfl)) hg))) rfl
  refine st_seq (st_for (s1 := s2) (xs := [.fn "scores", .fn "ranking", .fn "spoilers", .fn "first_spoilers"]) (by simp [lstOk_eq]) hz5) ?_
  refine st_seq (ρ1 := [some .tok, some fo, some (.lst xs), some bad, some w, z5, none, none, none, none]) (s1 := s2) (st_if_f (cF (ev_callP (ev_cons (ev_var rfl) (ev_cons (ev_var rfl) rfl)) (liftP_exc (x_isturn cb fb w)))) rfl) ?_
  refine st_set (d := o) (s1 := s3) (by simp [lstOk_eq, e3']) ?_
  -- the three kinds
  refine st_seq (ρ1 := [some .tok, some fo, some (.lst xs), some bad, some w, z5, some o, some (.str "index"), some (.tup [fo, .lst xs, o]), none]) (s1 := s3) (st_for (s1 := s3) (xs := [.tup [.str "formula", .tup [bad, w, o]], .tup [.str "field", .tup [fo, w, o]], .tup [.str "index", .tup [fo, .lst xs, o]]]) (by simp [lstOk_eq, tupOk_eq]) ?_) ?_
  · refine forL_step (ρ1 := [some .tok, some fo, some (.lst xs), some bad, some w, z5, some o, some (.str "formula"), some (.tup [bad, w, o]), none]) rfl (ρ2 := [some .tok, some fo, some (.lst xs), some bad, some w, z5, some o, some (.str "formula"), some (.tup [bad, w, o]), none]) (s2 := s3) ?_ ?_
    · refine st_seq (st_if_f (ck (x := "BadFormula") (ev_callP (ev_cons rfl (ev_cons rfl (ev_cons rfl rfl))) (liftP_exc (x_score cb fb w o))) in_F rfl kind_F) rfl) ?_
      exact st_if_f (ck (x := "BadFormula") (ev_callP (ev_cons rfl (ev_cons rfl (ev_cons rfl (ev_cons rfl rfl)))) (liftP_exc (x_ahead cb fb w o o))) in_F rfl kind_F) rfl
    refine forL_step (ρ1 := [some .tok, some fo, some (.lst xs), some bad, some w, z5, some o, some (.str "field"), some (.tup [fo, w, o]), none]) rfl (ρ2 := [some .tok, some fo, some (.lst xs), some bad, some w, z5, some o, some (.str "field"), some (.tup [fo, w, o]), none]) (s2 := s3) ?_ ?_
    · refine st_seq (st_if_f (ck (x := "BadField") (ev_callP (ev_cons rfl (ev_cons rfl (ev_cons rfl rfl))) (liftP_exc (y_score h1 hf1 cw fw o))) in_D rfl kind_D) rfl) ?_
      exact st_if_f (ck (x := "BadField") (ev_callP (ev_cons rfl (ev_cons rfl (ev_cons rfl (ev_cons rfl rfl)))) (liftP_exc (y_ahead h1 hf1 cw fw o o))) in_D rfl kind_D) rfl
    refine forL_step (ρ1 := [some .tok, some fo, some (.lst xs), some bad, some w, z5, some o, some (.str "index"), some (.tup [fo, .lst xs, o]), none]) rfl (ρ2 := [some .tok, some fo, some (.lst xs), some bad, some w, z5, some o, some (.str "index"), some (.tup [fo, .lst xs, o]), none]) (s2 := s3) ?_ rfl
    refine st_seq (st_if_f (ck (x := "BadIndex") (ev_callP (ev_cons rfl (ev_cons rfl (ev_cons rfl rfl))) (liftP_exc (z_score h1 hf1 h3 hf3 co wo))) in_I rfl kind_I) rfl) ?_
    exact st_if_f (ck (x := "BadIndex") (ev_callP (ev_cons rfl (ev_cons rfl (ev_cons rfl (ev_cons rfl rfl)))) (liftP_exc (z_ahead h1 hf1 h3 hf3 o co wo))) in_I rfl kind_I) rfl
  by_cases hl : (xs.length : Int) < 2
  · refine (st_seq_rt (st_if_t (tt_cmp (b := true) (ev_call (ev_cons (ev_var rfl) rfl) (v_lenL xs)) rfl (by simp [hl])) rfl))
  · refine st_seq (ρ1 := [some .tok, some fo, some (.lst xs), some bad, some w, z5, some o, some (.str "index"), some (.tup [fo, .lst xs, o]), none]) (s1 := s3) (st_if_f (tt_cmp (b := false) (ev_call (ev_cons (ev_var rfl) rfl) (v_lenL xs)) rfl (by simp [hl])) rfl) ?_
    have h0 : wholeD (.int 0) 0 ((xs.length : Int) - 1) = true := by simp [wholeD]; omega
    obtain ⟨y9, hy9⟩ := forL_set (i := 9) (s := s3) (body := sIf (dNot (dTru (caughtI (dCallF (fun ds => liftP (f_ahead ds)) (dCons (dVar 1) (dCons (dVar 2) (dCons (dC (.int 0)) (dCons (dVar 9) dNil)))))))) (sRet (dC (.bl false))) sNext) [o, .int 0] [some .tok, some fo, some (.lst xs), some bad, some w, z5, some o, some (.str "index"), some (.tup [fo, .lst xs, o]), none] (by simp) fun x hx y => by
      have hx' : f_ahead [fo, .lst xs, .int 0, x] () = .exc bI () := by
        simp only [List.mem_cons, List.not_mem_nil, or_false] at hx
        rcases hx with rfl | rfl
        · exact z_ahead2 h1 hf1 h3 hf3 rfl h0 co wo
        · exact z_same h1 hf1 h3 hf3 (by omega)
      exact st_if_f (cI (ev_callP (ev_cons (ev_var rfl) (ev_cons (ev_var rfl) (ev_cons rfl (ev_cons (ev_var rfl) rfl)))) (liftP_exc hx'))) rfl
    refine st_seq (st_for (s1 := s3) (xs := [o, .int 0]) (by simp [lstOk_eq]) hy9) ?_
    exact st_ret rfl
end DL.K68
set_option linter.all false
set_option maxRecDepth 100000
set_option maxHeartbeats 4000000
namespace DL.K68
open DL
theorem pow9 : powD (.int 10) (.int 9) = some (.int 1000000000) := by
  show (if 0 ≤ (9 : Int) ∧ (9 : Int) ≤ 1000000 ∧ (10 : Int).natAbs < 2 ^ 64 then some (D.int (10 ^ (9 : Int).toNat)) else none) = _
  rw [if_pos ⟨by decide, by decide, by decide⟩]
  rfl
theorem price_ok (s : Dr) : ∃ (n : Int) (s' : Dr), f_law_price [.tok] s = .ok (.int n) s' ∧ 1 ≤ n ∧ n ≤ 1000000000 := by
  obtain ⟨a, s1, e1, a1, a2⟩ := take_ok 9 (by decide) (by decide) s
  obtain ⟨b, s2, e2, b1, b2⟩ := take_ok 5 (by decide) (by decide) s1
  obtain ⟨c, s3, e3, c1, c2⟩ := take_ok 1000000000 (by decide) (by decide) s2
  obtain ⟨d, s4, e4, d1, d2⟩ := take_ok 3 (by decide) (by decide) s3
  obtain ⟨x, s5, e5, hx⟩ := pick_ok [.int (1 + a), .int (100 + b), .int (1 + c), .int (1000000000 - d)] (by simp) (by simp) s4
  have hn : ∃ n : Int, x = .int n ∧ 1 ≤ n ∧ n ≤ 1000000000 := by
    simp only [List.mem_cons, List.not_mem_nil, or_false] at hx
    rcases hx with rfl | rfl | rfl | rfl <;> exact ⟨_, rfl, by omega, by omega⟩
  obtain ⟨n, rfl, n1, n2⟩ := hn
  refine ⟨n, s5, runB_rt (st_ret (ρ := [some .tok]) (ev_callK (ds := [.tok, .lst [.int (1 + a), .int (100 + b), .int (1 + c), .int (1000000000 - d)]]) (s1 := s4) ?_ e5)), n1, n2⟩
  simp [lstOk_eq, e1, e2, e3, e4, pow9]
def bidT (p a b c d : Int) : D := .tup [.str "bid", .int p, .tup [.int a, .int b, .int c, .int d]]
structure GB (x : D) : Prop where
  ex : ∃ p a b c d : Int, x = bidT p a b c d ∧ (1 ≤ p ∧ p ≤ 1000000000) ∧ (0 ≤ a ∧ a ≤ 100) ∧ (0 ≤ b ∧ b ≤ 100) ∧ (0 ≤ c ∧ c ≤ 100) ∧ (0 ≤ d ∧ d ≤ 100)
theorem GB.clean {x : D} (h : GB x) : clean x = true := by
  obtain ⟨p, a, b, c, d, rfl, _⟩ := h
  simp [bidT, K68.clean, cleanL, ok_bid]
theorem GB.bid {x : D} (h : GB x) : bidD x = true := by
  obtain ⟨p, a, b, c, d, rfl, h1, h2, h3, h4, h5⟩ := h
  simp [bidT, bidD, wholeD, h1, h2, h3, h4, h5]
theorem mems4 {P : D → Prop} {ys : List D} (hl : ys.length = 4) (h : ∀ y ∈ ys, P y) : ∃ a b c d, ys = [a, b, c, d] ∧ P a ∧ P b ∧ P c ∧ P d := by
  match ys, hl with
  | [a, b, c, d], _ => exact ⟨a, b, c, d, rfl, h a (by simp), h b (by simp), h c (by simp), h d (by simp)⟩
theorem bid_ok (s : Dr) : ∃ (x : D) (s' : Dr), f_law_bid [.tok] s = .ok x s' ∧ GB x := by
  obtain ⟨y, s1, e1, hy⟩ := pick_ok (([2, 4, 101] : List Int).map D.int) (by simp) (by simp) s
  obtain ⟨m, hm, rfl⟩ := List.mem_map.mp hy
  have hm2 : 2 ≤ m ∧ m ≤ 101 := by
    simp only [List.mem_cons, List.not_mem_nil, or_false] at hm
    omega
  obtain ⟨p, s2, e2, p1, p2⟩ := price_ok s1
  have e1' : f_law_pick [.tok, .lst [.int 2, .int 4, .int 101]] s = .ok (.int m) s1 := e1
  have hr : (dSeq range1D (dCons (dC (.int 4)) dNil) [some D.tok, some (.int m), none] s2 : Res Dr (List D)) = .ok (rangeL 0 4) s2 := by
    have q : range1D [.int 4] = some (rangeL 0 4) := range_len 4 (by decide)
    simp [q]
  obtain ⟨ys, s3, e3, hl, h3⟩ := comp_mem (g := gSet 2) (us := [2]) (fe := dCallF f_law_take (dCons (dVar 0) (dCons (dVar 1) dNil))) (fun y => ∃ n : Int, y = .int n ∧ (0 ≤ n ∧ n ≤ 100)) hr (by rw [range_length]; decide) fun x hx s => by
    obtain ⟨r, s', e, r1, r2⟩ := take_ok m (by omega) (Nat.lt_trans ((Nat.log2_lt (show m.natAbs ≠ 0 by omega)).mpr (show m.natAbs < 2 ^ 8 by omega)) (by decide)) s
    exact ⟨_, _, s', rfl, ev_callK (ev_cons (ev_var rfl) (ev_cons (ev_var rfl) rfl)) e, r, rfl, by omega⟩
  rw [range_length] at hl
  obtain ⟨_, _, _, _, rfl, ⟨a, rfl, ha⟩, ⟨b, rfl, hb⟩, ⟨c, rfl, hc⟩, ⟨d, rfl, hd⟩⟩ := mems4 hl h3
  refine ⟨bidT p a b c d, s3, runB_rt ?_, ⟨p, a, b, c, d, rfl, ⟨p1, p2⟩, ha, hb, hc, hd⟩⟩
  show g_law_bid [some .tok, none, none] s = _
  unfold g_law_bid
  refine st_set (d := .int m) (s1 := s1) (by simp [lstOk_eq, e1']) (st_ret ?_)
  exact ev_tup (ev_cons rfl (ev_cons (ev_callK (ev_cons (ev_var rfl) rfl) e2) (ev_cons (ev_call (ev_cons e3 rfl) rfl) rfl))) (by simp)
/-! found != [] -/
theorem GB.py {x : D} (h : GB x) : ∃ q, x.py = some q ∧ q.canLay0 = true ∧ q.depth ≤ 2 := by
  obtain ⟨p, a, b, c, d, rfl, _⟩ := h
  refine ⟨.tuple [.str "bid", .int p, .tuple [.int a, .int b, .int c, .int d]], rfl, ?_, ?_⟩
  · simp [PySem.PyData.canLay0, PySem.PyData.canLayAll0, ok_bid]
  · simp [PySem.PyData.depth, PySem.PyData.depthAll]
theorem GBs.py : ∀ {xs : List D}, (∀ x ∈ xs, GB x) → ∃ qs, pyL xs = some qs ∧ PySem.PyData.canLayAll0 qs = true ∧ PySem.PyData.depthAll qs ≤ 2 ∧ qs.length = xs.length
  | [], _ => ⟨[], rfl, rfl, Nat.zero_le _, rfl⟩
  | x :: xs, h => by
    obtain ⟨q, e1, e2, e3⟩ := (h x (List.mem_cons_self ..)).py
    obtain ⟨qs, k1, k2, k3, k4⟩ := GBs.py fun y hy => h y (List.mem_cons_of_mem _ hy)
    refine ⟨q :: qs, ?_, ?_, ?_, by simp [k4]⟩
    · show (match D.py x, pyL xs with
        | some a, some b => some (a :: b)
        | _, _ => none) = _
      rw [e1, k1]
    · simp [PySem.PyData.canLayAll0, e2, k2]
    · show max q.depth (PySem.PyData.depthAll qs) ≤ 2
      exact Nat.max_le.mpr ⟨e3, k3⟩
theorem ne_nil {xs : List D} (h : ∀ x ∈ xs, GB x) : neD (.lst xs) (.lst []) = some (.bl (!xs.isEmpty)) := by
  obtain ⟨qs, k1, k2, k3, k4⟩ := GBs.py h
  have py : (D.lst xs).py = some (.list qs) := by
    show (pyL xs).map PySem.PyData.list = _
    rw [k1]
    rfl
  have sh : PySem.SeqAt.shaped (.list qs) = true := by
    have c : (PySem.PyData.list qs).canLay0 = true := by
      simp only [PySem.PyData.canLay0]
      exact k2
    have d : (PySem.PyData.list qs).depth ≤ 64 := by
      have : (PySem.PyData.list qs).depth = PySem.PyData.depthAll qs + 1 := by simp only [PySem.PyData.depth]
      omega
    show ((PySem.PyData.list qs).canLay0 && decide ((PySem.PyData.list qs).depth ≤ 64)) = true
    rw [c, decide_eq_true d]
    rfl
  have e : eqD (.lst xs) (.lst []) = some (.bl (PySem.PyData.eqv (.list qs) (.list []))) := by
    unfold eqD
    rw [py]
    show (if PySem.SeqAt.shaped (.list qs) = true ∧ PySem.SeqAt.shaped (.list []) = true then some (D.bl (PySem.PyData.eqv (.list qs) (.list []))) else none) = _
    rw [if_pos ⟨sh, by decide⟩]
  unfold neD
  rw [e]
  match xs, qs, k4 with
  | [], [], _ => rfl
  | _ :: _, _ :: _, _ => rfl
end DL.K68
set_option linter.all false
set_option maxRecDepth 100000
set_option maxHeartbeats 4000000
namespace DL
theorem st_app {S : Type} {ρ : Env} {s s1 : S} {i : Nat} {f : Env → M S D} {xs : List D} {d : D} (hi : ρ[i]? = some (some (.lst xs))) (hf : f ρ s = .ok d s1) (hl : xs.length < 16777216) : sApp i f ρ s = .nx (ρ.set i (some (.lst (xs ++ [d])))) s1 := by
  unfold sApp sOwnL
  rw [hi]
  dsimp only
  unfold sE
  rw [hf]
  dsimp only
  have : appD (.lst xs) d = some (.lst (xs ++ [d])) := by
    show (if xs.length < PySem.sizeLine then some (D.lst (xs ++ [d])) else none) = _
    rw [if_pos (by rw [PySem.sizeLine_eq]; exact hl)]
  rw [this]
  rfl
end DL
namespace DL.K68
open DL
theorem runF_rf {S : Type} {n : Nat} {g : G S} {ds : List D} {s s' : S} {d : D} (h : g (st0 n ds) s = .rf d s') : runF n g ds s = .ok d s' := by
  unfold runF
  rw [h]
theorem ev_range1 {S : Type} {ρ : Env} {s s1 : S} {f : Env → M S D} {n : Nat} (h : f ρ s = .ok (.int (n : Int)) s1) (hn : n ≤ 16777216) : dSeq range1D (dCons f dNil) ρ s = .ok (rangeL 0 n) s1 := by
  have e : (dCons f dNil ρ s : Res S (List D)) = .ok [.int (n : Int)] s1 := ev_cons h rfl
  rw [e_seq, bind_eq, e]
  dsimp only
  rw [range_len n hn]
  rfl
abbrev fieldBody : G Dr := sApp 2 (dIf (dAnd (dCmpT neD (dVar 2) (fun ρ => do M.opt (lstOk (← dNil ρ)))) (dCmpT eqD (dCallF f_law_take (dCons (dVar 0) (dCons (dC (.int 6)) dNil))) (dC (.int 0)))) (dCallF f_law_pick (dCons (dVar 0) (dCons (dVar 2) dNil))) (dCallF f_law_bid (dCons (dVar 0) dNil)))
theorem field_go (x1 : D) : ∀ (ks : List D) (x3 : Option D) (xs : List D) (s : Dr), (∀ x ∈ xs, GB x) → xs.length + ks.length < 1000 → ∃ (ys : List D) (y3 : Option D) (s' : Dr), forL (gSet 3) fieldBody ks [some .tok, some x1, some (.lst xs), x3] s = .nx [some .tok, some x1, some (.lst (xs ++ ys)), y3] s' ∧ ys.length = ks.length ∧ ∀ y ∈ ys, GB y
  | [], x3, xs, s, h, hl => ⟨[], x3, s, by rw [List.append_nil]; rfl, rfl, fun y hy => by cases hy⟩
  | k :: ks, x3, xs, s, h, hl => by
    rw [List.length_cons] at hl
    have one : ∃ (x : D) (s1 : Dr), (dIf (dAnd (dCmpT neD (dVar 2) (fun ρ => do M.opt (lstOk (← dNil ρ)))) (dCmpT eqD (dCallF f_law_take (dCons (dVar 0) (dCons (dC (.int 6)) dNil))) (dC (.int 0)))) (dCallF f_law_pick (dCons (dVar 0) (dCons (dVar 2) dNil))) (dCallF f_law_bid (dCons (dVar 0) dNil)) [some D.tok, some x1, some (.lst xs), some k] s : Res Dr D) = .ok x s1 ∧ GB x := by
      have hn : (dCmpT neD (dVar 2) (fun ρ => do M.opt (lstOk (← dNil ρ))) [some D.tok, some x1, some (.lst xs), some k] s : Res Dr Bool) = .ok (!xs.isEmpty) s := tt_cmp rfl (ev_lst rfl (by simp)) (ne_nil h)
      cases xs with
      | nil =>
        obtain ⟨x, s1, e, hx⟩ := bid_ok s
        refine ⟨x, s1, ev_if (b := false) ?_ (ev_callK (ev_cons (ev_var rfl) rfl) e), hx⟩
        rw [e_and, bind_eq, hn]
        rfl
      | cons z zs =>
        obtain ⟨r, s1, e, r1, r2⟩ := take_ok 6 (by decide) (by decide) s
        have ht : (dAnd (dCmpT neD (dVar 2) (fun ρ => do M.opt (lstOk (← dNil ρ)))) (dCmpT eqD (dCallF f_law_take (dCons (dVar 0) (dCons (dC (.int 6)) dNil))) (dC (.int 0))) [some D.tok, some x1, some (.lst (z :: zs)), some k] s : Res Dr Bool) = .ok (decide (r = 0)) s1 := by
          rw [e_and, bind_eq, hn]
          exact tt_cmp (ev_callK (ev_cons (ev_var rfl) rfl) e) rfl (v_eqI r 0)
        by_cases hr : r = 0
        · obtain ⟨x, s2, e2, hx⟩ := pick_ok (z :: zs) (by simp) (by simp at hl ⊢; omega) s1
          refine ⟨x, s2, ev_if (b := true) (by rw [ht]; simp [hr]) (ev_callK (ev_cons (ev_var rfl) (ev_cons (ev_var rfl) rfl)) e2), h x hx⟩
        · obtain ⟨x, s2, e2, hx⟩ := bid_ok s1
          exact ⟨x, s2, ev_if (b := false) (by rw [ht]; simp [hr]) (ev_callK (ev_cons (ev_var rfl) rfl) e2), hx⟩
    obtain ⟨x, s1, e, hx⟩ := one
    obtain ⟨ys, y3, s', e', h1, h2⟩ := field_go x1 ks (some k) (xs ++ [x]) s1 (fun y hy => by
      rcases List.mem_append.mp hy with hy | hy
      · exact h y hy
      · rw [List.mem_singleton] at hy; subst hy; exact hx) (by rw [List.length_append]; simp; omega)
    refine ⟨x :: ys, y3, s', ?_, by simp [h1], fun y hy => by
      rcases List.mem_cons.mp hy with rfl | hy
      · exact hx
      · exact h2 y hy⟩
    refine forL_step (ρ1 := [some .tok, some x1, some (.lst xs), some k]) rfl (st_app (i := 2) rfl e (by omega)) ?_
    rw [List.append_assoc] at e'
    exact e'
theorem field_ok (k : Nat) (hk : k < 900) (s : Dr) : ∃ (xs : List D) (s' : Dr), f_law_field [.tok, .int k] s = .ok (.lst xs) s' ∧ xs.length = k ∧ ∀ x ∈ xs, GB x := by
  obtain ⟨ys, y3, s', e, h1, h2⟩ := field_go (.int k) (rangeL 0 k) none [] s (fun x hx => by cases hx) (by rw [range_length]; simp; omega)
  rw [range_length] at h1
  refine ⟨ys, s', ?_, by omega, h2⟩
  have run : g_law_field [some .tok, some (.int k), none, none] s = .rf (.lst ys) s' := by
    unfold g_law_field
    refine st_set (ev_lst rfl (by simp)) ?_
    have hr : (dSeq range1D (dCons (dVar 1) dNil) [some D.tok, some (.int (k : Int)), some (.lst []), none] s : Res Dr (List D)) = .ok (rangeL 0 k) s := ev_range1 (ev_var rfl) (by omega)
    refine st_seq (st_for hr e) ?_
    rfl
  exact runF_rf run
/-! formulas -/
def kindsL : List (List PySem.Str) := [["mark", "low", "range", "mean"], ["mark", "low", "range"], ["mark", "range"], ["mark", "low"], ["mark"], ["low", "range", "mean"]]
theorem kinds_4 : ∀ ks ∈ kindsL, ∀ x ∈ ks, x ∈ (["mark", "low", "range", "mean"] : List PySem.Str) := by decide +kernel
theorem kinds_ne : ∀ ks ∈ kindsL, ks ≠ [] ∧ ks.length < 1000 := by decide +kernel
theorem kinds_ok (ks : List PySem.Str) (h : ks ∈ kindsL) (x : PySem.Str) (hx : x ∈ ks) : x = "mark" ∨ ∃ r : Fin 3, x = relN r := by
  have := kinds_4 ks h x hx
  simp only [List.mem_cons, List.not_mem_nil, or_false] at this
  rcases this with h | h | h | h
  · exact .inl h
  · exact .inr ⟨0, h⟩
  · exact .inr ⟨1, h⟩
  · exact .inr ⟨2, h⟩
abbrev formBody : G Dr := (sSeq (sPar 5 6 (dCallF f_law_pick (dCons (dVar 0) (dCons (dVar 1) dNil))) (dBin addD (dC (.int 1)) (dCallF f_law_take (dCons (dVar 0) (dCons (dVar 2) dNil)))))
  (sApp 3 (dIf (dCmpT eqD (dVar 5) (dC (.str "mark"))) (fun ρ => do M.opt (tupOk (← (dCons (dVar 5) (dCons (dCallF f_law_take (dCons (dVar 0) (dCons (dC (.int 4)) dNil))) (dCons (dVar 6) dNil))) ρ))) (fun ρ => do M.opt (tupOk (← (dCons (dVar 5) (dCons (dVar 6) dNil)) ρ))))))
theorem st_par {S : Type} {ρ : Env} {s s1 s2 : S} {i j : Nat} {f g : Env → M S D} {x y : D} (h : f ρ s = .ok x s1) (k : g ρ s1 = .ok y s2) : sPar i j f g ρ s = .nx ((ρ.set i (some x)).set j (some y)) s2 := by
  rw [r_par, h]
  dsimp only
  rw [k]
theorem form_go (ks : List PySem.Str) (hks : ks ∈ kindsL) (m : Int) (hm : 3 ≤ m ∧ m ≤ 1000) : ∀ (us : List D) (x4 x5 x6 : Option D) (ts : List Tm) (s : Dr), (∀ t ∈ ts, t.ok) → ts.length + us.length < 1000 → ∃ (vs : List Tm) (y4 y5 y6 : Option D) (s' : Dr), forL (gSet 4) formBody us [some .tok, some (.lst (ks.map D.str)), some (.int m), some (.lst (ts.map tmD)), x4, x5, x6] s = .nx [some .tok, some (.lst (ks.map D.str)), some (.int m), some (.lst ((ts ++ vs).map tmD)), y4, y5, y6] s' ∧ vs.length = us.length ∧ ∀ t ∈ vs, t.ok
  | [], x4, x5, x6, ts, s, h, hl => ⟨[], x4, x5, x6, s, by rw [List.append_nil]; rfl, rfl, fun y hy => by cases hy⟩
  | u :: us, x4, x5, x6, ts, s, h, hl => by
    rw [List.length_cons] at hl
    obtain ⟨k1, k2⟩ := kinds_ne ks hks
    obtain ⟨x, s1, e1, hx⟩ := pick_ok (ks.map D.str) (by simpa using k1) (by simpa using k2) s
    obtain ⟨wd, hw, rfl⟩ := List.mem_map.mp hx
    obtain ⟨r, s2, e2, r1, r2⟩ := take_ok m (by omega) (Nat.lt_trans ((Nat.log2_lt (show m.natAbs ≠ 0 by omega)).mpr (show m.natAbs < 2 ^ 11 by omega)) (by decide)) s1
    have one : ∃ (t : Tm) (s3 : Dr), (dIf (dCmpT eqD (dVar 5) (dC (.str "mark"))) (fun ρ => do M.opt (tupOk (← (dCons (dVar 5) (dCons (dCallF f_law_take (dCons (dVar 0) (dCons (dC (.int 4)) dNil))) (dCons (dVar 6) dNil))) ρ))) (fun ρ => do M.opt (tupOk (← (dCons (dVar 5) (dCons (dVar 6) dNil)) ρ))) [some D.tok, some (.lst (ks.map D.str)), some (.int m), some (.lst (ts.map tmD)), some u, some (.str wd), some (.int (1 + r))] s2 : Res Dr D) = .ok (tmD t) s3 ∧ t.ok := by
      rcases kinds_ok ks hks wd hw with rfl | ⟨f, rfl⟩
      · obtain ⟨p, s3, e3, p1, p2⟩ := take_ok 4 (by decide) (by decide) s2
        have hp : ((p.toNat : Nat) : Int) = p := by omega
        refine ⟨.mark ⟨p.toNat, by omega⟩ (1 + r), s3, ev_if (b := true) (tt_cmp rfl rfl eq_mark) ?_, by constructor <;> (show _ ≤ _; simp only [Tm.w]; omega)⟩
        rw [show tmD (.mark ⟨p.toNat, by omega⟩ (1 + r)) = .tup [.str "mark", .int p, .int (1 + r)] by simp [tmD, hp]]
        exact ev_tup (ev_cons rfl (ev_cons (ev_callK (ev_cons (ev_var rfl) (ev_cons rfl rfl)) e3) (ev_cons rfl rfl))) (by simp)
      · exact ⟨.rel f (1 + r), s2, ev_if (b := false) (tt_cmp rfl rfl (eq_rel f)) (ev_tup (ev_cons rfl (ev_cons rfl rfl)) (by simp)), by constructor <;> (show _ ≤ _; simp only [Tm.w]; omega)⟩
    obtain ⟨t, s3, e3, ht⟩ := one
    obtain ⟨vs, y4, y5, y6, s', e', h1, h2⟩ := form_go ks hks m hm us (some u) (some (.str wd)) (some (.int (1 + r))) (ts ++ [t]) s3 (fun y hy => by
      rcases List.mem_append.mp hy with hy | hy
      · exact h y hy
      · rw [List.mem_singleton] at hy; subst hy; exact ht) (by rw [List.length_append]; simp; omega)
    refine ⟨t :: vs, y4, y5, y6, s', ?_, by simp [h1], fun y hy => by
      rcases List.mem_cons.mp hy with rfl | hy
      · exact ht
      · exact h2 y hy⟩
    refine forL_step (ρ1 := [some .tok, some (.lst (ks.map D.str)), some (.int m), some (.lst (ts.map tmD)), some u, x5, x6]) rfl (st_seq (st_par (ev_callK (ev_cons (ev_var rfl) (ev_cons (ev_var rfl) rfl)) e1) (ev_bin rfl (ev_callK (ev_cons (ev_var rfl) (ev_cons (ev_var rfl) rfl)) e2) rfl)) (st_app (i := 3) rfl e3 (by rw [List.length_map]; omega))) ?_
    rw [List.append_assoc] at e'
    rw [List.map_append] at e'
    exact e'
theorem formula_ok (s : Dr) : ∃ (ts : List Tm) (s' : Dr), f_law_formula [.tok] s = .ok (.tup (ts.map tmD)) s' ∧ (∀ t ∈ ts, t.ok) ∧ ts.length ≤ 6 := by
  obtain ⟨x, s1, e1, hx⟩ := pick_ok (kindsL.map fun ks => D.lst (ks.map D.str)) (by simp [kindsL]) (by simp [kindsL]) s
  obtain ⟨ks, hks, rfl⟩ := List.mem_map.mp hx
  obtain ⟨y, s2, e2, hy⟩ := pick_ok (([3, 12, 1000] : List Int).map D.int) (by simp) (by simp) s1
  obtain ⟨m, hm, rfl⟩ := List.mem_map.mp hy
  have hm2 : 3 ≤ m ∧ m ≤ 1000 := by
    simp only [List.mem_cons, List.not_mem_nil, or_false] at hm
    omega
  obtain ⟨r, s3, e3, r1, r2⟩ := take_ok 7 (by decide) (by decide) s2
  obtain ⟨n, rfl⟩ : ∃ n : Nat, r = (n : Int) := ⟨r.toNat, by omega⟩
  obtain ⟨vs, y4, y5, y6, s', e', h1, h2⟩ := form_go ks hks m hm2 (rangeL 0 n) none none none [] s3 (fun t ht => by cases ht) (by rw [range_length]; simp; omega)
  rw [range_length] at h1
  have e1' : f_law_pick [.tok, .lst [.lst [.str "mark", .str "low", .str "range", .str "mean"], .lst [.str "mark", .str "low", .str "range"], .lst [.str "mark", .str "range"], .lst [.str "mark", .str "low"], .lst [.str "mark"], .lst [.str "low", .str "range", .str "mean"]]] s = .ok (.lst (ks.map D.str)) s1 := e1
  have e2' : f_law_pick [.tok, .lst [.int 3, .int 12, .int 1000]] s1 = .ok (.int m) s2 := e2
  refine ⟨vs, s', runB_rt ?_, h2, by omega⟩
  show g_law_formula [some .tok, none, none, none, none, none, none] s = _
  unfold g_law_formula
  refine st_set (d := .lst (ks.map D.str)) (s1 := s1) (by simp [lstOk_eq, e1']) ?_
  refine st_seq (st_par (x := .int m) (s1 := s2) (by simp [lstOk_eq, e2']) (ev_lst rfl (by simp))) ?_
  refine st_seq (st_for (ev_range1 (ev_callK (ev_cons (ev_var rfl) (ev_cons rfl rfl)) e3) (by omega)) e') ?_
  exact st_ret (ev_call (ev_cons (ev_var rfl) rfl) rfl)
end DL.K68
set_option linter.all false
set_option maxRecDepth 100000
set_option maxHeartbeats 8000000
namespace DL.K68
open DL
theorem v_addT (a b : List D) (h : a.length + b.length ≤ 16777216) : addD (.tup a) (.tup b) = some (.tup (a ++ b)) := by
  show (if a.length + b.length ≤ PySem.sizeLine then some (D.tup (a ++ b)) else none) = _
  rw [if_pos (by rw [PySem.sizeLine_eq]; exact h)]
theorem v_cat (a b : List D) (h : a.length + b.length ≤ 16777216) : catD (.lst a) (.lst b) = some (.lst (a ++ b)) := by
  show (if a.length + b.length ≤ PySem.sizeLine then some (D.lst (a ++ b)) else none) = _
  rw [if_pos (by rw [PySem.sizeLine_eq]; exact h)]
theorem ev_sl {S : Type} {ρ : Env} {s s1 s2 s3 : S} {g : D → Option Int → Option Int → Option D} {f : Env → M S D} {l u : Env → M S (Option D)} {d r : D} {a b : Option D} {i j : Option Int} (hf : f ρ s = .ok d s1) (hl : l ρ s1 = .ok a s2) (hi : optI a = some i) (hu : u ρ s2 = .ok b s3) (hj : optI b = some j) (hg : g d i j = some r) : dSl g f l u ρ s = .ok r s3 := by
  have e : dSl g f l u ρ s = (f ρ >>= fun d => l ρ >>= fun a => M.opt (optI a) >>= fun i => u ρ >>= fun b => M.opt (optI b) >>= fun j => M.opt (g d i j)) s := rfl
  rw [e, bind_eq, hf]
  dsimp only
  rw [bind_eq, hl]
  dsimp only
  rw [hi, bind_eq, opt_eq]
  dsimp only
  rw [bind_eq, hu]
  dsimp only
  rw [hj, bind_eq, opt_eq]
  dsimp only
  rw [hg]
  rfl
theorem ev_some {S : Type} {ρ : Env} {s s1 : S} {f : Env → M S D} {d : D} (h : f ρ s = .ok d s1) : dSome f ρ s = .ok (some d) s1 := by
  have e : dSome f ρ s = (f ρ >>= fun d => M.pure (some d)) s := rfl
  rw [e, bind_eq, h]
  rfl
/-- with the mark at a place changed -/
def ms4 (a b c d : Int) : List D := [.int a, .int b, .int c, .int d]
theorem str_p (p : Int) (h : 1 ≤ p ∧ p ≤ 1000000000) : ∃ x, strD [.int p] = some (.str x) ∧ PySem.PyData.strOk x = true := by
  have hl : p.natAbs.log2 < 1920 := Nat.lt_trans ((Nat.log2_lt (show p.natAbs ≠ 0 by omega)).mpr (show p.natAbs < 2 ^ 32 by omega)) (by decide)
  exact ⟨_, if_pos hl, all_lt _⟩
def oddL : List D := [.int (-1), .int 101, .non, .bl true, .str "1", .tup [.int 1]]
theorem oddL_ok : ∀ x ∈ oddL, clean x = true ∧ wholeD x 0 100 = false := by
  intro d hd
  simp only [oddL, List.mem_cons, List.not_mem_nil, or_false] at hd
  rcases hd with rfl | rfl | rfl | rfl | rfl | rfl <;> exact ⟨by decide +kernel, by decide +kernel⟩
def putAt (ms : List D) (k : Nat) (x : D) : List D := ms.take k ++ [x] ++ ms.drop (k + 1)
def wrongB (p a b c d : Int) (x : PySem.Str) (k : Nat) (o : D) : List D :=
  [.non, .int 5, .str "bid", .lst [.str "bid", .int p, .tup (ms4 a b c d)], .tup [.str "bid", .int p], .tup [.str "bid", .int p, .tup (ms4 a b c d), .int 0], .tup [.str "Bid", .int p, .tup (ms4 a b c d)], .tup [.non, .int p, .tup (ms4 a b c d)], .tup [.str "bid", .int 0, .tup (ms4 a b c d)], .tup [.str "bid", .int 1000000001, .tup (ms4 a b c d)]] ++
  [.tup [.str "bid", .bl true, .tup (ms4 a b c d)], .tup [.str "bid", .str x, .tup (ms4 a b c d)], .tup [.str "bid", .int p, .lst (ms4 a b c d)], .tup [.str "bid", .int p, .tup [.int a, .int b, .int c]], .tup [.str "bid", .int p, .tup [.int a, .int b, .int c, .int d, .int 0]]] ++
  [.tup [.str "bid", .int p, .tup (putAt (ms4 a b c d) k o)]]
def goodB (p a b c d : Int) (k : Nat) : List D := [.tup [.str "bid", .int 1000000000, .tup (ms4 a b c d)], .tup [.str "bid", .int 1, .tup (ms4 a b c d)], .tup [.str "bid", .int p, .tup (putAt (ms4 a b c d) k (.int 100))]]
theorem ne_Bid : (("Bid" : PySem.Str) == "bid") = false := by decide +kernel
theorem ok_Bid : PySem.PyData.strOk "Bid" = true := by decide +kernel
section
variable {p a b c d : Int} {k : Nat}
theorem wrongB_ok {x : PySem.Str} {o : D} (hx : PySem.PyData.strOk x = true) (hk : k < 4) (ho : clean o = true) (hw : wholeD o 0 100 = false) : ∀ y ∈ wrongB p a b c d x k o, clean y = true ∧ bidD y = false := by
  intro y hy
  simp only [wrongB, List.mem_append, List.mem_cons, List.not_mem_nil, or_false] at hy
  rcases hy with ((rfl | rfl | rfl | rfl | rfl | rfl | rfl | rfl | rfl | rfl) | (rfl | rfl | rfl | rfl | rfl)) | rfl
  · exact ⟨rfl, rfl⟩
  · exact ⟨rfl, rfl⟩
  · exact ⟨ok_bid, rfl⟩
  · exact ⟨by simp [clean, cleanL, ms4, ok_bid], by simp [bidD]⟩
  · exact ⟨by simp [clean, cleanL, ms4, ok_bid], by simp [bidD]⟩
  · exact ⟨by simp [clean, cleanL, ms4, ok_bid], by simp [bidD]⟩
  · exact ⟨by simp [clean, cleanL, ms4, ok_Bid], by simp [bidD, ne_Bid]⟩
  · exact ⟨by simp [clean, cleanL, ms4, ok_bid], by simp [bidD]⟩
  · exact ⟨by simp [clean, cleanL, ms4, ok_bid], by simp [bidD, wholeD]⟩
  · exact ⟨by simp [clean, cleanL, ms4, ok_bid], by simp [bidD, wholeD]⟩
  · exact ⟨by simp [clean, cleanL, ms4, ok_bid], by simp [bidD, wholeD]⟩
  · exact ⟨by simp [clean, cleanL, ms4, ok_bid, hx], by simp [bidD, wholeD]⟩
  · exact ⟨by simp [clean, cleanL, ms4, ok_bid], by simp [bidD]⟩
  · exact ⟨by simp [clean, cleanL, ms4, ok_bid], by simp [bidD]⟩
  · exact ⟨by simp [clean, cleanL, ms4, ok_bid], by simp [bidD]⟩
  · match k, hk with
    | 0, _ => exact ⟨by simp [clean, cleanL, ms4, ok_bid, putAt, ho], by simp [bidD, ms4, putAt, hw]⟩
    | 1, _ => exact ⟨by simp [clean, cleanL, ms4, ok_bid, putAt, ho], by simp [bidD, ms4, putAt, hw]⟩
    | 2, _ => exact ⟨by simp [clean, cleanL, ms4, ok_bid, putAt, ho], by simp [bidD, ms4, putAt, hw]⟩
    | 3, _ => exact ⟨by simp [clean, cleanL, ms4, ok_bid, putAt, ho], by simp [bidD, ms4, putAt, hw]⟩
theorem goodB_ok (hk : k < 4) (hp : 1 ≤ p ∧ p ≤ 1000000000) (ha : 0 ≤ a ∧ a ≤ 100) (hb : 0 ≤ b ∧ b ≤ 100) (hc : 0 ≤ c ∧ c ≤ 100) (hd : 0 ≤ d ∧ d ≤ 100) : ∀ y ∈ goodB p a b c d k, clean y = true ∧ bidD y = true := by
  intro y hy
  simp only [goodB, List.mem_cons, List.not_mem_nil, or_false] at hy
  rcases hy with rfl | rfl | rfl
  · exact ⟨by simp [clean, cleanL, ms4, ok_bid], by simp [bidD, wholeD, ms4, ha, hb, hc, hd]⟩
  · exact ⟨by simp [clean, cleanL, ms4, ok_bid], by simp [bidD, wholeD, ms4, ha, hb, hc, hd]⟩
  · match k, hk with
    | 0, _ => exact ⟨by simp [clean, cleanL, ms4, ok_bid, putAt], by simp [bidD, wholeD, ms4, putAt, ha, hb, hc, hd, hp]⟩
    | 1, _ => exact ⟨by simp [clean, cleanL, ms4, ok_bid, putAt], by simp [bidD, wholeD, ms4, putAt, ha, hb, hc, hd, hp]⟩
    | 2, _ => exact ⟨by simp [clean, cleanL, ms4, ok_bid, putAt], by simp [bidD, wholeD, ms4, putAt, ha, hb, hc, hd, hp]⟩
    | 3, _ => exact ⟨by simp [clean, cleanL, ms4, ok_bid, putAt], by simp [bidD, wholeD, ms4, putAt, ha, hb, hc, hd, hp]⟩
end
/-- marks[:at] + (o,) + marks[at + 1:] -/
theorem ev_put {ρ : Env} {s : Dr} {a b c d : Int} {k : Nat} {o : D} {fo : Env → M Dr D} (hk : k < 4) (h4 : ρ[4]? = some (some (.tup (ms4 a b c d)))) (h5 : ρ[5]? = some (some (.int (k : Int)))) (ho : fo ρ s = .ok o s) :
    dBin addD (dBin addD (dSl slTD (dVar 4) dNone (dSome (dVar 5))) (fun ρ => do M.opt (tupOk (← (dCons fo dNil) ρ)))) (dSl slTD (dVar 4) (dSome (dBin addD (dVar 5) (dC (.int 1)))) dNone) ρ s = .ok (.tup (putAt (ms4 a b c d) k o)) s := by
  have s1 : slTD (.tup (ms4 a b c d)) none (some (k : Int)) = some (.tup ((ms4 a b c d).take k)) := by
    match k, hk with
    | 0, _ => rfl
    | 1, _ => rfl
    | 2, _ => rfl
    | 3, _ => rfl
  have s2 : slTD (.tup (ms4 a b c d)) (some ((k : Int) + 1)) none = some (.tup ((ms4 a b c d).drop (k + 1))) := by
    match k, hk with
    | 0, _ => rfl
    | 1, _ => rfl
    | 2, _ => rfl
    | 3, _ => rfl
  refine ev_bin (ev_bin (ev_sl (ev_var h4) rfl rfl (ev_some (ev_var h5)) rfl s1) (ev_tup (ev_cons ho rfl) (by simp)) (v_addT _ _ ?_)) (ev_sl (ev_var h4) (ev_some (ev_bin (ev_var h5) rfl rfl)) rfl rfl rfl s2) (v_addT _ _ ?_)
  · simp [ms4]; omega
  · simp [ms4]; omega
end DL.K68
set_option linter.all false
set_option maxRecDepth 100000
set_option maxHeartbeats 8000000
namespace DL.K68
open DL
theorem take4 (s : Dr) : ∃ (k : Nat) (s' : Dr), f_law_take [.tok, .int 4] s = .ok (.int (k : Int)) s' ∧ k < 4 := by
  obtain ⟨r, s', e, r1, r2⟩ := take_ok 4 (by decide) (by decide) s
  exact ⟨r.toNat, s', by rw [e]; congr 2; omega, by omega⟩
/-- (pick(draw, wrong), False) if take(draw, 4) > 0 else (pick(draw, good), True) -/
theorem ev_choice {ρ : Env} {s : Dr} {i j : Nat} {ws gs : List D} (h0 : ρ[0]? = some (some .tok)) (hi : ρ[i]? = some (some (.lst ws))) (hj : ρ[j]? = some (some (.lst gs))) (nw : ws ≠ []) (ng : gs ≠ []) (lw : ws.length < 1000) (lg : gs.length < 1000) {P : D → Bool → Prop} (pw : ∀ x ∈ ws, P x false) (pg : ∀ x ∈ gs, P x true) :
    ∃ (x : D) (b : Bool) (s' : Dr), dIf (dCmpT gtD (dCallF f_law_take (dCons (dVar 0) (dCons (dC (.int 4)) dNil))) (dC (.int 0))) (fun ρ => do M.opt (tupOk (← (dCons (dCallF f_law_pick (dCons (dVar 0) (dCons (dVar i) dNil))) (dCons (dC (.bl false)) dNil)) ρ))) (fun ρ => do M.opt (tupOk (← (dCons (dCallF f_law_pick (dCons (dVar 0) (dCons (dVar j) dNil))) (dCons (dC (.bl true)) dNil)) ρ))) ρ s = .ok (.tup [x, .bl b]) s' ∧ P x b := by
  obtain ⟨k, s1, e1, hk⟩ := take4 s
  have t : (dCmpT gtD (dCallF f_law_take (dCons (dVar 0) (dCons (dC (.int 4)) dNil))) (dC (.int 0)) ρ s : Res Dr Bool) = .ok (decide ((0 : Int) < k)) s1 := tt_cmp (ev_callK (ev_cons (ev_var h0) (ev_cons rfl rfl)) e1) rfl (v_gt _ _)
  by_cases h : (0 : Int) < k
  · obtain ⟨x, s2, e2, hx⟩ := pick_ok ws nw lw s1
    exact ⟨x, false, s2, ev_if (b := true) (by rw [t, decide_eq_true h]) (ev_tup (ev_cons (ev_callK (ev_cons (ev_var h0) (ev_cons (ev_var hi) rfl)) e2) (ev_cons rfl rfl)) (by simp)), pw x hx⟩
  · obtain ⟨x, s2, e2, hx⟩ := pick_ok gs ng lg s1
    exact ⟨x, true, s2, ev_if (b := false) (by rw [t, decide_eq_false h]) (ev_tup (ev_cons (ev_callK (ev_cons (ev_var h0) (ev_cons (ev_var hj) rfl)) e2) (ev_cons rfl rfl)) (by simp)), pg x hx⟩
theorem bent_bid_ok {bid : D} (h : GB bid) (s : Dr) : ∃ (x : D) (b : Bool) (s' : Dr), f_law_bent_bid [.tok, bid] s = .ok (.tup [x, .bl b]) s' ∧ clean x = true ∧ bidD x = b := by
  obtain ⟨p, a, b, c, d, rfl, hp, ha, hb, hc, hd⟩ := h
  obtain ⟨k, s1, e1, hk⟩ := take4 s
  obtain ⟨o, s2, e2, ho⟩ := pick_ok oddL (by simp [oddL]) (by simp [oddL]) s1
  obtain ⟨co, wo⟩ := oddL_ok o ho
  obtain ⟨x, hx, cx⟩ := str_p p hp
  have e2' : f_law_pick [.tok, .lst [.int (-1), .int 101, .non, .bl true, .str "1", .tup [.int 1]]] s1 = .ok o s2 := e2
  have hB : bidT p a b c d = .tup [.str "bid", .int p, .tup (ms4 a b c d)] := rfl
  rw [hB]
  obtain ⟨y, q, s3, e3, hy⟩ := ev_choice (ρ := [some .tok, some (.tup [.str "bid", .int p, .tup (ms4 a b c d)]), some (.str "bid"), some (.int p), some (.tup (ms4 a b c d)), some (.int (k : Int)), some o, some (.lst (wrongB p a b c d x k o)), some (.lst (goodB p a b c d k))]) (s := s2) (i := 7) (j := 8) (ws := wrongB p a b c d x k o) (gs := goodB p a b c d k) rfl rfl rfl (by simp [wrongB]) (by simp [goodB]) (by simp [wrongB]) (by simp [goodB]) (P := fun y q => clean y = true ∧ bidD y = q) (wrongB_ok cx hk co wo) (goodB_ok hk hp ha hb hc hd)
  refine ⟨y, q, s3, runB_rt ?_, hy⟩
  show g_law_bent_bid [some .tok, some (.tup [.str "bid", .int p, .tup (ms4 a b c d)]), none, none, none, none, none, none, none] s = _
  unfold g_law_bent_bid
  refine st_seq (st_asg (ev_var rfl) rfl) ?_
  refine st_set (ev_callK (ev_cons (ev_var rfl) (ev_cons rfl rfl)) e1) ?_
  refine st_set (d := o) (s1 := s2) (by simp [lstOk_eq, tupOk_eq, e2']) ?_
  refine st_set (ev_lst (ev_cons rfl (ev_cons rfl (ev_cons rfl (ev_cons (ev_call (ev_cons (ev_var rfl) rfl) rfl) (ev_cons (ev_sl (ev_var rfl) rfl rfl (ev_some rfl) rfl rfl) (ev_cons (ev_bin (ev_var rfl) (ev_tup (ev_cons rfl rfl) (by simp)) (v_addT _ _ (by simp)))
    (ev_cons (ev_tup (ev_cons rfl (ev_cons (ev_var rfl) (ev_cons (ev_var rfl) rfl))) (by simp)) (ev_cons (ev_tup (ev_cons rfl (ev_cons (ev_var rfl) (ev_cons (ev_var rfl) rfl))) (by simp)) (ev_cons (ev_tup (ev_cons (ev_var rfl) (ev_cons rfl (ev_cons (ev_var rfl) rfl))) (by simp))
    (ev_cons (ev_tup (ev_cons (ev_var rfl) (ev_cons (ev_bin (ev_bin rfl rfl pow9) rfl rfl) (ev_cons (ev_var rfl) rfl))) (by simp)) rfl)))))))))) (by simp)) ?_
  refine st_set (ev_bin (ev_var rfl) (ev_lst (ev_cons (ev_tup (ev_cons (ev_var rfl) (ev_cons rfl (ev_cons (ev_var rfl) rfl))) (by simp)) (ev_cons (ev_tup (ev_cons (ev_var rfl) (ev_cons (ev_call (ev_cons (ev_var rfl) rfl) hx) (ev_cons (ev_var rfl) rfl))) (by simp))
    (ev_cons (ev_tup (ev_cons (ev_var rfl) (ev_cons (ev_var rfl) (ev_cons (ev_call (ev_cons (ev_var rfl) rfl) rfl) rfl))) (by simp)) (ev_cons (ev_tup (ev_cons (ev_var rfl) (ev_cons (ev_var rfl) (ev_cons (ev_sl (ev_var rfl) rfl rfl (ev_some rfl) rfl rfl) rfl))) (by simp))
    (ev_cons (ev_tup (ev_cons (ev_var rfl) (ev_cons (ev_var rfl) (ev_cons (ev_bin (ev_var rfl) (ev_tup (ev_cons rfl rfl) (by simp)) (v_addT _ _ (by simp [ms4]))) rfl))) (by simp)) rfl))))) (by simp)) (v_cat _ _ (by simp))) ?_
  refine st_seq (st_app (i := 7) rfl (ev_tup (ev_cons (ev_var rfl) (ev_cons (ev_var rfl) (ev_cons (ev_put hk rfl rfl (ev_var rfl)) rfl))) (by simp)) (by simp)) ?_
  refine st_set (ev_lst (ev_cons (ev_tup (ev_cons (ev_var rfl) (ev_cons (ev_bin rfl rfl pow9) (ev_cons (ev_var rfl) rfl))) (by simp)) (ev_cons (ev_tup (ev_cons (ev_var rfl) (ev_cons rfl (ev_cons (ev_var rfl) rfl))) (by simp)) (ev_cons (ev_tup (ev_cons (ev_var rfl) (ev_cons (ev_var rfl) (ev_cons (ev_put hk rfl rfl rfl) rfl))) (by simp)) rfl))) (by simp)) ?_
  exact st_ret e3
end DL.K68
set_option linter.all false
set_option maxRecDepth 100000
set_option maxHeartbeats 8000000
namespace DL.K68
open DL
theorem cut5 (xs : List D) : cutD xs none (some 5) = xs.take 5 := by
  unfold cutD
  have h0 : HT.sIx xs.length 0 none = 0 := rfl
  have h5 : HT.sIx xs.length xs.length (some 5) = min 5 xs.length := HT.sIx_nat xs.length xs.length 5
  rw [h0, h5, List.drop_zero, Nat.sub_zero]
  rw [List.take_eq_take_iff]
  omega
theorem tm_clean (t : Tm) : clean (tmD t) = true := by
  cases t with
  | mark k w => simp [tmD, clean, cleanL, ok_mark]
  | rel x w =>
    match x with
    | 0 => simp [tmD, clean, cleanL, relN]; decide +kernel
    | 1 => simp [tmD, clean, cleanL, relN]; decide +kernel
    | 2 => simp [tmD, clean, cleanL, relN]; decide +kernel
theorem rel_in (x : Fin 3) : relB (relN x) = true ∧ (relN x == ("mark" : PySem.Str)) = false := by
  match x with
  | 0 => exact ⟨by decide +kernel, by decide +kernel⟩
  | 1 => exact ⟨by decide +kernel, by decide +kernel⟩
  | 2 => exact ⟨by decide +kernel, by decide +kernel⟩
theorem tm_term {t : Tm} (h : t.ok) : termD (tmD t) = true := by
  cases t with
  | mark k w =>
    have h1 : 1 ≤ w := h.1
    have h2 : w ≤ 1000 := h.2
    have hk : (k.val : Int) ≤ 3 := by have := k.isLt; omega
    have hk0 : (0 : Int) ≤ (k.val : Int) := by omega
    simp [tmD, termD, wholeD, h1, h2, hk, hk0]
  | rel x w =>
    have h1 : 1 ≤ w := h.1
    have h2 : w ≤ 1000 := h.2
    simp [tmD, termD, wholeD, h1, h2, rel_in x]
theorem tms_clean (ts : List Tm) : cleanL (ts.map tmD) = true := cleanL_mem.mpr fun x hx => by
  obtain ⟨t, _, rfl⟩ := List.mem_map.mp hx
  exact tm_clean t
theorem tms_term {ts : List Tm} (h : ∀ t ∈ ts, t.ok) : (ts.map tmD).all termD = true := List.all_eq_true.mpr fun x hx => by
  obtain ⟨t, ht, rfl⟩ := List.mem_map.mp hx
  exact tm_term (h t ht)
theorem tms_form {ts : List Tm} (h : ∀ t ∈ ts, t.ok) (hl : ts.length ≤ 6) : formD (.tup (ts.map tmD)) = true := by
  show (decide ((ts.map tmD).length ≤ 6) && (ts.map tmD).all termD) = true
  rw [tms_term h, List.length_map, decide_eq_true hl]
  rfl
theorem cleanL_app {xs ys : List D} (h : cleanL xs = true) (k : cleanL ys = true) : cleanL (xs ++ ys) = true := cleanL_mem.mpr fun x hx => by
  rcases List.mem_append.mp hx with hx | hx
  · exact cleanL_mem.mp h x hx
  · exact cleanL_mem.mp k x hx
theorem form_bad {xs : List D} {t : D} (h : termD t = false) : formD (.tup (xs ++ [t])) = false := by
  show (decide ((xs ++ [t]).length ≤ 6) && (xs ++ [t]).all termD) = false
  rw [List.all_append, show ([t].all termD) = false by simp [h], Bool.and_false, Bool.and_false]
theorem form_long {xs : List D} (h : 6 < xs.length) : formD (.tup xs) = false := by
  show (decide (xs.length ≤ 6) && xs.all termD) = false
  rw [decide_eq_false (by omega)]
  rfl
theorem form_good {xs : List D} (hl : xs.length ≤ 6) (h : xs.all termD = true) : formD (.tup xs) = true := by
  show (decide (xs.length ≤ 6) && xs.all termD) = true
  rw [h, decide_eq_true hl]
  rfl
def bt0 : List D := [.tup [.str "low", .int 0], .tup [.str "low", .int 1001], .tup [.str "low", .bl true]]
def bt1 : List D := [.tup [.str "low"], .tup [.str "low", .int 1, .int 1], .tup [.str "mark", .int 4, .int 1], .tup [.str "mark", .int (-1), .int 1], .tup [.str "mark", .int 1], .tup [.str "mark", .int 0, .int 0], .tup [.str "mark", .int 0, .int 1001], .tup [.str "Low", .int 1]]
def bt2 : List D := [.lst [.str "low", .int 1], .tup [.non, .int 1], .tup [.str "mark", .bl true, .int 1], .tup [.str "mark", .str "0", .int 1], .tup [.str "mean", .str "1"], .tup [.str "range", .non], .str "low"]
def badB (l : List D) : Bool := l.all fun t => clean t && !termD t
theorem bt_ok : badB bt0 = true ∧ badB bt1 = true ∧ badB bt2 = true := by
  refine ⟨?_, ?_, ?_⟩ <;> decide +kernel
theorem bad_of {l : List D} (h : badB l = true) : ∀ t ∈ l, clean t = true ∧ termD t = false := fun t ht => by
  have := List.all_eq_true.mp h t ht
  simpa using this
def addT (xs : List D) (t : D) : D := .tup (xs ++ [t])
def wrongF (ts : List Tm) : List D :=
  ([.non, .int 5, .str "low", .lst (ts.map tmD), addT (ts.map tmD) (.tup []), addT ((ts.take 5).map tmD) (.tup [.str "low", .int 0]), addT ((ts.take 5).map tmD) (.tup [.str "low", .int 1001]), addT ((ts.take 5).map tmD) (.tup [.str "low", .bl true])] ++
  bt1.map (addT ((ts.take 5).map tmD))) ++ bt2.map (addT ((ts.take 5).map tmD)) ++ [.tup (ts.map tmD ++ List.replicate (7 - ts.length) (.tup [.str "low", .int 1]))]
def goodF (ts : List Tm) : List D := [.tup [], addT ((ts.take 5).map tmD) (.tup [.str "mark", .int 3, .int 1000]), addT ((ts.take 5).map tmD) (.tup [.str "mean", .int 1000]), .tup (ts.map tmD ++ List.replicate (6 - ts.length) (.tup [.str "range", .int 1]))]
theorem add_clean {xs : List D} {t : D} (h : cleanL xs = true) (k : clean t = true) : clean (addT xs t) = true := cleanL_app h (by simp [cleanL, k])
theorem rep_clean {n : Nat} {t : D} (k : clean t = true) : cleanL (List.replicate n t) = true := cleanL_mem.mpr fun x hx => by
  obtain ⟨_, rfl⟩ := List.mem_replicate.mp hx
  exact k
theorem wrongF_ok {ts : List Tm} (hl : ts.length ≤ 6) : ∀ y ∈ wrongF ts, clean y = true ∧ formD y = false := by
  intro y hy
  have c := tms_clean ts
  have c5 := tms_clean (ts.take 5)
  obtain ⟨b0, b1, b2⟩ := bt_ok
  have add : ∀ {l : List D}, badB l = true → ∀ t ∈ l, clean (addT ((ts.take 5).map tmD) t) = true ∧ formD (addT ((ts.take 5).map tmD) t) = false := fun h t ht => ⟨add_clean c5 (bad_of h t ht).1, form_bad (bad_of h t ht).2⟩
  simp only [wrongF, List.mem_append, List.mem_cons, List.not_mem_nil, or_false] at hy
  rcases hy with (((rfl | rfl | rfl | rfl | rfl | rfl | rfl | rfl) | hy) | hy) | rfl
  · exact ⟨rfl, rfl⟩
  · exact ⟨rfl, rfl⟩
  · exact ⟨by decide +kernel, rfl⟩
  · exact ⟨c, rfl⟩
  · exact ⟨add_clean c rfl, form_bad rfl⟩
  · exact add b0 _ (by simp [bt0])
  · exact add b0 _ (by simp [bt0])
  · exact add b0 _ (by simp [bt0])
  · obtain ⟨t, ht, rfl⟩ := List.mem_map.mp hy
    exact add b1 t ht
  · obtain ⟨t, ht, rfl⟩ := List.mem_map.mp hy
    exact add b2 t ht
  · exact ⟨cleanL_app c (rep_clean (by decide +kernel)), form_long (by rw [List.length_append, List.length_map, List.length_replicate]; omega)⟩
theorem goodF_ok {ts : List Tm} (h : ∀ t ∈ ts, t.ok) (hl : ts.length ≤ 6) : ∀ y ∈ goodF ts, clean y = true ∧ formD y = true := by
  intro y hy
  have c := tms_clean ts
  have c5 := tms_clean (ts.take 5)
  have k := tms_term h
  have k5 := tms_term (ts := ts.take 5) fun t ht => h t (List.mem_of_mem_take ht)
  have l5 : (ts.take 5).length ≤ 5 := by rw [List.length_take]; omega
  have add : ∀ {t : D}, clean t = true → termD t = true → clean (addT ((ts.take 5).map tmD) t) = true ∧ formD (addT ((ts.take 5).map tmD) t) = true := fun h1 h2 => ⟨add_clean c5 h1, form_good (by rw [List.length_append, List.length_map]; simp; omega) (by rw [List.all_append, k5]; simp [h2])⟩
  simp only [goodF, List.mem_cons, List.not_mem_nil, or_false] at hy
  rcases hy with rfl | rfl | rfl | rfl
  · exact ⟨rfl, rfl⟩
  · exact add (by decide +kernel) (by decide +kernel)
  · exact add (by decide +kernel) (by decide +kernel)
  · refine ⟨cleanL_app c (rep_clean (by decide +kernel)), form_good (by rw [List.length_append, List.length_map, List.length_replicate]; omega) ?_⟩
    rw [List.all_append, k, Bool.true_and]
    exact List.all_eq_true.mpr fun x hx => by
      obtain ⟨_, rfl⟩ := List.mem_replicate.mp hx
      decide +kernel
/-! the drawing -/
theorem ev_take5 {ρ : Env} {s : Dr} {ts : List Tm} {ft : Env → M Dr D} {t : D} (h1 : ρ[1]? = some (some (.tup (ts.map tmD)))) (hl : ts.length ≤ 6) (ht : ft ρ s = .ok t s) : dBin addD (dSl slTD (dVar 1) dNone (dSome (dC (.int 5)))) (fun ρ => do M.opt (tupOk (← (dCons ft dNil) ρ))) ρ s = .ok (addT ((ts.take 5).map tmD) t) s := by
  have hs : slTD (.tup (ts.map tmD)) none (some 5) = some (.tup ((ts.take 5).map tmD)) := by
    show some (D.tup (cutD (ts.map tmD) none (some 5))) = _
    rw [cut5, List.map_take]
  exact ev_bin (ev_sl (ev_var h1) rfl rfl (ev_some rfl) rfl hs) (ev_tup (ev_cons ht rfl) (by simp)) (v_addT _ _ (by simp; omega))
theorem ev_rep {ρ : Env} {s : Dr} {ts : List Tm} {ft : Env → M Dr D} {t : D} {n : Nat} (h1 : ρ[1]? = some (some (.tup (ts.map tmD)))) (hl : ts.length ≤ n) (hn : n ≤ 7) (ht : ft ρ s = .ok (.tup [t]) s) : dBin addD (dVar 1) (dBin repTD ft (dBin subD (dC (.int n)) (dCall lenD (dCons (dVar 1) dNil)))) ρ s = .ok (.tup (ts.map tmD ++ List.replicate (n - ts.length) t)) s := by
  have hr : repTD (.tup [t]) (.int ((n : Int) - ((ts.map tmD).length : Int))) = some (.tup (List.replicate (n - ts.length) t)) := by
    show (if -(2 ^ 63) ≤ ((n : Int) - ((ts.map tmD).length : Int)) ∧ ((n : Int) - ((ts.map tmD).length : Int)) ≤ 1000 ∧ [t].length ≤ 1000 then some (D.tup (List.replicate ((n : Int) - ((ts.map tmD).length : Int)).toNat [t]).flatten) else none) = _
    rw [List.length_map, if_pos ⟨by omega, by omega, by simp⟩]
    have e : ((n : Int) - (ts.length : Int)).toNat = n - ts.length := by omega
    rw [e]
    congr 2
    induction (n - ts.length) with
    | zero => rfl
    | succ m ih => rw [List.replicate_succ, List.flatten_cons, ih, List.replicate_succ]; rfl
  exact ev_bin (ev_var h1) (ev_bin ht (ev_bin rfl (ev_call (ev_cons (ev_var h1) rfl) (v_lenT _)) rfl) hr) (v_addT _ _ (by rw [List.length_map, List.length_replicate]; omega))
theorem ev_comp {ρ : Env} {s : Dr} {ts : List Tm} {fi : Env → M Dr (List D)} {l : List D} (h1 : ρ[1]? = some (some (.tup (ts.map tmD)))) (hl : ts.length ≤ 6) (hi : fi ρ s = .ok l s) (hz : l.length ≤ 16777216) (h4 : 4 < ρ.length) : dComp fi (gSet 4) [4] dYes (dBin addD (dSl slTD (dVar 1) dNone (dSome (dC (.int 5)))) (fun ρ => do M.opt (tupOk (← (dCons (dVar 4) dNil) ρ)))) ρ s = .ok (.lst (l.map (addT ((ts.take 5).map tmD)))) s := by
  have e := dComp_pure (S := Dr) (fi := fi) (g := gSet 4) (us := [4]) (ft := dYes) (fe := dBin addD (dSl slTD (dVar 1) dNone (dSome (dC (.int 5)))) (fun ρ => do M.opt (tupOk (← (dCons (dVar 4) dNil) ρ)))) (ρ := ρ) (s := s) (xs := l) (fun _ => true) (addT ((ts.take 5).map tmD)) hi (by rw [PySem.sizeLine_eq]; exact hz) fun x hx => by
    have hw : (wipeE ρ [4]).set 4 (some x) = ρ.set 4 (some x) := by
      show ((ρ.set 4 none).set 4 (some x)) = _
      rw [List.set_set]
    refine ⟨_, rfl, rfl, fun _ => ev_take5 ?_ hl (ev_var ?_)⟩
    · rw [hw, List.getElem?_set_ne (by decide)]
      exact h1
    · rw [hw, List.getElem?_set_self h4]
  rw [show (List.filter (fun _ => true) l) = l from List.filter_eq_self.mpr fun _ _ => rfl] at e
  exact e
end DL.K68
set_option linter.all false
set_option maxRecDepth 100000
set_option maxHeartbeats 8000000
namespace DL.K68
open DL
theorem bent_formula_ok {ts : List Tm} (h : ∀ t ∈ ts, t.ok) (hl : ts.length ≤ 6) (s : Dr) : ∃ (x : D) (b : Bool) (s' : Dr), f_law_bent_formula [.tok, .tup (ts.map tmD)] s = .ok (.tup [x, .bl b]) s' ∧ clean x = true ∧ formD x = b := by
  obtain ⟨y, q, s3, e3, hy⟩ := ev_choice (ρ := [some .tok, some (.tup (ts.map tmD)), some (.lst (wrongF ts)), some (.lst (goodF ts)), none]) (s := s) (i := 2) (j := 3) (ws := wrongF ts) (gs := goodF ts) rfl rfl rfl (by simp [wrongF]) (by simp [goodF]) (by simp [wrongF, bt1, bt2]) (by simp [goodF]) (P := fun y q => clean y = true ∧ formD y = q) (wrongF_ok hl) (goodF_ok h hl)
  refine ⟨y, q, s3, runB_rt ?_, hy⟩
  show g_law_bent_formula [some .tok, some (.tup (ts.map tmD)), none, none, none] s = _
  unfold g_law_bent_formula
  refine st_set (d := .lst [.non, .int 5, .str "low", .lst (ts.map tmD), addT (ts.map tmD) (.tup []), addT ((ts.take 5).map tmD) (.tup [.str "low", .int 0]), addT ((ts.take 5).map tmD) (.tup [.str "low", .int 1001]), addT ((ts.take 5).map tmD) (.tup [.str "low", .bl true])]) (s1 := s)
    (ev_lst (ev_cons rfl (ev_cons rfl (ev_cons rfl (ev_cons (ev_call (ev_cons (ev_var rfl) rfl) rfl) (ev_cons (ev_bin (ev_var rfl) (ev_tup (ev_cons (ev_tup rfl (by simp)) rfl) (by simp)) (v_addT _ _ (by simp; omega))) (ev_cons (ev_take5 rfl hl (ev_tup (ev_cons rfl (ev_cons rfl rfl)) (by simp))) (ev_cons (ev_take5 rfl hl (ev_tup (ev_cons rfl (ev_cons rfl rfl)) (by simp))) (ev_cons (ev_take5 rfl hl (ev_tup (ev_cons rfl (ev_cons rfl rfl)) (by simp))) rfl)))))))) (by simp)) ?_
  have i1 : (dItems (fun ρ => do M.opt (lstOk (← (dCons (fun ρ => do M.opt (tupOk (← (dCons (dC (.str "low")) dNil) ρ))) (dCons (fun ρ => do M.opt (tupOk (← (dCons (dC (.str "low")) (dCons (dC (.int 1)) (dCons (dC (.int 1)) dNil))) ρ))) (dCons (fun ρ => do M.opt (tupOk (← (dCons (dC (.str "mark")) (dCons (dC (.int 4)) (dCons (dC (.int 1)) dNil))) ρ))) (dCons (fun ρ => do M.opt (tupOk (← (dCons (dC (.str "mark")) (dCons (dUn negD (dC (.int 1))) (dCons (dC (.int 1)) dNil))) ρ))) (dCons (fun ρ => do M.opt (tupOk (← (dCons (dC (.str "mark")) (dCons (dC (.int 1)) dNil)) ρ))) (dCons (fun ρ => do M.opt (tupOk (← (dCons (dC (.str "mark")) (dCons (dC (.int 0)) (dCons (dC (.int 0)) dNil))) ρ))) (dCons (fun ρ => do M.opt (tupOk (← (dCons (dC (.str "mark")) (dCons (dC (.int 0)) (dCons (dC (.int 1001)) dNil))) ρ))) (dCons (fun ρ => do M.opt (tupOk (← (dCons (dC (.str "Low")) (dCons (dC (.int 1)) dNil)) ρ))) dNil)))))))) ρ))) [some D.tok, some (.tup (ts.map tmD)), some (.lst [.non, .int 5, .str "low", .lst (ts.map tmD), addT (ts.map tmD) (.tup []), addT ((ts.take 5).map tmD) (.tup [.str "low", .int 0]), addT ((ts.take 5).map tmD) (.tup [.str "low", .int 1001]), addT ((ts.take 5).map tmD) (.tup [.str "low", .bl true])]), none, none] s : Res Dr (List D)) = .ok bt1 s := by
    simp [lstOk_eq, tupOk_eq, bt1]
  refine st_set (ev_bin (ev_var rfl) (ev_comp rfl hl i1 (by simp [bt1]) (by simp)) (v_cat _ _ (by simp [bt1]))) ?_
  refine st_set (ev_bin (ev_var rfl) (ev_comp (l := bt2) rfl hl (by simp [lstOk_eq, tupOk_eq, bt2]) (by simp [bt2]) (by simp)) (v_cat _ _ (by simp [bt1, bt2]))) ?_
  refine st_seq (st_app (i := 2) rfl (ev_rep (n := 7) (t := .tup [.str "low", .int 1]) rfl (by omega) (by omega) (ev_tup (ev_cons (ev_tup (ev_cons rfl (ev_cons rfl rfl)) (by simp)) rfl) (by simp))) (by simp [bt1, bt2])) ?_
  refine st_set (d := .lst (goodF ts)) (s1 := s) (ev_lst (xs := goodF ts) (ev_cons (ev_tup rfl (by simp)) (ev_cons (ev_take5 rfl hl (ev_tup (ev_cons rfl (ev_cons rfl (ev_cons rfl rfl))) (by simp))) (ev_cons (ev_take5 rfl hl (ev_tup (ev_cons rfl (ev_cons rfl rfl)) (by simp))) (ev_cons (ev_rep (n := 6) (t := .tup [.str "range", .int 1]) rfl (by omega) (by omega) (ev_tup (ev_cons (ev_tup (ev_cons rfl (ev_cons rfl rfl)) (by simp)) rfl) (by simp))) rfl)))) (by simp [goodF])) ?_
  exact st_ret e3
end DL.K68
set_option linter.all false
set_option maxRecDepth 100000
set_option maxHeartbeats 4000000
namespace DL.K68
open DL PySem
theorem strOk_app {a b : Str} (h : PyData.strOk a = true) (k : PyData.strOk b = true) : PyData.strOk (a ++ b) = true := by
  have e : (a ++ b : Str).cps = a.cps ++ b.cps := rfl
  unfold PyData.strOk at *
  rw [e, Array.all_append, h, k]
  rfl
theorem strOk_join {z : Str} (hz : PyData.strOk z = true) : ∀ ts : List Str, (∀ t ∈ ts, PyData.strOk t = true) → PyData.strOk (Str.join z ts) = true
  | [], _ => (show PyData.strOk "" = true by decide +kernel)
  | [x], h => h x (by simp)
  | x :: y :: r, h => by
    show PyData.strOk (x ++ z ++ Str.join z (y :: r)) = true
    exact strOk_app (strOk_app (h x (by simp)) hz) (strOk_join hz (y :: r) fun t ht => h t (List.mem_cons_of_mem _ ht))
theorem len_join {z : Str} (hz : z.length ≤ 2) : ∀ ts : List Str, (∀ t ∈ ts, t.length ≤ 10) → (Str.join z ts).length ≤ 12 * ts.length
  | [], _ => Nat.le_refl 0
  | [x], h => by
    have : x.length ≤ 10 := h x (by simp)
    show x.length ≤ 12 * 1
    omega
  | x :: y :: r, h => by
    have h1 : x.length ≤ 10 := h x (by simp)
    have h2 := len_join hz (y :: r) fun t ht => h t (List.mem_cons_of_mem _ ht)
    show (x ++ z ++ Str.join z (y :: r)).length ≤ 12 * (r.length + 2)
    rw [strLen_append, strLen_append]
    rw [List.length_cons] at h2
    omega
/-- text of a row of small numbers -/
theorem shownAll_map : ∀ ns : List Int, PyData.shownAll (ns.map PyData.int) = ns.map fun n => Str.ofString (toString n)
  | [] => rfl
  | n :: ns => by
    show (PyData.int n).shown :: PyData.shownAll (ns.map PyData.int) = _
    rw [shownAll_map ns]
    rfl
theorem repr_ints {ns : List Int} (hl : ns.length ≤ 4) (h : ∀ n ∈ ns, 0 ≤ n ∧ n ≤ 6000) : ∃ y : Str, reprD [.tup (ns.map D.int)] = some (.str y) ∧ PyData.strOk y = true := by
  have py : (D.tup (ns.map D.int)).py = some (.tuple (ns.map PyData.int)) := by
    have : ∀ ns : List Int, pyL (ns.map D.int) = some (ns.map PyData.int) := by
      intro ns
      induction ns with
      | nil => rfl
      | cons n ns ih =>
        show (match D.py (D.int n), pyL (ns.map D.int) with
          | some a, some b => some (a :: b)
          | _, _ => none) = _
        rw [ih]
        rfl
    show (pyL _).map PyData.tuple = _
    rw [this]
    rfl
  have len : ∀ n ∈ ns, (Str.ofString (toString n)).length ≤ 10 := fun n hn => by
    obtain ⟨a, b⟩ := h n hn
    have := int_text_length_le10 (a := n) (k := 4) (by decide) (by omega)
    rw [ofString_length]
    omega
  have hs : ∀ ns : List Int, (∀ n ∈ ns, 0 ≤ n ∧ n ≤ 6000) → PyData.showableAll (ns.map PyData.int) = true := by
    intro ns
    induction ns with
    | nil => intro _; rfl
    | cons n ns ih =>
      intro h
      obtain ⟨a, b⟩ := h n (by simp)
      have e := ih fun m hm => h m (List.mem_cons_of_mem _ hm)
      have e2 : (PyData.int n).showable = true := by
        show decide (n.natAbs.log2 < 1920) = true
        refine decide_eq_true ?_
        by_cases h0 : n.natAbs = 0
        · rw [h0]; decide
        · exact Nat.lt_trans ((Nat.log2_lt h0).mpr (show n.natAbs < 2 ^ 13 by omega)) (by decide)
      show ((PyData.int n).showable && PyData.showableAll (ns.map PyData.int)) = true
      rw [e2, e]
      rfl
  have hd : ∀ ns : List Int, PyData.hasDictAll (ns.map PyData.int) = false := by
    intro ns
    induction ns with
    | nil => rfl
    | cons n ns ih =>
      show ((PyData.int n).hasDict || PyData.hasDictAll (ns.map PyData.int)) = false
      rw [ih]
      rfl
  have hp : ∀ ns : List Int, PyData.depthAll (ns.map PyData.int) ≤ 1 := by
    intro ns
    induction ns with
    | nil => exact Nat.zero_le _
    | cons n ns ih =>
      show max (PyData.int n).depth (PyData.depthAll (ns.map PyData.int)) ≤ 1
      refine Nat.max_le.mpr ⟨?_, ih⟩
      simp [PyData.depth]
  have e0 : (PyData.tuple (ns.map PyData.int)).shown = ("(" : Str) ++ Str.join ", " (ns.map fun n => Str.ofString (toString n)) ++ (if (ns.map fun n => Str.ofString (toString n)).length == 1 then ",)" else ")" : String) := by
    show tupleText (PyData.shownAll (ns.map PyData.int)) = _
    rw [shownAll_map]
    rfl
  have h4 : (PyData.tuple (ns.map PyData.int)).depth ≤ 60 := by
    have e : (PyData.tuple (ns.map PyData.int)).depth = PyData.depthAll (ns.map PyData.int) + 1 := by simp only [PyData.depth]
    have := hp ns
    omega
  have h5 : (PyData.tuple (ns.map PyData.int)).shown.length ≤ sizeLine := by
    rw [e0, strLen_append, strLen_append, sizeLine_eq]
    have h1 := len_join (z := ", ") (by decide) (ns.map fun n => Str.ofString (toString n)) fun t ht => by
      obtain ⟨n, hn, rfl⟩ := List.mem_map.mp ht
      exact len n hn
    rw [List.length_map] at h1
    have h2 : ((("(" : String) : Str)).length = 1 := rfl
    have h3 : (((if (ns.map fun n => Str.ofString (toString n)).length == 1 then ",)" else ")" : String) : Str)).length ≤ 2 := by split <;> decide
    omega
  refine ⟨(PyData.tuple (ns.map PyData.int)).shown, ?_, ?_⟩
  · show ((D.tup (ns.map D.int)).py).bind _ = _
    rw [py]
    exact if_pos ⟨hs ns h, hd ns, h4, h5⟩
  · rw [e0]
    refine strOk_app (strOk_app (by decide +kernel) (strOk_join (by decide +kernel) _ fun t ht => ?_)) ?_
    · obtain ⟨n, hn, rfl⟩ := List.mem_map.mp ht
      exact all_lt _
    · split <;> decide +kernel
/-- repr(a) != repr(b) is False where the texts are one -/
theorem ne_same {x : Str} (h : PyData.strOk x = true) : neD (.str x) (.str x) = some (.bl false) := by
  unfold neD
  rw [v_eqS _ _ h h]
  simp [notD]
theorem tt_repr {ρ : Env} {s s1 s2 : Dr} {f g : Env → M Dr D} {x : D} {y : Str} (hf : f ρ s = .ok x s1) (hg : g ρ s1 = .ok x s2) (h : reprD [x] = some (.str y)) (k : PyData.strOk y = true) : dCmpT neD (dCall reprD (dCons f dNil)) (dCall reprD (dCons g dNil)) ρ s = .ok false s2 :=
  tt_cmp (ev_call (ev_cons hf rfl) h) (ev_call (ev_cons hg rfl) h) (ne_same k)
theorem repr_bl (b : Bool) : ∃ y : Str, reprD [.bl b] = some (.str y) ∧ PyData.strOk y = true := by
  cases b
  · exact ⟨"False", rfl, by decide +kernel⟩
  · exact ⟨"True", rfl, by decide +kernel⟩
theorem repr_bl3 (b : Bool) : ∃ y : Str, reprD [.lst [.bl b, .bl b, .bl b]] = some (.str y) ∧ PyData.strOk y = true := by
  cases b
  · exact ⟨"[False, False, False]", by rfl, by decide +kernel⟩
  · exact ⟨"[True, True, True]", by rfl, by decide +kernel⟩
end DL.K68
set_option linter.all false
set_option maxRecDepth 100000
set_option maxHeartbeats 4000000
namespace DL
theorem compL_map {S : Type} {α : Type} {g : D → Env → Option Env} {us : List Nat} {ft : Env → M S Bool} {fe : Env → M S D} {ρ : Env} {s : S} (m : α → D) (P : α → Bool) (f : α → D) : ∀ xs : List α, (∀ x ∈ xs, ∃ ρ', g (m x) (wipeE ρ us) = some ρ' ∧ ft ρ' s = .ok (P x) s ∧ (P x = true → fe ρ' s = .ok (f x) s)) → compL g us ft fe ρ (xs.map m) s = .ok ((xs.filter P).map f) s
  | [], _ => rfl
  | x :: xs, h => by
    obtain ⟨ρ', h1, h2, h3⟩ := h x (List.mem_cons_self ..)
    have ih := compL_map m P f xs fun y hy => h y (List.mem_cons_of_mem _ hy)
    rw [List.map_cons, compL_cons, h1]
    cases hp : P x with
    | true =>
      rw [hp] at h2
      simp only [h2, h3 hp]
      unfold M.bind
      rw [ih, List.filter_cons_of_pos hp]
      rfl
    | false =>
      rw [hp] at h2
      simp only [h2]
      rw [ih, List.filter_cons_of_neg (by rw [hp]; decide)]
theorem comp_map {S : Type} {α : Type} {fi : Env → M S (List D)} {g : D → Env → Option Env} {us : List Nat} {ft : Env → M S Bool} {fe : Env → M S D} {ρ : Env} {s : S} (m : α → D) (P : α → Bool) (f : α → D) {xs : List α} (hi : fi ρ s = .ok (xs.map m) s) (hl : xs.length ≤ 16777216) (h : ∀ x ∈ xs, ∃ ρ', g (m x) (wipeE ρ us) = some ρ' ∧ ft ρ' s = .ok (P x) s ∧ (P x = true → fe ρ' s = .ok (f x) s)) : dComp fi g us ft fe ρ s = .ok (.lst ((xs.filter P).map f)) s := by
  rw [K68.e_comp, bind_eq, hi]
  dsimp only
  rw [if_pos (by rw [List.length_map, PySem.sizeLine_eq]; exact hl), bind_eq, opt_eq]
  dsimp only
  rw [bind_eq, compL_map m P f xs h]
  rfl
theorem tt_and {S : Type} {ρ : Env} {s s1 s2 : S} {t u : Env → M S Bool} {b c : Bool} (h : t ρ s = .ok b s1) (k : b = true → u ρ s1 = .ok c s2) (kf : b = false → s2 = s1) : dAnd t u ρ s = .ok (b && c) s2 := by
  rw [e_and, bind_eq, h]
  cases b with
  | true => exact k rfl
  | false => rw [kf rfl]; rfl
end DL
namespace DL.K68
open DL
theorem sum_comp {S : Type} {fi : Env → M S (List D)} {i : Nat} {ft : Env → M S Bool} {fe : Env → M S D} {ρ : Env} {s : S} {ts : List Tm} (P : Tm → Bool) (hi : fi ρ s = .ok (ts.map tmD) s) (hl : ts.length ≤ 6) (h : ∀ t, ft ((wipeE ρ [i]).set i (some (tmD t))) s = .ok (P t) s ∧ (P t = true → fe ((wipeE ρ [i]).set i (some (tmD t))) s = .ok (.int t.w) s)) : dCall sumAD (dCons (dComp fi (gSet i) [i] ft fe) dNil) ρ s = .ok (.int ((ts.filter P).map Tm.w).sum) s := by
  have e := comp_map (S := S) (fi := fi) (g := gSet i) (us := [i]) (ft := ft) (fe := fe) (ρ := ρ) (s := s) tmD P (fun t => .int t.w) hi (by omega) fun t _ => ⟨_, rfl, (h t).1, (h t).2⟩
  refine ev_call (ev_cons e rfl) ?_
  rw [← sumA_l, List.map_map]
  rfl
/-- relative weights -/
def selR (r : Fin 3) : Tm → Bool
  | .mark _ _ => false
  | .rel y _ => y == r
def rsum (ts : List Tm) (r : Fin 3) : Int := ((ts.filter (selR r)).map Tm.w).sum
def rws (ts : List Tm) : List Int := [rsum ts 0, rsum ts 1, rsum ts 2]
theorem pick_sum (P : Tm → Bool) : ∀ ts : List Tm, (∀ t ∈ ts, t.ok) → 0 ≤ ((ts.filter P).map Tm.w).sum ∧ ((ts.filter P).map Tm.w).sum ≤ 1000 * ts.length
  | [], _ => by simp
  | t :: ts, h => by
    have := pick_sum P ts fun t ht => h t (List.mem_cons_of_mem _ ht)
    obtain ⟨h1, h2⟩ := h t (List.mem_cons_self ..)
    cases hp : P t with
    | true =>
      rw [List.filter_cons_of_pos hp, List.map_cons, List.sum_cons, List.length_cons]
      omega
    | false =>
      rw [List.filter_cons_of_neg (by rw [hp]; decide), List.length_cons]
      omega
theorem ok_rel (r : Fin 3) : PySem.PyData.strOk (relN r) = true := by
  match r with
  | 0 => decide +kernel
  | 1 => decide +kernel
  | 2 => decide +kernel
theorem rel_eq : ∀ (y r : Fin 3), (relN y == relN r) = (y == r) := by decide +kernel
theorem mark_ne : ∀ r : Fin 3, (("mark" : PySem.Str) == relN r) = false := by decide +kernel
theorem rel_test {S : Type} {ρ : Env} {s : S} {i j : Nat} {t : Tm} {r : Fin 3} (h : ρ[i]? = some (some (tmD t))) (k : ρ[j]? = some (some (.str (relN r)))) : (dCmpT eqD (dBin ixD (dVar i) (dC (.int 0))) (dVar j) ρ s : Res S Bool) = .ok (selR r t) s := by
  cases t with
  | mark p w => exact tt_cmp (ev_bin (ev_var h) rfl rfl) (ev_var k) (by rw [v_eqS _ _ ok_mark (ok_rel r), mark_ne]; rfl)
  | rel y w => exact tt_cmp (ev_bin (ev_var h) rfl rfl) (ev_var k) (by rw [v_eqS _ _ (ok_rel y) (ok_rel r), rel_eq]; rfl)
theorem rel_pick {S : Type} {ρ : Env} {s : S} {i : Nat} {t : Tm} {r : Fin 3} (h : ρ[i]? = some (some (tmD t))) (k : selR r t = true) : (dBin ixD (dVar i) (dC (.int 1)) ρ s : Res S D) = .ok (.int t.w) s := by
  cases t with
  | mark p w => cases k
  | rel y w => exact ev_bin (ev_var h) rfl rfl
theorem mark_test {S : Type} {ρ : Env} {s : S} {i j : Nat} {t : Tm} {n : Int} (h : ρ[i]? = some (some (tmD t))) (k : ρ[j]? = some (some (.int n))) : (dAnd (dCmpT eqD (dBin ixD (dVar i) (dC (.int 0))) (dC (.str "mark"))) (dCmpT eqD (dBin ixD (dVar i) (dC (.int 1))) (dVar j)) ρ s : Res S Bool) = .ok (selP n t) s := by
  cases t with
  | mark p w =>
    have e := tt_and (ρ := ρ) (s := s) (t := dCmpT eqD (dBin ixD (dVar i) (dC (.int 0))) (dC (.str "mark"))) (u := dCmpT eqD (dBin ixD (dVar i) (dC (.int 1))) (dVar j)) (tt_cmp (ev_bin (ev_var h) rfl rfl) rfl eq_mark) (fun _ => tt_cmp (ev_bin (ev_var h) rfl rfl) (ev_var k) (v_eqI _ _)) (fun h => by cases h)
    exact e
  | rel y w =>
    have e := tt_and (ρ := ρ) (s := s) (c := false) (t := dCmpT eqD (dBin ixD (dVar i) (dC (.int 0))) (dC (.str "mark"))) (u := dCmpT eqD (dBin ixD (dVar i) (dC (.int 1))) (dVar j)) (tt_cmp (ev_bin (ev_var h) rfl rfl) rfl (eq_rel y)) (fun h => by cases h) (fun _ => rfl)
    exact e
theorem mark_pick {S : Type} {ρ : Env} {s : S} {i : Nat} {t : Tm} {n : Int} (h : ρ[i]? = some (some (tmD t))) (k : selP n t = true) : (dBin ixD (dVar i) (dC (.int 2)) ρ s : Res S D) = .ok (.int t.w) s := by
  cases t with
  | mark p w => exact ev_bin (ev_var h) rfl rfl
  | rel y w => cases k
theorem rel3 : ([0, 1, 2] : List (Fin 3)).map (fun r => D.str (relN r)) = [.str "low", .str "range", .str "mean"] := rfl
theorem relative_weights_eq (ts : List Tm) (h : ∀ t ∈ ts, t.ok) (hl : ts.length ≤ 6) : f_relative_weights [.tup (ts.map tmD)] () = .ok (.tup ((rws ts).map D.int)) () := by
  refine runB_rt ?_
  show sSeq _ _ [some (D.tup (ts.map tmD)), none, none] () = _
  refine st_seq (st_drop (ev_callP rfl (liftP_ok (need_eq ts h hl)))) (st_ret ?_)
  have e := comp_map (S := Unit) (fi := dItems (dC c_RELATIVES)) (g := gSet 1) (us := [1]) (ft := dYes) (fe := dCall sumAD (dCons (dComp (dItems (dVar 0)) (gSet 2) [2] (dCmpT eqD (dBin ixD (dVar 2) (dC (.int 0))) (dVar 1)) (dBin ixD (dVar 2) (dC (.int 1)))) dNil)) (ρ := [some (D.tup (ts.map tmD)), none, none]) (s := ()) (fun r => D.str (relN r)) (fun _ => true) (fun r => .int (rsum ts r)) (xs := [0, 1, 2]) rfl (by simp) fun r _ => ⟨[some (D.tup (ts.map tmD)), some (.str (relN r)), none], rfl, rfl, fun _ => sum_comp (selR r) rfl hl fun t => ⟨rel_test rfl rfl, fun k => rel_pick rfl k⟩⟩
  exact ev_call (ev_cons e rfl) rfl
end DL.K68
set_option linter.all false
set_option maxRecDepth 100000
set_option maxHeartbeats 4000000
namespace DL.K68
open DL
abbrev stA : G Dr := (sAsg (fun ρ => do M.opt (tupOk (← (dCons (dCallF f_law_bid (dCons (dVar 1) dNil)) (dCons (dCallF f_law_formula (dCons (dVar 1) dNil)) (dCons (dCallF f_law_pick (dCons (dVar 1) (dCons (fun ρ => do M.opt (lstOk (← (dCons (dC (.int 0)) (dCons (dC (.int 1)) (dCons (dC (.int 2)) (dCons (dC (.int 5)) (dCons (dC (.int 129)) (dCons (dC (.int 130)) dNil)))))) ρ))) dNil))) dNil))) ρ))) (gTupD 3 (gsCons (gSet 3) (gsCons (gSet 4) (gsCons (gSet 5) gsNil)))))
abbrev stB : G Dr := (sSet (dBin repLD (dCallF f_law_field (dCons (dVar 1) (dCons (dCall min2D (dCons (dVar 5) (dCons (dC (.int 5)) dNil))) dNil))) (dBin addD (dC (.int 1)) (dBin fdivD (dVar 5) (dC (.int 6))))) 6)
abbrev stC : G Dr := (sSet (dBin catD (dSl slLD (dVar 6) dNone (dSome (dVar 5))) (dBin repLD (dSl slLD (dVar 6) dNone (dSome (dC (.int 1)))) (dBin subD (dVar 5) (dCall lenD (dCons (dVar 6) dNil))))) 6)
abbrev stD : G Dr := (sIf (dOr (dCmpT isnotD (dCallF (fun ds => liftP (f_is_bid ds)) (dCons (dVar 3) dNil)) (dC (.bl true))) (dOr (dCmpT isnotD (dCallF (fun ds => liftP (f_is_field ds)) (dCons (dVar 6) dNil)) (dC (.bl true))) (dOr (dCmpT isnotD (dKw (fun ds => liftP (f_is_field ds)) [0] dNil (dCons (dCall tupleD (dCons (dVar 6) dNil)) dNil)) (dC (.bl true))) (dCmpT isnotD (dCallF (fun ds => liftP (f_is_formula ds)) (dCons (dVar 4) dNil)) (dC (.bl true)))))) (sRet (dC (.bl false))) sNext)
abbrev stE : G Dr := (sAsg (dCallF f_law_bent_bid (dCons (dVar 1) (dCons (dVar 3) dNil))) (gTupD 2 (gsCons (gSet 7) (gsCons (gSet 8) gsNil))))
abbrev stF : G Dr := (sIf (dCmpT neD (dCall reprD (dCons (fun ρ => do M.opt (lstOk (← (dCons (dKw (fun ds => liftP (f_is_bid ds)) [0] dNil (dCons (dVar 7) dNil)) (dCons (dCallF (fun ds => liftP (f_is_field ds)) (dCons (dBin catD (dSl slLD (dVar 6) dNone (dSome (dC (.int 129)))) (fun ρ => do M.opt (lstOk (← (dCons (dVar 7) dNil) ρ)))) dNil)) (dCons (dCallF (fun ds => liftP (f_is_field ds)) (dCons (dBin catD (fun ρ => do M.opt (lstOk (← (dCons (dVar 7) dNil) ρ))) (dSl slLD (dVar 6) dNone (dSome (dC (.int 129))))) dNil)) dNil))) ρ))) dNil)) (dCall reprD (dCons (dBin repLD (fun ρ => do M.opt (lstOk (← (dCons (dVar 8) dNil) ρ))) (dC (.int 3))) dNil))) (sRet (dC (.bl false))) sNext)
abbrev stG : G Dr := (sIf (dOr (dCmpT isnotD (dCallF (fun ds => liftP (f_is_field ds)) (dCons (dBin catD (dVar 6) (dBin repLD (fun ρ => do M.opt (lstOk (← (dCons (dVar 3) dNil) ρ))) (dBin subD (dC (.int 131)) (dCall lenD (dCons (dVar 6) dNil))))) dNil)) (dC (.bl false))) (dCmpT isnotD (dCallF (fun ds => liftP (f_is_field ds)) (dCons (dCallF f_law_pick (dCons (dVar 1) (dCons (fun ρ => do M.opt (lstOk (← (dCons (dC .non) (dCons (dC (.int 5)) (dCons (dC (.str "bids")) (dCons (dC (.dct [])) (dCons (dVar 3) dNil))))) ρ))) dNil))) dNil)) (dC (.bl false)))) (sRet (dC (.bl false))) sNext)
abbrev stH : G Dr := (sAsg (dCallF f_law_bent_formula (dCons (dVar 1) (dCons (dVar 4) dNil))) (gTupD 2 (gsCons (gSet 9) (gsCons (gSet 8) gsNil))))
abbrev stI : G Dr := (sIf (dCmpT neD (dCall reprD (dCons (dKw (fun ds => liftP (f_is_formula ds)) [0] dNil (dCons (dVar 9) dNil)) dNil)) (dCall reprD (dCons (dVar 8) dNil))) (sRet (dC (.bl false))) sNext)
abbrev stJ : G Dr := (sSet (dComp (dSeq range1D (dCons (dC (.int 4)) dNil)) (gSet 11) [11] dYes (dCall sumAD (dCons (dComp (dItems (dVar 4)) (gSet 12) [12] (dAnd (dCmpT eqD (dBin ixD (dVar 12) (dC (.int 0))) (dC (.str "mark"))) (dCmpT eqD (dBin ixD (dVar 12) (dC (.int 1))) (dVar 11))) (dBin ixD (dVar 12) (dC (.int 2)))) dNil))) 10)
abbrev stK : G Dr := (sIf (dCmpT neD (dCall reprD (dCons (dKw (fun ds => liftP (f_mark_weights ds)) [0] dNil (dCons (dVar 4) dNil)) dNil)) (dCall reprD (dCons (dCall tupleD (dCons (dVar 10) dNil)) dNil))) (sRet (dC (.bl false))) sNext)
abbrev stL : G Dr := (sSet (dComp (dItems (fun ρ => do M.opt (lstOk (← (dCons (dC (.str "low")) (dCons (dC (.str "range")) (dCons (dC (.str "mean")) dNil))) ρ)))) (gSet 13) [13] dYes (dCall sumAD (dCons (dComp (dItems (dVar 4)) (gSet 12) [12] (dCmpT eqD (dBin ixD (dVar 12) (dC (.int 0))) (dVar 13)) (dBin ixD (dVar 12) (dC (.int 1)))) dNil))) 10)
abbrev stM : G Dr := (sIf (dOr (dCmpT neD (dCall reprD (dCons (dKw (fun ds => liftP (f_relative_weights ds)) [0] dNil (dCons (dVar 4) dNil)) dNil)) (dCall reprD (dCons (dCall tupleD (dCons (dVar 10) dNil)) dNil))) (dNot (dTru (dCallF f_law_refused (dCons (dVar 1) (dCons (dVar 4) (dCons (dVar 6) dNil))))))) (sRet (dC (.bl false))) sNext)
abbrev lapBody : G Dr := (sSeq stA (sSeq stB (sSeq stC (sSeq stD (sSeq stE (sSeq stF (sSeq stG (sSeq stH (sSeq stI (sSeq stJ (sSeq stK (sSeq stL stM))))))))))))
abbrev lapRange : Env → M Dr (List D) := (dSeq range1D (dCons (dBin addD (dC (.int 1)) (dCall min2D (dCons (dCall lenD (dCons (dVar 0) dNil)) (dCons (dC (.int 3)) dNil)))) dNil))
theorem ev_kw {S : Type} {ρ : Env} {s s1 s2 : S} {f : Fn S} {perm : List Nat} {fa fk : Env → M S (List D)} {ds es : List D} {q : Res S D} (h : fa ρ s = .ok ds s1) (k : fk ρ s1 = .ok es s2) (e : f (permL .non perm (ds ++ es)) s2 = q) : dKw f perm fa fk ρ s = q := by
  have e0 : dKw f perm fa fk ρ s = (fa ρ >>= fun ds => fk ρ >>= fun es => f (permL .non perm (ds ++ es))) s := rfl
  rw [e0, bind_eq, h]
  dsimp only
  rw [bind_eq, k]
  exact e
theorem repL_eq (xs : List D) (k : Int) (h : -(2 ^ 63) ≤ k ∧ k < 2 ^ 63 ∧ xs.length * k.toNat ≤ PySem.sizeLine) : repLD (.lst xs) (.int k) = some (.lst (List.replicate k.toNat xs).flatten) := if_pos h
theorem rep_ok (xs : List D) (n : Nat) (hn : n ≤ 1000) (hl : xs.length ≤ 1000) : repLD (.lst xs) (.int (n : Int)) = some (.lst (List.replicate n xs).flatten) := by
  have e := repL_eq xs (n : Int) ⟨by omega, by omega, by rw [Int.toNat_natCast, PySem.sizeLine_eq]; exact Nat.le_trans (Nat.mul_le_mul hl hn) (by decide)⟩
  rw [Int.toNat_natCast] at e
  exact e
theorem rep_mem {xs : List D} {n : Nat} {x : D} (h : x ∈ (List.replicate n xs).flatten) : x ∈ xs := by
  obtain ⟨l, hl, hx⟩ := List.mem_flatten.mp h
  rw [(List.mem_replicate.mp hl).2] at hx
  exact hx
theorem rep_len (xs : List D) (n : Nat) : (List.replicate n xs).flatten.length = n * xs.length := by simp
theorem cut_nat (xs : List D) (k : Nat) : cutD xs none (some (k : Int)) = xs.take k := by
  unfold cutD
  have h0 : HT.sIx xs.length 0 none = 0 := rfl
  have h5 : HT.sIx xs.length xs.length (some (k : Int)) = min k xs.length := HT.sIx_nat xs.length xs.length k
  rw [h0, h5, List.drop_zero, Nat.sub_zero]
  rw [List.take_eq_take_iff]
  omega
def manys : List Nat := [0, 1, 2, 5, 129, 130]
theorem GBs_clean {xs : List D} (h : ∀ x ∈ xs, GB x) : cleanL xs = true := cleanL_mem.mpr fun x hx => (h x hx).clean
theorem GBs_field {xs : List D} (h : ∀ x ∈ xs, GB x) (hl : xs.length ≤ 130) : fieldD (.lst xs) = true := by
  show (decide (xs.length ≤ 130) && xs.all bidD) = true
  rw [decide_eq_true hl, List.all_eq_true.mpr fun x hx => (h x hx).bid]
  rfl
section
variable (x0 x2 x3 x4 x5 x6 x7 x8 x9 x10 x11 x12 x13 : Option D) (s : Dr)
theorem lA : ∃ (b : D) (ts : List Tm) (m : Nat) (s' : Dr), stA [x0, some .tok, x2, x3, x4, x5, x6, x7, x8, x9, x10, x11, x12, x13] s = .nx [x0, some .tok, x2, some b, some (.tup (ts.map tmD)), some (.int (m : Int)), x6, x7, x8, x9, x10, x11, x12, x13] s' ∧ GB b ∧ (∀ t ∈ ts, t.ok) ∧ ts.length ≤ 6 ∧ m ∈ manys := by
  obtain ⟨b, s1, e1, hb⟩ := bid_ok s
  obtain ⟨ts, s2, e2, ht, hl⟩ := formula_ok s1
  obtain ⟨y, s3, e3, hy⟩ := pick_ok (manys.map fun (m : Nat) => D.int (m : Int)) (by simp [manys]) (by simp [manys]) s2
  obtain ⟨m, hm, rfl⟩ := List.mem_map.mp hy
  refine ⟨b, ts, m, s3, ?_, hb, ht, hl, hm⟩
  refine st_asg (d := .tup [b, .tup (ts.map tmD), .int (m : Int)]) (s1 := s3) (ev_tup (ev_cons (ev_callK (ev_cons (ev_var rfl) rfl) e1) (ev_cons (ev_callK (ev_cons (ev_var rfl) rfl) e2) (ev_cons (ev_callK (ev_cons (ev_var rfl) (ev_cons (ev_lst (xs := manys.map fun (m : Nat) => D.int (m : Int)) (ev_cons rfl (ev_cons rfl (ev_cons rfl (ev_cons rfl (ev_cons rfl (ev_cons rfl rfl)))))) (by simp [manys])) rfl)) e3) rfl))) (by simp)) rfl
theorem many_le : ∀ m ∈ manys, m ≤ 130 ∧ min m 5 * (1 + m / 6) ≤ m ∧ (1 ≤ m → 1 ≤ min m 5 * (1 + m / 6)) := by decide
theorem lB (b fo : D) {m : Nat} (hm : m ∈ manys) : ∃ (xs : List D) (s' : Dr), stB [x0, some .tok, x2, some b, some fo, some (.int (m : Int)), x6, x7, x8, x9, x10, x11, x12, x13] s = .nx [x0, some .tok, x2, some b, some fo, some (.int (m : Int)), some (.lst xs), x7, x8, x9, x10, x11, x12, x13] s' ∧ (∀ x ∈ xs, GB x) ∧ xs.length = min m 5 * (1 + m / 6) := by
  obtain ⟨h1, h2, h3⟩ := many_le m hm
  obtain ⟨xs, s1, e1, hl, hx⟩ := field_ok (min m 5) (by omega) s
  refine ⟨(List.replicate (1 + m / 6) xs).flatten, s1, ?_, fun x hxm => hx x (rep_mem hxm), by rw [rep_len, hl, Nat.mul_comm]⟩
  have em : min2D [.int (m : Int), .int 5] = some (.int ((min m 5 : Nat) : Int)) := by
    show some (D.int (if (5 : Int) < (m : Int) then 5 else (m : Int))) = _
    exact congrArg (fun z => some (D.int z)) (by split <;> omega)
  have ef : fdivD (.int (m : Int)) (.int 6) = some (.int ((m / 6 : Nat) : Int)) := by
    rw [fdiv_ok _ _ (by decide) (by decide)]
    congr 2
  have ea : addD (.int 1) (.int ((m / 6 : Nat) : Int)) = some (.int ((1 + m / 6 : Nat) : Int)) := by
    rw [v_add]
    congr 2
  have e : (dBin repLD (dCallF f_law_field (dCons (dVar 1) (dCons (dCall min2D (dCons (dVar 5) (dCons (dC (.int 5)) dNil))) dNil))) (dBin addD (dC (.int 1)) (dBin fdivD (dVar 5) (dC (.int 6)))) [x0, some .tok, x2, some b, some fo, some (.int (m : Int)), x6, x7, x8, x9, x10, x11, x12, x13] s : Res Dr D) = .ok (.lst (List.replicate (1 + m / 6) xs).flatten) s1 :=
    ev_bin (ev_callK (ev_cons (ev_var rfl) (ev_cons (ev_call (ev_cons (ev_var rfl) (ev_cons rfl rfl)) em) rfl)) e1) (ev_bin rfl (ev_bin (ev_var rfl) rfl ef) ea) (rep_ok _ _ (by omega) (by omega))
  show sSet _ _ _ _ = _
  rw [r_set, e]
  rfl
theorem lC (b fo : D) {m : Nat} (hm : m ∈ manys) {xs : List D} (hx : ∀ x ∈ xs, GB x) (hl : xs.length = min m 5 * (1 + m / 6)) : ∃ ys : List D, stC [x0, some .tok, x2, some b, some fo, some (.int (m : Int)), some (.lst xs), x7, x8, x9, x10, x11, x12, x13] s = .nx [x0, some .tok, x2, some b, some fo, some (.int (m : Int)), some (.lst ys), x7, x8, x9, x10, x11, x12, x13] s ∧ (∀ x ∈ ys, GB x) ∧ ys.length = m := by
  obtain ⟨h1, h2, h3⟩ := many_le m hm
  have hl2 : xs.length ≤ m := by omega
  have len : (xs.take m ++ (List.replicate (m - xs.length) (xs.take 1)).flatten).length = m := by
    rw [List.length_append, rep_len, List.length_take, List.length_take]
    by_cases h0 : m = 0
    · subst h0; simp
    · have : 1 ≤ xs.length := by omega
      rw [Nat.min_eq_right hl2, Nat.min_eq_left this]
      omega
  refine ⟨xs.take m ++ (List.replicate (m - xs.length) (xs.take 1)).flatten, ?_, fun x hxm => ?_, len⟩
  · have es : subD (.int (m : Int)) (.int (xs.length : Int)) = some (.int ((m - xs.length : Nat) : Int)) := by
      show some (D.int ((m : Int) - (xs.length : Int))) = _
      exact congrArg (fun z => some (D.int z)) (by omega)
    have e : (dBin catD (dSl slLD (dVar 6) dNone (dSome (dVar 5))) (dBin repLD (dSl slLD (dVar 6) dNone (dSome (dC (.int 1)))) (dBin subD (dVar 5) (dCall lenD (dCons (dVar 6) dNil)))) [x0, some .tok, x2, some b, some fo, some (.int (m : Int)), some (.lst xs), x7, x8, x9, x10, x11, x12, x13] s : Res Dr D) = .ok (.lst (xs.take m ++ (List.replicate (m - xs.length) (xs.take 1)).flatten)) s :=
      ev_bin (ev_sl (d := .lst xs) (r := .lst (xs.take m)) (ev_var rfl) rfl rfl (ev_some (ev_var rfl)) rfl (by rw [← cut_nat]; rfl)) (ev_bin (ev_sl (d := .lst xs) (r := .lst (xs.take 1)) (ev_var rfl) rfl rfl (ev_some rfl) rfl (by rw [← cut_nat]; rfl)) (ev_bin (ev_var rfl) (ev_call (ev_cons (ev_var rfl) rfl) rfl) es) (rep_ok _ _ (by omega) (by rw [List.length_take]; omega))) (v_cat _ _ (by rw [← List.length_append, len]; omega))
    show sSet _ _ _ _ = _
    rw [r_set, e]
    rfl
  · rcases List.mem_append.mp hxm with h | h
    · exact hx x (List.mem_of_mem_take h)
    · exact hx x (List.mem_of_mem_take (rep_mem h))
theorem not_true : isnotD (.bl true) (.bl true) = some (.bl false) := rfl
theorem not_false : isnotD (.bl false) (.bl false) = some (.bl false) := rfl
theorem lD {b : D} {ts : List Tm} {xs : List D} (x5 : Option D) (hb : GB b) (ht : ∀ t ∈ ts, t.ok) (htl : ts.length ≤ 6) (hx : ∀ x ∈ xs, GB x) (hl : xs.length ≤ 130) : stD [x0, some .tok, x2, some b, some (.tup (ts.map tmD)), x5, some (.lst xs), x7, x8, x9, x10, x11, x12, x13] s = .nx [x0, some .tok, x2, some b, some (.tup (ts.map tmD)), x5, some (.lst xs), x7, x8, x9, x10, x11, x12, x13] s := by
  have c := GBs_clean hx
  have i1 : f_is_bid [b] () = .ok (.bl true) () := by rw [is_bid_eq hb.clean, hb.bid]
  have i2 : f_is_field [.lst xs] () = .ok (.bl true) () := by rw [is_field_eqD (d := .lst xs) c, GBs_field hx hl]
  have i3 : f_is_field [.tup xs] () = .ok (.bl true) () := by rw [is_field_eqD (d := .tup xs) c]; exact congrArg (fun b => Res.ok (D.bl b) ()) (GBs_field hx hl)
  have i4 : f_is_formula [.tup (ts.map tmD)] () = .ok (.bl true) () := is_formula_eq ts ht htl
  exact st_if_f (tt_or_ff (tt_cmp (ev_callP (ev_cons (ev_var rfl) rfl) (liftP_ok i1)) rfl not_true) (tt_or_ff (tt_cmp (ev_callP (ev_cons (ev_var rfl) rfl) (liftP_ok i2)) rfl not_true) (tt_or_ff (tt_cmp (ev_kw rfl (ev_cons (ev_call (ev_cons (ev_var rfl) rfl) rfl) rfl) (liftP_ok i3)) rfl not_true) (tt_cmp (ev_callP (ev_cons (ev_var rfl) rfl) (liftP_ok i4)) rfl not_true)))) rfl
theorem lE {b : D} (x4 x5 x6 : Option D) (hb : GB b) : ∃ (o : D) (d : Bool) (s' : Dr), stE [x0, some .tok, x2, some b, x4, x5, x6, x7, x8, x9, x10, x11, x12, x13] s = .nx [x0, some .tok, x2, some b, x4, x5, x6, some o, some (.bl d), x9, x10, x11, x12, x13] s' ∧ clean o = true ∧ bidD o = d := by
  obtain ⟨o, d, s', e, h⟩ := bent_bid_ok hb s
  exact ⟨o, d, s', st_asg (ev_callK (ev_cons (ev_var rfl) (ev_cons (ev_var rfl) rfl)) e) rfl, h⟩
theorem lF {o : D} {xs : List D} (x3 x4 x5 : Option D) (hx : ∀ x ∈ xs, GB x) (hl : xs.length ≤ 130) (ho : clean o = true) : stF [x0, some .tok, x2, x3, x4, x5, some (.lst xs), some o, some (.bl (bidD o)), x9, x10, x11, x12, x13] s = .nx [x0, some .tok, x2, x3, x4, x5, some (.lst xs), some o, some (.bl (bidD o)), x9, x10, x11, x12, x13] s := by
  have ht : ∀ x ∈ xs.take 129, GB x := fun x h => hx x (List.mem_of_mem_take h)
  have c := GBs_clean ht
  have co : cleanL [o] = true := by simp [cleanL, ho]
  have lt : (xs.take 129).length ≤ 129 := by rw [List.length_take]; omega
  have al : (xs.take 129).all bidD = true := List.all_eq_true.mpr fun x h => (ht x h).bid
  have i1 : f_is_bid [o] () = .ok (.bl (bidD o)) () := is_bid_eq ho
  have i2 : f_is_field [.lst (xs.take 129 ++ [o])] () = .ok (.bl (bidD o)) () := by
    rw [is_field_eqD (d := .lst _) (cleanL_app c co)]
    show Res.ok (D.bl (decide ((xs.take 129 ++ [o]).length ≤ 130) && (xs.take 129 ++ [o]).all bidD)) () = _
    rw [decide_eq_true (by rw [List.length_append]; simp; omega), List.all_append, al]
    simp
  have i3 : f_is_field [.lst ([o] ++ xs.take 129)] () = .ok (.bl (bidD o)) () := by
    rw [is_field_eqD (d := .lst _) (cleanL_app co c)]
    show Res.ok (D.bl (decide (([o] ++ xs.take 129).length ≤ 130) && ([o] ++ xs.take 129).all bidD)) () = _
    rw [decide_eq_true (by rw [List.length_append]; simp; omega), List.all_append, al]
    simp
  obtain ⟨y, e1, e2⟩ := repr_bl3 (bidD o)
  have cut : ∀ s : Dr, (dSl slLD (dVar 6) dNone (dSome (dC (.int 129))) [x0, some .tok, x2, x3, x4, x5, some (.lst xs), some o, some (.bl (bidD o)), x9, x10, x11, x12, x13] s : Res Dr D) = .ok (.lst (xs.take 129)) s := fun s => ev_sl (d := .lst xs) (r := .lst (xs.take 129)) (ev_var rfl) rfl rfl (ev_some rfl) rfl (by rw [← cut_nat]; rfl)
  refine st_if_f (tt_repr (x := .lst [.bl (bidD o), .bl (bidD o), .bl (bidD o)]) (s2 := s) (s1 := s) (ev_lst (ev_cons (ev_kw rfl (ev_cons (ev_var rfl) rfl) (liftP_ok i1)) (ev_cons (ev_callP (ev_cons (ev_bin (cut s) (ev_lst (ev_cons (ev_var rfl) rfl) (by simp)) (v_cat _ _ (by simp; omega))) rfl) (liftP_ok i2)) (ev_cons (ev_callP (ev_cons (ev_bin (ev_lst (ev_cons (ev_var rfl) rfl) (by simp)) (cut s) (v_cat _ _ (by simp; omega))) rfl) (liftP_ok i3)) rfl))) (by simp)) ?_ e1 e2) rfl
  exact ev_bin (ev_lst (ev_cons (ev_var rfl) rfl) (by simp)) rfl (rep_ok [.bl (bidD o)] 3 (by omega) (by simp))
theorem lG {b : D} {xs : List D} (x4 x5 : Option D) (hb : GB b) (hx : ∀ x ∈ xs, GB x) (hl : xs.length ≤ 130) : ∃ s' : Dr, stG [x0, some .tok, x2, some b, x4, x5, some (.lst xs), x7, x8, x9, x10, x11, x12, x13] s = .nx [x0, some .tok, x2, some b, x4, x5, some (.lst xs), x7, x8, x9, x10, x11, x12, x13] s' := by
  have hlen : (xs ++ (List.replicate (131 - xs.length) [b]).flatten).length = 131 := by
    rw [List.length_append, rep_len]; simp; omega
  have i1 : f_is_field [.lst (xs ++ (List.replicate (131 - xs.length) [b]).flatten)] () = .ok (.bl false) () := by
    rw [is_field_eqD (d := .lst _) (cleanL_app (GBs_clean hx) (cleanL_mem.mpr fun x h => by have := rep_mem h; rw [List.mem_singleton] at this; rw [this]; exact hb.clean))]
    show Res.ok (D.bl (decide ((xs ++ (List.replicate (131 - xs.length) [b]).flatten).length ≤ 130) && _)) () = _
    rw [decide_eq_false (by rw [hlen]; decide)]
    rfl
  obtain ⟨y, s', e, hy⟩ := pick_ok [.non, .int 5, .str "bids", .dct [], b] (by simp) (by simp) s
  have hy2 : clean y = true ∧ fieldD y = false := by
    simp only [List.mem_cons, List.not_mem_nil, or_false] at hy
    rcases hy with rfl | rfl | rfl | rfl | rfl
    · exact ⟨rfl, rfl⟩
    · exact ⟨rfl, rfl⟩
    · exact ⟨by decide +kernel, rfl⟩
    · exact ⟨rfl, rfl⟩
    · refine ⟨hb.clean, ?_⟩
      obtain ⟨p, a, b, c, d, rfl, _⟩ := hb
      simp [bidT, fieldD, bidD]
  have i2 : f_is_field [y] () = .ok (.bl false) () := by rw [is_field_eqD hy2.1, hy2.2]
  have es : subD (.int 131) (.int (xs.length : Int)) = some (.int ((131 - xs.length : Nat) : Int)) := by
    show some (D.int ((131 : Int) - (xs.length : Int))) = _
    exact congrArg (fun z => some (D.int z)) (by omega)
  refine ⟨s', st_if_f (tt_or_ff (s1 := s) (tt_cmp (ev_callP (ev_cons (ev_bin (ev_var rfl) (ev_bin (ev_lst (ev_cons (ev_var rfl) rfl) (by simp)) (ev_bin rfl (ev_call (ev_cons (ev_var rfl) rfl) rfl) es) (rep_ok [b] _ (by omega) (by simp))) (v_cat _ _ (by rw [← List.length_append, hlen]; omega))) rfl) (liftP_ok i1)) rfl not_false) (tt_cmp (ev_callP (ev_cons (ev_callK (ev_cons (ev_var rfl) (ev_cons (ev_lst (ev_cons rfl (ev_cons rfl (ev_cons rfl (ev_cons rfl (ev_cons (ev_var rfl) rfl))))) (by simp)) rfl)) e) rfl) (liftP_ok i2)) rfl not_false)) rfl⟩
theorem lH {ts : List Tm} (ht : ∀ t ∈ ts, t.ok) (htl : ts.length ≤ 6) : ∃ (o : D) (d : Bool) (s' : Dr), stH [x0, some .tok, x2, x3, some (.tup (ts.map tmD)), x5, x6, x7, x8, x9, x10, x11, x12, x13] s = .nx [x0, some .tok, x2, x3, some (.tup (ts.map tmD)), x5, x6, x7, some (.bl d), some o, x10, x11, x12, x13] s' ∧ clean o = true ∧ formD o = d := by
  obtain ⟨o, d, s', e, h⟩ := bent_formula_ok ht htl s
  exact ⟨o, d, s', st_asg (ev_callK (ev_cons (ev_var rfl) (ev_cons (ev_var rfl) rfl)) e) rfl, h⟩
theorem lI {o : D} (ho : clean o = true) : stI [x0, some .tok, x2, x3, x4, x5, x6, x7, some (.bl (formD o)), some o, x10, x11, x12, x13] s = .nx [x0, some .tok, x2, x3, x4, x5, x6, x7, some (.bl (formD o)), some o, x10, x11, x12, x13] s := by
  obtain ⟨y, e1, e2⟩ := repr_bl (formD o)
  exact st_if_f (tt_repr (x := .bl (formD o)) (ev_kw rfl (ev_cons (ev_var rfl) rfl) (liftP_ok (is_formula_eqD ho))) (ev_var rfl) e1 e2) rfl
theorem lJ {ts : List Tm} (htl : ts.length ≤ 6) : stJ [x0, some .tok, x2, x3, some (.tup (ts.map tmD)), x5, x6, x7, x8, x9, x10, x11, x12, x13] s = .nx [x0, some .tok, x2, x3, some (.tup (ts.map tmD)), x5, x6, x7, x8, x9, some (.lst ((ws ts).map D.int)), x11, x12, x13] s := by
  have e := comp_map (S := Dr) (fi := dSeq range1D (dCons (dC (.int 4)) dNil)) (g := gSet 11) (us := [11]) (ft := dYes) (fe := dCall sumAD (dCons (dComp (dItems (dVar 4)) (gSet 12) [12] (dAnd (dCmpT eqD (dBin ixD (dVar 12) (dC (.int 0))) (dC (.str "mark"))) (dCmpT eqD (dBin ixD (dVar 12) (dC (.int 1))) (dVar 11))) (dBin ixD (dVar 12) (dC (.int 2)))) dNil)) (ρ := [x0, some .tok, x2, x3, some (.tup (ts.map tmD)), x5, x6, x7, x8, x9, x10, x11, x12, x13]) (s := s) (fun k : Nat => D.int (k : Int)) (fun _ => true) (fun k : Nat => .int (wsum k ts)) (xs := [0, 1, 2, 3]) (ev_range1 (n := 4) rfl (by decide)) (by simp) fun k _ => ⟨[x0, some .tok, x2, x3, some (.tup (ts.map tmD)), x5, x6, x7, x8, x9, x10, some (.int (k : Int)), x12, x13], rfl, rfl, fun _ => by
      rw [← sel_sum]
      exact sum_comp (selP (k : Int)) rfl htl fun t => ⟨mark_test rfl rfl, fun h => mark_pick rfl h⟩⟩
  show sSet _ _ _ _ = _
  rw [r_set, e]
  rfl
theorem ws_bd {ts : List Tm} (ht : ∀ t ∈ ts, t.ok) (htl : ts.length ≤ 6) : ∀ n ∈ ws ts, 0 ≤ n ∧ n ≤ 6000 := by
  intro n hn
  simp only [ws, List.mem_cons, List.not_mem_nil, or_false] at hn
  rcases hn with rfl | rfl | rfl | rfl
  · have := wsum_bd 0 ts ht; omega
  · have := wsum_bd 1 ts ht; omega
  · have := wsum_bd 2 ts ht; omega
  · have := wsum_bd 3 ts ht; omega
theorem rws_bd {ts : List Tm} (ht : ∀ t ∈ ts, t.ok) (htl : ts.length ≤ 6) : ∀ n ∈ rws ts, 0 ≤ n ∧ n ≤ 6000 := by
  intro n hn
  simp only [rws, List.mem_cons, List.not_mem_nil, or_false] at hn
  rcases hn with rfl | rfl | rfl
  · have := pick_sum (selR 0) ts ht; simp only [rsum]; omega
  · have := pick_sum (selR 1) ts ht; simp only [rsum]; omega
  · have := pick_sum (selR 2) ts ht; simp only [rsum]; omega
theorem lK {ts : List Tm} (ht : ∀ t ∈ ts, t.ok) (htl : ts.length ≤ 6) : stK [x0, some .tok, x2, x3, some (.tup (ts.map tmD)), x5, x6, x7, x8, x9, some (.lst ((ws ts).map D.int)), x11, x12, x13] s = .nx [x0, some .tok, x2, x3, some (.tup (ts.map tmD)), x5, x6, x7, x8, x9, some (.lst ((ws ts).map D.int)), x11, x12, x13] s := by
  obtain ⟨y, e1, e2⟩ := repr_ints (ns := ws ts) (by simp [ws]) (ws_bd ht htl)
  exact st_if_f (tt_repr (x := .tup ((ws ts).map D.int)) (ev_kw rfl (ev_cons (ev_var rfl) rfl) (liftP_ok (mark_weights_eq ts ht htl))) (ev_call (ev_cons (ev_var rfl) rfl) rfl) e1 e2) rfl
theorem lL {ts : List Tm} (htl : ts.length ≤ 6) : stL [x0, some .tok, x2, x3, some (.tup (ts.map tmD)), x5, x6, x7, x8, x9, x10, x11, x12, x13] s = .nx [x0, some .tok, x2, x3, some (.tup (ts.map tmD)), x5, x6, x7, x8, x9, some (.lst ((rws ts).map D.int)), x11, x12, x13] s := by
  have e := comp_map (S := Dr) (fi := dItems (fun ρ => do M.opt (lstOk (← (dCons (dC (.str "low")) (dCons (dC (.str "range")) (dCons (dC (.str "mean")) dNil))) ρ)))) (g := gSet 13) (us := [13]) (ft := dYes) (fe := dCall sumAD (dCons (dComp (dItems (dVar 4)) (gSet 12) [12] (dCmpT eqD (dBin ixD (dVar 12) (dC (.int 0))) (dVar 13)) (dBin ixD (dVar 12) (dC (.int 1)))) dNil)) (ρ := [x0, some .tok, x2, x3, some (.tup (ts.map tmD)), x5, x6, x7, x8, x9, x10, x11, x12, x13]) (s := s) (fun r : Fin 3 => D.str (relN r)) (fun _ => true) (fun r : Fin 3 => .int (rsum ts r)) (xs := [0, 1, 2]) (by simp [lstOk_eq, relN]) (by simp) fun r _ => ⟨[x0, some .tok, x2, x3, some (.tup (ts.map tmD)), x5, x6, x7, x8, x9, x10, x11, x12, some (.str (relN r))], rfl, rfl, fun _ => sum_comp (selR r) rfl htl fun t => ⟨rel_test rfl rfl, fun h => rel_pick rfl h⟩⟩
  show sSet _ _ _ _ = _
  rw [r_set, e]
  rfl
theorem lM {ts : List Tm} {xs : List D} (ht : ∀ t ∈ ts, t.ok) (htl : ts.length ≤ 6) (hx : ∀ x ∈ xs, GB x) (hl : xs.length ≤ 130) : ∃ s' : Dr, stM [x0, some .tok, x2, x3, some (.tup (ts.map tmD)), x5, some (.lst xs), x7, x8, x9, some (.lst ((rws ts).map D.int)), x11, x12, x13] s = .nx [x0, some .tok, x2, x3, some (.tup (ts.map tmD)), x5, some (.lst xs), x7, x8, x9, some (.lst ((rws ts).map D.int)), x11, x12, x13] s' := by
  obtain ⟨y, e1, e2⟩ := repr_ints (ns := rws ts) (by simp [rws]) (rws_bd ht htl)
  obtain ⟨s', e3⟩ := refused_ok (.tup (ts.map tmD)) xs (tms_clean ts) (tms_form ht htl) (GBs_clean hx) (GBs_field hx hl) s
  exact ⟨s', st_if_f (tt_or_ff (tt_repr (x := .tup ((rws ts).map D.int)) (ev_kw rfl (ev_cons (ev_var rfl) rfl) (liftP_ok (relative_weights_eq ts ht htl))) (ev_call (ev_cons (ev_var rfl) rfl) rfl) e1 e2) (tt_not (tt_tru (ev_callK (ev_cons (ev_var rfl) (ev_cons (ev_var rfl) (ev_cons (ev_var rfl) rfl))) e3)))) rfl⟩
end
end DL.K68
set_option linter.all false
set_option maxRecDepth 100000
set_option maxHeartbeats 4000000
namespace DL.K68
open DL
theorem lap_ok (x0 x2 x3 x4 x5 x6 x7 x8 x9 x10 x11 x12 x13 : Option D) (s : Dr) : ∃ (y3 y4 y5 y6 y7 y8 y9 y10 y11 y12 y13 : Option D) (s' : Dr), lapBody [x0, some .tok, x2, x3, x4, x5, x6, x7, x8, x9, x10, x11, x12, x13] s = .nx [x0, some .tok, x2, y3, y4, y5, y6, y7, y8, y9, y10, y11, y12, y13] s' := by
  obtain ⟨b, ts, m, s1, e1, hb, ht, htl, hm⟩ := lA x0 x2 x3 x4 x5 x6 x7 x8 x9 x10 x11 x12 x13 s
  obtain ⟨xs, s2, e2, hx, hl⟩ := lB x0 x2 x6 x7 x8 x9 x10 x11 x12 x13 s1 b (.tup (ts.map tmD)) hm
  obtain ⟨ys, e3, hy, hyl⟩ := lC x0 x2 x7 x8 x9 x10 x11 x12 x13 s2 b (.tup (ts.map tmD)) hm hx hl
  have hy130 : ys.length ≤ 130 := by have := many_le m hm; omega
  have e4 := lD x0 x2 x7 x8 x9 x10 x11 x12 x13 s2 (some (.int (m : Int))) hb ht htl hy hy130
  obtain ⟨o, d, s3, e5, ho, rfl⟩ := lE x0 x2 x7 x8 x9 x10 x11 x12 x13 s2 (some (.tup (ts.map tmD))) (some (.int (m : Int))) (some (.lst ys)) hb
  have e6 := lF x0 x2 x9 x10 x11 x12 x13 s3 (some b) (some (.tup (ts.map tmD))) (some (.int (m : Int))) hy hy130 ho
  obtain ⟨s4, e7⟩ := lG x0 x2 (some o) (some (.bl (bidD o))) x9 x10 x11 x12 x13 s3 (some (.tup (ts.map tmD))) (some (.int (m : Int))) hb hy hy130
  obtain ⟨q, d2, s5, e8, hq, rfl⟩ := lH x0 x2 (some b) (some (.int (m : Int))) (some (.lst ys)) (some o) (some (.bl (bidD o))) x9 x10 x11 x12 x13 s4 ht htl
  have e9 := lI x0 x2 (some b) (some (.tup (ts.map tmD))) (some (.int (m : Int))) (some (.lst ys)) (some o) x10 x11 x12 x13 s5 hq
  have e10 := lJ x0 x2 (some b) (some (.int (m : Int))) (some (.lst ys)) (some o) (some (.bl (formD q))) (some q) x10 x11 x12 x13 s5 htl
  have e11 := lK x0 x2 (some b) (some (.int (m : Int))) (some (.lst ys)) (some o) (some (.bl (formD q))) (some q) x11 x12 x13 s5 ht htl
  have e12 := lL x0 x2 (some b) (some (.int (m : Int))) (some (.lst ys)) (some o) (some (.bl (formD q))) (some q) (some (.lst ((ws ts).map D.int))) x11 x12 x13 s5 htl
  obtain ⟨s6, e13⟩ := lM x0 x2 (some b) (some (.int (m : Int))) (some o) (some (.bl (formD q))) (some q) x11 x12 x13 s5 ht htl hy hy130
  have e := st_seq e1 (st_seq e2 (st_seq e3 (st_seq e4 (st_seq e5 (st_seq e6 (st_seq e7 (st_seq e8 (st_seq e9 (st_seq e10 (st_seq e11 (st_seq e12 e13)))))))))))
  exact ⟨_, _, _, _, _, _, _, _, _, _, _, s6, e⟩
theorem laps_ok (x0 : Option D) : ∀ (xs : List D) (x2 x3 x4 x5 x6 x7 x8 x9 x10 x11 x12 x13 : Option D) (s : Dr), ∃ (ρ' : Env) (s' : Dr), forL (gSet 2) lapBody xs [x0, some .tok, x2, x3, x4, x5, x6, x7, x8, x9, x10, x11, x12, x13] s = .nx ρ' s'
  | [], x2, x3, x4, x5, x6, x7, x8, x9, x10, x11, x12, x13, s => ⟨_, s, rfl⟩
  | x :: xs, x2, x3, x4, x5, x6, x7, x8, x9, x10, x11, x12, x13, s => by
    obtain ⟨y3, y4, y5, y6, y7, y8, y9, y10, y11, y12, y13, s1, e⟩ := lap_ok x0 (some x) x3 x4 x5 x6 x7 x8 x9 x10 x11 x12 x13 s
    obtain ⟨ρ', s', e'⟩ := laps_ok x0 xs (some x) y3 y4 y5 y6 y7 y8 y9 y10 y11 y12 y13 s1
    exact ⟨ρ', s', forL_step (ρ1 := [x0, some .tok, some x, x3, x4, x5, x6, x7, x8, x9, x10, x11, x12, x13]) rfl e e'⟩
theorem law_eq : g_law = sSeq (sFor lapRange (gSet 2) lapBody) (sRet (dC (.bl true))) := rfl
theorem plain (ns : List Int) : ∃ s', g_law (env0 ns) (beg ns) = .rt (.bl true) s' := by
  obtain ⟨ρ', s', e⟩ := laps_ok (some (.st (ns.map D.int))) (rangeL 0 ((1 + min ns.length 3 : Nat) : Int)) none none none none none none none none none none none none (beg ns)
  refine ⟨s', ?_⟩
  have em : min2D [.int (ns.length : Int), .int 3] = some (.int ((min ns.length 3 : Nat) : Int)) := by
    show some (D.int (if (3 : Int) < (ns.length : Int) then 3 else (ns.length : Int))) = _
    exact congrArg (fun z => some (D.int z)) (by split <;> omega)
  have el : lenD [.st (ns.map D.int)] = some (.int (ns.length : Int)) := by
    show some (D.int ((ns.map D.int).length : Int)) = _
    rw [List.length_map]
  have ea : addD (.int 1) (.int ((min ns.length 3 : Nat) : Int)) = some (.int ((1 + min ns.length 3 : Nat) : Int)) := by
    rw [v_add]
    exact congrArg (fun z => some (D.int z)) (by omega)
  have hl : (lapRange (env0 ns) (beg ns) : Res Dr (List D)) = .ok (rangeL 0 ((1 + min ns.length 3 : Nat) : Int)) (beg ns) :=
    ev_range1 (ev_bin rfl (ev_call (ev_cons (ev_call (ev_cons (ev_var rfl) rfl) el) (ev_cons rfl rfl)) em) ea) (by omega)
  rw [law_eq]
  exact st_seq (st_for hl e) rfl
end DL.K68
set_option Elab.async false
set_option linter.all false
set_option maxRecDepth 100000
set_option maxHeartbeats 0
open PySem PySem.W PySem.Calls PyProof.Rows
theorem PySem.Challenge.cw_protestproof_k68_bids_fields_and_formula_holds : PySem.Challenge.rw_protestproof_k68_bids_fields_and_formula.Holds := by
  w_on; o_law
  refine HandSHeadRun.head_imp (r := OpenLaw.row PySem.Challenge.rw_protestproof_k68_bids_fields_and_formula) (q := view (OpenLaw.row PySem.Challenge.rw_protestproof_k68_bids_fields_and_formula).prog [0, 70]) (H := DL.K68.hk) (ob := DL.K68.ob) (M := 30000) (loose := DL.K68.names) (d := HandSHeadRun.topDef (OpenLaw.row PySem.Challenge.rw_protestproof_k68_bids_fields_and_formula).prog 70) (kwd := []) DL.K68.ob_eq
    DL.K68.run (by kernel_rfl) (by kernel_rfl) (by kernel_rfl) (by rfl) (by first | assumption | decide +kernel) (by decide +kernel) ⟨rfl, rfl, rfl, rfl, rfl, by decide +kernel⟩ ?hw ?hc
  case hw => w_witness2
  case hc =>
    refine DL.walk_ofGT (l := PySem.Challenge.rw_protestproof_k68_bids_fields_and_formula) (n := 63) rfl (by decide) (by kernel_rfl) ?_
    intro w mg fa h Y G hmg0
    obtain ⟨K, KX, sx⟩ := Y
    have S : DL.Says DL.K68.fx DL.K68.fa DL.K68.fn K mg := ⟨h, KX, G, sx.more, sx.t.d⟩
    have hmg : mg ("law" : PySem.Str) = some (.ref fa) := by
      have e : (HandSHeadRun.topDef (OpenLaw.row PySem.Challenge.rw_protestproof_k68_bids_fields_and_formula).prog 70).name = ("law" : PySem.Str) := by kernel_rfl
      rw [← e]
      exact hmg0
    have e := hmg.symm.trans (S.glo 59 (x := "law") rfl)
    cases e
    have one : ∀ p ∈ DL.K68.cs K, p = He.cT K DL.K68.lamD := fun p hp => List.mem_singleton.mp hp
    have mem : DL.K68.lamD ∈ [DL.K68.lamD] := List.mem_singleton.mpr rfl
    refine ⟨K, DL.K68.spLaw K, DL.K68.cs K, KX, fun p hp => by rw [one p hp]; exact sx.empty _ mem, fun p hp => by rw [one p hp]; exact sx.out _ mem, fun p hp => by rw [one p hp]; exact PySem.W.codeHd_of_K KX (sx.hd _ mem), fun H a ns hl hT hS => ⟨a, ns, rfl, Nat.le_trans hl (by decide), hT, hS, fun _ => rfl⟩, fun base _ _ TB s₁ a H Q E env_0 hsp => ?_⟩
    exact DL.K68.law_ok (P := PySem.Challenge.rw_protestproof_k68_bids_fields_and_formula.prog) (w := w) S (TB _ (List.mem_singleton.mpr rfl)) DL.K68.plain ⟨rfl, by decide, by decide⟩ s₁ a H Q E env_0 hsp
